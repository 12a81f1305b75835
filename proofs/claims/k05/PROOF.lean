import PyProof.Rows.All
import Wide.All
import OpenK.AllK
import Wide.FinOn
import HandS.ForMost
import HandS.ForExc
import HandS.IsInst
import HandS.TupAny
import HandS.TupLe
import HandS.Small
import HandS.Text
import HandS.Conv
import HandS.SortInts
import HandS.More
import HandS.ExcIs
import HandS.Strs
import HandS.SetFor
import PyProof.ReprRoads
import HandS.SortKw
import KE.DataMinMax
import HandS.HotCalls
import HandS.Zip
import HandS.Style
import HandS.TryOnly
import KE.IntTextLaws
import PyProof.EqAt
import PyProof.StrLawsIn
import HandS.TupMul
import HandS.FStrTup
import PyProof.FitsInt
import KE.KIntText
import PySem.Challenge.RW_waitloom_k05_whole_shown_and_read
set_option Elab.async false
set_option linter.all false
set_option maxRecDepth 100000
set_option autoImplicit false
/-! ML: a layer of plain functions over HandS. A def of the text is mirrored by a function over plain data D and a store of cells; the canonical reading (tE, tB, ..) says that the code does what the function does. -/
namespace ML
open PySem PySem.Spec L2

/-! ### plain data -/
inductive D where
  | non | bl (b : Bool) | int (i : Int) | str (x : Str) | tup (xs : List D) | lis (xs : List D) | ref (n : Nat) | exn (a : Addr)
inductive Cell where
  | lst (xs : List D)
  | dct (kvs : List (Key × D))
  | dlk (kvs : List (Key × D))
  | ins (c : Nat) (fs : List (Str × D))
abbrev Store := List Cell
abbrev Loc := List (Option D)
structure Exn where
  c : Nat
  fs : List (Str × D)
inductive R (α : Type) where
  | ok (a : α) (S : Store)
  | ex (x : Exn) (S : Store)
  | bad
def R.bind {α β : Type} (r : R α) (f : α → Store → R β) : R β := match r with
  | .ok a S => f a S
  | .ex x S => .ex x S
  | .bad => .bad
@[simp] theorem R.bind_ok {α β : Type} (a : α) (S : Store) (f : α → Store → R β) : (R.ok a S).bind f = f a S := (rfl)
@[simp] theorem R.bind_ex {α β : Type} (x : Exn) (S : Store) (f : α → Store → R β) : (R.ex x S).bind f = .ex x S := (rfl)
@[simp] theorem R.bind_bad {α β : Type} (f : α → Store → R β) : (R.bad : R α).bind f = .bad := (rfl)
theorem R.bind_assoc {α β γ : Type} (r : R α) (f : α → Store → R β) (g : β → Store → R γ) : (r.bind f).bind g = r.bind fun a S => (f a S).bind g := by
  cases r <;> rfl

/-! ### how plain data lies in the abstract heap -/
/-- a list that is never written: the script -/
def FrL (K : PySem.W.Frag) (H : Hp) (a : Addr) (vs : List V) : Prop :=
  (∃ o, H a = some (.frz o (.lst vs))) ∨
    ∃ (o : Obj) (its : Array Value) (n : Nat), K.lookup a = some o ∧ o.cls = .type "list" ∧ o.dict = none ∧ o.data = .seq its n ∧ its.size ≤ sizeLine ∧ Vals vs its.toList
theorem FrL.sq {K : PySem.W.Frag} {H : Hp} {a : Addr} {vs : List V} (h : FrL K H a vs) : SqL K H a vs := by
  rcases h with ⟨o, h⟩ | h
  · exact .inl (.inr ⟨o, h⟩)
  · exact .inr h
mutual
def RepV (K : PySem.W.Frag) (ρ : List Addr) (H : Hp) : D → V → Prop
  | .non, v => v = .non
  | .bl b, v => v = .bl b
  | .int i, v => v = .int i
  | .str x, v => v = .str x
  | .tup xs, v => ∃ a vs, v = .ref a ∧ SqT K H a vs ∧ RepVs K ρ H xs vs
  | .lis xs, v => ∃ a vs, v = .ref a ∧ FrL K H a vs ∧ RepVs K ρ H xs vs
  | .ref n, v => ∃ a, ρ[n]? = some a ∧ v = .ref a
  | .exn a, v => v = .ref a
def RepVs (K : PySem.W.Frag) (ρ : List Addr) (H : Hp) : List D → List V → Prop
  | [], vs => vs = []
  | x :: xs, vs => ∃ v r, vs = v :: r ∧ RepV K ρ H x v ∧ RepVs K ρ H xs r
end
def RepP (K : PySem.W.Frag) (ρ : List Addr) (H : Hp) {κ : Type} : List (κ × D) → List (κ × V) → Prop
  | [], ps => ps = []
  | (k, x) :: r, ps => ∃ v q, ps = (k, v) :: q ∧ RepV K ρ H x v ∧ RepP K ρ H r q
def RepC (K : PySem.W.Frag) (cA : Nat → Addr) (ρ : List Addr) (H : Hp) (c : Cell) (a : Addr) : Prop := match c with
  | .lst xs => ∃ vs, H a = some (.lst vs) ∧ RepVs K ρ H xs vs
  | .dct kvs => ∃ ps, H a = some (.dK ps) ∧ RepP K ρ H kvs ps
  | .dlk kvs => ∃ o ps, H a = some (.frz o (.dK ps)) ∧ RepP K ρ H kvs ps
  | .ins c fs => ∃ dx ps, H a = some (.ins (cA c) dx ps) ∧ RepP K ρ H fs ps
structure Reps (K : PySem.W.Frag) (cA : Nat → Addr) (ρ : List Addr) (H : Hp) (S : Store) : Prop where
  len : ρ.length = S.length
  nd : ρ.Nodup
  at_ : ∀ (n : Nat) (c : Cell) (a : Addr), S[n]? = some c → ρ[n]? = some a → RepC K cA ρ H c a
def RepX (K : PySem.W.Frag) (cA : Nat → Addr) (ρ : List Addr) (H : Hp) (x : Exn) (c : Value) (d : Option Addr) : Prop :=
  c = .ref (cA x.c) ∧ ((x.fs = [] ∧ d = none) ∨ x.fs ≠ [] ∧ ∃ a ps, d = some a ∧ H a = some (.xd ps) ∧ RepP K ρ H x.fs ps)
structure RepL (K : PySem.W.Frag) (ρ : List Addr) (H : Hp) (l : Loc) (σ : St) : Prop where
  len : l.length = σ.length
  at_ : ∀ (i : Nat) (d : D), l[i]? = some (some d) → ∃ v, σ[i]? = some (some v) ∧ RepV K ρ H d v
/-- what may have happened -/
structure Ext (ρ : List Addr) (H : Hp) (ρ' : List Addr) (H' : Hp) : Prop where
  pre : ∃ r, ρ' = ρ ++ r ∧ ∀ a ∈ r, H a = none
  keep : ∀ a o, H a = some o → a ∉ ρ → H' a = some o
  tups : ∀ a xs, Rd H a (.tup xs) → Rd H' a (.tup xs)
  frzs : ∀ a o xs, H a = some (.frz o (.lst xs)) → H' a = some (.frz o (.lst xs))
  there : ∀ a, H a ≠ none → H' a ≠ none
theorem Ext.refl (ρ : List Addr) (H : Hp) : Ext ρ H ρ H := ⟨⟨[], by simp, fun _ h => nomatch h⟩, fun _ _ h _ => h, fun _ _ h => h, fun _ _ _ h => h, fun _ h => h⟩
theorem Ext.trans {ρ ρ1 ρ2 : List Addr} {H H1 H2 : Hp} (a : Ext ρ H ρ1 H1) (b : Ext ρ1 H1 ρ2 H2) : Ext ρ H ρ2 H2 := by
  obtain ⟨r1, e1, n1⟩ := a.pre
  obtain ⟨r2, e2, n2⟩ := b.pre
  refine ⟨⟨r1 ++ r2, by rw [e2, e1, List.append_assoc], fun x hx => ?_⟩, fun x o h nx => ?_, fun x xs h => b.tups x xs (a.tups x xs h), fun x o xs h => b.frzs x o xs (a.frzs x o xs h), fun x h => b.there x (a.there x h)⟩
  · rcases List.mem_append.mp hx with h | h
    · exact n1 x h
    · have q := n2 x h
      cases e : H x with
      | none => rfl
      | some o => exact absurd q (a.there x (by rw [e]; simp))
  · refine b.keep x o (a.keep x o h nx) fun hx => ?_
    rw [e1] at hx
    rcases List.mem_append.mp hx with q | q
    · exact nx q
    · have := n1 x q
      rw [h] at this
      cases this
theorem SqT.ext {K : PySem.W.Frag} {ρ ρ' : List Addr} {H H' : Hp} {a : Addr} {vs : List V} (e : Ext ρ H ρ' H') (h : SqT K H a vs) : SqT K H' a vs := by
  rcases h with h | h
  · exact .inl (e.tups a vs h)
  · exact .inr h
theorem FrL.ext {K : PySem.W.Frag} {ρ ρ' : List Addr} {H H' : Hp} {a : Addr} {vs : List V} (e : Ext ρ H ρ' H') (h : FrL K H a vs) : FrL K H' a vs := by
  rcases h with ⟨o, h⟩ | h
  · exact .inl ⟨o, e.frzs a o vs h⟩
  · exact .inr h
mutual
theorem RepV.ext {K : PySem.W.Frag} {ρ ρ' : List Addr} {H H' : Hp} (e : Ext ρ H ρ' H') : ∀ {d : D} {v : V}, RepV K ρ H d v → RepV K ρ' H' d v
  | .non, _, h => h
  | .bl _, _, h => h
  | .int _, _, h => h
  | .str _, _, h => h
  | .tup xs, v, h => by
    unfold RepV at h ⊢
    obtain ⟨a, vs, ev, hs, hr⟩ := h
    exact ⟨a, vs, ev, SqT.ext e hs, RepVs.ext e hr⟩
  | .lis xs, v, h => by
    unfold RepV at h ⊢
    obtain ⟨a, vs, ev, hs, hr⟩ := h
    exact ⟨a, vs, ev, hs.ext e, RepVs.ext e hr⟩
  | .ref n, v, h => by
    unfold RepV at h ⊢
    obtain ⟨a, ha, ev⟩ := h
    obtain ⟨r, er, _⟩ := e.pre
    refine ⟨a, ?_, ev⟩
    rw [er]
    have hn : n < ρ.length := (List.getElem?_eq_some_iff.mp ha).1
    rw [List.getElem?_append_left hn]
    exact ha
  | .exn _, _, h => h
theorem RepVs.ext {K : PySem.W.Frag} {ρ ρ' : List Addr} {H H' : Hp} (e : Ext ρ H ρ' H') : ∀ {ds : List D} {vs : List V}, RepVs K ρ H ds vs → RepVs K ρ' H' ds vs
  | [], _, h => h
  | x :: xs, vs, h => by
    unfold RepVs at h ⊢
    obtain ⟨v, r, ev, h1, h2⟩ := h
    exact ⟨v, r, ev, RepV.ext e h1, RepVs.ext e h2⟩
end
theorem RepP.ext {K : PySem.W.Frag} {ρ ρ' : List Addr} {H H' : Hp} (e : Ext ρ H ρ' H') {κ : Type} : ∀ {kvs : List (κ × D)} {ps : List (κ × V)}, RepP K ρ H kvs ps → RepP K ρ' H' kvs ps
  | [], _, h => h
  | (k, x) :: r, ps, h => by
    unfold RepP at h ⊢
    obtain ⟨v, q, ev, h1, h2⟩ := h
    exact ⟨v, q, ev, h1.ext e, RepP.ext e h2⟩
theorem RepL.ext {K : PySem.W.Frag} {ρ ρ' : List Addr} {H H' : Hp} {l : Loc} {σ : St} (e : Ext ρ H ρ' H') (h : RepL K ρ H l σ) : RepL K ρ' H' l σ :=
  ⟨h.len, fun i d hd => let ⟨v, hv, r⟩ := h.at_ i d hd; ⟨v, hv, r.ext e⟩⟩
/-- a cell that is untouched -/
theorem RepC.ext {K : PySem.W.Frag} {cA : Nat → Addr} {ρ ρ' : List Addr} {H H' : Hp} {c : Cell} {a : Addr} (e : Ext ρ H ρ' H') (same : H' a = H a) (h : RepC K cA ρ H c a) : RepC K cA ρ' H' c a := by
  cases c with
  | lst xs => obtain ⟨vs, h1, h2⟩ := h; exact ⟨vs, same.trans h1, h2.ext e⟩
  | dct kvs => obtain ⟨ps, h1, h2⟩ := h; exact ⟨ps, same.trans h1, h2.ext e⟩
  | dlk kvs => obtain ⟨o, ps, h1, h2⟩ := h; exact ⟨o, ps, same.trans h1, h2.ext e⟩
  | ins c fs => obtain ⟨dx, ps, h1, h2⟩ := h; exact ⟨dx, ps, same.trans h1, h2.ext e⟩
theorem RepC.there {K : PySem.W.Frag} {cA : Nat → Addr} {ρ : List Addr} {H : Hp} {c : Cell} {a : Addr} (h : RepC K cA ρ H c a) : ∃ o, H a = some o ∧ ∀ xs, o ≠ .tup xs ∧ ∀ u, o ≠ .frz u (.tup xs) ∧ o ≠ .frz u (.lst xs) := by
  cases c with
  | lst xs => obtain ⟨vs, h1, h2⟩ := h; exact ⟨_, h1, fun _ => ⟨(nomatch ·), fun _ => ⟨(nomatch ·), (nomatch ·)⟩⟩⟩
  | dct kvs => obtain ⟨ps, h1, h2⟩ := h; exact ⟨_, h1, fun _ => ⟨(nomatch ·), fun _ => ⟨(nomatch ·), (nomatch ·)⟩⟩⟩
  | dlk kvs => obtain ⟨o, ps, h1, h2⟩ := h; exact ⟨_, h1, fun _ => ⟨(nomatch ·), fun _ => ⟨(nomatch ·), (nomatch ·)⟩⟩⟩
  | ins c fs => obtain ⟨dx, ps, h1, h2⟩ := h; exact ⟨_, h1, fun _ => ⟨(nomatch ·), fun _ => ⟨(nomatch ·), (nomatch ·)⟩⟩⟩
section
variable {K : PySem.W.Frag} {cA : Nat → Addr} {ρ : List Addr} {H : Hp} {S : Store}
theorem Reps.get (h : Reps K cA ρ H S) {n : Nat} {c : Cell} (e : S[n]? = some c) : ∃ a, ρ[n]? = some a ∧ RepC K cA ρ H c a := by
  have hn : n < S.length := (List.getElem?_eq_some_iff.mp e).1
  have hr : n < ρ.length := by rw [h.len]; exact hn
  exact ⟨ρ[n], List.getElem?_eq_getElem hr, h.at_ n c _ e (List.getElem?_eq_getElem hr)⟩
theorem Reps.mem (h : Reps K cA ρ H S) {a : Addr} (ha : a ∈ ρ) : ∃ o, H a = some o ∧ ∀ xs, o ≠ .tup xs ∧ ∀ u, o ≠ .frz u (.tup xs) ∧ o ≠ .frz u (.lst xs) := by
  obtain ⟨n, hn⟩ := List.getElem?_of_mem ha
  have hl : n < S.length := by rw [← h.len]; exact (List.getElem?_eq_some_iff.mp hn).1
  exact (h.at_ n _ a (List.getElem?_eq_getElem hl) hn).there
/-- a new tracked thing outside of the store -/
theorem Ext.new {p : Addr} {o : HO} (hp : H p = none) : Ext ρ H ρ (upd H p o) := by
  have ne : ∀ {a u}, H a = some u → a ≠ p := fun h => ne_of_none h hp
  refine ⟨⟨[], by simp, fun _ h => nomatch h⟩, fun a u h _ => by rw [upd_ne (ne h)]; exact h, fun a xs h => ?_, fun a u xs h => by rw [upd_ne (ne h)]; exact h, fun a h => ?_⟩
  · rcases h with h | ⟨u, h⟩
    · exact .inl (by rw [upd_ne (ne h)]; exact h)
    · exact .inr ⟨u, by rw [upd_ne (ne h)]; exact h⟩
  · by_cases e : a = p
    · subst e; exact absurd hp h
    · rw [upd_ne e]; exact h
theorem Reps.new (h : Reps K cA ρ H S) {p : Addr} {o : HO} (hp : H p = none) : Reps K cA ρ (upd H p o) S :=
  ⟨h.len, h.nd, fun n c a hc ha => (h.at_ n c a hc ha).ext (Ext.new hp) (by
    obtain ⟨u, hu, _⟩ := (h.at_ n c a hc ha).there
    rw [upd_ne (ne_of_none hu hp)])⟩
/-- a tracked thing outside of the store is changed (a list that is being built) -/
theorem Reps.other (h : Reps K cA ρ H S) {H' : Hp} (e : Ext ρ H ρ H') (same : ∀ a ∈ ρ, H' a = H a) : Reps K cA ρ H' S :=
  ⟨h.len, h.nd, fun n c a hc ha => (h.at_ n c a hc ha).ext e (same a (List.mem_of_getElem? ha))⟩
/-- a thing is taken into the store -/
theorem Ext.alloc {p : Addr} {o : HO} (hp : H p = none) : Ext ρ H (ρ ++ [p]) (upd H p o) := by
  have x := Ext.new (ρ := ρ) (o := o) hp
  exact ⟨⟨[p], rfl, fun a h => by have e : a = p := by simpa using h
                                  rw [e]; exact hp⟩, x.keep, x.tups, x.frzs, x.there⟩
theorem Ext.take {H' : Hp} {ρ' : List Addr} {p : Addr} (e : Ext ρ H ρ' H') (hp : H p = none) : Ext ρ H (ρ' ++ [p]) H' := by
  obtain ⟨r, er, nr⟩ := e.pre
  refine ⟨⟨r ++ [p], by rw [er, List.append_assoc], fun a h => ?_⟩, e.keep, e.tups, e.frzs, e.there⟩
  rcases List.mem_append.mp h with h | h
  · exact nr a h
  · have q : a = p := by simpa using h
    rw [q]; exact hp
theorem Ext.grow {p : Addr} : (∀ a, H a ≠ none → H a ≠ none) → H p = none → Ext ρ H (ρ ++ [p]) H := fun _ hp => (Ext.refl ρ H).take hp
end
mutual
/-- data over a store that has grown -/
theorem RepV.grow {K : PySem.W.Frag} {ρ r : List Addr} {H : Hp} : ∀ {d : D} {v : V}, RepV K ρ H d v → RepV K (ρ ++ r) H d v
  | .non, _, h => h
  | .bl _, _, h => h
  | .int _, _, h => h
  | .str _, _, h => h
  | .tup xs, v, h => by
    unfold RepV at h ⊢
    obtain ⟨a, vs, ev, hs, hr⟩ := h
    exact ⟨a, vs, ev, hs, RepVs.grow hr⟩
  | .lis xs, v, h => by
    unfold RepV at h ⊢
    obtain ⟨a, vs, ev, hs, hr⟩ := h
    exact ⟨a, vs, ev, hs, RepVs.grow hr⟩
  | .ref n, v, h => by
    unfold RepV at h ⊢
    obtain ⟨a, ha, ev⟩ := h
    refine ⟨a, ?_, ev⟩
    rw [List.getElem?_append_left (List.getElem?_eq_some_iff.mp ha).1]
    exact ha
  | .exn _, _, h => h
theorem RepVs.grow {K : PySem.W.Frag} {ρ r : List Addr} {H : Hp} : ∀ {ds : List D} {vs : List V}, RepVs K ρ H ds vs → RepVs K (ρ ++ r) H ds vs
  | [], _, h => h
  | x :: xs, vs, h => by
    unfold RepVs at h ⊢
    obtain ⟨v, q, ev, h1, h2⟩ := h
    exact ⟨v, q, ev, RepV.grow h1, RepVs.grow h2⟩
end
theorem RepP.grow {K : PySem.W.Frag} {ρ r : List Addr} {H : Hp} {κ : Type} : ∀ {kvs : List (κ × D)} {ps : List (κ × V)}, RepP K ρ H kvs ps → RepP K (ρ ++ r) H kvs ps
  | [], _, h => h
  | (k, x) :: q, ps, h => by
    unfold RepP at h ⊢
    obtain ⟨v, q, ev, h1, h2⟩ := h
    exact ⟨v, q, ev, h1.grow, RepP.grow h2⟩
section
variable {K : PySem.W.Frag} {cA : Nat → Addr} {ρ : List Addr} {H : Hp} {S : Store}
theorem RepC.grow {r : List Addr} {c : Cell} {a : Addr} (h : RepC K cA ρ H c a) : RepC K cA (ρ ++ r) H c a := by
  cases c with
  | lst xs => obtain ⟨vs, h1, h2⟩ := h; exact ⟨vs, h1, h2.grow⟩
  | dct kvs => obtain ⟨ps, h1, h2⟩ := h; exact ⟨ps, h1, h2.grow⟩
  | dlk kvs => obtain ⟨o, ps, h1, h2⟩ := h; exact ⟨o, ps, h1, h2.grow⟩
  | ins c fs => obtain ⟨dx, ps, h1, h2⟩ := h; exact ⟨dx, ps, h1, h2.grow⟩
/-- a cell is laid behind the store -/
theorem Reps.push (h : Reps K cA ρ H S) {p : Addr} {c : Cell} (hn : p ∉ ρ) (hc : RepC K cA ρ H c p) : Reps K cA (ρ ++ [p]) H (S ++ [c]) := by
  refine ⟨by rw [List.length_append, List.length_append, h.len]; rfl, List.nodup_append.mpr ⟨h.nd, by simp, fun a ha b hb => ?_⟩, fun n c' a hc' ha => ?_⟩
  · have e : b = p := by simpa using hb
    rintro rfl
    rw [← e] at hn
    exact hn ha
  · by_cases q : n < S.length
    · rw [List.getElem?_append_left q] at hc'
      rw [List.getElem?_append_left (by rw [h.len]; exact q)] at ha
      exact (h.at_ n c' a hc' ha).grow
    · have hq : n = S.length := by
        have := (List.getElem?_eq_some_iff.mp hc').1
        rw [List.length_append] at this
        simp only [List.length_cons, List.length_nil] at this
        omega
      rw [hq, List.getElem?_append_right (Nat.le_refl _)] at hc'
      rw [hq, List.getElem?_append_right (by rw [h.len]; exact Nat.le_refl _), h.len] at ha
      simp at hc' ha
      subst hc' ha
      exact hc.grow
/-- a cell is written -/
theorem Ext.write {n : Nat} {a : Addr} {o u : HO} (ha : ρ[n]? = some a) (hu : H a = some u) (mu : Mut (some u)) : Ext ρ H ρ (upd H a o) := by
  refine ⟨⟨[], by simp, fun _ h => nomatch h⟩, fun b q h nb => ?_, fun b xs h => ?_, fun b q xs h => ?_, fun b h => ?_⟩
  · have ne : b ≠ a := fun e => nb (by rw [e]; exact List.mem_of_getElem? ha)
    rw [upd_ne ne]; exact h
  · have ne : b ≠ a := by
      rintro rfl
      rcases h with h | ⟨v, h⟩ <;> (rw [h] at hu; cases hu; exact mu)
    rcases h with h | ⟨v, h⟩
    · exact .inl (by rw [upd_ne ne]; exact h)
    · exact .inr ⟨v, by rw [upd_ne ne]; exact h⟩
  · have ne : b ≠ a := by
      rintro rfl
      rw [h] at hu; cases hu; exact mu
    rw [upd_ne ne]; exact h
  · by_cases e : b = a
    · rw [e, upd_same]; simp
    · rw [upd_ne e]; exact h
theorem Reps.write (h : Reps K cA ρ H S) {n : Nat} {a : Addr} {o u : HO} {c : Cell} (ha : ρ[n]? = some a) (hu : H a = some u) (mu : Mut (some u)) (hc : RepC K cA ρ (upd H a o) c a) : Reps K cA ρ (upd H a o) (S.set n c) := by
  have e : Ext ρ H ρ (upd H a o) := Ext.write ha hu mu
  refine ⟨by rw [List.length_set]; exact h.len, h.nd, fun m c' b hc' hb => ?_⟩
  by_cases q : m = n
  · subst q
    rw [ha] at hb
    cases hb
    have hm : m < S.length := by
      have := (List.getElem?_eq_some_iff.mp hc').1
      rwa [List.length_set] at this
    rw [List.getElem?_set_self hm] at hc'
    cases hc'
    exact hc
  · rw [List.getElem?_set_ne (Ne.symm q)] at hc'
    have ne : b ≠ a := by
      rintro rfl
      exact q (nodup_ix' h.nd hb ha)
    exact (h.at_ m c' b hc' hb).ext e (upd_ne ne)
where
  nodup_ix' {N : List Addr} (hN : N.Nodup) {i j : Nat} {x : Addr} (a : N[i]? = some x) (b : N[j]? = some x) : i = j := by
    obtain ⟨h1, e1⟩ := List.getElem?_eq_some_iff.mp a
    obtain ⟨h2, e2⟩ := List.getElem?_eq_some_iff.mp b
    exact (List.getElem_inj hN).mp (e1.trans e2.symm)
end

/-! ### the canonical reading -/
section
variable {α β : Type}
abbrev Rel (α β : Type) := Hp → List Addr → Hp → α → β → Prop
def After (K : PySem.W.Frag) (cA : Nat → Addr) (W : XK) (ρ : List Addr) (H : Hp) (rep : Rel α β) (r : R α) (Q : β → Hp → Prop) : Prop := match r with
  | .ok a S => ∀ ρ' H' b, Ext ρ H ρ' H' → Reps K cA ρ' H' S → rep H ρ' H' a b → Q b H'
  | .ex x S => ∀ ρ' H' c d, Ext ρ H ρ' H' → Reps K cA ρ' H' S → RepX K cA ρ' H' x c d → W c d H'
  | .bad => False
variable {K : PySem.W.Frag} {cA : Nat → Addr} {W : XK} {ρ ρ0 : List Addr} {H H0 : Hp}
theorem After.imp {rep : Rel α β} {r : R α} {Q Q' : β → Hp → Prop} (h : After K cA W ρ H rep r Q) (q : ∀ b H', Q b H' → Q' b H') : After K cA W ρ H rep r Q' := by
  cases r with
  | ok a S => exact fun ρ' H' b e hs hr => q b H' (h ρ' H' b e hs hr)
  | ex x S => exact h
  | bad => exact h
/-- what a relation must bear: it may be told of an earlier heap -/
def Stable (rep : Rel α β) : Prop := ∀ (ρ : List Addr) (H : Hp) (ρ1 : List Addr) (H1 : Hp) (ρ' : List Addr) (H' : Hp) (a : α) (b : β), Ext ρ H ρ1 H1 → rep H1 ρ' H' a b → rep H ρ' H' a b
theorem After.back {rep : Rel α β} (st : Stable rep) {r : R α} {Q : β → Hp → Prop} (e : Ext ρ0 H0 ρ H) (h : After K cA W ρ0 H0 rep r Q) : After K cA W ρ H rep r Q := by
  cases r with
  | ok a S => exact fun ρ' H' b e' hs hr => h ρ' H' b (e.trans e') hs (st _ _ _ _ _ _ _ _ e hr)
  | ex x S => exact fun ρ' H' c d e' hs hr => h ρ' H' c d (e.trans e') hs hr
  | bad => exact h
/-- one thing, then another -/
theorem After.bind {γ δ : Type} {rep : Rel α β} {rep' : Rel γ δ} (st : Stable rep') {r : R α} {f : α → Store → R γ} {Q : δ → Hp → Prop} (h : After K cA W ρ H rep' (r.bind f) Q) :
    After K cA W ρ H rep r fun b H1 => ∃ ρ1 S1 a, Ext ρ H ρ1 H1 ∧ Reps K cA ρ1 H1 S1 ∧ rep H ρ1 H1 a b ∧ After K cA W ρ1 H1 rep' (f a S1) Q := by
  cases r with
  | ok a S => exact fun ρ' H' b e hs hr => ⟨ρ', S, a, e, hs, hr, h.back st e⟩
  | ex x S => exact h
  | bad => exact h
end
/-- the relations -/
abbrev rV (K : PySem.W.Frag) : Rel D V := fun _ ρ H d v => RepV K ρ H d v
abbrev rVs (K : PySem.W.Frag) : Rel (List D) (List V) := fun _ ρ H d v => RepVs K ρ H d v
abbrev rId {α : Type} : Rel α α := fun _ _ _ a b => a = b
/-- a new list that nobody else has -/
def rNew (K : PySem.W.Frag) : Rel (List D) V := fun H0 ρ H ds v => ∃ p vs, v = .ref p ∧ H0 p = none ∧ p ∉ ρ ∧ H p = some (.lst vs) ∧ RepVs K ρ H ds vs
theorem st_V {K : PySem.W.Frag} : Stable (rV K) := fun _ _ _ _ _ _ _ _ _ h => h
theorem st_Vs {K : PySem.W.Frag} : Stable (rVs K) := fun _ _ _ _ _ _ _ _ _ h => h
theorem st_Id {α : Type} : Stable (rId (α := α)) := fun _ _ _ _ _ _ _ _ _ h => h
theorem st_New {K : PySem.W.Frag} : Stable (rNew K) := fun ρ H ρ1 H1 ρ' H' a b e h => by
  obtain ⟨p, vs, ev, h0, h1, h2, h3⟩ := h
  refine ⟨p, vs, ev, ?_, h1, h2, h3⟩
  cases q : H p with
  | none => rfl
  | some o => exact absurd h0 (e.there p (by rw [q]; simp))
section
variable {α β : Type}
def tG (K : PySem.W.Frag) (cA : Nat → Addr) (W : XK) (rep : Rel α β) (m : Loc → Store → R α) : St → Hp → (β → Hp → Prop) → Prop := fun σ H Q =>
  ∃ ρ S l, Reps K cA ρ H S ∧ RepL K ρ H l σ ∧ After K cA W ρ H rep (m l S) Q
end
abbrev ME := Loc → Store → R D
abbrev MB := Loc → Store → R Bool
abbrev MA := Loc → Store → R (List D)
abbrev tE (K : PySem.W.Frag) (cA : Nat → Addr) (W : XK) (m : ME) : TE := tG K cA W (rV K) m
abbrev tT (K : PySem.W.Frag) (cA : Nat → Addr) (W : XK) (m : MB) : TT := tG K cA W rId m
abbrev tAs (K : PySem.W.Frag) (cA : Nat → Addr) (W : XK) (m : MA) : TA := tG K cA W (rVs K) m
abbrev tNw (K : PySem.W.Frag) (cA : Nat → Addr) (W : XK) (m : MA) : TE := tG K cA W (rNew K) m
/-- operations on values -/
def t2 (K : PySem.W.Frag) (cA : Nat → Addr) (W : XK) {β : Type} {α : Type} (rep : Rel α β) (f : D → D → Store → R α) : V → V → Hp → (β → Hp → Prop) → Prop := fun x y H Q =>
  ∃ ρ S d e, Reps K cA ρ H S ∧ RepV K ρ H d x ∧ RepV K ρ H e y ∧ After K cA W ρ H rep (f d e S) Q
def t1 (K : PySem.W.Frag) (cA : Nat → Addr) (W : XK) {β : Type} {α : Type} (rep : Rel α β) (f : D → Store → R α) : V → Hp → (β → Hp → Prop) → Prop := fun x H Q =>
  ∃ ρ S d, Reps K cA ρ H S ∧ RepV K ρ H d x ∧ After K cA W ρ H rep (f d S) Q
def tN (K : PySem.W.Frag) (cA : Nat → Addr) (W : XK) {β : Type} {α : Type} (rep : Rel α β) (f : List D → Store → R α) : List V → Hp → (β → Hp → Prop) → Prop := fun xs H Q =>
  ∃ ρ S ds, Reps K cA ρ H S ∧ RepVs K ρ H ds xs ∧ After K cA W ρ H rep (f ds S) Q

/-! ### weaker readings -/
theorem _root_.L2.PE.imp {X : Cx} {e : Expr} {t t' : TE} (h : PE X e t) (i : ∀ σ H Q, t' σ H Q → t σ H Q) : PE X e t' := ⟨fun pins s σ H Q I q => h.run pins s σ H Q I (i σ H Q q)⟩
theorem _root_.L2.PT.imp {X : Cx} {e : Expr} {t t' : TT} (h : PT X e t) (i : ∀ σ H Q, t' σ H Q → t σ H Q) : PT X e t' := ⟨fun pins s σ H Q I q => h.run pins s σ H Q I (i σ H Q q)⟩
theorem _root_.L2.PW.imp {X : Cx} {e : Expr} {t t' : TT} (h : PW X e t) (i : ∀ σ H Q, t' σ H Q → t σ H Q) : PW X e t' := ⟨fun wh pins s σ H Q I q => h.run wh pins s σ H Q I (i σ H Q q)⟩
theorem _root_.L2.PA.imp {X : Cx} {es : List Expr} {t t' : TA} (h : PA X es t) (i : ∀ σ H Q, t' σ H Q → t σ H Q) : PA X es t' := ⟨fun pos pins s σ H Q I q => h.run pos pins s σ H Q I (i σ H Q q)⟩
theorem _root_.L2.PS.imp {X : Cx} {st : Stmt} {t t' : TS} (h : PS X st t) (i : ∀ E σ H, t' E σ H → t E σ H) : PS X st t' := ⟨fun pins s σ H E I q => h.run pins s σ H E I (i E σ H q)⟩
theorem _root_.L2.PSs.imp {X : Cx} {st : List Stmt} {t t' : TS} (h : PSs X st t) (i : ∀ E σ H, t' E σ H → t E σ H) : PSs X st t' := ⟨fun pins s σ H E I q => h.run pins s σ H E I (i E σ H q)⟩
theorem OpR.imp {X : Cx} {f : Value → Value → Sem Value} {r r' : R2} (h : OpR X f r) (i : ∀ x y H Q, r' x y H Q → r x y H Q) : OpR X f r' := fun pins s σ H x y v u Q I rx ry q => h pins s σ H x y v u Q I rx ry (i _ _ _ _ q)
theorem CallR.imp {X : Cx} {f : Value} {r r' : List V → Hp → VK → Prop} (h : CallR X f r) (i : ∀ xs H Q, r' xs H Q → r xs H Q) : CallR X f r' := fun pins s σ H xs us Q I rx q => h pins s σ H xs us Q I rx (i _ _ _ q)
end ML

set_option Elab.async false
set_option linter.all false
set_option maxRecDepth 100000
set_option autoImplicit false
/-! ML2: what is done with values, and its rules. -/
namespace ML
open PySem PySem.Spec L2

/-! ### lists of data -/
section
variable {K : PySem.W.Frag} {ρ : List Addr} {H : Hp}
theorem RepVs.length : ∀ {ds : List D} {vs : List V}, RepVs K ρ H ds vs → vs.length = ds.length
  | [], vs, h => by unfold RepVs at h; rw [h]; rfl
  | x :: xs, vs, h => by
    unfold RepVs at h
    obtain ⟨v, r, e, _, h2⟩ := h
    rw [e, List.length_cons, List.length_cons, RepVs.length h2]
theorem RepVs.nil : RepVs K ρ H [] [] := by unfold RepVs; rfl
theorem RepVs.cons {d : D} {v : V} {ds : List D} {vs : List V} (h : RepV K ρ H d v) (h2 : RepVs K ρ H ds vs) : RepVs K ρ H (d :: ds) (v :: vs) := by unfold RepVs; exact ⟨v, vs, rfl, h, h2⟩
theorem RepVs.append : ∀ {ds es : List D} {vs ws : List V}, RepVs K ρ H ds vs → RepVs K ρ H es ws → RepVs K ρ H (ds ++ es) (vs ++ ws)
  | [], _, vs, ws, h, h2 => by unfold RepVs at h; rw [h]; exact h2
  | x :: xs, _, vs, ws, h, h2 => by
    unfold RepVs at h
    obtain ⟨v, r, e, h1, hr⟩ := h
    rw [e]
    exact RepVs.cons h1 (RepVs.append hr h2)
theorem RepVs.get : ∀ {ds : List D} {vs : List V}, RepVs K ρ H ds vs → ∀ (i : Nat) (d : D), ds[i]? = some d → ∃ v, vs[i]? = some v ∧ RepV K ρ H d v
  | [], _, _, i, d, e => by simp at e
  | x :: xs, vs, h, i, d, e => by
    unfold RepVs at h
    obtain ⟨v, r, ev, h1, h2⟩ := h
    rw [ev]
    cases i with
    | zero => simp at e; subst e; exact ⟨v, rfl, h1⟩
    | succ i => simpa using RepVs.get h2 i d (by simpa using e)
theorem RepVs.get' : ∀ {ds : List D} {vs : List V}, RepVs K ρ H ds vs → ∀ (i : Nat) (v : V), vs[i]? = some v → ∃ d, ds[i]? = some d ∧ RepV K ρ H d v
  | [], vs, h, i, v, e => by unfold RepVs at h; rw [h] at e; simp at e
  | x :: xs, vs, h, i, v, e => by
    unfold RepVs at h
    obtain ⟨w, r, ev, h1, h2⟩ := h
    rw [ev] at e
    cases i with
    | zero => simp at e; subst e; exact ⟨x, rfl, h1⟩
    | succ i => simpa using RepVs.get' h2 i v (by simpa using e)
theorem RepVs.take : ∀ {ds : List D} {vs : List V} (n : Nat), RepVs K ρ H ds vs → RepVs K ρ H (ds.take n) (vs.take n)
  | _, _, 0, _ => by rw [List.take_zero, List.take_zero]; exact .nil
  | [], vs, n + 1, h => by unfold RepVs at h; rw [h]; exact .nil
  | x :: xs, vs, n + 1, h => by
    unfold RepVs at h
    obtain ⟨v, r, e, h1, h2⟩ := h
    rw [e, List.take_succ_cons, List.take_succ_cons]
    exact .cons h1 (RepVs.take n h2)
theorem RepVs.drop : ∀ {ds : List D} {vs : List V} (n : Nat), RepVs K ρ H ds vs → RepVs K ρ H (ds.drop n) (vs.drop n)
  | _, _, 0, h => h
  | [], vs, n + 1, h => by unfold RepVs at h; rw [h]; exact .nil
  | x :: xs, vs, n + 1, h => by
    unfold RepVs at h
    obtain ⟨v, r, e, h1, h2⟩ := h
    rw [e, List.drop_succ_cons, List.drop_succ_cons]
    exact RepVs.drop n h2
theorem RepVs.set {d : D} {v : V} (hv : RepV K ρ H d v) : ∀ {ds : List D} {vs : List V} (n : Nat), RepVs K ρ H ds vs → RepVs K ρ H (ds.set n d) (vs.set n v)
  | [], vs, _, h => by unfold RepVs at h; rw [h]; exact .nil
  | x :: xs, vs, n, h => by
    unfold RepVs at h
    obtain ⟨w, r, e, h1, h2⟩ := h
    rw [e]
    cases n with
    | zero => exact .cons hv h2
    | succ n => exact .cons h1 (RepVs.set hv n h2)
theorem RepVs.ints : ∀ {ns : List Int} {vs : List V}, RepVs K ρ H (ns.map D.int) vs → vs = ns.map V.int
  | [], vs, h => by unfold RepVs at h; exact h
  | n :: ns, vs, h => by
    rw [List.map_cons] at h
    unfold RepVs at h
    obtain ⟨w, r, e, h1, h2⟩ := h
    unfold RepV at h1
    rw [e, h1, List.map_cons, RepVs.ints h2]
theorem RepVs.of_ints : ∀ {ns : List Int}, RepVs K ρ H (ns.map D.int) (ns.map V.int)
  | [] => by exact .nil
  | n :: ns => by
    rw [List.map_cons, List.map_cons]
    exact .cons (by unfold RepV; rfl) RepVs.of_ints
end

/-! ### cells -/
def lstAt (S : Store) (n : Nat) : Option (List D) := match S[n]? with
  | some (.lst xs) => some xs
  | _ => none
def dctAt (S : Store) (n : Nat) : Option (List (Key × D)) := match S[n]? with
  | some (.dct kvs) => some kvs
  | _ => none
def insAt (S : Store) (n : Nat) : Option (Nat × List (Str × D)) := match S[n]? with
  | some (.ins c fs) => some (c, fs)
  | _ => none
theorem lstAt_of {S : Store} {n : Nat} {xs : List D} (h : S[n]? = some (.lst xs)) : lstAt S n = some xs := by unfold lstAt; rw [h]
theorem dctAt_of {S : Store} {n : Nat} {xs : List (Key × D)} (h : S[n]? = some (.dct xs)) : dctAt S n = some xs := by unfold dctAt; rw [h]
theorem insAt_of {S : Store} {n c : Nat} {fs : List (Str × D)} (h : S[n]? = some (.ins c fs)) : insAt S n = some (c, fs) := by unfold insAt; rw [h]
theorem lstAt_some {S : Store} {n : Nat} {xs : List D} (h : lstAt S n = some xs) : S[n]? = some (.lst xs) := by
  unfold lstAt at h
  split at h
  · rename_i ys e; cases h; exact e
  · cases h
theorem dctAt_some {S : Store} {n : Nat} {xs : List (Key × D)} (h : dctAt S n = some xs) : S[n]? = some (.dct xs) := by
  unfold dctAt at h
  split at h
  · rename_i ys e; cases h; exact e
  · cases h
theorem insAt_some {S : Store} {n c : Nat} {fs : List (Str × D)} (h : insAt S n = some (c, fs)) : S[n]? = some (.ins c fs) := by
  unfold insAt at h
  split at h
  · rename_i c' fs' e; cases h; exact e
  · cases h
/-- a dict that is read, locked or not -/
def kvAt (S : Store) (n : Nat) : Option (List (Key × D)) := match S[n]? with
  | some (.dct kvs) => some kvs
  | some (.dlk kvs) => some kvs
  | _ => none
theorem kvAt_of {S : Store} {n : Nat} {xs : List (Key × D)} (h : S[n]? = some (.dct xs)) : kvAt S n = some xs := by unfold kvAt; rw [h]
theorem kvAt_some {S : Store} {n : Nat} {xs : List (Key × D)} (h : kvAt S n = some xs) : S[n]? = some (.dct xs) ∨ S[n]? = some (.dlk xs) := by
  unfold kvAt at h
  split at h
  · rename_i ys e; cases h; exact .inl e
  · rename_i ys e; cases h; exact .inr e
  · cases h
/-- the items of what is a list -/
def lstOf (S : Store) : D → Option (List D)
  | .lis xs => some xs
  | .ref n => lstAt S n
  | _ => none
/-- .. a list or a tuple -/
def seqOf (S : Store) : D → Option (List D)
  | .tup xs => some xs
  | .lis xs => some xs
  | .ref n => lstAt S n
  | _ => none
def newC (c : Cell) (S : Store) : R D := .ok (.ref S.length) (S ++ [c])
section
variable {K : PySem.W.Frag} {cA : Nat → Addr} {ρ : List Addr} {H : Hp} {S : Store}
/-- the cell at a reference -/
theorem ref_rep (hS : Reps K cA ρ H S) {n : Nat} {v : V} {c : Cell} (hv : RepV K ρ H (.ref n) v) (h : S[n]? = some c) : ∃ a, v = .ref a ∧ ρ[n]? = some a ∧ RepC K cA ρ H c a := by
  unfold RepV at hv
  obtain ⟨a, ha, ev⟩ := hv
  exact ⟨a, ev, ha, hS.at_ n c a h ha⟩
theorem rlst_rep (hS : Reps K cA ρ H S) {n : Nat} {v : V} {xs : List D} (hv : RepV K ρ H (.ref n) v) (h : lstAt S n = some xs) : ∃ a vs, v = .ref a ∧ ρ[n]? = some a ∧ H a = some (.lst vs) ∧ RepVs K ρ H xs vs := by
  obtain ⟨a, e, ha, vs, h1, h2⟩ := ref_rep hS hv (lstAt_some h)
  exact ⟨a, vs, e, ha, h1, h2⟩
theorem rdct_rep (hS : Reps K cA ρ H S) {n : Nat} {v : V} {xs : List (Key × D)} (hv : RepV K ρ H (.ref n) v) (h : dctAt S n = some xs) : ∃ a vs, v = .ref a ∧ ρ[n]? = some a ∧ H a = some (.dK vs) ∧ RepP K ρ H xs vs := by
  obtain ⟨a, e, ha, vs, h1, h2⟩ := ref_rep hS hv (dctAt_some h)
  exact ⟨a, vs, e, ha, h1, h2⟩
theorem rkv_rep (hS : Reps K cA ρ H S) {n : Nat} {v : V} {xs : List (Key × D)} (hv : RepV K ρ H (.ref n) v) (h : kvAt S n = some xs) : ∃ a vs, v = .ref a ∧ ρ[n]? = some a ∧ Rd H a (.dK vs) ∧ RepP K ρ H xs vs := by
  rcases kvAt_some h with h | h
  · obtain ⟨a, e, ha, vs, h1, h2⟩ := ref_rep hS hv h
    exact ⟨a, vs, e, ha, .inl h1, h2⟩
  · obtain ⟨a, e, ha, o, vs, h1, h2⟩ := ref_rep hS hv h
    exact ⟨a, vs, e, ha, .inr ⟨o, h1⟩, h2⟩
theorem rins_rep (hS : Reps K cA ρ H S) {n c : Nat} {v : V} {fs : List (Str × D)} (hv : RepV K ρ H (.ref n) v) (h : insAt S n = some (c, fs)) : ∃ a dx vs, v = .ref a ∧ ρ[n]? = some a ∧ H a = some (.ins (cA c) dx vs) ∧ RepP K ρ H fs vs := by
  obtain ⟨a, e, ha, dx, vs, h1, h2⟩ := ref_rep hS hv (insAt_some h)
  exact ⟨a, dx, vs, e, ha, h1, h2⟩
theorem lst_rep (hS : Reps K cA ρ H S) {d : D} {v : V} {xs : List D} (hv : RepV K ρ H d v) (h : lstOf S d = some xs) : ∃ a vs, v = .ref a ∧ SqL K H a vs ∧ RepVs K ρ H xs vs := by
  cases d with
  | lis ys =>
    have e : ys = xs := Option.some.inj h
    subst e
    unfold RepV at hv
    obtain ⟨a, vs, ev, hf, hr⟩ := hv
    exact ⟨a, vs, ev, hf.sq, hr⟩
  | ref n =>
    obtain ⟨a, vs, e, _, h1, h2⟩ := rlst_rep hS hv h
    exact ⟨a, vs, e, SqL.of h1, h2⟩
  | _ => cases h
theorem seq_rep (hS : Reps K cA ρ H S) {d : D} {v : V} {xs : List D} (hv : RepV K ρ H d v) (h : seqOf S d = some xs) : ∃ a vs, v = .ref a ∧ (SqL K H a vs ∨ SqT K H a vs) ∧ RepVs K ρ H xs vs := by
  cases d with
  | tup ys =>
    have e : ys = xs := Option.some.inj h
    subst e
    unfold RepV at hv
    obtain ⟨a, vs, ev, hf, hr⟩ := hv
    exact ⟨a, vs, ev, .inr hf, hr⟩
  | lis ys => obtain ⟨a, vs, ev, h1, h2⟩ := lst_rep hS hv h; exact ⟨a, vs, ev, .inl h1, h2⟩
  | ref n => obtain ⟨a, vs, ev, h1, h2⟩ := lst_rep hS hv h; exact ⟨a, vs, ev, .inl h1, h2⟩
  | _ => cases h
theorem Reps.free (hS : Reps K cA ρ H S) {p : Addr} (hp : H p = none) : p ∉ ρ := fun hm => by
  obtain ⟨o, ho, _⟩ := hS.mem hm
  rw [hp] at ho; cases ho
/-- a new cell -/
theorem After.new {W : XK} {c : Cell} {p : Addr} {o : HO} {Q : V → Hp → Prop} (h : After K cA W ρ H (rV K) (newC c S) Q) (hS : Reps K cA ρ H S) (hp : H p = none) (hc : RepC K cA ρ (upd H p o) c p) : Q (.ref p) (upd H p o) := by
  refine h (ρ ++ [p]) _ _ (Ext.alloc hp) ((hS.new hp).push (hS.free hp) hc) ?_
  show RepV K (ρ ++ [p]) _ (.ref S.length) (.ref p)
  unfold RepV
  exact ⟨p, by rw [← hS.len, List.getElem?_append_right (Nat.le_refl _)]; simp, rfl⟩
/-- a new tuple -/
theorem After.tup {W : XK} {xs : List D} {vs : List V} {p : Addr} {Q : V → Hp → Prop} (h : After K cA W ρ H (rV K) (.ok (.tup xs) S) Q) (hS : Reps K cA ρ H S) (hp : H p = none) (hr : RepVs K ρ H xs vs) : Q (.ref p) (upd H p (.tup vs)) := by
  refine h ρ _ _ (Ext.new hp) (hS.new hp) ?_
  show RepV K ρ _ (.tup xs) (.ref p)
  unfold RepV
  exact ⟨p, vs, rfl, SqT.of upd_same, hr.ext (Ext.new hp)⟩
/-- the end where nothing has changed -/
theorem After.same {α β : Type} {W : XK} {rep : Rel α β} {a : α} {b : β} {Q : β → Hp → Prop} (h : After K cA W ρ H rep (.ok a S) Q) (hS : Reps K cA ρ H S) (hr : rep H ρ H a b) : Q b H := h ρ H b (Ext.refl ρ H) hS hr
end

/-! ### numbers, texts -/
def mulOk (i j : Int) : Bool := decide (-(2 ^ 64) < i) && decide (i < 2 ^ 64) || decide (-(2 ^ 64) < j) && decide (j < 2 ^ 64)
def addD : D → D → Store → R D
  | .int i, .int j, S => .ok (.int (i + j)) S
  | .str x, .str y, S => if x.length + y.length ≤ sizeLine then .ok (.str (x ++ y)) S else .bad
  | .tup xs, .tup ys, S => if xs.length + ys.length ≤ sizeLine then .ok (.tup (xs ++ ys)) S else .bad
  | .ref n, .ref m, S => match lstAt S n, lstAt S m with
    | some xs, some ys => if xs.length + ys.length ≤ sizeLine then newC (.lst (xs ++ ys)) S else .bad
    | _, _ => .bad
  | _, _, _ => .bad
def subD : D → D → Store → R D
  | .int i, .int j, S => .ok (.int (i - j)) S
  | _, _, _ => .bad
/-- a text n times -/
def repS (x : Str) (n : Nat) : Str := ⟨(List.replicate n x.cps).foldl (· ++ ·) #[]⟩
def mulD : D → D → Store → R D
  | .int i, .int j, S => if mulOk i j then .ok (.int (i * j)) S else .bad
  | .str x, .int n, S => if n ≤ 0 ∧ -(2 ^ 63) ≤ n then .ok (.str Str.empty) S else if n = 1 then .ok (.str x) S else if 2 ≤ n ∧ 0 < x.length ∧ n < 2 ^ 32 ∧ x.length * n.toNat ≤ 16777216 then .ok (.str (repS x n.toNat)) S else .bad
  | _, _, _ => .bad
def fdivD : D → D → Store → R D
  | .int i, .int j, S => if 0 < j ∧ j < 1073741824 then .ok (.int (i / j)) S else .bad
  | _, _, _ => .bad
def modD : D → D → Store → R D
  | .int i, .int j, S => if 0 < j then .ok (.int (i % j)) S else .bad
  | _, _, _ => .bad
def powD : D → D → Store → R D
  | .int i, .int j, S => if 0 ≤ j ∧ j ≤ 1000000 ∧ i.natAbs < 2 ^ 64 then .ok (.int (i ^ j.toNat)) S else .bad
  | _, _, _ => .bad
def negD : D → Store → R D
  | .int i, S => .ok (.int (-i)) S
  | _, _ => .bad
def ltD : D → D → Store → R Bool
  | .int i, .int j, S => .ok (decide (i < j)) S
  | .str x, .str y, S => .ok (decide (x.cps.toList < y.cps.toList)) S
  | _, _, _ => .bad
def leD : D → D → Store → R Bool
  | .int i, .int j, S => .ok (decide (i ≤ j)) S
  | .str x, .str y, S => .ok (!decide (y.cps.toList < x.cps.toList)) S
  | _, _, _ => .bad
def gtD : D → D → Store → R Bool
  | .int i, .int j, S => .ok (decide (j < i)) S
  | _, _, _ => .bad
def geD : D → D → Store → R Bool
  | .int i, .int j, S => .ok (decide (j ≤ i)) S
  | _, _, _ => .bad
section
variable {X : Cx} {cA : Nat → Addr} {W : XK}
theorem op_addM : OpR X (binaryOp .Add) (t2 X.K cA W (rV X.K) addD) := by
  refine OpR.imp ((op_add (X := X)).or ((op_add_str (X := X)).or ((op_catA (X := X)).or (op_cat (X := X))))) fun x y H Q h => ?_
  obtain ⟨ρ, S, d, e, hS, hd, he, h⟩ := h
  unfold addD at h
  split at h
  · unfold RepV at hd he
    exact .inl ⟨_, _, hd, he, h.same hS (by unfold rV RepV; rfl)⟩
  · split at h
    · rename_i hl
      unfold RepV at hd he
      exact .inr (.inl ⟨_, _, hd, he, hl, h.same hS (by unfold rV RepV; rfl)⟩)
    · exact h.elim
  · split at h
    · rename_i xs ys hl
      have hd' := hd
      have he' := he
      unfold RepV at hd he
      obtain ⟨a, vs, ex, h1, r1⟩ := hd
      obtain ⟨b, ws, ey, h2, r2⟩ := he
      have nl1 : vs = [] → xs = [] := fun z => List.eq_nil_of_length_eq_zero (by rw [← r1.length, z]; rfl)
      have nl2 : ws = [] → ys = [] := fun z => List.eq_nil_of_length_eq_zero (by rw [← r2.length, z]; rfl)
      refine .inr (.inr (.inl ⟨a, b, vs, ws, ex, ey, h1, h2, by rw [r1.length, r2.length]; exact hl, fun z => ?_, fun _ z => ?_, fun _ _ p hp => h.tup hS hp (r1.append r2)⟩))
      · rw [nl1 z, List.nil_append] at h
        rw [ey] at he'
        exact h.same hS he'
      · rw [nl2 z, List.append_nil] at h
        rw [ex] at hd'
        exact h.same hS hd'
    · exact h.elim
  · split at h
    · rename_i xs ys e1 e2
      split at h
      · rename_i hl
        obtain ⟨a, vs, ex, ha, h1, r1⟩ := rlst_rep hS hd e1
        obtain ⟨b, ws, ey, hb, h2, r2⟩ := rlst_rep hS he e2
        exact .inr (.inr (.inr ⟨a, b, vs, ws, ex, ey, h1, h2, by rw [r1.length, r2.length]; exact hl, fun p hp => h.new hS hp ⟨_, upd_same, (r1.append r2).ext (Ext.new hp)⟩⟩))
      · exact h.elim
    · exact h.elim
  · exact h.elim
theorem op_subM : OpR X (binaryOp .Sub) (t2 X.K cA W (rV X.K) subD) := by
  refine OpR.imp (op_sub (X := X)) fun x y H Q h => ?_
  obtain ⟨ρ, S, d, e, hS, hd, he, h⟩ := h
  unfold subD at h
  split at h
  · unfold RepV at hd he
    exact ⟨_, _, hd, he, h.same hS (by unfold rV RepV; rfl)⟩
  · exact h.elim
theorem mulOk_of {i j : Int} (h : mulOk i j = true) : CMul i j := by
  unfold mulOk at h
  simp only [Bool.or_eq_true, Bool.and_eq_true, decide_eq_true_eq] at h
  exact h
theorem rep_list (z : Str) : ∀ (n : Nat) (acc : Array Nat), ((List.replicate n z.cps).foldl (· ++ ·) acc).toList = acc.toList ++ (List.replicate n z.cps.toList).flatten
  | 0, acc => by simp
  | n + 1, acc => by
    rw [List.replicate_succ, List.foldl_cons, rep_list z n, List.replicate_succ, List.flatten_cons, Array.toList_append, List.append_assoc]
theorem rep_cs (z : Str) (n : Nat) : (repS z n).cps.toList = (List.replicate n z.cps.toList).flatten := by
  exact (rep_list z n #[]).trans (List.nil_append _)
theorem rep_len (z : Str) (n : Nat) : (repS z n).length = z.length * n := by
  show (repS z n).cps.size = z.cps.size * n
  rw [← Array.length_toList, rep_cs]
  induction n with
  | zero => rfl
  | succ n ih =>
    rw [List.replicate_succ, List.flatten_cons, List.length_append, ih, Array.length_toList, Nat.mul_succ, Nat.add_comm]
theorem op_mulStr : OpR X (binaryOp .Mult) (fun x y H Q => ∃ (z : Str) (n : Int), x = .str z ∧ y = .int n ∧
    ((n ≤ 0 ∧ -(2 ^ 63) ≤ n ∧ Q (.str Str.empty) H) ∨ (n = 1 ∧ Q (.str z) H) ∨ (2 ≤ n ∧ 0 < z.length ∧ n < 2 ^ 32 ∧ z.length * n.toNat ≤ 16777216 ∧ Q (.str (repS z n.toNat)) H))) := by
  intro pins s σ H x y v u Q I rx ry h
  obtain ⟨z, n, rfl, rfl, h⟩ := h
  obtain ⟨t, rfl⟩ := rx
  obtain ⟨t2, rfl⟩ := ry
  have fin : ∀ (r : Str) (tk : Tok), Q (.str r) H → EP X pins σ Q (.str r tk) { s with toks := s.toks + 1 } := fun r tk q => ⟨.str r, H, I.tok _, ⟨_, rfl⟩, q⟩
  rcases h with ⟨h0, h1, q⟩ | ⟨rfl, q⟩ | ⟨h2, h3, h4, h5, q⟩
  · exact PySem.P.mul_str_none (by omega) (by omega) (fin _ _ q)
  · refine PySem.P.mul_str (by decide) (fun _ z => nomatch z) (fun _ z => nomatch z) ?_
    rw [if_neg (by omega), if_pos (by simp)]
    exact ⟨.str z, H, I, ⟨_, rfl⟩, q⟩
  · have c1 : (decide (n < -(2 ^ 63 : Int)) || decide (n ≥ 2 ^ 63)) = false := by
      rw [decide_eq_false (by omega), decide_eq_false (by omega)]; rfl
    have hn : n = ((n.toNat : Nat) : Int) := by omega
    refine PySem.P.mul_str c1 (fun _ _ hz => ?_) (fun _ _ => ?_) ?_
    · have e : (z.length : Int) ≤ (2 ^ 63 - 1) / n := by
        refine (Int.le_ediv_iff_mul_le (by omega)).mpr ?_
        have : ((z.length * n.toNat : Nat) : Int) ≤ ((16777216 : Nat) : Int) := Int.ofNat_le.mpr h5
        rw [Int.natCast_mul, ← hn] at this
        have q : (9223372036854775807 : Int) = 2 ^ 63 - 1 := by decide
        omega
      omega
    · unfold PySem.Builtin.Str.tooLong
      rw [decide_eq_false]
      show ¬ sizeLine < _
      rw [sizeLine_eq]
      omega
    · rw [if_neg (by omega), if_neg]
      · refine ⟨?_, fin _ _ q⟩
        rw [sizeLine_eq]
        exact Nat.le_trans (Nat.le_of_eq (rep_len z n.toNat)) h5
      · simp
        omega
theorem op_mulM : OpR X (binaryOp .Mult) (t2 X.K cA W (rV X.K) mulD) := by
  refine OpR.imp ((op_mul (X := X)).or (op_mulStr (X := X))) fun x y H Q h => ?_
  obtain ⟨ρ, S, d, e, hS, hd, he, h⟩ := h
  unfold mulD at h
  split at h
  · split at h
    · rename_i hm
      unfold RepV at hd he
      exact .inl ⟨_, _, hd, he, mulOk_of hm, h.same hS (by unfold rV RepV; rfl)⟩
    · exact h.elim
  · rename_i z n _
    unfold RepV at hd he
    refine .inr ⟨_, _, hd, he, ?_⟩
    split at h
    · rename_i c
      exact .inl ⟨c.1, c.2, h.same hS (by unfold rV RepV; rfl)⟩
    · split at h
      · rename_i c
        exact .inr (.inl ⟨c, h.same hS (by unfold rV RepV; rfl)⟩)
      · split at h
        · rename_i c1 c2 c3
          exact .inr (.inr ⟨c3.1, c3.2.1, c3.2.2.1, c3.2.2.2, h.same hS (by unfold rV RepV; rfl)⟩)
        · exact h.elim
  · exact h.elim
theorem op_fdivM : OpR X (binaryOp .FloorDiv) (t2 X.K cA W (rV X.K) fdivD) := by
  refine OpR.imp (op_fdiv (X := X)) fun x y H Q h => ?_
  obtain ⟨ρ, S, d, e, hS, hd, he, h⟩ := h
  unfold fdivD at h
  split at h
  · split at h
    · rename_i hm
      unfold RepV at hd he
      exact ⟨_, _, hd, he, hm, h.same hS (by unfold rV RepV; rfl)⟩
    · exact h.elim
  · exact h.elim
theorem op_modM : OpR X (binaryOp .Mod) (t2 X.K cA W (rV X.K) modD) := by
  refine OpR.imp (op_mod (X := X)) fun x y H Q h => ?_
  obtain ⟨ρ, S, d, e, hS, hd, he, h⟩ := h
  unfold modD at h
  split at h
  · split at h
    · rename_i hm
      unfold RepV at hd he
      exact ⟨_, _, hd, he, hm, h.same hS (by unfold rV RepV; rfl)⟩
    · exact h.elim
  · exact h.elim
theorem op_powM : OpR X (binaryOp .Pow) (t2 X.K cA W (rV X.K) powD) := by
  refine OpR.imp (op_pow (X := X)) fun x y H Q h => ?_
  obtain ⟨ρ, S, d, e, hS, hd, he, h⟩ := h
  unfold powD at h
  split at h
  · split at h
    · rename_i hm
      unfold RepV at hd he
      exact ⟨_, _, hd, he, hm, h.same hS (by unfold rV RepV; rfl)⟩
    · exact h.elim
  · exact h.elim
theorem un_negM : UnR X (unaryOp .USub) (t1 X.K cA W (rV X.K) negD) := by
  refine fun pins s σ H x v Q I rx h => un_neg pins s σ H x v Q I rx ?_
  obtain ⟨ρ, S, d, hS, hd, h⟩ := h
  unfold negD at h
  split at h
  · unfold RepV at hd
    exact ⟨_, hd, h.same hS (by unfold rV RepV; rfl)⟩
  · exact h.elim
/-- a comparison's reading -/
abbrev tC2 (K : PySem.W.Frag) (cA : Nat → Addr) (W : XK) (f : D → D → Store → R Bool) : R2 := fun x y H Q => t2 K cA W rId f x y H fun b H' => Q (.bl b) H'
theorem op_ltM : OpR X (compareOp .Lt) (tC2 X.K cA W ltD) := by
  refine OpR.imp ((op_lt (X := X)).or (op_lt_str (X := X))) fun x y H Q h => ?_
  obtain ⟨ρ, S, d, e, hS, hd, he, h⟩ := h
  unfold ltD at h
  split at h
  · unfold RepV at hd he
    exact .inl ⟨_, _, hd, he, h.same hS rfl⟩
  · unfold RepV at hd he
    exact .inr ⟨_, _, hd, he, h.same hS rfl⟩
  · exact h.elim
theorem op_leM : OpR X (compareOp .LtE) (tC2 X.K cA W leD) := by
  refine OpR.imp ((op_le (X := X)).or (op_le_str (X := X))) fun x y H Q h => ?_
  obtain ⟨ρ, S, d, e, hS, hd, he, h⟩ := h
  unfold leD at h
  split at h
  · unfold RepV at hd he
    exact .inl ⟨_, _, hd, he, h.same hS rfl⟩
  · unfold RepV at hd he
    exact .inr ⟨_, _, hd, he, h.same hS rfl⟩
  · exact h.elim
theorem op_gtM : OpR X (compareOp .Gt) (tC2 X.K cA W gtD) := by
  refine OpR.imp (op_gt (X := X)) fun x y H Q h => ?_
  obtain ⟨ρ, S, d, e, hS, hd, he, h⟩ := h
  unfold gtD at h
  split at h
  · unfold RepV at hd he
    exact ⟨_, _, hd, he, h.same hS rfl⟩
  · exact h.elim
theorem op_geM : OpR X (compareOp .GtE) (tC2 X.K cA W geD) := by
  refine OpR.imp (op_ge (X := X)) fun x y H Q h => ?_
  obtain ⟨ρ, S, d, e, hS, hd, he, h⟩ := h
  unfold geD at h
  split at h
  · unfold RepV at hd he
    exact ⟨_, _, hd, he, h.same hS rfl⟩
  · exact h.elim
end
end ML

set_option Elab.async false
set_option linter.all false
set_option maxRecDepth 100000
set_option autoImplicit false
/-! ML3: equality, membership, length, truth, kinds, items, slices. -/
namespace ML
open PySem PySem.Spec L2

/-! ### equality -/
def mapO {α β : Type} (f : α → Option β) : List α → Option (List β)
  | [] => some []
  | x :: xs => match f x, mapO f xs with
    | some y, some ys => some (y :: ys)
    | _, _ => none
def toPy (S : Store) : Nat → D → Option PyData
  | _, .non => some .none
  | _, .bl b => some (.bool b)
  | _, .int i => some (.int i)
  | _, .str x => some (.str x)
  | _, .exn _ => none
  | 0, _ => none
  | k + 1, .tup xs => (mapO (toPy S k) xs).map .tuple
  | k + 1, .lis xs => (mapO (toPy S k) xs).map .list
  | k + 1, .ref n => match lstAt S n with
    | some xs => (mapO (toPy S k) xs).map .list
    | none => none
def eqPy (S : Store) (d e : D) : Option Bool := match toPy S 64 d, toPy S 64 e with
  | some a, some b => if SeqAt.shaped a = true ∧ SeqAt.shaped b = true then some (PyData.eqv a b) else none
  | _, _ => none
def eqO (S : Store) : D → D → Option Bool
  | .str x, .str y => some (decide (x = y))
  | .str _, .non => some false
  | .str _, .int _ => some false
  | .str _, .bl _ => some false
  | .non, .str _ => some false
  | .int _, .str _ => some false
  | .bl _, .str _ => some false
  | d, e => eqPy S d e
def eqD (d e : D) (S : Store) : R Bool := match eqO S d e with
  | some b => .ok b S
  | none => .bad
def neD (d e : D) (S : Store) : R Bool := match eqO S d e with
  | some b => .ok (!b) S
  | none => .bad
section
variable {K : PySem.W.Frag} {cA : Nat → Addr} {ρ : List Addr} {H : Hp} {S : Store}
theorem toPy_rep (hS : Reps K cA ρ H S) : ∀ (k : Nat) (d : D) (v : V) (p : PyData), toPy S k d = some p → RepV K ρ H d v → Dp K H v p
  | k, .non, v, p, h, r => by unfold RepV at r; subst r; cases k <;> (cases h; exact .non)
  | k, .bl b, v, p, h, r => by unfold RepV at r; subst r; cases k <;> (cases h; exact .bl b)
  | k, .int i, v, p, h, r => by unfold RepV at r; subst r; cases k <;> (cases h; exact .int i)
  | k, .str x, v, p, h, r => by unfold RepV at r; subst r; cases k <;> (cases h; exact .str x)
  | 0, .tup xs, v, p, h, r => nomatch h
  | 0, .lis xs, v, p, h, r => nomatch h
  | 0, .ref n, v, p, h, r => nomatch h
  | _, .exn a, v, p, h, r => by
    unfold toPy at h
    cases h
  | k + 1, .tup xs, v, p, h, r => by
    unfold RepV at r
    obtain ⟨a, vs, rfl, hs, hr⟩ := r
    have h : (mapO (toPy S k) xs).map PyData.tuple = some p := h
    obtain ⟨ps, e, rfl⟩ := Option.map_eq_some_iff.mp h
    exact .tup hs (all k xs vs ps e hr)
  | k + 1, .lis xs, v, p, h, r => by
    unfold RepV at r
    obtain ⟨a, vs, rfl, hs, hr⟩ := r
    have h : (mapO (toPy S k) xs).map PyData.list = some p := h
    obtain ⟨ps, e, rfl⟩ := Option.map_eq_some_iff.mp h
    exact .lst hs.sq (all k xs vs ps e hr)
  | k + 1, .ref n, v, p, h, r => by
    unfold toPy at h
    cases e : lstAt S n with
    | none => rw [e] at h; cases h
    | some xs =>
      rw [e] at h
      obtain ⟨a, vs, rfl, _, hs, hr⟩ := rlst_rep hS r e
      obtain ⟨ps, e, rfl⟩ := Option.map_eq_some_iff.mp h
      exact .lst (SqL.of hs) (all k xs vs ps e hr)
where
  all (k : Nat) : ∀ (xs : List D) (vs : List V) (ps : List PyData), mapO (toPy S k) xs = some ps → RepVs K ρ H xs vs → DpAll K H vs ps
  | [], vs, ps, h, r => by unfold RepVs at r; subst r; cases h; exact .nil
  | x :: xs, vs, ps, h, r => by
    unfold RepVs at r
    obtain ⟨v, q, rfl, h1, h2⟩ := r
    unfold mapO at h
    split at h
    · rename_i y ys e1 e2
      cases h
      exact .cons (toPy_rep hS k x v y e1 h1) (all k xs q ys e2 h2)
    · cases h
end
section
variable {X : Cx} {cA : Nat → Addr} {W : XK}
theorem eqO_rep {K : PySem.W.Frag} {ρ : List Addr} {H : Hp} {S : Store} (hS : Reps K cA ρ H S) {d e : D} {x y : V} {b : Bool} (hd : RepV K ρ H d x) (he : RepV K ρ H e y) (h : eqO S d e = some b) :
    (scal x y = true ∧ b = decide (x = y)) ∨ ∃ p q, Dp K H x p ∧ Dp K H y q ∧ SeqAt.shaped p = true ∧ SeqAt.shaped q = true ∧ b = PyData.eqv p q := by
  unfold eqO at h
  split at h
  all_goals first
    | (unfold RepV at hd he; subst hd he; cases h; exact .inl ⟨rfl, by simp⟩)
    | skip
  unfold eqPy at h
  split at h
  · rename_i p q e1 e2
    split at h
    · rename_i hz
      cases h
      exact .inr ⟨p, q, toPy_rep hS _ _ _ _ e1 hd, toPy_rep hS _ _ _ _ e2 he, hz.1, hz.2, rfl⟩
    · cases h
  · cases h
theorem op_eqM (hu : X.A.units + 64 < cLine) : OpR X (compareOp .Eq) (tC2 X.K cA W eqD) := by
  refine OpR.imp ((op_eq (X := X)).or (op_eqD (X := X) hu)) fun x y H Q h => ?_
  obtain ⟨ρ, S, d, e, hS, hd, he, h⟩ := h
  unfold eqD at h
  split at h
  · rename_i b hb
    have q := h.same hS rfl
    rcases eqO_rep hS hd he hb with ⟨h1, h2⟩ | ⟨p, r, h1, h2, h3, h4, h5⟩
    · subst h2; exact .inl ⟨h1, q⟩
    · subst h5; exact .inr ⟨p, r, h1, h2, h3, h4, q⟩
  · exact h.elim
theorem op_neM (hu : X.A.units + 64 < cLine) : OpR X (compareOp .NotEq) (tC2 X.K cA W neD) := by
  refine OpR.imp ((op_ne (X := X)).or (op_neD (X := X) hu)) fun x y H Q h => ?_
  obtain ⟨ρ, S, d, e, hS, hd, he, h⟩ := h
  unfold neD at h
  split at h
  · rename_i b hb
    have q := h.same hS rfl
    rcases eqO_rep hS hd he hb with ⟨h1, h2⟩ | ⟨p, r, h1, h2, h3, h4, h5⟩
    · subst h2; exact .inl ⟨h1, q⟩
    · subst h5; exact .inr ⟨p, r, h1, h2, h3, h4, q⟩
  · exact h.elim
end

/-! ### is -/
def isD : D → D → Store → R Bool
  | .non, .non, S => .ok true S
  | _, .non, S => .ok false S
  | .bl a, .bl b, S => .ok (decide (a = b)) S
  | _, _, _ => .bad
def isNotD : D → D → Store → R Bool
  | .non, .non, S => .ok false S
  | _, .non, S => .ok true S
  | .bl a, .bl b, S => .ok (!decide (a = b)) S
  | _, _, _ => .bad
theorem rep_non {K : PySem.W.Frag} {ρ : List Addr} {H : Hp} {d : D} {v : V} (h : RepV K ρ H d v) : v = .non ↔ d = .non := by
  cases d with
  | non => unfold RepV at h; simp [h]
  | bl b => unfold RepV at h; simp [h]
  | int b => unfold RepV at h; simp [h]
  | str b => unfold RepV at h; simp [h]
  | tup b => unfold RepV at h; obtain ⟨a, vs, e, _⟩ := h; simp [e]
  | lis b => unfold RepV at h; obtain ⟨a, vs, e, _⟩ := h; simp [e]
  | ref b => unfold RepV at h; obtain ⟨a, _, e⟩ := h; simp [e]
  | exn b => unfold RepV at h; simp [h]
section
variable {X : Cx} {cA : Nat → Addr} {W : XK}
theorem op_isM : OpR X (compareOp .Is) (tC2 X.K cA W isD) := by
  refine OpR.imp ((op_isN (X := X)).or (op_is_bl (X := X))) fun x y H Q h => ?_
  obtain ⟨ρ, S, d, e, hS, hd, he, h⟩ := h
  unfold isD at h
  split at h
  · unfold RepV at hd he
    exact .inl ⟨he, by rw [hd]; exact h.same hS rfl⟩
  · rename_i hn
    have q := h.same hS rfl
    unfold RepV at he
    refine .inl ⟨he, ?_⟩
    have : ¬ x = .non := fun z => hn ((rep_non hd).mp z)
    rw [decide_eq_false this]
    exact q
  · unfold RepV at hd he
    exact .inr ⟨_, _, hd, he, h.same hS rfl⟩
  · exact h.elim
theorem op_isNotM : OpR X (compareOp .IsNot) (tC2 X.K cA W isNotD) := by
  refine OpR.imp ((op_notN (X := X)).or (op_isnot_bl (X := X))) fun x y H Q h => ?_
  obtain ⟨ρ, S, d, e, hS, hd, he, h⟩ := h
  unfold isNotD at h
  split at h
  · unfold RepV at hd he
    exact .inl ⟨he, by rw [hd]; exact h.same hS rfl⟩
  · rename_i hn
    have q := h.same hS rfl
    unfold RepV at he
    refine .inl ⟨he, ?_⟩
    have : ¬ x = .non := fun z => hn ((rep_non hd).mp z)
    rw [decide_eq_false this]
    exact q
  · unfold RepV at hd he
    exact .inr ⟨_, _, hd, he, h.same hS rfl⟩
  · exact h.elim
end

/-! ### in -/
def flatO : D → Option V
  | .non => some .non
  | .bl b => some (.bl b)
  | .int i => some (.int i)
  | .str x => some (.str x)
  | _ => none
def keyO : D → Option Key
  | .int i => some (.inl i)
  | .str x => some (.inr x)
  | _ => none
def dLook (kvs : List (Key × D)) (k : Key) : Option D := (kvs.find? fun kv => decide (kv.1 = k)).map (·.2)
def dPut (kvs : List (Key × D)) (k : Key) (v : D) : List (Key × D) :=
  if (kvs.any fun kv => decide (kv.1 = k)) = true then kvs.map (fun kv => if kv.1 = k then (kv.1, v) else kv) else kvs ++ [(k, v)]
def dDrop (kvs : List (Key × D)) (k : Key) : List (Key × D) := kvs.filter fun kv => decide (kv.1 ≠ k)
/-- one sign -/
def signO : D → Option Nat
  | .str x => match x.cps.toList with
    | [c] => some c
    | _ => none
  | _ => none
def inO (S : Store) (x y : D) : Option Bool := match y with
  | .str z => (signO x).map fun c => decide (c ∈ z.cps.toList)
  | _ => match seqOf S y with
    | some ys => match flatO x, mapO flatO ys with
      | some v, some vs => some (inV v vs)
      | _, _ => none
    | none => match y with
      | .ref n => match kvAt S n, keyO x with
        | some kvs, some k => some (dLook kvs k).isSome
        | _, _ => none
      | _ => none
def inD (x y : D) (S : Store) : R Bool := match inO S x y with
  | some b => .ok b S
  | none => .bad
def notInD (x y : D) (S : Store) : R Bool := match inO S x y with
  | some b => .ok (!b) S
  | none => .bad
section
variable {K : PySem.W.Frag} {cA : Nat → Addr} {ρ : List Addr} {H : Hp} {S : Store}
theorem flat_rep {d : D} {v w : V} (h : flatO d = some w) (r : RepV K ρ H d v) : v = w ∧ flatV w = true := by
  cases d with
  | non => unfold RepV at r; subst r; cases h; exact ⟨rfl, rfl⟩
  | bl b => unfold RepV at r; subst r; cases h; exact ⟨rfl, rfl⟩
  | int b => unfold RepV at r; subst r; cases h; exact ⟨rfl, rfl⟩
  | str b => unfold RepV at r; subst r; cases h; exact ⟨rfl, rfl⟩
  | _ => cases h
theorem flats_rep : ∀ {ds : List D} {vs ws : List V}, mapO flatO ds = some ws → RepVs K ρ H ds vs → vs = ws ∧ ws.all flatV = true
  | [], vs, ws, h, r => by unfold RepVs at r; subst r; cases h; exact ⟨rfl, rfl⟩
  | d :: ds, vs, ws, h, r => by
    unfold RepVs at r
    obtain ⟨v, q, rfl, h1, h2⟩ := r
    unfold mapO at h
    split at h
    · rename_i y ys e1 e2
      cases h
      obtain ⟨rfl, f1⟩ := flat_rep e1 h1
      obtain ⟨rfl, f2⟩ := flats_rep e2 h2
      exact ⟨rfl, by rw [List.all_cons, f1, f2]; rfl⟩
    · cases h
theorem key_rep {d : D} {v : V} {k : Key} (h : keyO d = some k) (r : RepV K ρ H d v) : v = kV k := by
  cases d with
  | int b => unfold RepV at r; subst r; cases h; rfl
  | str b => unfold RepV at r; subst r; cases h; rfl
  | _ => cases h
theorem sign_rep {d : D} {v : V} {c : Nat} (h : signO d = some c) (r : RepV K ρ H d v) : v = .str ⟨#[c]⟩ := by
  cases d with
  | str x =>
    unfold RepV at r
    unfold signO at h
    simp only at h
    split at h
    · rename_i c' e
      cases h
      rw [r]
      exact congrArg V.str (Str.ext' (Array.toList_inj.mp e))
    · cases h
  | _ => cases h
theorem look_rep : ∀ {kvs : List (Key × D)} {ps : List (Key × V)} (k : Key), RepP K ρ H kvs ps →
    match dLook kvs k with
    | some d => ∃ v, valV ps k = some v ∧ RepV K ρ H d v
    | none => valV ps k = none
  | [], ps, k, r => by unfold RepP at r; subst r; rfl
  | (j, x) :: kvs, ps, k, r => by
    unfold RepP at r
    obtain ⟨v, q, rfl, h1, h2⟩ := r
    by_cases e : j = k
    · have e1 : dLook ((j, x) :: kvs) k = some x := by simp [dLook, e]
      rw [e1]
      exact ⟨v, valV_pos e, h1⟩
    · have e1 : dLook ((j, x) :: kvs) k = dLook kvs k := by simp [dLook, List.find?_cons, e]
      rw [e1, valV_neg (p := (j, v)) e]
      exact look_rep k h2
theorem lookS_rep {kvs : List (Key × D)} {ps : List (Key × V)} (k : Key) (r : RepP K ρ H kvs ps) : (valV ps k).isSome = (dLook kvs k).isSome := by
  have h := look_rep k r
  split at h
  · rename_i d e; obtain ⟨v, h1, _⟩ := h; rw [h1, e]; rfl
  · rename_i e; rw [h, e]; rfl
theorem inO_rep (hS : Reps K cA ρ H S) {d e : D} {x y : V} {b : Bool} (hd : RepV K ρ H d x) (he : RepV K ρ H e y) (h : inO S d e = some b) :
    (∃ (c : Nat) (z : Str), x = .str ⟨#[c]⟩ ∧ y = .str z ∧ b = decide (c ∈ z.cps.toList)) ∨
    (∃ p xs, y = .ref p ∧ (SqL K H p xs ∨ SqT K H p xs) ∧ flatV x = true ∧ xs.all flatV = true ∧ b = inV x xs) ∨
    ∃ a o, y = .ref a ∧ DGet H a x o ∧ b = o.isSome := by
  unfold inO at h
  split at h
  · rename_i z
    unfold RepV at he
    cases es : signO d with
    | none => rw [es] at h; cases h
    | some c =>
      rw [es] at h
      cases h
      exact .inl ⟨c, z, sign_rep es hd, he, rfl⟩
  · split at h
    · rename_i ys ey
      obtain ⟨p, vs, rfl, hq, hr⟩ := seq_rep hS he ey
      split at h
      · rename_i v ws e1 e2
        cases h
        obtain ⟨rfl, f1⟩ := flat_rep e1 hd
        obtain ⟨rfl, f2⟩ := flats_rep e2 hr
        exact .inr (.inl ⟨p, vs, rfl, hq, f1, f2, rfl⟩)
      · cases h
    · split at h
      · split at h
        · rename_i kvs k e1 e2
          cases h
          obtain ⟨a, ps, rfl, ha, hp, hr⟩ := rkv_rep hS he e1
          have ek := key_rep e2 hd
          subst ek
          exact .inr (.inr ⟨a, _, rfl, (.inl ⟨ps, k, hp, rfl, rfl⟩ : DGet H a (kV k) (valV ps k)), (lookS_rep k hr).symm⟩)
        · cases h
      · cases h
end
section
variable {X : Cx} {cA : Nat → Addr} {W : XK}
theorem op_inDict (hu : X.A.units + 1 < cLine) : OpR X (compareOp .In) (fun x y H Q => ∃ a o, y = .ref a ∧ DGet H a x o ∧ Q (.bl o.isSome) H) := by
  intro pins s σ H x y v u Q I rx ry h
  obtain ⟨a, o, rfl, g, q⟩ := h
  obtain rfl : u = Value.ref a := ry
  exact d_in hu I g rx fun s3 I3 => ⟨.bl o.isSome, H, I3, rfl, q⟩
theorem op_notInDict (hu : X.A.units + 1 < cLine) : OpR X (compareOp .NotIn) (fun x y H Q => ∃ a o, y = .ref a ∧ DGet H a x o ∧ Q (.bl (!o.isSome)) H) := by
  intro pins s σ H x y v u Q I rx ry h
  obtain ⟨a, o, rfl, g, q⟩ := h
  obtain rfl : u = Value.ref a := ry
  exact d_notIn hu I g rx fun s3 I3 => ⟨.bl (!o.isSome), H, I3, rfl, q⟩
theorem op_inM (hu : X.A.units + 1 < cLine) : OpR X (compareOp .In) (tC2 X.K cA W inD) := by
  refine OpR.imp ((op_in_sign (X := X)).or ((op_in_seq (X := X)).or (op_inDict (X := X) hu))) fun x y H Q h => ?_
  obtain ⟨ρ, S, d, e, hS, hd, he, h⟩ := h
  unfold inD at h
  split at h
  · rename_i b hb
    have q := h.same hS rfl
    rcases inO_rep hS hd he hb with ⟨c, z, h1, h2, h3⟩ | ⟨p, xs, h1, h2, h3, h4, h5⟩ | ⟨a, o, h1, h2, h3⟩
    · subst h3; exact .inl ⟨c, z, h1, h2, q⟩
    · subst h5; exact .inr (.inl ⟨p, xs, h1, h2, h3, h4, q⟩)
    · subst h3; exact .inr (.inr ⟨a, o, h1, h2, q⟩)
  · exact h.elim
theorem op_notInM (hu : X.A.units + 1 < cLine) : OpR X (compareOp .NotIn) (tC2 X.K cA W notInD) := by
  refine OpR.imp ((op_notIn_sign (X := X)).or ((op_notIn_seq (X := X)).or (op_notInDict (X := X) hu))) fun x y H Q h => ?_
  obtain ⟨ρ, S, d, e, hS, hd, he, h⟩ := h
  unfold notInD at h
  split at h
  · rename_i b hb
    have q := h.same hS rfl
    rcases inO_rep hS hd he hb with ⟨c, z, h1, h2, h3⟩ | ⟨p, xs, h1, h2, h3, h4, h5⟩ | ⟨a, o, h1, h2, h3⟩
    · subst h3; exact .inl ⟨c, z, h1, h2, q⟩
    · subst h5; exact .inr (.inl ⟨p, xs, h1, h2, h3, h4, q⟩)
    · subst h3; exact .inr (.inr ⟨a, o, h1, h2, q⟩)
  · exact h.elim
end
end ML

set_option Elab.async false
set_option linter.all false
set_option maxRecDepth 100000
set_option autoImplicit false
/-! ML4: expressions. -/
namespace ML
open PySem PySem.Spec L2

/-! ### chaining -/
def Mono {α β : Type} (rep : Rel α β) : Prop := ∀ (H0 : Hp) (ρ : List Addr) (H : Hp) (ρ' : List Addr) (H' : Hp) (a : α) (b : β), Ext ρ H ρ' H' → rep H0 ρ H a b → rep H0 ρ' H' a b
theorem mo_V {K : PySem.W.Frag} : Mono (rV K) := fun _ _ _ _ _ _ _ e h => h.ext e
theorem mo_Vs {K : PySem.W.Frag} : Mono (rVs K) := fun _ _ _ _ _ _ _ e h => h.ext e
theorem mo_Id {α : Type} : Mono (rId (α := α)) := fun _ _ _ _ _ _ _ _ h => h
theorem mo_New {K : PySem.W.Frag} : Mono (rNew K) := fun H0 ρ H ρ' H' a b e h => by
  obtain ⟨p, vs, ev, h0, h1, h2, h3⟩ := h
  refine ⟨p, vs, ev, h0, fun hm => ?_, e.keep p _ h2 h1, h3.ext e⟩
  obtain ⟨r, er, nr⟩ := e.pre
  rw [er] at hm
  rcases List.mem_append.mp hm with z | z
  · exact h1 z
  · have := nr p z
    rw [h2] at this; cases this
section
variable {K : PySem.W.Frag} {cA : Nat → Addr} {W : XK} {α β γ δ ε ζ η θ : Type} {rep : Rel γ δ} {rep1 : Rel α β} {rep2 : Rel ε ζ} {rep3 : Rel η θ}
theorem bind1 (st : Stable rep) {m : Loc → Store → R α} {f : α → Store → R γ} {σ : L2.St} {H : Hp} {Q : δ → Hp → Prop}
    (h : tG K cA W rep (fun l S => (m l S).bind f) σ H Q) :
    tG K cA W rep1 m σ H fun x H1 => ∃ ρ S a, Reps K cA ρ H1 S ∧ rep1 H ρ H1 a x ∧ After K cA W ρ H1 rep (f a S) Q := by
  obtain ⟨ρ, S, l, hS, hl, h⟩ := h
  refine ⟨ρ, S, l, hS, hl, (After.bind (rep := rep1) st h).imp fun x H1 q => ?_⟩
  obtain ⟨ρ1, S1, a, _, h1, h2, h3⟩ := q
  exact ⟨ρ1, S1, a, h1, h2, h3⟩
theorem bind1L (st : Stable rep) {m : Loc → Store → R α} {f : Loc → α → Store → R γ} {σ : L2.St} {H : Hp} {Q : δ → Hp → Prop}
    (h : tG K cA W rep (fun l S => (m l S).bind (f l)) σ H Q) :
    tG K cA W rep1 m σ H fun x H1 => ∃ ρ S l a, Reps K cA ρ H1 S ∧ RepL K ρ H1 l σ ∧ rep1 H ρ H1 a x ∧ After K cA W ρ H1 rep (f l a S) Q := by
  obtain ⟨ρ, S, l, hS, hl, h⟩ := h
  refine ⟨ρ, S, l, hS, hl, (After.bind (rep := rep1) st h).imp fun x H1 q => ?_⟩
  obtain ⟨ρ1, S1, a, e, h1, h2, h3⟩ := q
  exact ⟨ρ1, S1, l, a, h1, hl.ext e, h2, h3⟩
theorem bind2 (st : Stable rep) (mo : Mono rep1) {m : Loc → Store → R α} {n : Loc → Store → R ε} {f : α → ε → Store → R γ} {σ : L2.St} {H : Hp} {Q : δ → Hp → Prop}
    (h : tG K cA W rep (fun l S => (m l S).bind fun a S1 => (n l S1).bind (f a)) σ H Q) :
    tG K cA W rep1 m σ H fun x H1 => tG K cA W rep2 n σ H1 fun y H2 => ∃ ρ S a b, Reps K cA ρ H2 S ∧ rep1 H ρ H2 a x ∧ rep2 H1 ρ H2 b y ∧ After K cA W ρ H2 rep (f a b S) Q := by
  obtain ⟨ρ, S, l, hS, hl, h⟩ := h
  refine ⟨ρ, S, l, hS, hl, (After.bind (rep := rep1) st h).imp fun x H1 q => ?_⟩
  obtain ⟨ρ1, S1, a, e1, h1, h2, h3⟩ := q
  refine ⟨ρ1, S1, l, h1, hl.ext e1, (After.bind (rep := rep2) st h3).imp fun y H2 q => ?_⟩
  obtain ⟨ρ2, S2, b, e2, h4, h5, h6⟩ := q
  exact ⟨ρ2, S2, a, b, h4, mo _ _ _ _ _ _ _ e2 h2, h5, h6⟩
theorem bind3 (st : Stable rep) (mo : Mono rep1) (mo2 : Mono rep2) {m : Loc → Store → R α} {n : Loc → Store → R ε} {o : Loc → Store → R η} {f : α → ε → η → Store → R γ} {σ : L2.St} {H : Hp} {Q : δ → Hp → Prop}
    (h : tG K cA W rep (fun l S => (m l S).bind fun a S1 => (n l S1).bind fun b S2 => (o l S2).bind (f a b)) σ H Q) :
    tG K cA W rep1 m σ H fun x H1 => tG K cA W rep2 n σ H1 fun y H2 => tG K cA W rep3 o σ H2 fun z H3 =>
      ∃ ρ S a b c, Reps K cA ρ H3 S ∧ rep1 H ρ H3 a x ∧ rep2 H1 ρ H3 b y ∧ rep3 H2 ρ H3 c z ∧ After K cA W ρ H3 rep (f a b c S) Q := by
  obtain ⟨ρ, S, l, hS, hl, h⟩ := h
  refine ⟨ρ, S, l, hS, hl, (After.bind (rep := rep1) st h).imp fun x H1 q => ?_⟩
  obtain ⟨ρ1, S1, a, e1, h1, h2, h3⟩ := q
  refine ⟨ρ1, S1, l, h1, hl.ext e1, (After.bind (rep := rep2) st h3).imp fun y H2 q => ?_⟩
  obtain ⟨ρ2, S2, b, e2, h4, h5, h6⟩ := q
  refine ⟨ρ2, S2, l, h4, (hl.ext e1).ext e2, (After.bind (rep := rep3) st h6).imp fun z H3 q => ?_⟩
  obtain ⟨ρ3, S3, c, e3, h7, h8, h9⟩ := q
  exact ⟨ρ3, S3, a, b, c, h7, mo _ _ _ _ _ _ _ e3 (mo _ _ _ _ _ _ _ e2 h2), mo2 _ _ _ _ _ _ _ e3 h5, h8, h9⟩
theorem tG.imp {m : Loc → Store → R γ} {σ : L2.St} {H : Hp} {Q Q' : δ → Hp → Prop} (h : tG K cA W rep m σ H Q) (q : ∀ b H', Q b H' → Q' b H') : tG K cA W rep m σ H Q' :=
  let ⟨ρ, S, l, hS, hl, h⟩ := h; ⟨ρ, S, l, hS, hl, h.imp q⟩
end

/-! ### names, constants -/
def varE (i : Nat) : ME := fun l S => match l[i]? with
  | some (some d) => .ok d S
  | _ => .bad
def conE (d : D) : ME := fun _ S => .ok d S
section
variable {X : Cx} {cA : Nat → Addr} {W : XK} {pos : Pos}
theorem mvar {i : Nat} {x : Str} (hN : X.N[i]? = some x) (hv : Vis X.env.scope x) (hd : (x == ("__debug__" : Str)) = false := by decide) (hcd : (x == ("__classdict__" : Str)) = false := by decide) : PE X (.Name x pos) (tE X.K cA W (varE i)) :=
  (pe_var hN hv hd hcd).imp fun σ H Q h => by
    obtain ⟨ρ, S, l, hS, hl, h⟩ := h
    unfold varE at h
    split at h
    · rename_i d e
      obtain ⟨v, hv, r⟩ := hl.at_ i d e
      exact ⟨v, hv, h.same hS r⟩
    · exact h.elim
theorem mcon {e : Expr} {d : D} {v : V} (h : PE X e (tC v)) (hr : ∀ (ρ : List Addr) (H : Hp), RepV X.K ρ H d v) : PE X e (tE X.K cA W (conE d)) :=
  h.imp fun σ H Q q => by
    obtain ⟨ρ, S, l, hS, hl, q⟩ := q
    exact After.same q hS (hr ρ H)
theorem mint {i : Int} {j : Nat} : PE X (.Constant (.int i) j pos) (tE X.K cA W (conE (.int i))) := mcon pe_int fun ρ H => by unfold RepV; rfl
theorem mstr {x : Str} {j : Nat} : PE X (.Constant (.str x) j pos) (tE X.K cA W (conE (.str x))) := mcon pe_str fun ρ H => by unfold RepV; rfl
theorem mbl {b : Bool} {j : Nat} : PE X (.Constant (.bool b) j pos) (tE X.K cA W (conE (.bl b))) := mcon pe_bl fun ρ H => by unfold RepV; rfl
theorem mnon {j : Nat} : PE X (.Constant .none j pos) (tE X.K cA W (conE .non)) := mcon pe_non fun ρ H => by unfold RepV; rfl
/-- a number that stands at the module -/
theorem mgint {x : Str} {i : Int} (hg : Gl X x) (hm : ∃ t, X.mg x = some (.int i t)) (hd : (x == ("__debug__" : Str)) = false := by decide) : PE X (.Name x pos) (tE X.K cA W (conE (.int i))) := by
  obtain ⟨t, hm⟩ := hm
  exact mcon (pe_glob (v := .int i) hg hm ⟨t, rfl⟩ hd) fun ρ H => by unfold RepV; rfl
/-- a tuple that stands at the module -/
theorem mgtup {x : Str} {ds : List D} {vs : List V} {a : Addr} (hg : Gl X x) (hm : X.mg x = some (.ref a)) (hs : ∀ H, SqT X.K H a vs) (hr : ∀ ρ H, RepVs X.K ρ H ds vs) (hd : (x == ("__debug__" : Str)) = false := by decide) : PE X (.Name x pos) (tE X.K cA W (conE (.tup ds))) :=
  mcon (pe_glob (v := .ref a) hg hm rfl hd) fun ρ H => by unfold RepV; exact ⟨a, vs, rfl, hs H, hr ρ H⟩
end

/-! ### operators -/
def binE (f : D → D → Store → R D) (m n : ME) : ME := fun l S => (m l S).bind fun a S1 => (n l S1).bind (f a)
def unE (f : D → Store → R D) (m : ME) : ME := fun l S => (m l S).bind f
def cmpM (f : D → D → Store → R Bool) (m n : ME) : MB := fun l S => (m l S).bind fun a S1 => (n l S1).bind (f a)
def toV (m : MB) : ME := fun l S => (m l S).bind fun b S1 => .ok (.bl b) S1
def chainM (f g : D → D → Store → R Bool) (m n o : ME) : MB := fun l S => (m l S).bind fun a S1 => (n l S1).bind fun b S2 => (f a b S2).bind fun t S3 => if t = true then (o l S3).bind (g b) else .ok false S3
def andM (m n : MB) : MB := fun l S => (m l S).bind fun b S1 => if b = true then n l S1 else .ok false S1
def orM (m n : MB) : MB := fun l S => (m l S).bind fun b S1 => if b = true then .ok true S1 else n l S1
def notM (m : MB) : MB := fun l S => (m l S).bind fun b S1 => .ok (!b) S1
def isBl : D → Option Bool
  | .bl b => some b
  | _ => none
def ofV (m : ME) : MB := fun l S => (m l S).bind fun d S1 => match isBl d with
  | some b => .ok b S1
  | none => .bad
def andV (m : MB) (n : ME) : ME := fun l S => (m l S).bind fun b S1 => if b = true then n l S1 else .ok (.bl false) S1
def orV (m : MB) (n : ME) : ME := fun l S => (m l S).bind fun b S1 => if b = true then .ok (.bl true) S1 else n l S1
def ifE (c : MB) (m n : ME) : ME := fun l S => (c l S).bind fun b S1 => if b = true then m l S1 else n l S1
section
variable {X : Cx} {cA : Nat → Addr} {W : XK} {pos : Pos} {a b c : Expr} {m n o : ME} {p q : MB} {f g : D → D → Store → R Bool}
theorem mbin {op : Operator} {f : D → D → Store → R D} (ho : OpR X (binaryOp op) (t2 X.K cA W (rV X.K) f)) (ha : PE X a (tE X.K cA W m)) (hb : PE X b (tE X.K cA W n)) : PE X (.BinOp a op b pos) (tE X.K cA W (binE f m n)) :=
  (pe_op ho ha hb).imp fun σ H Q h => bind2 st_V mo_V h
theorem mun {op : UnaryOp} {f : D → Store → R D} (ho : UnR X (unaryOp op) (t1 X.K cA W (rV X.K) f)) (ha : PE X a (tE X.K cA W m)) : PE X (.UnaryOp op a pos) (tE X.K cA W (unE f m)) :=
  (pe_un ho ha).imp fun σ H Q h => bind1 st_V h
theorem After.toV {K : PySem.W.Frag} {ρ : List Addr} {H : Hp} {Q : V → Hp → Prop} {r : R Bool} (h : After K cA W ρ H (rV K) (r.bind fun b S1 => .ok (.bl b) S1) Q) : After K cA W ρ H rId r fun b H' => Q (.bl b) H' := by
  cases r with
  | ok b S => exact fun ρ' H' b' e hs hb => by subst hb; exact h ρ' H' (.bl b) e hs (by unfold rV RepV; rfl)
  | ex x S => exact h
  | bad => exact h
theorem tE_toV {σ : L2.St} {H : Hp} {Q : VK} (h : tE X.K cA W (toV p) σ H Q) : tT X.K cA W p σ H fun b H' => Q (.bl b) H' :=
  let ⟨ρ, S, l, hS, hl, h⟩ := h; ⟨ρ, S, l, hS, hl, h.toV⟩
theorem mcmp {op : CmpOp} (ho : OpR X (compareOp op) (tC2 X.K cA W f)) (ha : PE X a (tE X.K cA W m)) (hb : PE X b (tE X.K cA W n)) (hm : behindInMarks op b = false) : PE X (.Compare a [op] [b] pos) (tE X.K cA W (toV (cmpM f m n))) :=
  (pe_cmpR ho ha hb hm).imp fun σ H Q h => bind2 st_Id mo_V (tE_toV h)
theorem mcmpT {op : CmpOp} (ho : OpR X (compareOp op) (tC2 X.K cA W f)) (ha : PE X a (tE X.K cA W m)) (hb : PE X b (tE X.K cA W n)) (hm : behindInMarks op b = false) : PT X (.Compare a [op] [b] pos) (tT X.K cA W (cmpM f m n)) :=
  (pt_cmpR ho ha hb hm).imp fun σ H Q h => (bind2 st_Id mo_V h).imp fun x H1 h => tG.imp h fun y H2 h => by
    obtain ⟨ρ, S, d, e, hS, hd, he, h⟩ := h
    exact ⟨ρ, S, d, e, hS, hd, he, h.imp fun t H3 q => ⟨t, rfl, q⟩⟩
/-- what a chain asks -/
theorem chain_of {σ : L2.St} {H : Hp} {Q : Bool → Hp → Prop} {Q' : VK} (hQ : ∀ t H', Q t H' → Q' (.bl t) H') (h : tT X.K cA W (chainM f g m n o) σ H Q) :
    tChain (tC2 X.K cA W f) (tC2 X.K cA W g) (tE X.K cA W m) (tE X.K cA W n) (tE X.K cA W o) σ H Q' := by
  obtain ⟨ρ, S, l, hS, hl, h⟩ := h
  refine ⟨ρ, S, l, hS, hl, (After.bind (rep := rV X.K) st_Id h).imp fun x H1 q => ?_⟩
  obtain ⟨ρ1, S1, d, e1, h1, h2, h3⟩ := q
  refine ⟨ρ1, S1, l, h1, hl.ext e1, (After.bind (rep := rV X.K) st_Id h3).imp fun y H2 q => ?_⟩
  obtain ⟨ρ2, S2, e, e2, h4, h5, h6⟩ := q
  refine ⟨ρ2, S2, d, e, h4, h2.ext e2, h5, (After.bind (rep := rId) st_Id h6).imp fun t H3 q => ?_⟩
  obtain ⟨ρ3, S3, t', e3, h7, h8, h9⟩ := q
  subst h8
  refine ⟨t', rfl, ?_⟩
  cases t' with
  | true =>
    simp only [if_true] at h9 ⊢
    refine ⟨ρ3, S3, l, h7, ((hl.ext e1).ext e2).ext e3, (After.bind (rep := rV X.K) st_Id h9).imp fun z H4 q => ?_⟩
    obtain ⟨ρ4, S4, d4, e4, h10, h11, h12⟩ := q
    exact ⟨ρ4, S4, e, d4, h10, (h5.ext e3).ext e4, h11, h12.imp hQ⟩
  | false =>
    exact hQ _ _ (After.same h9 h7 rfl)
theorem mchain {op op' : CmpOp} (ho : OpR X (compareOp op) (tC2 X.K cA W f)) (ho' : OpR X (compareOp op') (tC2 X.K cA W g)) (ha : PE X a (tE X.K cA W m)) (hb : PE X b (tE X.K cA W n)) (hc : PE X c (tE X.K cA W o))
    (hm : lastMarks [op, op'] [b, c] = false := by with_unfolding_all rfl) : PE X (.Compare a [op, op'] [b, c] pos) (tE X.K cA W (toV (chainM f g m n o))) :=
  (pe_chain ho ho' ha hb hc hm).imp fun σ H Q h => chain_of (fun _ _ q => q) (tE_toV h)
theorem mchainT {op op' : CmpOp} (ho : OpR X (compareOp op) (tC2 X.K cA W f)) (ho' : OpR X (compareOp op') (tC2 X.K cA W g)) (ha : PE X a (tE X.K cA W m)) (hb : PE X b (tE X.K cA W n)) (hc : PE X c (tE X.K cA W o))
    (hm : lastMarks [op, op'] [b, c] = false := by with_unfolding_all rfl) : PT X (.Compare a [op, op'] [b, c] pos) (tT X.K cA W (chainM f g m n o)) :=
  (pt_chain ho ho' ha hb hc hm).imp fun σ H Q h => chain_of (fun t _ q => ⟨t, rfl, q⟩) h
/-! tests -/
theorem mand1 (ha : PT X a (tT X.K cA W p)) : PW X (.BoolOp .And [a] pos) (tT X.K cA W p) := pw_and1 ha
theorem mor1 (ha : PT X a (tT X.K cA W p)) : PW X (.BoolOp .Or [a] pos) (tT X.K cA W p) := pw_or1 ha
theorem and_of {R' : Type} {δ : Type} {rep : Rel R' δ} (st : Stable rep) {k : Loc → Bool → Store → R R'} {σ : L2.St} {H : Hp} {Q : δ → Hp → Prop} (h : tG X.K cA W rep (fun l S => (p l S).bind (k l)) σ H Q) :
    tT X.K cA W p σ H fun t H1 => ∃ ρ S l, Reps X.K cA ρ H1 S ∧ RepL X.K ρ H1 l σ ∧ After X.K cA W ρ H1 rep (k l t S) Q := by
  refine (bind1L (rep1 := rId) st h).imp fun x H1 q => ?_
  obtain ⟨ρ, S, l, t, h1, h2, h3, h4⟩ := q
  subst h3
  exact ⟨ρ, S, l, h1, h2, h4⟩
theorem mandT {rest : List Expr} (ha : PT X a (tT X.K cA W p)) (hb : PW X (.BoolOp .And (b :: rest) pos) (tT X.K cA W q)) : PW X (.BoolOp .And (a :: b :: rest) pos) (tT X.K cA W (andM p q)) :=
  (pw_and ha hb).imp fun σ H Q h => (and_of st_Id h).imp fun t H1 q => by
    obtain ⟨ρ, S, l, h1, h2, h3⟩ := q
    cases t with
    | true => exact ⟨ρ, S, l, h1, h2, h3⟩
    | false => exact After.same h3 h1 rfl
theorem morT {rest : List Expr} (ha : PT X a (tT X.K cA W p)) (hb : PW X (.BoolOp .Or (b :: rest) pos) (tT X.K cA W q)) : PW X (.BoolOp .Or (a :: b :: rest) pos) (tT X.K cA W (orM p q)) :=
  (pw_or ha hb).imp fun σ H Q h => (and_of st_Id h).imp fun t H1 q => by
    obtain ⟨ρ, S, l, h1, h2, h3⟩ := q
    cases t with
    | true => exact After.same h3 h1 rfl
    | false => exact ⟨ρ, S, l, h1, h2, h3⟩
theorem mnotT (ha : PT X a (tT X.K cA W p)) : PT X (.UnaryOp .Not a pos) (tT X.K cA W (notM p)) :=
  (pt_not ha).imp fun σ H Q h => (and_of st_Id h).imp fun t H1 q => by
    obtain ⟨ρ, S, l, h1, h2, h3⟩ := q
    exact After.same h3 h1 rfl
/-! values -/
theorem After.ofV {K : PySem.W.Frag} {ρ : List Addr} {H : Hp} {Q : Bool → Hp → Prop} {r : R D} (h : After K cA W ρ H rId (r.bind fun d S1 => match isBl d with | some b => .ok b S1 | none => .bad) Q) :
    After K cA W ρ H (rV K) r fun v H' => ∃ t, v = .bl t ∧ Q t H' := by
  cases r with
  | ok d S =>
    intro ρ' H' v e hs hv
    cases d with
    | bl t => unfold rV RepV at hv; exact ⟨t, hv, h ρ' H' t e hs rfl⟩
    | _ => exact h.elim
  | ex x S => exact h
  | bad => exact h
/-- a value that is a truth, asked -/
theorem ofV_of {σ : L2.St} {H : Hp} {Q : Bool → Hp → Prop} (h : tT X.K cA W (ofV m) σ H Q) : tE X.K cA W m σ H fun v H' => ∃ t, v = .bl t ∧ Q t H' :=
  let ⟨ρ, S, l, hS, hl, h⟩ := h; ⟨ρ, S, l, hS, hl, h.ofV⟩
theorem mval (ha : PE X a (tE X.K cA W m)) (he : ∀ whole, isTrue a X.env whole = (do let v ← whole; standAt a.pos; holding [v] (truthy v)) := by intro _; rfl) : PT X a (tT X.K cA W (ofV m)) :=
  (pt_val ha he).imp fun σ H Q h => ofV_of h
theorem mand {rest : List Expr} (ha : PE X a (tE X.K cA W m)) (hb : PE X (.BoolOp .And (b :: rest) pos) (tE X.K cA W n)) : PE X (.BoolOp .And (a :: b :: rest) pos) (tE X.K cA W (andV (ofV m) n)) :=
  (pe_and ha hb).imp fun σ H Q h => ofV_of ((and_of (p := ofV m) st_V h).imp fun t H1 q => by
    obtain ⟨ρ, S, l, h1, h2, h3⟩ := q
    cases t with
    | true => exact ⟨ρ, S, l, h1, h2, h3⟩
    | false => exact After.same h3 h1 (by unfold rV RepV; rfl))
theorem mor {rest : List Expr} (ha : PE X a (tE X.K cA W m)) (hb : PE X (.BoolOp .Or (b :: rest) pos) (tE X.K cA W n)) : PE X (.BoolOp .Or (a :: b :: rest) pos) (tE X.K cA W (orV (ofV m) n)) :=
  (pe_or ha hb).imp fun σ H Q h => ofV_of ((and_of (p := ofV m) st_V h).imp fun t H1 q => by
    obtain ⟨ρ, S, l, h1, h2, h3⟩ := q
    cases t with
    | true => exact After.same h3 h1 (by unfold rV RepV; rfl)
    | false => exact ⟨ρ, S, l, h1, h2, h3⟩)
theorem mone {op : BoolOp} (h : PE X a (tE X.K cA W m)) : PE X (.BoolOp op [a] pos) (tE X.K cA W m) := pe_one h
theorem mnot (ha : PE X a (tE X.K cA W m)) : PE X (.UnaryOp .Not a pos) (tE X.K cA W (toV (notM (ofV m)))) :=
  (pe_not ha).imp fun σ H Q h => ofV_of ((and_of (p := ofV m) st_Id (tE_toV h)).imp fun t H1 q => by
    obtain ⟨ρ, S, l, h1, h2, h3⟩ := q
    exact After.same (Q := fun b H' => Q (.bl b) H') (rep := rId) (b := !t) h3 h1 rfl)
theorem mif (hc : PT X c (tT X.K cA W p)) (ha : PE X a (tE X.K cA W m)) (hb : PE X b (tE X.K cA W n)) : PE X (.IfExp c a b pos) (tE X.K cA W (ifE p m n)) :=
  (pe_ifExp hc ha hb).imp fun σ H Q h => (and_of (p := p) st_V h).imp fun t H1 q => by
    obtain ⟨ρ, S, l, h1, h2, h3⟩ := q
    cases t with
    | true => exact ⟨ρ, S, l, h1, h2, h3⟩
    | false => exact ⟨ρ, S, l, h1, h2, h3⟩
end
end ML

set_option Elab.async false
set_option linter.all false
set_option maxRecDepth 100000
set_option autoImplicit false
/-! ML5: displays, items, slices, calls of what is built in. -/
namespace ML
open PySem PySem.Spec L2

/-! ### arguments, displays -/
def nilA : MA := fun _ S => .ok [] S
def consA (m : ME) (n : MA) : MA := fun l S => (m l S).bind fun d S1 => (n l S1).bind fun ds S2 => .ok (d :: ds) S2
def tupE (m : MA) : ME := fun l S => (m l S).bind fun ds S1 => if ds.length ≤ sizeLine then .ok (.tup ds) S1 else .bad
def lstN (m : MA) : MA := fun l S => (m l S).bind fun ds S1 => if ds.length ≤ sizeLine then .ok ds S1 else .bad
def allocE (m : MA) : ME := fun l S => (m l S).bind fun ds S1 => newC (.lst ds) S1
section
variable {X : Cx} {cA : Nat → Addr} {W : XK} {pos : Pos} {e : Expr} {es : List Expr} {m : ME} {n : MA}
theorem anil : PA X [] (tAs X.K cA W nilA) := pa_nil.imp fun σ H Q h => by
  obtain ⟨ρ, S, l, hS, hl, h⟩ := h
  exact After.same h hS .nil
theorem acons (ha : PE X e (tE X.K cA W m)) (hr : PA X es (tAs X.K cA W n)) (hs : starEach (e :: es) X.env = (false, eval e X.env) :: starEach es X.env := by rfl) : PA X (e :: es) (tAs X.K cA W (consA m n)) :=
  (pa_cons ha hr hs).imp fun σ H Q h => (bind2 (rep1 := rV X.K) (rep2 := rVs X.K) st_Vs mo_V h).imp fun x H1 h => tG.imp h fun xs H2 h => by
    obtain ⟨ρ, S, a, b, hS, h1, h2, h⟩ := h
    exact After.same h hS (.cons h1 h2)
theorem mtup {k : Nat} (h : PA X es (tAs X.K cA W n)) : PE X (.Tuple es k pos) (tE X.K cA W (tupE n)) :=
  (pe_tup h).imp fun σ H Q h => (bind1 (rep1 := rVs X.K) st_V h).imp fun xs H1 h => by
    obtain ⟨ρ, S, ds, hS, hr, h⟩ := h
    split at h
    · rename_i hz
      exact ⟨by rw [RepVs.length hr]; exact hz, fun p hp => h.tup hS hp hr⟩
    · exact h.elim
/-- a new list, told as new -/
theorem After.fresh {K : PySem.W.Frag} {ρ : List Addr} {H : Hp} {S : Store} {ds : List D} {vs : List V} {p : Addr} {Q : V → Hp → Prop} (h : After K cA W ρ H (rNew K) (.ok ds S) Q) (hS : Reps K cA ρ H S) (hp : H p = none) (hr : RepVs K ρ H ds vs) : Q (.ref p) (upd H p (.lst vs)) :=
  h ρ _ _ (Ext.new hp) (hS.new hp) ⟨p, vs, rfl, hp, hS.free hp, upd_same, hr.ext (Ext.new hp)⟩
theorem mlst (h : PA X es (tAs X.K cA W n)) : PE X (.List es pos) (tNw X.K cA W (lstN n)) :=
  (pe_lst h).imp fun σ H Q h => (bind1 (rep1 := rVs X.K) st_New h).imp fun xs H1 h => by
    obtain ⟨ρ, S, ds, hS, hr, h⟩ := h
    split at h
    · rename_i hz
      exact ⟨by rw [RepVs.length hr]; exact hz, fun p hp => h.fresh hS hp hr⟩
    · exact h.elim
/-- a new list is taken into the store -/
theorem malloc {n : MA} (h : PE X e (tNw X.K cA W n)) : PE X e (tE X.K cA W (allocE n)) := h.imp fun σ H Q h => by
  obtain ⟨ρ, S, l, hS, hl, h⟩ := h
  refine ⟨ρ, S, l, hS, hl, ?_⟩
  unfold allocE at h
  generalize n l S = r at h
  cases r with
  | ok ds S1 =>
    intro ρ' H' v e1 hs hr
    obtain ⟨p, vs, rfl, h0, hn, h1, h2⟩ := hr
    refine h (ρ' ++ [p]) H' (.ref p) (e1.take h0) (hs.push hn ⟨vs, h1, h2⟩) ?_
    show RepV X.K (ρ' ++ [p]) H' (.ref S1.length) (.ref p)
    unfold RepV
    exact ⟨p, by rw [← hs.len, List.getElem?_append_right (Nat.le_refl _)]; simp, rfl⟩
  | ex x S1 => exact h
  | bad => exact h
/-- a tuple is met as a tuple that stands -/
theorem mnew_of {n : MA} {σ : L2.St} {H : Hp} {Q : VK} {β' : Type} {α' : Type} {rep : Rel α' β'} {f : List D → Store → R α'} {Q' : β' → Hp → Prop} (st : Stable rep) (h : tG X.K cA W rep (fun l S => (n l S).bind f) σ H Q') :
    tNw X.K cA W n σ H fun v H1 => ∃ ρ S ds p vs, Reps X.K cA ρ H1 S ∧ v = .ref p ∧ SqL X.K H1 p vs ∧ RepVs X.K ρ H1 ds vs ∧ After X.K cA W ρ H1 rep (f ds S) Q' :=
  (bind1 (rep1 := rNew X.K) st h).imp fun v H1 h => by
    obtain ⟨ρ, S, ds, hS, ⟨p, vs, ev, _, _, h1, h2⟩, h⟩ := h
    exact ⟨ρ, S, ds, p, vs, hS, ev, SqL.of h1, h2, h⟩
end

/-! ### built-in calls by values -/
/-- of one list: a new one, or one that stands -/
def tL1 (K : PySem.W.Frag) (cA : Nat → Addr) (W : XK) {α β : Type} (rep : Rel α β) (f : List D → Store → R α) : List V → Hp → (β → Hp → Prop) → Prop := fun xs H Q =>
  ∃ ρ S ds p vs, Reps K cA ρ H S ∧ xs = [.ref p] ∧ SqL K H p vs ∧ RepVs K ρ H ds vs ∧ After K cA W ρ H rep (f ds S) Q
def newL {α : Type} (f : List D → Store → R α) (n : MA) : Loc → Store → R α := fun l S => (n l S).bind f
def ofL {α : Type} (f : List D → Store → R α) (m : ME) : Loc → Store → R α := fun l S => (m l S).bind fun d S1 => match lstOf S1 d with
  | some ds => f ds S1
  | none => .bad
def callA (f : List D → Store → R D) (n : MA) : ME := fun l S => (n l S).bind f
section
variable {X : Cx} {cA : Nat → Addr} {W : XK} {pos p0 : Pos} {e : Expr} {es : List Expr} {m : ME} {n : MA} {x : Str} {id T : String} {f : List D → Store → R D}
theorem newL_of {α β : Type} {rep : Rel α β} {f : List D → Store → R α} (st : Stable rep) {σ : L2.St} {H : Hp} {Q : β → Hp → Prop} (h : tG X.K cA W rep (newL f n) σ H Q) : tCons (tNw X.K cA W n) tNil σ H fun xs H1 => tL1 X.K cA W rep f xs H1 Q :=
  (bind1 (rep1 := rNew X.K) st h).imp fun v H1 h => by
    obtain ⟨ρ, S, ds, hS, ⟨p, vs, rfl, _, _, h1, h2⟩, h⟩ := h
    exact ⟨ρ, S, ds, p, vs, hS, rfl, SqL.of h1, h2, h⟩
theorem ofL_of {α β : Type} {rep : Rel α β} {f : List D → Store → R α} (st : Stable rep) {σ : L2.St} {H : Hp} {Q : β → Hp → Prop} (h : tG X.K cA W rep (ofL f m) σ H Q) : tCons (tE X.K cA W m) tNil σ H fun xs H1 => tL1 X.K cA W rep f xs H1 Q :=
  (bind1 (rep1 := rV X.K) st h).imp fun v H1 h => by
    obtain ⟨ρ, S, d, hS, hr, h⟩ := h
    split at h
    · rename_i ds e1
      obtain ⟨p, vs, rfl, h1, h2⟩ := lst_rep hS hr e1
      exact ⟨ρ, S, ds, p, vs, hS, rfl, h1, h2, h⟩
    · exact h.elim
/-- f(new list), f built in -/
theorem mcallN {α : Type} {rep : Rel α V} {f : List D → Store → R α} (st : Stable rep) (hc : CallR X (.builtin id) (tL1 X.K cA W rep f)) (hg : Gl X x) (hm : X.mg x = none) (hv : bootBuiltins x = some (.builtin id)) (ha : PE X e (tNw X.K cA W n)) (hn : x ≠ "__name__" := by decide) (hdb : (x == ("__debug__" : Str)) = false := by decide)
    (he : starEach [e] X.env = (false, eval e X.env) :: starEach [] X.env := by rfl) (hpl : (backTo pos (starEach [] X.env)).any (·.1) = false := by rfl) : PE X (.Call (.Name x p0) [e] [] pos) (tG X.K cA W rep (newL f n)) :=
  (pe_callB hc hg hm hv (pa_cons ha pa_nil he) hn hdb he hpl).imp fun σ H Q h => newL_of st h
theorem mcallL {α : Type} {rep : Rel α V} {f : List D → Store → R α} (st : Stable rep) (hc : CallR X (.builtin id) (tL1 X.K cA W rep f)) (hg : Gl X x) (hm : X.mg x = none) (hv : bootBuiltins x = some (.builtin id)) (ha : PE X e (tE X.K cA W m)) (hn : x ≠ "__name__" := by decide) (hdb : (x == ("__debug__" : Str)) = false := by decide)
    (he : starEach [e] X.env = (false, eval e X.env) :: starEach [] X.env := by rfl) (hpl : (backTo pos (starEach [] X.env)).any (·.1) = false := by rfl) : PE X (.Call (.Name x p0) [e] [] pos) (tG X.K cA W rep (ofL f m)) :=
  (pe_callB hc hg hm hv (pa_cons ha pa_nil he) hn hdb he hpl).imp fun σ H Q h => ofL_of st h
/-- T(new list), T a built-in class -/
theorem mtyN {α : Type} {rep : Rel α V} {f : List D → Store → R α} (st : Stable rep) (hc : CallR X (.type T) (tL1 X.K cA W rep f)) (hg : Gl X x) (hm : X.mg x = none) (hv : bootBuiltins x = some (.type T)) (ha : PE X e (tNw X.K cA W n)) (hn : x ≠ "__name__" := by decide) (hdb : (x == ("__debug__" : Str)) = false := by decide)
    (he : starEach [e] X.env = (false, eval e X.env) :: starEach [] X.env := by rfl) (hpl : (backTo pos (starEach [] X.env)).any (·.1) = false := by rfl) : PE X (.Call (.Name x p0) [e] [] pos) (tG X.K cA W rep (newL f n)) :=
  (pe_callTy hc hg hm hv (pa_cons ha pa_nil he) hn hdb he hpl).imp fun σ H Q h => newL_of st h
/-- f(values) -/
theorem mcallV {α : Type} {rep : Rel α V} {f : List D → Store → R α} (st : Stable rep) (hc : CallR X (.builtin id) (tN X.K cA W rep f)) (hg : Gl X x) (hm : X.mg x = none) (hv : bootBuiltins x = some (.builtin id)) (ha : PA X (e :: es) (tAs X.K cA W n)) (hn : x ≠ "__name__" := by decide) (hdb : (x == ("__debug__" : Str)) = false := by decide)
    (he : starEach (e :: es) X.env = (false, eval e X.env) :: starEach es X.env := by rfl) (hpl : (backTo pos (starEach es X.env)).any (·.1) = false := by rfl) : PE X (.Call (.Name x p0) (e :: es) [] pos) (tG X.K cA W rep (newL f n)) :=
  (pe_callB hc hg hm hv ha hn hdb he hpl).imp fun σ H Q h => (bind1 (rep1 := rVs X.K) st h).imp fun vs H1 h => h
theorem mtyV {α : Type} {rep : Rel α V} {f : List D → Store → R α} (st : Stable rep) (hc : CallR X (.type T) (tN X.K cA W rep f)) (hg : Gl X x) (hm : X.mg x = none) (hv : bootBuiltins x = some (.type T)) (ha : PA X (e :: es) (tAs X.K cA W n)) (hn : x ≠ "__name__" := by decide) (hdb : (x == ("__debug__" : Str)) = false := by decide)
    (he : starEach (e :: es) X.env = (false, eval e X.env) :: starEach es X.env := by rfl) (hpl : (backTo pos (starEach es X.env)).any (·.1) = false := by rfl) : PE X (.Call (.Name x p0) (e :: es) [] pos) (tG X.K cA W rep (newL f n)) :=
  (pe_callTy hc hg hm hv ha hn hdb he hpl).imp fun σ H Q h => (bind1 (rep1 := rVs X.K) st h).imp fun vs H1 h => h
end

/-! #### of lists -/
def allL (ds : List D) (S : Store) : R D := match mapO isBl ds with
  | some bs => .ok (.bl (bs.all id)) S
  | none => .bad
def anyL (ds : List D) (S : Store) : R D := match mapO isBl ds with
  | some bs => .ok (.bl (bs.any id)) S
  | none => .bad
def intO : D → Option Int
  | .int i => some i
  | _ => none
def strO : D → Option Str
  | .str x => some x
  | _ => none
def sumL (ds : List D) (S : Store) : R D := match mapO intO ds with
  | some ns => .ok (.int ns.sum) S
  | none => .bad
def lenL (ds : List D) (S : Store) : R D := .ok (.int ds.length) S
def tupL (ds : List D) (S : Store) : R D := .ok (.tup ds) S
def sortI (ns : List Int) : List Int := ns.mergeSort (fun a b => decide (a ≤ b))
def sortL (ds : List D) (S : Store) : R (List D) := match mapO intO ds with
  | some ns => .ok ((sortI ns).map .int) S
  | none => .bad
section
variable {X : Cx} {cA : Nat → Addr} {W : XK} {K : PySem.W.Frag} {ρ : List Addr} {H : Hp}
theorem bls_rep : ∀ {ds : List D} {vs : List V} {bs : List Bool}, mapO isBl ds = some bs → RepVs K ρ H ds vs → vs = bs.map V.bl
  | [], vs, bs, h, r => by unfold RepVs at r; subst r; cases h; rfl
  | d :: ds, vs, bs, h, r => by
    unfold RepVs at r
    obtain ⟨v, q, rfl, h1, h2⟩ := r
    unfold mapO at h
    split at h
    · rename_i y ys e1 e2
      cases h
      cases d with
      | bl b => cases e1; unfold RepV at h1; rw [h1, bls_rep e2 h2]; rfl
      | _ => cases e1
    · cases h
theorem ints_rep : ∀ {ds : List D} {vs : List V} {bs : List Int}, mapO intO ds = some bs → RepVs K ρ H ds vs → vs = bs.map V.int
  | [], vs, bs, h, r => by unfold RepVs at r; subst r; cases h; rfl
  | d :: ds, vs, bs, h, r => by
    unfold RepVs at r
    obtain ⟨v, q, rfl, h1, h2⟩ := r
    unfold mapO at h
    split at h
    · rename_i y ys e1 e2
      cases h
      cases d with
      | int b => cases e1; unfold RepV at h1; rw [h1, ints_rep e2 h2]; rfl
      | _ => cases e1
    · cases h
theorem strs_rep : ∀ {ds : List D} {vs : List V} {bs : List Str}, mapO strO ds = some bs → RepVs K ρ H ds vs → vs = bs.map V.str
  | [], vs, bs, h, r => by unfold RepVs at r; subst r; cases h; rfl
  | d :: ds, vs, bs, h, r => by
    unfold RepVs at r
    obtain ⟨v, q, rfl, h1, h2⟩ := r
    unfold mapO at h
    split at h
    · rename_i y ys e1 e2
      cases h
      cases d with
      | str b => cases e1; unfold RepV at h1; rw [h1, strs_rep e2 h2]; rfl
      | _ => cases e1
    · cases h
theorem c_all (hc : X.calm = true) : CallR X (.builtin "all") (tL1 X.K cA W (rV X.K) allL) := CallR.imp (cr_all hc) fun xs H Q h => by
  obtain ⟨ρ, S, ds, p, vs, hS, rfl, h1, h2, h⟩ := h
  unfold allL at h
  split at h
  · rename_i bs e
    have := bls_rep e h2
    subst this
    exact ⟨p, bs, rfl, h1, h.same hS (by unfold rV RepV; rfl)⟩
  · exact h.elim
theorem c_any (hc : X.calm = true) : CallR X (.builtin "any") (tL1 X.K cA W (rV X.K) anyL) := CallR.imp (cr_any hc) fun xs H Q h => by
  obtain ⟨ρ, S, ds, p, vs, hS, rfl, h1, h2, h⟩ := h
  unfold anyL at h
  split at h
  · rename_i bs e
    have := bls_rep e h2
    subst this
    exact ⟨p, bs, rfl, h1, h.same hS (by unfold rV RepV; rfl)⟩
  · exact h.elim
theorem c_sum (hc : X.calm = true) : CallR X (.builtin "sum") (tL1 X.K cA W (rV X.K) sumL) := CallR.imp (cr_sum hc) fun xs H Q h => by
  obtain ⟨ρ, S, ds, p, vs, hS, rfl, h1, h2, h⟩ := h
  unfold sumL at h
  split at h
  · rename_i bs e
    have := ints_rep e h2
    subst this
    exact ⟨p, bs, rfl, h1, h.same hS (by unfold rV RepV; rfl)⟩
  · exact h.elim
theorem c_len : CallR X (.builtin "len") (tL1 X.K cA W (rV X.K) lenL) := CallR.imp call_len_seq fun xs H Q h => by
  obtain ⟨ρ, S, ds, p, vs, hS, rfl, h1, h2, h⟩ := h
  refine ⟨p, vs, rfl, .inl h1, h.same hS ?_⟩
  unfold rV RepV
  rw [RepVs.length h2]
theorem c_tup : CallR X (.type "tuple") (tL1 X.K cA W (rV X.K) tupL) := CallR.imp call_tuple_of fun xs H Q h => by
  obtain ⟨ρ, S, ds, p, vs, hS, rfl, h1, h2, h⟩ := h
  exact ⟨p, vs, rfl, .inl ⟨h1, fun q hq => After.tup h hS hq h2⟩⟩
theorem sortI_eq {ns ms : List Int} (hp : ms.Perm ns) (hs : ms.Pairwise (· ≤ ·)) : ms = sortI ns := by
  have h1 : (sortI ns).Pairwise (· ≤ ·) := by
    have := List.pairwise_mergeSort (le := fun (a b : Int) => decide (a ≤ b)) (fun a b c h1 h2 => by simp only [decide_eq_true_eq] at *; omega) (fun a b => by simp only [Bool.or_eq_true, decide_eq_true_eq]; omega) ns
    exact this.imp fun h => by simpa using h
  have h2 : (sortI ns).Perm ns := List.mergeSort_perm ns _
  exact (hp.trans h2.symm).eq_of_pairwise (fun a b _ _ h1 h2 => by omega) hs h1
theorem c_sort : CallR X (.builtin "sorted") (tL1 X.K cA W (rNew X.K) sortL) := CallR.imp cr_sortedI fun xs H Q h => by
  obtain ⟨ρ, S, ds, p, vs, hS, rfl, h1, h2, h⟩ := h
  unfold sortL at h
  split at h
  · rename_i bs e
    have := ints_rep e h2
    subst this
    refine ⟨p, bs, rfl, h1, fun ns' q hp hs hq => ?_⟩
    rw [← sortI_eq hp hs] at h
    exact After.fresh h hS hq RepVs.of_ints
  · exact h.elim
end

/-! #### of values -/
def lenV (ds : List D) (S : Store) : R D := match ds with
  | [.str x] => if x.length ≤ sizeLine then .ok (.int x.length) S else .bad
  | [d] => match seqOf S d with
    | some xs => .ok (.int xs.length) S
    | none => match d with
      | .ref n => match dctAt S n with
        | some kvs => .ok (.int kvs.length) S
        | none => .bad
      | _ => .bad
  | _ => .bad
def absV (ds : List D) (S : Store) : R D := match ds with
  | [.int i] => .ok (.int (if i < 0 then -i else i)) S
  | _ => .bad
def maxV (ds : List D) (S : Store) : R D := match ds with
  | [.int i, .int j] => .ok (.int (if j > i then j else i)) S
  | _ => .bad
def minV (ds : List D) (S : Store) : R D := match ds with
  | [.int i, .int j] => .ok (.int (if j < i then j else i)) S
  | _ => .bad
def intV (ds : List D) (S : Store) : R D := match ds with
  | [.int i] => .ok (.int i) S
  | [.bl b] => .ok (.int (if b = true then 1 else 0)) S
  | _ => .bad
def ordV (ds : List D) (S : Store) : R D := match ds with
  | [.str x] => if x.length = 1 then .ok (.int (x.cps.getD 0 0 : Nat)) S else .bad
  | _ => .bad
/-- str of a number -/
def strV (ds : List D) (S : Store) : R D := match ds with
  | [.int i] => if i.natAbs.log2 < 1920 then .ok (.str (toString i)) S else .bad
  | _ => .bad
def listV (ds : List D) (S : Store) : R (List D) := match ds with
  | [d] => match seqOf S d with
    | some xs => .ok xs S
    | none => match d with
      | .ref n => match dctAt S n with
        | some kvs => .ok (kvs.map fun kv => match kv.1 with | .inl i => .int i | .inr x => .str x) S
        | none => .bad
      | _ => .bad
  | _ => .bad
def tupV (ds : List D) (S : Store) : R D := match ds with
  | [.tup xs] => .ok (.tup xs) S
  | [d] => match lstOf S d with
    | some xs => .ok (.tup xs) S
    | none => .bad
  | _ => .bad
section
variable {X : Cx} {cA : Nat → Addr} {W : XK} {K : PySem.W.Frag} {ρ : List Addr} {H : Hp} {S : Store}
theorem one_rep {d : D} {xs : List V} (h : RepVs K ρ H [d] xs) : ∃ v, xs = [v] ∧ RepV K ρ H d v := by
  unfold RepVs at h
  obtain ⟨v, r, rfl, h1, h2⟩ := h
  unfold RepVs at h2
  exact ⟨v, by rw [h2], h1⟩
theorem two_rep {d e : D} {xs : List V} (h : RepVs K ρ H [d, e] xs) : ∃ v w, xs = [v, w] ∧ RepV K ρ H d v ∧ RepV K ρ H e w := by
  unfold RepVs at h
  obtain ⟨v, r, rfl, h1, h2⟩ := h
  obtain ⟨w, rfl, h3⟩ := one_rep h2
  exact ⟨v, w, rfl, h1, h3⟩
theorem seqOf_ref {S : Store} {d : D} : (∀ x, d ≠ .str x) ∨ True := .inr trivial
theorem c_lenV : CallR X (.builtin "len") (tN X.K cA W (rV X.K) lenV) := CallR.imp ((call_len (X := X)).or (call_lenD (X := X))) fun xs H Q h => by
  obtain ⟨ρ, S, ds, hS, hr, h⟩ := h
  unfold lenV at h
  split at h
  · rename_i x
    obtain ⟨v, rfl, h1⟩ := one_rep hr
    split at h
    · rename_i hz
      unfold RepV at h1
      subst h1
      exact .inl ⟨.str x, x.length, rfl, ⟨hz, rfl⟩, h.same hS (by unfold rV RepV; rfl)⟩
    · exact h.elim
  · rename_i d _
    obtain ⟨v, rfl, h1⟩ := one_rep hr
    split at h
    · rename_i ys e
      obtain ⟨a, vs, rfl, h2, h3⟩ := seq_rep hS h1 e
      refine .inl ⟨.ref a, ys.length, rfl, ?_, h.same hS (by unfold rV RepV; rfl)⟩
      rcases h2 with h2 | h2
      · exact .inl ⟨vs, h2, (RepVs.length h3).symm⟩
      · exact .inr ⟨vs, h2, (RepVs.length h3).symm⟩
    · split at h
      · split at h
        · rename_i kvs e
          obtain ⟨a, ps, rfl, _, h2, h3⟩ := rdct_rep hS h1 e
          refine .inr ⟨a, ps, rfl, h2, h.same hS ?_⟩
          unfold rV RepV
          rw [len_repP h3]
        · exact h.elim
      · exact h.elim
  · exact h.elim
where
  len_repP {K : PySem.W.Frag} {ρ : List Addr} {H : Hp} : ∀ {kvs : List (Key × D)} {ps : List (Key × V)}, RepP K ρ H kvs ps → ps.length = kvs.length
    | [], ps, h => by unfold RepP at h; rw [h]; rfl
    | (k, x) :: r, ps, h => by
      unfold RepP at h
      obtain ⟨v, q, rfl, _, h2⟩ := h
      rw [List.length_cons, List.length_cons, len_repP h2]
theorem c_abs : CallR X (.builtin "abs") (tN X.K cA W (rV X.K) absV) := CallR.imp call_abs fun xs H Q h => by
  obtain ⟨ρ, S, ds, hS, hr, h⟩ := h
  unfold absV at h
  split at h
  · obtain ⟨v, rfl, h1⟩ := one_rep hr
    unfold RepV at h1
    subst h1
    exact ⟨_, rfl, h.same hS (by unfold rV RepV; rfl)⟩
  · exact h.elim
theorem c_max (hc : X.calm = true) : CallR X (.builtin "max") (tN X.K cA W (rV X.K) maxV) := CallR.imp (call_max2 hc) fun xs H Q h => by
  obtain ⟨ρ, S, ds, hS, hr, h⟩ := h
  unfold maxV at h
  split at h
  · obtain ⟨v, w, rfl, h1, h2⟩ := two_rep hr
    unfold RepV at h1 h2
    subst h1 h2
    exact ⟨_, _, rfl, h.same hS (by unfold rV RepV; rfl)⟩
  · exact h.elim
theorem c_min (hc : X.calm = true) : CallR X (.builtin "min") (tN X.K cA W (rV X.K) minV) := CallR.imp (call_min2 hc) fun xs H Q h => by
  obtain ⟨ρ, S, ds, hS, hr, h⟩ := h
  unfold minV at h
  split at h
  · obtain ⟨v, w, rfl, h1, h2⟩ := two_rep hr
    unfold RepV at h1 h2
    subst h1 h2
    exact ⟨_, _, rfl, h.same hS (by unfold rV RepV; rfl)⟩
  · exact h.elim
theorem c_int : CallR X (.type "int") (tN X.K cA W (rV X.K) intV) := CallR.imp call_int1 fun xs H Q h => by
  obtain ⟨ρ, S, ds, hS, hr, h⟩ := h
  unfold intV at h
  split at h
  · obtain ⟨v, rfl, h1⟩ := one_rep hr
    unfold RepV at h1
    subst h1
    exact .inl ⟨_, rfl, h.same hS (by unfold rV RepV; rfl)⟩
  · obtain ⟨v, rfl, h1⟩ := one_rep hr
    unfold RepV at h1
    subst h1
    exact .inr ⟨_, rfl, h.same hS (by unfold rV RepV; rfl)⟩
  · exact h.elim
theorem c_ord : CallR X (.builtin "ord") (tN X.K cA W (rV X.K) ordV) := CallR.imp call_ord fun xs H Q h => by
  obtain ⟨ρ, S, ds, hS, hr, h⟩ := h
  unfold ordV at h
  split at h
  · split at h
    · rename_i hz
      obtain ⟨v, rfl, h1⟩ := one_rep hr
      unfold RepV at h1
      subst h1
      exact ⟨_, rfl, hz, h.same hS (by unfold rV RepV; rfl)⟩
    · exact h.elim
  · exact h.elim
theorem c_str : CallR X (.type "str") (tN X.K cA W (rV X.K) strV) := CallR.imp call_str_int fun xs H Q h => by
  obtain ⟨ρ, S, ds, hS, hr, h⟩ := h
  unfold strV at h
  split at h
  · split at h
    · rename_i hz
      obtain ⟨v, rfl, h1⟩ := one_rep hr
      unfold RepV at h1
      subst h1
      exact ⟨_, rfl, hz, h.same hS (by unfold rV RepV; rfl)⟩
    · exact h.elim
  · exact h.elim
theorem keys_rep : ∀ {kvs : List (Key × D)} {ps : List (Key × V)}, RepP K ρ H kvs ps → RepVs K ρ H (kvs.map fun kv => match kv.1 with | .inl i => .int i | .inr x => .str x) (ps.map fun kv => kV kv.1)
  | [], ps, h => by unfold RepP at h; rw [h]; exact .nil
  | (k, x) :: r, ps, h => by
    unfold RepP at h
    obtain ⟨v, q, rfl, _, h2⟩ := h
    rw [List.map_cons, List.map_cons]
    refine .cons ?_ (keys_rep h2)
    cases k <;> (unfold RepV; rfl)
theorem c_list (hc : X.calm = true) : CallR X (.type "list") (tN X.K cA W (rNew X.K) listV) := CallR.imp ((call_list_of (X := X)).or (call_list_dK hc)) fun xs H Q h => by
  obtain ⟨ρ, S, ds, hS, hr, h⟩ := h
  unfold listV at h
  split at h
  · obtain ⟨v, rfl, h1⟩ := one_rep hr
    split at h
    · rename_i ys e
      obtain ⟨a, vs, rfl, h2, h3⟩ := seq_rep hS h1 e
      exact .inl ⟨a, vs, rfl, h2, fun p hp => After.fresh h hS hp h3⟩
    · split at h
      · split at h
        · rename_i kvs e
          obtain ⟨a, ps, rfl, _, h2, h3⟩ := rdct_rep hS h1 e
          exact .inr ⟨a, ps, rfl, h2, fun p hp => After.fresh h hS hp (keys_rep h3)⟩
        · exact h.elim
      · exact h.elim
  · exact h.elim
theorem c_tupV : CallR X (.type "tuple") (tN X.K cA W (rV X.K) tupV) := CallR.imp call_tuple_of fun xs H Q h => by
  obtain ⟨ρ, S, ds, hS, hr, h⟩ := h
  unfold tupV at h
  split at h
  · obtain ⟨v, rfl, h1⟩ := one_rep hr
    have h1' := h1
    unfold RepV at h1
    obtain ⟨a, vs, rfl, h2, h3⟩ := h1
    exact ⟨a, vs, rfl, .inr ⟨h2, h.same hS h1'⟩⟩
  · obtain ⟨v, rfl, h1⟩ := one_rep hr
    split at h
    · rename_i ys e
      obtain ⟨a, vs, rfl, h2, h3⟩ := lst_rep hS h1 e
      exact ⟨a, vs, rfl, .inl ⟨h2, fun p hp => After.tup h hS hp h3⟩⟩
    · exact h.elim
  · exact h.elim
end
end ML

set_option Elab.async false
set_option linter.all false
set_option maxRecDepth 100000
set_option autoImplicit false
/-! ML6: kinds, items, slices, stores, fields, methods of what is built in. -/
namespace ML
open PySem PySem.Spec L2

/-! ### kinds -/
def kindO (S : Store) : D → Option String
  | .non => some "NoneType"
  | .bl _ => some "bool"
  | .int _ => some "int"
  | .str _ => some "str"
  | .tup _ => some "tuple"
  | .lis _ => some "list"
  | .ref n => match S[n]? with
    | some (.lst _) => some "list"
    | some (.dct _) => some "dict"
    | some (.dlk _) => some "dict"
    | _ => none
  | .exn _ => none
def isKind (T t : String) : Bool := t == T || (T == "int" && t == "bool")
def isE (T : String) (m : ME) : MB := fun l S => (m l S).bind fun d S1 => match kindO S1 d with
  | some t => .ok (isKind T t) S1
  | none => .bad
def kinds : List String := ["NoneType", "bool", "int", "str", "tuple", "list", "dict"]
/-- what the model says of two built-in classes -/
def KindOk (T : String) : Prop := ∀ t ∈ kinds, kitB t T = some (isKind T t)
theorem ok_str : KindOk "str" := by unfold KindOk kinds; decide +kernel
theorem ok_int : KindOk "int" := by unfold KindOk kinds; decide +kernel
theorem ok_bool : KindOk "bool" := by unfold KindOk kinds; decide +kernel
theorem ok_tuple : KindOk "tuple" := by unfold KindOk kinds; decide +kernel
theorem ok_list : KindOk "list" := by unfold KindOk kinds; decide +kernel
theorem ok_dict : KindOk "dict" := by unfold KindOk kinds; decide +kernel
section
variable {X : Cx} {cA : Nat → Addr} {W : XK} {K : PySem.W.Frag} {ρ : List Addr} {H : Hp} {S : Store}
theorem kind_rep (hS : Reps K cA ρ H S) {d : D} {v : V} {t : String} (hv : RepV K ρ H d v) (h : kindO S d = some t) : TyX K H v (.type t) ∧ t ∈ kinds := by
  unfold kindO at h
  cases d with
  | non => cases h; unfold RepV at hv; subst hv; exact ⟨.base .non, by decide⟩
  | bl b => cases h; unfold RepV at hv; subst hv; exact ⟨.base (.bl b), by decide⟩
  | int b => cases h; unfold RepV at hv; subst hv; exact ⟨.base (.int b), by decide⟩
  | str b => cases h; unfold RepV at hv; subst hv; exact ⟨.base (.str b), by decide⟩
  | tup xs =>
    cases h
    unfold RepV at hv
    obtain ⟨a, vs, rfl, h1, h2⟩ := hv
    refine ⟨?_, by decide⟩
    rcases h1 with (h1 | ⟨o, h1⟩) | ⟨o, its, n, h1, h3, _⟩
    · exact .base (.tup h1)
    · exact .fTuple h1
    · exact .kTuple h1 h3
  | lis xs =>
    cases h
    unfold RepV at hv
    obtain ⟨a, vs, rfl, h1, h2⟩ := hv
    refine ⟨?_, by decide⟩
    rcases h1 with ⟨o, h1⟩ | ⟨o, its, n, h1, h3, _⟩
    · exact .base (.frz h1)
    · exact .kList h1 h3
  | ref n =>
    simp only at h
    split at h
    · rename_i xs e
      cases h
      obtain ⟨a, rfl, _, vs, h1, _⟩ := ref_rep hS hv e
      exact ⟨.base (.lst h1), by decide⟩
    · rename_i xs e
      cases h
      obtain ⟨a, rfl, _, vs, h1, _⟩ := ref_rep hS hv e
      exact ⟨.base (.dK h1), by decide⟩
    · rename_i xs e
      cases h
      obtain ⟨a, rfl, _, o, vs, h1, _⟩ := ref_rep hS hv e
      exact ⟨.fDict h1, by decide⟩
    · cases h
  | exn a => cases h
variable {pos p0 p1 : Pos} {e : Expr} {m : ME} {x : Str} {T : String}
/-- isinstance(e, T) -/
theorem misi (hT : KindOk T) (ha : PE X e (tE X.K cA W m)) (hg : Gl X "isinstance") (hm : X.mg "isinstance" = none) (hg2 : Gl X x) (hm2 : X.mg x = none) (hv2 : bootBuiltins x = some (.type T)) (hv : bootBuiltins "isinstance" = some (.builtin "isinstance") := by decide +kernel) (hn2 : x ≠ "__name__" := by decide) (hdb2 : (x == ("__debug__" : Str)) = false := by decide)
    (hs2 : starEach [(.Name x p1 : Expr)] X.env = (false, eval (.Name x p1) X.env) :: starEach [] X.env := by rfl) (hs : starEach [e, .Name x p1] X.env = (false, eval e X.env) :: starEach [.Name x p1] X.env := by rfl)
    (hpl : (backTo pos (starEach [(.Name x p1 : Expr)] X.env)).any (·.1) = false := by rfl) : PE X (.Call (.Name "isinstance" p0) [e, .Name x p1] [] pos) (tE X.K cA W (toV (isE T m))) :=
  (pe_callB call_isi hg hm hv (pa_cons ha (pa_cons (pe_bltn (v := .ty T) hg2 hm2 hv2 rfl hn2 hdb2) pa_nil hs2) hs) (by decide) (by decide) hs hpl).imp fun σ H Q h => by
    have h' := bind1 (rep1 := rV X.K) st_Id (tE_toV h)
    refine tG.imp h' fun v H1 h => ?_
    obtain ⟨ρ, S, d, hS, hr, h⟩ := h
    split at h
    · rename_i t et
      obtain ⟨h1, h2⟩ := kind_rep hS hr et
      exact ⟨v, .ty T, .type t, .type T, isKind T t, rfl, .ty T, h1, kit_ty (hT t h2), After.same (Q := fun b H' => Q (.bl b) H') (rep := rId) h hS rfl⟩
    · exact h.elim
end

/-! ### items -/
def ixO (S : Store) (d e : D) : Option D := match e with
  | .int i => match d with
    | .str z => if z.length ≤ sizeLine then (atI z.cps.toList i).map fun c => .str ⟨#[c]⟩ else none
    | .tup xs => atI xs i
    | .lis xs => atI xs i
    | .ref n => match S[n]? with
      | some (.lst xs) => atI xs i
      | some (.dct kvs) => dLook kvs (.inl i)
      | some (.dlk kvs) => dLook kvs (.inl i)
      | _ => none
    | _ => none
  | .str x => match d with
    | .ref n => match kvAt S n with
      | some kvs => dLook kvs (.inr x)
      | none => none
    | _ => none
  | _ => none
def ixD (d e : D) (S : Store) : R D := match ixO S d e with
  | some x => .ok x S
  | none => .bad
section
variable {X : Cx} {cA : Nat → Addr} {W : XK} {K : PySem.W.Frag} {ρ : List Addr} {H : Hp} {S : Store}
theorem atI_rep {xs : List D} {vs : List V} (h : RepVs K ρ H xs vs) {i : Int} {d : D} (e : atI xs i = some d) : ∃ v, atI vs i = some v ∧ RepV K ρ H d v := by
  unfold atI at e ⊢
  rw [RepVs.length h]
  cases q : ixN xs.length i with
  | none => rw [q] at e; cases e
  | some j =>
    rw [q] at e
    exact RepVs.get h j d e
theorem ix_dict (hu : X.A.units + 1 < cLine) : IxR X (fun x y H Q => ∃ a v, x = .ref a ∧ DGet H a y (some v) ∧ Q v H) := by
  intro value slice pins s σ H x y v u Q I rx ry h hs
  obtain ⟨a, z, rfl, g, q⟩ := h
  obtain rfl : v = Value.ref a := rx
  exact PyProof.Rows.tail_any (dict_typeIs I g) PySem.F.slot_dict_getitem.lookup (d_getItem hu I g ry fun w' s3 I3 rw' => ⟨z, H, I3, rw', q⟩) hs
theorem IxR.imp {r r' : R2} (h : IxR X r) (i : ∀ x y H Q, r' x y H Q → r x y H Q) : IxR X r' := fun value slice pins s σ H x y v u Q I rx ry q hs => h value slice pins s σ H x y v u Q I rx ry (i _ _ _ _ q) hs
theorem ix_M (hu : X.A.units + 1 < cLine) : IxR X (t2 X.K cA W (rV X.K) ixD) := IxR.imp ((ix_seq (X := X)).or (ix_dict hu)) fun x y H Q h => by
  obtain ⟨ρ, S, d, e, hS, hd, he, h⟩ := h
  unfold ixD at h
  split at h
  · rename_i z hz
    unfold ixO at hz
    cases e with
    | int i =>
      unfold RepV at he
      subst he
      cases d with
      | str w =>
        simp only at hz
        split at hz
        · rename_i hl
          unfold RepV at hd
          subst hd
          obtain ⟨c, hc, rfl⟩ := Option.map_eq_some_iff.mp hz
          exact .inl (.inr (.inr ⟨w, i, c, rfl, rfl, hl, hc, h.same hS (by unfold rV RepV; rfl)⟩))
        · cases hz
      | tup xs =>
        unfold RepV at hd
        obtain ⟨a, vs, rfl, h1, h2⟩ := hd
        obtain ⟨v, hv, rv⟩ := atI_rep h2 hz
        exact .inl (.inr (.inl ⟨a, vs, i, v, rfl, rfl, h1, hv, h.same hS rv⟩))
      | lis xs =>
        unfold RepV at hd
        obtain ⟨a, vs, rfl, h1, h2⟩ := hd
        obtain ⟨v, hv, rv⟩ := atI_rep h2 hz
        exact .inl (.inl ⟨a, vs, i, v, rfl, rfl, h1.sq, hv, h.same hS rv⟩)
      | ref n =>
        simp only at hz
        have dic : ∀ {kvs : List (Key × D)}, kvAt S n = some kvs → dLook kvs (.inl i) = some z → ∃ a v, x = .ref a ∧ DGet H a (.int i) (some v) ∧ Q v H := fun {kvs} ek el => by
          obtain ⟨a, ps, rfl, _, h1, h2⟩ := rkv_rep hS hd ek
          have q := look_rep (.inl i) h2
          rw [el] at q
          obtain ⟨v, hv, rv⟩ := q
          exact ⟨a, v, rfl, .inl ⟨ps, .inl i, h1, rfl, hv.symm⟩, h.same hS rv⟩
        split at hz
        · rename_i xs e1
          obtain ⟨a, vs, rfl, _, h1, h2⟩ := rlst_rep hS hd (lstAt_of e1)
          obtain ⟨v, hv, rv⟩ := atI_rep h2 hz
          exact .inl (.inl ⟨a, vs, i, v, rfl, rfl, SqL.of h1, hv, h.same hS rv⟩)
        · rename_i kvs e1
          exact .inr (dic (by unfold kvAt; rw [e1]) hz)
        · rename_i kvs e1
          exact .inr (dic (by unfold kvAt; rw [e1]) hz)
        · cases hz
      | _ => cases hz
    | str w =>
      unfold RepV at he
      subst he
      cases d with
      | ref n =>
        simp only at hz
        split at hz
        · rename_i kvs ek
          obtain ⟨a, ps, rfl, _, h1, h2⟩ := rkv_rep hS hd ek
          have q := look_rep (.inr w) h2
          rw [hz] at q
          obtain ⟨v, hv, rv⟩ := q
          exact .inr ⟨a, v, rfl, .inl ⟨ps, .inr w, h1, rfl, hv.symm⟩, h.same hS rv⟩
        · cases hz
      | _ => cases hz
    | _ => cases hz
  · exact h.elim
variable {pos : Pos} {a b : Expr} {m n : ME}
theorem mix (hu : X.A.units + 1 < cLine) (ha : PE X a (tE X.K cA W m)) (hb : PE X b (tE X.K cA W n)) (hs : PlainIx b := by exact fun _ _ => rfl) : PE X (.Subscript a b pos) (tE X.K cA W (binE ixD m n)) :=
  (pe_ix (ix_M hu) ha hb hs).imp fun σ H Q h => bind2 st_V mo_V h
end

/-! ### slices -/
abbrev MO := Loc → Store → R (Option Int)
def noO : MO := fun _ S => .ok none S
def someO (m : ME) : MO := fun l S => (m l S).bind fun d S1 => match intO d with
  | some i => .ok (some i) S1
  | none => .bad
def cutD (xs : List D) (lo hi : Option Int) : List D := (xs.drop (HT.sIx xs.length 0 lo)).take (HT.sIx xs.length xs.length hi - HT.sIx xs.length 0 lo)
def sliceD (d : D) (lo hi : Option Int) (S : Store) : R D := match d with
  | .str z => if z.length ≤ sizeLine then .ok (.str (cutS z lo hi)) S else .bad
  | .tup xs => .ok (.tup (cutD xs lo hi)) S
  | _ => match lstOf S d with
    | some xs => newC (.lst (cutD xs lo hi)) S
    | none => .bad
def sliceE (m : ME) (lo hi : MO) : ME := fun l S => (m l S).bind fun d S1 => (lo l S1).bind fun i S2 => (hi l S2).bind (sliceD d i)
section
variable {X : Cx} {cA : Nat → Addr} {W : XK} {K : PySem.W.Frag} {ρ : List Addr} {H : Hp} {S : Store}
theorem SlR.imp {r r' : V → Option Int → Option Int → Hp → VK → Prop} (h : SlR X r) (i : ∀ x lo hi H Q, r' x lo hi H Q → r x lo hi H Q) : SlR X r' := fun pins s σ H x v vl vu lo hi sl Q I rx hs pl pu q => h pins s σ H x v vl vu lo hi sl Q I rx hs pl pu (i _ _ _ _ _ q)
theorem cut_rep {xs : List D} {vs : List V} (h : RepVs K ρ H xs vs) (lo hi : Option Int) : RepVs K ρ H (cutD xs lo hi) (cutV vs lo hi) := by
  unfold cutD cutV
  rw [RepVs.length h]
  exact (h.drop _).take _
theorem cut_all {xs : List D} {lo hi : Option Int} (h : HT.sIx xs.length 0 lo = 0 ∧ HT.sIx xs.length xs.length hi = xs.length) : cutD xs lo hi = xs := by
  unfold cutD
  rw [h.1, h.2, List.drop_zero, Nat.sub_zero, List.take_length]
theorem sl_M : SlR X (fun x lo hi H Q => ∃ ρ S d, Reps X.K cA ρ H S ∧ RepV X.K ρ H d x ∧ After X.K cA W ρ H (rV X.K) (sliceD d lo hi S) Q) := SlR.imp ((sl_str (X := X)).or ((sl_tupA (X := X)).or (sl_list (X := X)))) fun x lo hi H Q h => by
  obtain ⟨ρ, S, d, hS, hd, h⟩ := h
  unfold sliceD at h
  split at h
  · split at h
    · rename_i hz
      unfold RepV at hd
      exact .inl ⟨_, hd, hz, h.same hS (by unfold rV RepV; rfl)⟩
    · exact h.elim
  · have hd' := hd
    unfold RepV at hd
    obtain ⟨a, vs, rfl, h1, h2⟩ := hd
    refine .inr (.inl ⟨a, vs, rfl, h1, fun hw => ?_, fun _ p hp => h.tup hS hp (cut_rep h2 lo hi)⟩)
    rw [RepVs.length h2] at hw
    rw [cut_all hw] at h
    exact h.same hS hd'
  · split at h
    · rename_i xs e
      obtain ⟨a, vs, rfl, h1, h2⟩ := lst_rep hS hd e
      exact .inr (.inr ⟨a, vs, rfl, h1, fun p hp => h.new hS hp ⟨_, upd_same, (cut_rep h2 lo hi).ext (Ext.new hp)⟩⟩)
    · exact h.elim
theorem PO.imp {e : Option Expr} {t t' : TO} (h : PO X e t) (i : ∀ σ H Q, t' σ H Q → t σ H Q) : PO X e t' := ⟨fun pins s σ H Q I q => h.run pins s σ H Q I (i σ H Q q)⟩
abbrev tO (K : PySem.W.Frag) (cA : Nat → Addr) (W : XK) (m : MO) : TO := tG K cA W rId m
variable {pos p2 : Pos} {e : Expr} {lo hi : Option Expr} {m : ME} {n o : MO}
theorem ono : PO X none (tO X.K cA W noO) := PO.imp po_none fun σ H Q h => by
  obtain ⟨ρ, S, l, hS, hl, h⟩ := h
  exact After.same (rep := rId) h hS rfl
theorem osome (h : PE X e (tE X.K cA W m)) : PO X (some e) (tO X.K cA W (someO m)) := PO.imp (po_some h) fun σ H Q h => (bind1 (rep1 := rV X.K) st_Id h).imp fun v H1 h => by
  obtain ⟨ρ, S, d, hS, hr, h⟩ := h
  split at h
  · rename_i i e
    cases d with
    | int j => cases e; unfold rV RepV at hr; exact ⟨_, hr, After.same (rep := rId) h hS rfl⟩
    | _ => cases e
  · exact h.elim
theorem mslice (he : PE X e (tE X.K cA W m)) (hl : PO X lo (tO X.K cA W n)) (hh : PO X hi (tO X.K cA W o)) : PE X (.Subscript e (.Slice lo hi none p2) pos) (tE X.K cA W (sliceE m n o)) :=
  (pe_slice sl_M he hl hh).imp fun σ H Q h => by
    refine tG.imp (bind3 (rep1 := rV X.K) (rep2 := rId) (rep3 := rId) st_V mo_V mo_Id h) fun x H1 ha => tG.imp ha fun i H2 hb => tG.imp hb fun j H3 hc => ?_
    obtain ⟨ρ, S, d, i', j', hS, h1, h2, h3, hd⟩ := hc
    subst h2 h3
    exact ⟨ρ, S, d, hS, h1, hd⟩
end

/-! ### stores -/
def setO (S : Store) (o i v : D) : Option Store := match o with
  | .ref n => match S[n]? with
    | some (.lst xs) => match i with
      | .int k => (ixN xs.length k).map fun j => S.set n (.lst (xs.set j v))
      | _ => none
    | some (.dct kvs) => match keyO i with
      | some k => if kvs.length < sizeLine then some (S.set n (.dct (dPut kvs k v))) else none
      | none => none
    | _ => none
  | _ => none
section
variable {X : Cx} {cA : Nat → Addr} {W : XK} {K : PySem.W.Frag} {ρ : List Addr} {H : Hp} {S : Store}
theorem PSet.or {t t' : TSet} (h : PSet X t) (h' : PSet X t') : PSet X (fun o i v H Q => t o i v H Q ∨ t' o i v H Q) := fun pins s σ H o i v ov iv u Q I ro ri rv q => by
  rcases q with q | q
  · exact h pins s σ H o i v ov iv u Q I ro ri rv q
  · exact h' pins s σ H o i v ov iv u Q I ro ri rv q
theorem PSet.imp {t t' : TSet} (h : PSet X t) (i : ∀ o i v H Q, t' o i v H Q → t o i v H Q) : PSet X t' := fun pins s σ H o j v ov iv u Q I ro ri rv q => h pins s σ H o j v ov iv u Q I ro ri rv (i _ _ _ _ _ q)
theorem put_rep {k : Key} {d : D} {v : V} (hv : RepV K ρ H d v) {kvs : List (Key × D)} {ps : List (Key × V)} (h : RepP K ρ H kvs ps) : RepP K ρ H (dPut kvs k d) (putK ps k v) := by
  have any_eq : ∀ {kvs : List (Key × D)} {ps : List (Key × V)}, RepP K ρ H kvs ps → (kvs.any fun kv => decide (kv.1 = k)) = (ps.any fun kv => decide (kv.1 = k)) := by
    intro kvs
    induction kvs with
    | nil => intro ps h; unfold RepP at h; rw [h]; rfl
    | cons x r ih =>
      intro ps h
      obtain ⟨j, y⟩ := x
      unfold RepP at h
      obtain ⟨w, q, rfl, _, h2⟩ := h
      rw [List.any_cons, List.any_cons, ih h2]
  have map_rep : ∀ {kvs : List (Key × D)} {ps : List (Key × V)}, RepP K ρ H kvs ps → RepP K ρ H (kvs.map fun kv => if kv.1 = k then (kv.1, d) else kv) (ps.map fun kv => if kv.1 = k then (kv.1, v) else kv) := by
    intro kvs
    induction kvs with
    | nil => intro ps h; unfold RepP at h; rw [h]; unfold RepP; rfl
    | cons x r ih =>
      intro ps h
      obtain ⟨j, y⟩ := x
      unfold RepP at h
      obtain ⟨w, q, rfl, h1, h2⟩ := h
      rw [List.map_cons, List.map_cons]
      by_cases e : j = k
      · simp only [e, if_true]
        unfold RepP
        exact ⟨v, _, rfl, hv, ih h2⟩
      · simp only [e, if_false]
        unfold RepP
        exact ⟨w, _, rfl, h1, ih h2⟩
  have app_rep : ∀ {kvs : List (Key × D)} {ps : List (Key × V)}, RepP K ρ H kvs ps → RepP K ρ H (kvs ++ [(k, d)]) (ps ++ [(k, v)]) := by
    intro kvs
    induction kvs with
    | nil => intro ps h; unfold RepP at h; rw [h]; exact ⟨v, [], rfl, hv, by unfold RepP; rfl⟩
    | cons x r ih =>
      intro ps h
      obtain ⟨j, y⟩ := x
      unfold RepP at h
      obtain ⟨w, q, rfl, h1, h2⟩ := h
      exact ⟨w, _, rfl, h1, ih h2⟩
  unfold dPut putK
  rw [any_eq h]
  split
  · exact map_rep h
  · exact app_rep h
theorem set_M (hu : X.A.units + 1 < cLine) : PSet X (fun o i v H Q => ∃ ρ S d e f, Reps X.K cA ρ H S ∧ RepV X.K ρ H d o ∧ RepV X.K ρ H e i ∧ RepV X.K ρ H f v ∧ ∃ S', setO S d e f = some S' ∧ ∀ H', Ext ρ H ρ H' → Reps X.K cA ρ H' S' → Q H') :=
  PSet.imp (PSet.or (set_list (X := X)) (set_dict hu)) fun o i v H Q h => by
    obtain ⟨ρ, S, d, e, f, hS, hd, he, hf, S', hs, q⟩ := h
    unfold setO at hs
    cases d with
    | ref n =>
      simp only at hs
      split at hs
      · rename_i xs e1
        cases e with
        | int k =>
          simp only at hs
          obtain ⟨j, hj, rfl⟩ := Option.map_eq_some_iff.mp hs
          obtain ⟨a, vs, rfl, ha, h1, h2⟩ := rlst_rep hS hd (lstAt_of e1)
          unfold RepV at he
          subst he
          have E : Ext ρ H ρ (upd H a (.lst (vs.set j v))) := Ext.write ha h1 True.intro
          refine .inl ⟨a, vs, k, j, rfl, rfl, h1, by rw [RepVs.length h2]; exact hj, q _ E (hS.write ha h1 True.intro ⟨_, upd_same, ?_⟩)⟩
          exact (RepVs.set hf j h2).ext E
        | _ => cases hs
      · rename_i kvs e1
        split at hs
        · rename_i k ek
          split at hs
          · rename_i hl
            cases hs
            obtain ⟨a, ps, rfl, ha, h1, h2⟩ := rdct_rep hS hd (dctAt_of e1)
            have := key_rep ek he
            subst this
            have E : Ext ρ H ρ (upd H a (.dK (putK ps k v))) := Ext.write ha h1 True.intro
            refine .inr ⟨a, _, rfl, DPut.k (k := k) (v := v) h1 (by rw [c_lenV.len_repP h2]; exact hl), q _ E (hS.write ha h1 True.intro ⟨_, upd_same, ?_⟩)⟩
            exact (put_rep hf h2).ext E
          · cases hs
        · cases hs
      · cases hs
    | _ => cases hs
end

/-! ### fields -/
def fldE (cs : List Nat) (f : Str) (m : ME) : ME := fun l S => (m l S).bind fun d S1 => match d with
  | .ref n => match insAt S1 n with
    | some (c, fs) => if c ∈ cs then (match fs.lookup f with
      | some x => .ok x S1
      | none => .bad) else .bad
    | none => .bad
  | _ => .bad
section
variable {X : Cx} {cA : Nat → Addr} {W : XK} {K : PySem.W.Frag} {ρ : List Addr} {H : Hp} {S : Store}
theorem fld_rep {f : Str} : ∀ {fs : List (Str × D)} {ps : List (Str × V)} {d : D}, RepP K ρ H fs ps → fs.lookup f = some d → ∃ v, ps.lookup f = some v ∧ RepV K ρ H d v
  | [], ps, d, h, e => by cases e
  | (g, x) :: r, ps, d, h, e => by
    unfold RepP at h
    obtain ⟨w, q, rfl, h1, h2⟩ := h
    cases hg : (f == g) with
    | true => simp only [List.lookup, hg] at e ⊢; cases e; exact ⟨w, rfl, h1⟩
    | false => simp only [List.lookup, hg] at e ⊢; exact fld_rep h2 e
theorem fld_none {f : Str} : ∀ {fs : List (Str × D)} {ps : List (Str × V)}, RepP K ρ H fs ps → fs.lookup f = none → ps.lookup f = none
  | [], ps, h, e => by unfold RepP at h; rw [h]; rfl
  | (g, x) :: r, ps, h, e => by
    unfold RepP at h
    obtain ⟨w, q, rfl, h1, h2⟩ := h
    cases hg : (f == g) with
    | true => simp only [List.lookup, hg] at e; cases e
    | false => simp only [List.lookup, hg] at e ⊢; exact fld_none h2 e
variable {pos : Pos} {e : Expr} {m : ME} {f : Str} {cs : List Nat}
theorem mfld (hC : ∀ c ∈ cs, Cls X.K (cA c) ∧ NoAttr X.K (cA c) f) (he : PE X e (tE X.K cA W m)) (hb : attributeBase e f X.env (eval e X.env) = eval e X.env := by rfl) : PE X (.Attribute e f pos) (tE X.K cA W (fldE cs f m)) :=
  (pe_fld he hb).imp fun σ H Q h => (bind1 (rep1 := rV X.K) st_V h).imp fun v H1 h => by
    obtain ⟨ρ, S, d, hS, hr, h⟩ := h
    split at h
    · split at h
      · rename_i c fs e1
        split at h
        · rename_i hc
          split at h
          · rename_i y e2
            obtain ⟨a, dx, ps, rfl, _, h1, h2⟩ := rins_rep hS hr e1
            obtain ⟨w, hw, rw'⟩ := fld_rep h2 e2
            exact ⟨a, cA c, dx, ps, w, rfl, h1, (hC c hc).1, (hC c hc).2, hw, h.same hS rw'⟩
          · exact h.elim
        · exact h.elim
      · exact h.elim
    · exact h.elim
end

/-! ### methods of lists and texts -/
def tM2 (K : PySem.W.Frag) (cA : Nat → Addr) (W : XK) (f : D → List D → Store → R D) : V → List V → Hp → VK → Prop := fun x xs H Q =>
  ∃ ρ S d ds, Reps K cA ρ H S ∧ RepV K ρ H d x ∧ RepVs K ρ H ds xs ∧ After K cA W ρ H (rV K) (f d ds S) Q
def lmE (f : D → List D → Store → R D) (m : ME) (n : MA) : ME := fun l S => (m l S).bind fun d S1 => if (lstOf S1 d).isSome = true then (n l S1).bind (f d) else .bad
def appendM (d : D) (ds : List D) (S : Store) : R D := match d with
  | .ref n => match lstAt S n with
    | some xs => match ds with
      | [x] => if xs.length < sizeLine then .ok .non (S.set n (.lst (xs ++ [x]))) else .bad
      | _ => .bad
    | none => .bad
  | _ => .bad
def popM (d : D) (ds : List D) (S : Store) : R D := match d with
  | .ref n => match lstAt S n with
    | some xs => match ds with
      | [] => match xs[xs.length - 1]? with
        | some x => .ok x (S.set n (.lst xs.dropLast))
        | none => .bad
      | _ => .bad
    | none => .bad
  | _ => .bad
def popAtM (d : D) (ds : List D) (S : Store) : R D := match d with
  | .ref n => match lstAt S n with
    | some xs => match ds with
      | [.int i] => if 0 ≤ i ∧ i < 2 ^ 62 then (match xs[i.toNat]? with
        | some x => .ok x (S.set n (.lst (xs.eraseIdx i.toNat)))
        | none => .bad) else .bad
      | _ => .bad
    | none => .bad
  | _ => .bad
def extendM (d : D) (ds : List D) (S : Store) : R D := match d with
  | .ref n => match lstAt S n with
    | some xs => match ds with
      | [.ref k] => match lstAt S k with
        | some ys => if xs.length + ys.length ≤ sizeLine then .ok .non (S.set n (.lst (xs ++ ys))) else .bad
        | none => .bad
      | _ => .bad
    | none => .bad
  | _ => .bad
def reverseM (d : D) (ds : List D) (S : Store) : R D := match d with
  | .ref n => match lstAt S n with
    | some xs => match ds with
      | [] => .ok .non (S.set n (.lst xs.reverse))
      | _ => .bad
    | none => .bad
  | _ => .bad
def insertM (d : D) (ds : List D) (S : Store) : R D := match d with
  | .ref n => match lstAt S n with
    | some xs => match ds with
      | [.int i, x] => if 0 ≤ i ∧ i < 2 ^ 62 ∧ xs.length < sizeLine then .ok .non (S.set n (.lst (xs.take i.toNat ++ [x] ++ xs.drop i.toNat))) else .bad
      | _ => .bad
    | none => .bad
  | _ => .bad
section
variable {X : Cx} {cA : Nat → Addr} {W : XK} {K : PySem.W.Frag} {ρ : List Addr} {H : Hp} {S : Store}
theorem MtR.imp {id : String} {r r' : V → List V → Hp → VK → Prop} (h : MtR X id r) (i : ∀ x xs H Q, r' x xs H Q → r x xs H Q) : MtR X id r' := fun pins s σ H x xs v us Q I rx rs q => h pins s σ H x xs v us Q I rx rs (i _ _ _ _ q)
/-- a list is written, and something told -/
theorem After.put {n : Nat} {a : Addr} {vs ws : List V} {xs : List D} {d : D} {v : V} {Q : V → Hp → Prop} (h : After K cA W ρ H (rV K) (.ok d (S.set n (.lst xs))) Q) (hS : Reps K cA ρ H S) (ha : ρ[n]? = some a) (h1 : H a = some (.lst vs)) (hx : RepVs K ρ H xs ws) (hd : RepV K ρ H d v) : Q v (upd H a (.lst ws)) := by
  have E : Ext ρ H ρ (upd H a (.lst ws)) := Ext.write ha h1 True.intro
  exact h ρ _ _ E (hS.write ha h1 True.intro ⟨_, upd_same, hx.ext E⟩) (hd.ext E)
theorem rep_non' : RepV K ρ H .non .non := by unfold RepV; rfl
theorem nil_rep {xs : List V} (h : RepVs K ρ H [] xs) : xs = [] := by unfold RepVs at h; exact h
theorem mt_appendM : MtR X "list.append" (tM2 X.K cA W appendM) := MtR.imp mt_append fun x xs H Q h => by
  obtain ⟨ρ, S, d, ds, hS, hd, hds, h⟩ := h
  unfold appendM at h
  split at h
  · split at h
    · rename_i ys e1
      split at h
      · split at h
        · rename_i hz
          obtain ⟨a, vs, rfl, ha, h1, h2⟩ := rlst_rep hS hd e1
          obtain ⟨w, rfl, h3⟩ := one_rep hds
          exact ⟨a, vs, w, rfl, rfl, h1, by rw [RepVs.length h2]; exact hz, h.put hS ha h1 (h2.append (.cons h3 .nil)) rep_non'⟩
        · exact h.elim
      · exact h.elim
    · exact h.elim
  · exact h.elim
theorem RepVs.dropLast {xs : List D} {vs : List V} (h : RepVs K ρ H xs vs) : RepVs K ρ H xs.dropLast vs.dropLast := by
  rw [List.dropLast_eq_take, List.dropLast_eq_take, RepVs.length h]
  exact h.take _
theorem mt_popM : MtR X "list.pop" (tM2 X.K cA W popM) := MtR.imp mt_pop fun x xs H Q h => by
  obtain ⟨ρ, S, d, ds, hS, hd, hds, h⟩ := h
  unfold popM at h
  split at h
  · split at h
    · rename_i ys e1
      split at h
      · split at h
        · rename_i z hz
          obtain ⟨a, vs, rfl, ha, h1, h2⟩ := rlst_rep hS hd e1
          obtain ⟨w, hw, rw'⟩ := RepVs.get h2 _ _ hz
          exact ⟨a, vs, w, rfl, nil_rep hds, h1, by rw [RepVs.length h2]; exact hw, h.put hS ha h1 h2.dropLast rw'⟩
        · exact h.elim
      · exact h.elim
    · exact h.elim
  · exact h.elim
theorem RepVs.eraseIdx : ∀ {xs : List D} {vs : List V} (i : Nat), RepVs K ρ H xs vs → RepVs K ρ H (xs.eraseIdx i) (vs.eraseIdx i)
  | [], vs, i, h => by unfold RepVs at h; subst h; exact .nil
  | x :: xs, vs, i, h => by
    unfold RepVs at h
    obtain ⟨w, r, rfl, h1, h2⟩ := h
    cases i with
    | zero => exact h2
    | succ i => exact .cons h1 (RepVs.eraseIdx i h2)
theorem mt_popAtM : MtR X "list.pop" (tM2 X.K cA W popAtM) := MtR.imp mt_popAt fun x xs H Q h => by
  obtain ⟨ρ, S, d, ds, hS, hd, hds, h⟩ := h
  unfold popAtM at h
  split at h
  · split at h
    · rename_i ys e1
      split at h
      · split at h
        · rename_i hi
          split at h
          · rename_i i _ z hz
            obtain ⟨a, vs, rfl, ha, h1, h2⟩ := rlst_rep hS hd e1
            obtain ⟨w, hw, rw'⟩ := RepVs.get h2 _ _ hz
            obtain ⟨u, rfl, h3⟩ := one_rep hds
            unfold RepV at h3
            subst h3
            have hlt : i.toNat < vs.length := (List.getElem?_eq_some_iff.mp hw).1
            refine ⟨a, vs, i, i.toNat, w, rfl, rfl, h1, by omega, by omega, ?_, hw, h.put hS ha h1 (h2.eraseIdx _) rw'⟩
            exact PySem.StrLaws.seqIndex_nonneg hi.1 (by omega)
          · exact h.elim
        · exact h.elim
      · exact h.elim
    · exact h.elim
  · exact h.elim
theorem mt_extendM : MtR X "list.extend" (tM2 X.K cA W extendM) := MtR.imp mt_extend fun x xs H Q h => by
  obtain ⟨ρ, S, d, ds, hS, hd, hds, h⟩ := h
  unfold extendM at h
  split at h
  · split at h
    · rename_i ys e1
      split at h
      · split at h
        · rename_i zs e2
          split at h
          · rename_i hz
            obtain ⟨a, vs, rfl, ha, h1, h2⟩ := rlst_rep hS hd e1
            obtain ⟨w, rfl, h3⟩ := one_rep hds
            obtain ⟨b, ws, rfl, hb, h4, h5⟩ := rlst_rep hS h3 e2
            exact ⟨a, b, vs, ws, rfl, rfl, h1, h4, by rw [RepVs.length h2, RepVs.length h5]; exact hz, h.put hS ha h1 (h2.append h5) rep_non'⟩
          · exact h.elim
        · exact h.elim
      · exact h.elim
    · exact h.elim
  · exact h.elim
theorem RepVs.reverse {xs : List D} {vs : List V} (h : RepVs K ρ H xs vs) : RepVs K ρ H xs.reverse vs.reverse := by
  induction xs generalizing vs with
  | nil => unfold RepVs at h; subst h; exact .nil
  | cons x xs ih =>
    unfold RepVs at h
    obtain ⟨w, r, rfl, h1, h2⟩ := h
    rw [List.reverse_cons, List.reverse_cons]
    exact (ih h2).append (.cons h1 .nil)
theorem mt_reverseM : MtR X "list.reverse" (tM2 X.K cA W reverseM) := MtR.imp mt_reverse fun x xs H Q h => by
  obtain ⟨ρ, S, d, ds, hS, hd, hds, h⟩ := h
  unfold reverseM at h
  split at h
  · split at h
    · rename_i ys e1
      split at h
      · obtain ⟨a, vs, rfl, ha, h1, h2⟩ := rlst_rep hS hd e1
        exact ⟨a, vs, rfl, nil_rep hds, h1, h.put hS ha h1 h2.reverse rep_non'⟩
      · exact h.elim
    · exact h.elim
  · exact h.elim
theorem mt_insertM : MtR X "list.insert" (tM2 X.K cA W insertM) := MtR.imp mt_insert fun x xs H Q h => by
  obtain ⟨ρ, S, d, ds, hS, hd, hds, h⟩ := h
  unfold insertM at h
  split at h
  · split at h
    · rename_i ys e1
      split at h
      · split at h
        · rename_i i y hz
          obtain ⟨a, vs, rfl, ha, h1, h2⟩ := rlst_rep hS hd e1
          obtain ⟨u, w, rfl, h3, h4⟩ := two_rep hds
          unfold RepV at h3
          subst h3
          exact ⟨a, vs, i, w, rfl, rfl, h1, by rw [RepVs.length h2]; exact hz.2.2, hz.1, by omega, h.put hS ha h1 (((h2.take _).append (.cons h4 .nil)).append (h2.drop _)) rep_non'⟩
        · exact h.elim
      · exact h.elim
    · exact h.elim
  · exact h.elim
variable {o e : Expr} {es : List Expr} {m : ME} {n : MA} {name : Str} {apos cpos : Pos} {id : String} {f : D → List D → Store → R D}
/-- xs.m(e, ..) of a list -/
theorem mlm (slot : Slot "list" name id) (hty : typeOf (.builtin id) = pure (.type "method_descriptor")) (hm : MtR X id (tM2 X.K cA W f)) (ho : PE X o (tE X.K cA W m)) (ha : PA X (e :: es) (tAs X.K cA W n))
    (hbase : attributeBase o name X.env (eval o X.env) = eval o X.env := by rfl)
    (hfew : ((backTo cpos (starEach (e :: es) X.env)).all (fun x => !x.1) && (backToKw cpos (keywordEach [] X.env)).all (fun x => x.1.isSome)
      && decide ((e :: es).length + ([] : List Keyword).length + (if ([] : List Keyword).isEmpty then 0 else 1) < 30)) = true := by rfl)
    (hline : (apos.endLine == cpos.line) = true := by rfl) (hs : starEach (e :: es) X.env = (false, eval e X.env) :: starEach es X.env := by rfl) (hplain : (backTo cpos (starEach es X.env)).any (·.1) = false := by rfl) :
    PE X (.Call (.Attribute o name apos) (e :: es) [] cpos) (tE X.K cA W (lmE f m n)) :=
  (pe_bm PySem.F.plainAttrs_list slot hty hm ho ha hbase hfew hline hs hplain).imp fun σ H Q h => (bind1L (rep1 := rV X.K) st_V h).imp fun v H1 h => by
    obtain ⟨ρ, S, l, d, hS, hl, hr, h⟩ := h
    split at h
    · rename_i hz
      obtain ⟨xs, hx⟩ := Option.isSome_iff_exists.mp hz
      obtain ⟨a, vs, rfl, h1, _⟩ := lst_rep hS hr hx
      refine ⟨.inl ⟨rfl, vs, h1⟩, ρ, S, l, hS, hl, (After.bind (rep := rVs X.K) st_V h).imp fun us H2 h => ?_⟩
      obtain ⟨ρ2, S2, ds, e2, hS2, hr2, h⟩ := h
      exact ⟨ρ2, S2, d, ds, hS2, hr.ext e2, hr2, h⟩
    · exact h.elim
/-- xs.m() of a list -/
theorem mlm0 (slot : Slot "list" name id) (hty : typeOf (.builtin id) = pure (.type "method_descriptor")) (hm : MtR X id (tM2 X.K cA W f)) (ho : PE X o (tE X.K cA W m))
    (hbase : attributeBase o name X.env (eval o X.env) = eval o X.env := by rfl) (hline : (apos.endLine == cpos.line) = true := by rfl) :
    PE X (.Call (.Attribute o name apos) [] [] cpos) (tE X.K cA W (lmE f m nilA)) :=
  (pe_bm0 PySem.F.plainAttrs_list slot hty hm ho hbase hline).imp fun σ H Q h => (bind1L (rep1 := rV X.K) st_V h).imp fun v H1 h => by
    obtain ⟨ρ, S, l, d, hS, hl, hr, h⟩ := h
    split at h
    · rename_i hz
      obtain ⟨xs, hx⟩ := Option.isSome_iff_exists.mp hz
      obtain ⟨a, vs, rfl, h1, _⟩ := lst_rep hS hr hx
      exact ⟨.inl ⟨rfl, vs, h1⟩, ρ, S, d, [], hS, hr, .nil, h⟩
    · exact h.elim
/-- sep.join(a new list of texts) -/
def joinN (m : ME) (n : MA) : ME := fun l S => (m l S).bind fun d S1 => match strO d with
  | some a => (n l S1).bind fun ds S2 => match mapO strO ds with
    | some ys => if (ys.map (·.length)).sum + ys.length * a.length ≤ 16777216 then .ok (.str (Str.join a ys)) S2 else .bad
    | none => .bad
  | none => .bad
theorem mjoin (ho : PE X o (tE X.K cA W m)) (he : PE X e (tNw X.K cA W n)) (hs : starEach [e] X.env = [(false, eval e X.env)] := by rfl) (hbase : attributeBase o "join" X.env (eval o X.env) = eval o X.env := by rfl) (hline : (apos.endLine == cpos.line) = true := by rfl) :
    PE X (.Call (.Attribute o "join" apos) [e] [] cpos) (tE X.K cA W (joinN m n)) :=
  (pe_join ho he hs hbase hline).imp fun σ H Q h => (bind1L (rep1 := rV X.K) st_V h).imp fun v H1 h => by
    obtain ⟨ρ, S, l, d, hS, hl, hr, h⟩ := h
    split at h
    · rename_i a e1
      cases d with
      | str b =>
        cases e1
        unfold rV RepV at hr
        subst hr
        refine ⟨⟨a, rfl⟩, ρ, S, l, hS, hl, (After.bind (rep := rNew X.K) st_V h).imp fun us H2 h => ?_⟩
        obtain ⟨ρ2, S2, ds, e2, hS2, ⟨p, vs, rfl, _, _, h1, h2⟩, h⟩ := h
        split at h
        · rename_i ys e3
          split at h
          · rename_i hz
            have := strs_rep e3 h2
            subst this
            refine ⟨a, p, ys, rfl, rfl, .inl (SqL.of h1), hz, ?_⟩
            rw [show Txt.join a ys = Str.join a ys from PySem.StrLaws.glued_eq_join a ys]
            exact h.same hS2 (by unfold rV RepV; rfl)
          · exact h.elim
        · exact h.elim
      | _ => cases e1
    · exact h.elim
end
end ML

set_option Elab.async false
set_option linter.all false
set_option maxRecDepth 100000
set_option autoImplicit false
/-! ML7: statements, loops, comprehensions. -/
namespace ML
open PySem PySem.Spec L2

inductive Fl where
  | nx | rt (d : D) | bk | ct
inductive FlV where
  | nx | rt (v : V) | bk | ct
abbrev MS := Loc → Store → R (Fl × Loc)
def rS (K : PySem.W.Frag) : Rel (Fl × Loc) (FlV × L2.St) := fun _ ρ H a b => RepL K ρ H a.2 b.2 ∧ match a.1, b.1 with
  | .nx, .nx => True
  | .rt d, .rt v => RepV K ρ H d v
  | .bk, .bk => True
  | .ct, .ct => True
  | _, _ => False
theorem st_S {K : PySem.W.Frag} : Stable (rS K) := fun _ _ _ _ _ _ _ _ _ h => h
def endQ (E : Ends) : FlV × L2.St → Hp → Prop := fun b H => match b.1 with
  | .nx => E.nx b.2 H
  | .rt v => E.rt v H
  | .bk => E.bk b.2 H
  | .ct => E.ct b.2 H
def tS (K : PySem.W.Frag) (cA : Nat → Addr) (W : XK) (m : MS) : TS := fun E σ H => tG K cA W (rS K) m σ H (endQ E)
def rL (K : PySem.W.Frag) : Rel Loc L2.St := fun _ ρ H a b => RepL K ρ H a b
theorem st_L {K : PySem.W.Frag} : Stable (rL K) := fun _ _ _ _ _ _ _ _ _ h => h
/-- a target's reading -/
abbrev MT := D → Loc → Store → R Loc
def tTg (K : PySem.W.Frag) (cA : Nat → Addr) (W : XK) (m : MT) : TG := fun v σ H Q => ∃ ρ S l d, Reps K cA ρ H S ∧ RepL K ρ H l σ ∧ RepV K ρ H d v ∧ After K cA W ρ H (rL K) (m d l S) Q

/-! ### what is done -/
def nilS : MS := fun l S => .ok (.nx, l) S
def thenS (n : MS) (p : Fl × Loc) (S : Store) : R (Fl × Loc) := match p.1 with
  | .nx => n p.2 S
  | _ => .ok p S
def seqS (m n : MS) : MS := fun l S => (m l S).bind (thenS n)
def exprS (m : ME) : MS := fun l S => (m l S).bind fun _ S1 => .ok (.nx, l) S1
def retS (m : ME) : MS := fun l S => (m l S).bind fun d S1 => .ok (.rt d, l) S1
def retN : MS := fun l S => .ok (.rt .non, l) S
def ifS (c : MB) (m n : MS) : MS := fun l S => (c l S).bind fun b S1 => if b = true then m l S1 else n l S1
def breakS : MS := fun l S => .ok (.bk, l) S
def contS : MS := fun l S => .ok (.ct, l) S
def setS (i : Nat) (m : ME) : MS := fun l S => (m l S).bind fun d S1 => .ok (.nx, l.set i (some d)) S1
def asgS (t : MT) (m : ME) : MS := fun l S => (m l S).bind fun d S1 => (t d l S1).bind fun l1 S2 => .ok (.nx, l1) S2
def againS (n : MS) (p : Fl × Loc) (S : Store) : R (Fl × Loc) := match p.1 with
  | .nx => n p.2 S
  | .ct => n p.2 S
  | .bk => .ok (.nx, p.2) S
  | .rt d => .ok (.rt d, p.2) S
def whileS (c : MB) (b : MS) : Nat → MS
  | 0 => fun _ _ => .bad
  | k + 1 => fun l S => (c l S).bind fun t S1 => if t = true then (b l S1).bind (againS (whileS c b k)) else .ok (.nx, l) S1
/-- what is walked: the items, and what must stay -/
abbrev Sn := List D × (Store → Prop)
open Classical in
noncomputable def forL (chk : Store → Prop) (t : MT) (b : MS) : List D → MS
  | [] => fun l S => if chk S then .ok (.nx, l) S else .bad
  | d :: ds => fun l S => if chk S then (t d l S).bind fun l1 S1 => (b l1 S1).bind (againS (forL chk t b ds)) else .bad
noncomputable def forS (src : Loc → Store → R Sn) (t : MT) (b : MS) : MS := fun l S => (src l S).bind fun p S1 => forL p.2 t b p.1 l S1
def nameT (i : Nat) : MT := fun d l S => .ok (l.set i (some d)) S
def namesL : List Nat → List D → Loc → Option Loc
  | [], [], l => some l
  | i :: is, d :: ds, l => namesL is ds (l.set i (some d))
  | _, _, _ => none
def namesT (is : List Nat) : MT := fun d l S => match d with
  | .tup xs => match namesL is xs l with
    | some l1 => .ok l1 S
    | none => .bad
  | _ => .bad
def subT (m n : ME) : MT := fun d l S => (m l S).bind fun o S1 => (n l S1).bind fun i S2 => match setO S2 o i d with
  | some S3 => .ok l S3
  | none => .bad
def putD (f : Str) (v : D) : List (Str × D) → List (Str × D)
  | [] => [(f, v)]
  | (g, x) :: r => if g = f then (g, v) :: r else (g, x) :: putD f v r
def fldS (cs : List Nat) (f : Str) (m : ME) (v : ME) : MS := fun l S => (v l S).bind fun y S1 => (m l S1).bind fun d S2 => match d with
  | .ref n => match insAt S2 n with
    | some (c, fs) => if c ∈ cs ∧ fs.length < 1000 then .ok (.nx, l) (S2.set n (.ins c (putD f y fs))) else .bad
    | none => .bad
  | _ => .bad

section
variable {X : Cx} {cA : Nat → Addr} {W : XK} {pos : Pos} {K : PySem.W.Frag}
theorem RepL.set {ρ : List Addr} {H : Hp} {l : Loc} {σ : L2.St} {d : D} {v : V} (h : RepL K ρ H l σ) (hv : RepV K ρ H d v) (i : Nat) : RepL K ρ H (l.set i (some d)) (σ.set i (some v)) := by
  refine ⟨by rw [List.length_set, List.length_set]; exact h.len, fun j e hj => ?_⟩
  by_cases q : i = j
  · subst q
    have hi : i < l.length := by
      have := (List.getElem?_eq_some_iff.mp hj).1
      rwa [List.length_set] at this
    rw [List.getElem?_set_self hi] at hj
    cases hj
    exact ⟨v, List.getElem?_set_self (by rw [← h.len]; exact hi), hv⟩
  · rw [List.getElem?_set_ne q] at hj
    obtain ⟨w, hw, r⟩ := h.at_ j e hj
    exact ⟨w, by rw [List.getElem?_set_ne q]; exact hw, r⟩
variable {m n : MS} {e : Expr} {c : Expr} {me : ME} {p : MB} {st : Stmt} {rest : List Stmt}
theorem snil : PSs X [] (tS X.K cA W nilS) := pss_nil.imp fun E σ H h => by
  obtain ⟨ρ, S, l, hS, hl, h⟩ := h
  exact After.same (b := (FlV.nx, σ)) h hS ⟨hl, trivial⟩
theorem then_of {ρ : List Addr} {H : Hp} {r : R (Fl × Loc)} {E : Ends} (h : After K cA W ρ H (rS K) (r.bind (thenS n)) (endQ E)) : After K cA W ρ H (rS K) r (endQ { E with nx := tS K cA W n E }) := by
  refine (After.bind (rep := rS K) st_S h).imp fun b H1 h => ?_
  obtain ⟨ρ1, S1, a, e1, hS, ⟨hl, hf⟩, h⟩ := h
  obtain ⟨f, l⟩ := a
  obtain ⟨g, σ⟩ := b
  cases f with
  | nx => cases g with
    | nx => exact ⟨ρ1, S1, l, hS, hl, h⟩
    | _ => exact hf.elim
  | rt d => cases g with
    | rt v => exact After.same (rep := rS K) (a := (Fl.rt d, l)) (b := (FlV.rt v, σ)) (Q := endQ E) h hS ⟨hl, hf⟩
    | _ => exact hf.elim
  | bk => cases g with
    | bk => exact After.same (rep := rS K) (a := (Fl.bk, l)) (b := (FlV.bk, σ)) (Q := endQ E) h hS ⟨hl, trivial⟩
    | _ => exact hf.elim
  | ct => cases g with
    | ct => exact After.same (rep := rS K) (a := (Fl.ct, l)) (b := (FlV.ct, σ)) (Q := endQ E) h hS ⟨hl, trivial⟩
    | _ => exact hf.elim
theorem scons (h1 : PS X st (tS X.K cA W m)) (h2 : PSs X rest (tS X.K cA W n)) : PSs X (st :: rest) (tS X.K cA W (seqS m n)) :=
  (pss_cons h1 h2).imp fun E σ H h => by
    obtain ⟨ρ, S, l, hS, hl, h⟩ := h
    exact ⟨ρ, S, l, hS, hl, then_of h⟩
theorem sone (h1 : PS X st (tS X.K cA W m)) : PSs X [st] (tS X.K cA W m) := pss_one h1
theorem spass : PS X (.Pass pos) (tS X.K cA W nilS) := ps_pass.imp fun E σ H h => by
  obtain ⟨ρ, S, l, hS, hl, h⟩ := h
  exact After.same (b := (FlV.nx, σ)) h hS ⟨hl, trivial⟩
theorem sdoc {x : Str} {j : Nat} {pos' : Pos} : PS X (.Expr (.Constant (.str x) j pos) pos') (tS X.K cA W nilS) := ps_doc.imp fun E σ H h => by
  obtain ⟨ρ, S, l, hS, hl, h⟩ := h
  exact After.same (b := (FlV.nx, σ)) h hS ⟨hl, trivial⟩
theorem sbreak : PS X (.Break pos) (tS X.K cA W breakS) := ps_break.imp fun E σ H h => by
  obtain ⟨ρ, S, l, hS, hl, h⟩ := h
  exact After.same (b := (FlV.bk, σ)) h hS ⟨hl, trivial⟩
theorem scont : PS X (.Continue pos) (tS X.K cA W contS) := ps_continue.imp fun E σ H h => by
  obtain ⟨ρ, S, l, hS, hl, h⟩ := h
  exact After.same (b := (FlV.ct, σ)) h hS ⟨hl, trivial⟩
theorem after_L {α β : Type} {rep : Rel α β} {f : Loc → α → Store → R (Fl × Loc)} {mm : Loc → Store → R α} {σ : L2.St} {H : Hp} {E : Ends} (h : tS K cA W (fun l S => (mm l S).bind (f l)) E σ H) :
    tG K cA W rep mm σ H fun x H1 => ∃ ρ S l a, Reps K cA ρ H1 S ∧ RepL K ρ H1 l σ ∧ rep H ρ H1 a x ∧ After K cA W ρ H1 (rS K) (f l a S) (endQ E) := bind1L st_S h
theorem sexpr (he : PE X e (tE X.K cA W me)) (hs : swapsWith e none pos.line X.env = pure false := by rfl) : PS X (.Expr e pos) (tS X.K cA W (exprS me)) :=
  (ps_expr he hs).imp fun E σ H h => (after_L (rep := rV X.K) h).imp fun v H1 h => by
    obtain ⟨ρ, S, l, d, hS, hl, _, h⟩ := h
    exact After.same (b := (FlV.nx, σ)) h hS ⟨hl, trivial⟩
theorem sret (he : PE X e (tE X.K cA W me)) : PS X (.Return (some e) pos) (tS X.K cA W (retS me)) :=
  (ps_ret he).imp fun E σ H h => (after_L (rep := rV X.K) h).imp fun v H1 h => by
    obtain ⟨ρ, S, l, d, hS, hl, hr, h⟩ := h
    exact After.same (b := (FlV.rt v, σ)) h hS ⟨hl, hr⟩
theorem sretN : PS X (.Return none pos) (tS X.K cA W retN) := ps_retN.imp fun E σ H h => by
  obtain ⟨ρ, S, l, hS, hl, h⟩ := h
  exact After.same (b := (FlV.rt .non, σ)) h hS ⟨hl, rep_non'⟩
theorem sif {a b : List Stmt} (hc : PT X c (tT X.K cA W p)) (ha : PSs X a (tS X.K cA W m)) (hb : PSs X b (tS X.K cA W n)) : PS X (.If c a b pos) (tS X.K cA W (ifS p m n)) :=
  (ps_if hc ha hb).imp fun E σ H h => (after_L (rep := rId) h).imp fun t H1 h => by
    obtain ⟨ρ, S, l, d, hS, hl, hr, h⟩ := h
    subst hr
    cases d with
    | true => exact ⟨ρ, S, l, hS, hl, h⟩
    | false => exact ⟨ρ, S, l, hS, hl, h⟩
theorem sset {i : Nat} {x : Str} {pos' : Pos} (hN : X.N.Nodup) (hi : X.N[i]? = some x) (hx : L2.Loc X.env.scope x) (he : PE X e (tE X.K cA W me)) (hs : swapsWith e (some (.Name x pos')) pos.line X.env = pure false := by rfl) (hf : X.fn x = true ∨ X.env.scope.names.lookup x = some .local := by first | exact .inl rfl | exact .inr rfl | assumption) :
    PS X (.Assign [.Name x pos'] e pos) (tS X.K cA W (setS i me)) :=
  (ps_set hN hi hx he hs hf).imp fun E σ H h => (after_L (rep := rV X.K) h).imp fun v H1 h => by
    obtain ⟨ρ, S, l, d, hS, hl, hr, h⟩ := h
    exact After.same (b := (FlV.nx, σ.set i (some v))) h hS ⟨hl.set hr i, trivial⟩
theorem sasg {tg : Expr} {t : MT} (he : PE X e (tE X.K cA W me)) (hg : PG X tg (tTg X.K cA W t)) (hs : swapsWithSole [tg] e pos.line X.env = pure false := by rfl) (hw : swappedStores [tg] e X.env = pure none := by rfl)
    (h1 : (assignEach [tg] X.env).map (·.2) = [assign tg X.env] := by rfl) : PS X (.Assign [tg] e pos) (tS X.K cA W (asgS t me)) :=
  (ps_asg he hg hs hw h1).imp fun E σ H h => (after_L (rep := rV X.K) h).imp fun v H1 h => by
    obtain ⟨ρ, S, l, d, hS, hl, hr, h⟩ := h
    refine ⟨ρ, S, l, d, hS, hl, hr, (After.bind (rep := rL X.K) st_S h).imp fun σ1 H2 h => ?_⟩
    obtain ⟨ρ1, S1, l1, e1, hS1, hl1, h⟩ := h
    exact After.same (b := (FlV.nx, σ1)) h hS1 ⟨hl1, trivial⟩
/-! targets -/
theorem gname {i : Nat} {x : Str} (hN : X.N.Nodup) (hi : X.N[i]? = some x) (hx : L2.Loc X.env.scope x) (hf : X.fn x = true ∨ X.env.scope.names.lookup x = some .local := by first | exact .inl rfl | exact .inr rfl | assumption) : PG X (.Name x pos) (tTg X.K cA W (nameT i)) := by
  refine ⟨fun pins s σ H v u Q I r h => (pg_name hN hi hx hf).run pins s σ H v u Q I r ?_⟩
  obtain ⟨ρ, S, l, d, hS, hl, hr, h⟩ := h
  exact After.same (rep := rL X.K) h hS (hl.set hr i)
/-- the names' own reading -/
def gNms : List Nat → TGs
  | [] => gNil
  | i :: is => gCons (gName i) (gNms is)
theorem names_of {ρ : List Addr} {H : Hp} : ∀ {is : List Nat} {ds : List D} {vs : List V} {l l1 : Loc} {σ : L2.St} {Q : L2.St → Hp → Prop}, namesL is ds l = some l1 → RepVs K ρ H ds vs → RepL K ρ H l σ → (∀ σ1, RepL K ρ H l1 σ1 → Q σ1 H) → gNms is vs σ H Q
  | [], [], vs, l, l1, σ, Q, h, r, hl, q => by
    unfold RepVs at r
    cases h
    exact ⟨r, q σ hl⟩
  | i :: is, d :: ds, vs, l, l1, σ, Q, h, r, hl, q => by
    unfold RepVs at r
    obtain ⟨v, w, rfl, h1, h2⟩ := r
    exact ⟨v, w, rfl, names_of (is := is) h h2 (hl.set h1 i) q⟩
  | [], _ :: _, _, _, _, _, _, h, _, _, _ => nomatch h
  | _ :: _, [], _, _, _, _, _, h, _, _, _ => nomatch h
theorem namesL_len : ∀ {is : List Nat} {ds : List D} {l l1 : Loc}, namesL is ds l = some l1 → ds.length = is.length
  | [], [], _, _, _ => rfl
  | i :: is, d :: ds, l, l1, h => by rw [List.length_cons, List.length_cons, namesL_len (is := is) h]
  | [], _ :: _, _, _, h => nomatch h
  | _ :: _, [], _, _, h => nomatch h
theorem gnames {es : List Expr} {k : Nat} {is : List Nat} (hc : X.calm = true) (h : PGs X es (gNms is)) (hn : (assignEach es X.env).length = is.length := by rfl) (hst : (assignEach es X.env).findIdx? (·.1) = none := by rfl) : PG X (.Tuple es k pos) (tTg X.K cA W (namesT is)) := by
  refine ⟨fun pins s σ H v u Q I r hw => (pg_tup hc h hn hst).run pins s σ H v u Q I r ?_⟩
  obtain ⟨ρ, S, l, d, hS, hl, hr, hq⟩ := hw
  unfold namesT at hq
  cases d with
  | tup xs =>
    simp only at hq
    split at hq
    · rename_i l1 e1
      unfold RepV at hr
      obtain ⟨a, vs, rfl, h1, h2⟩ := hr
      refine ⟨a, vs, rfl, h1, by rw [RepVs.length h2]; exact namesL_len e1, names_of e1 h2 hl fun σ1 hl1 => After.same (rep := rL X.K) hq hS hl1⟩
    · exact hq.elim
  | _ => exact hq.elim
theorem gsub {o i : Expr} {mo mi : ME} (hu : X.A.units + 1 < cLine) (ho : PE X o (tE X.K cA W mo)) (hi : PE X i (tE X.K cA W mi))
    (ha : ∀ v, assign (.Subscript o i pos) X.env v = (do
      let ov ← holding [v] (eval o X.env)
      let iv ← holding [v, ov] (eval i X.env)
      standAt pos
      holding [v, ov, iv] (setItem ov iv v)
      release [v, ov, iv] []) := by intro _; rfl) : PG X (.Subscript o i pos) (tTg X.K cA W (subT mo mi)) := by
  refine ⟨fun pins s σ H v u Q I r hw => (pg_sub ho hi (set_M (cA := cA) hu) ha).run pins s σ H v u Q I r ?_⟩
  obtain ⟨ρ, S, l, d, hS, hl, hr, hq⟩ := hw
  refine ⟨ρ, S, l, hS, hl, (After.bind (rep := rV X.K) st_L hq).imp fun ov H1 h => ?_⟩
  obtain ⟨ρ1, S1, od, e1, hS1, r1, h⟩ := h
  refine ⟨ρ1, S1, l, hS1, hl.ext e1, (After.bind (rep := rV X.K) st_L h).imp fun iv H2 h => ?_⟩
  obtain ⟨ρ2, S2, id, e2, hS2, r2, h⟩ := h
  split at h
  · rename_i S3 e3
    refine ⟨ρ2, S2, od, id, d, hS2, r1.ext e2, r2, (hr.ext e1).ext e2, S3, e3, fun H' e' hS' => ?_⟩
    exact h ρ2 H' σ e' hS' (((hl.ext e1).ext e2).ext e')
  · exact h.elim
theorem putD_rep {ρ : List Addr} {H : Hp} {f : Str} {d : D} {v : V} (hv : RepV K ρ H d v) : ∀ {fs : List (Str × D)} {ps : List (Str × V)}, RepP K ρ H fs ps → RepP K ρ H (putD f d fs) (putF f v ps)
  | [], ps, h => by
    unfold RepP at h
    subst h
    exact ⟨v, [], rfl, hv, by unfold RepP; rfl⟩
  | (g, x) :: r, ps, h => by
    unfold RepP at h
    obtain ⟨w, q, rfl, h1, h2⟩ := h
    unfold putD putF
    by_cases e : g = f
    · rw [if_pos e, if_pos e]; exact ⟨v, q, rfl, hv, h2⟩
    · rw [if_neg e, if_neg e]; exact ⟨w, _, rfl, h1, putD_rep hv h2⟩
theorem len_fs {ρ : List Addr} {H : Hp} : ∀ {fs : List (Str × D)} {ps : List (Str × V)}, RepP K ρ H fs ps → ps.length = fs.length
  | [], ps, h => by unfold RepP at h; rw [h]; rfl
  | (k, x) :: r, ps, h => by
    unfold RepP at h
    obtain ⟨v, q, rfl, _, h2⟩ := h
    rw [List.length_cons, List.length_cons, len_fs h2]
theorem sfld {o value : Expr} {f : Str} {pos' : Pos} {cs : List Nat} {mo mv : ME} (hC : ∀ c ∈ cs, Cls X.K (cA c) ∧ NoAttr X.K (cA c) f) (ho : PE X o (tE X.K cA W mo)) (hv : PE X value (tE X.K cA W mv)) (hs : swapsWith value (some (.Attribute o f pos')) pos.line X.env = pure false := by rfl) :
    PS X (.Assign [.Attribute o f pos'] value pos) (tS X.K cA W (fldS cs f mo mv)) :=
  (ps_fld ho hv hs).imp fun E σ H h => (after_L (rep := rV X.K) h).imp fun y H1 h => by
    obtain ⟨ρ, S, l, d, hS, hl, hr, h⟩ := h
    refine ⟨ρ, S, l, hS, hl, (After.bind (rep := rV X.K) st_S h).imp fun x H2 h => ?_⟩
    obtain ⟨ρ1, S1, o, e1, hS1, r1, h⟩ := h
    split at h
    · split at h
      · rename_i n c fs ei
        split at h
        · rename_i hc
          obtain ⟨a, dx, ps, rfl, ha, h1, h2⟩ := rins_rep hS1 r1 ei
          have EE : Ext ρ1 H2 ρ1 (upd H2 a (.ins (cA c) dx (putF f y ps))) := Ext.write ha h1 True.intro
          refine ⟨a, cA c, dx, ps, rfl, h1, (hC c hc.1).1, (hC c hc.1).2, by rw [len_fs h2]; exact hc.2, ?_⟩
          exact h ρ1 _ (FlV.nx, σ) EE (hS1.write ha h1 True.intro ⟨dx, _, upd_same, (putD_rep (hr.ext e1) h2).ext EE⟩) ⟨((hl.ext e1).ext EE), trivial⟩
        · exact h.elim
      · exact h.elim
    · exact h.elim

/-! ### while -/
theorem again_of {ρ : List Addr} {H : Hp} {r : R (Fl × Loc)} {E : Ends} {N : L2.St → Hp → Prop} (hN : ∀ σ' H', tS K cA W n E σ' H' → N σ' H') (h : After K cA W ρ H (rS K) (r.bind (againS n)) (endQ E)) : After K cA W ρ H (rS K) r (endQ { E with nx := N, ct := N, bk := E.nx }) := by
  refine (After.bind (rep := rS K) st_S h).imp fun b H1 h => ?_
  obtain ⟨ρ1, S1, a, e1, hS, ⟨hl, hf⟩, h⟩ := h
  obtain ⟨f, l⟩ := a
  obtain ⟨g, σ⟩ := b
  cases f with
  | nx => cases g with
    | nx => exact hN σ H1 ⟨ρ1, S1, l, hS, hl, h⟩
    | _ => exact hf.elim
  | rt d => cases g with
    | rt v => exact After.same (rep := rS K) (a := (Fl.rt d, l)) (b := (FlV.rt v, σ)) (Q := endQ E) h hS ⟨hl, hf⟩
    | _ => exact hf.elim
  | bk => cases g with
    | bk => exact After.same (rep := rS K) (a := (Fl.nx, l)) (b := (FlV.nx, σ)) (Q := endQ E) h hS ⟨hl, trivial⟩
    | _ => exact hf.elim
  | ct => cases g with
    | ct => exact hN σ H1 ⟨ρ1, S1, l, hS, hl, h⟩
    | _ => exact hf.elim
theorem swhile {body : List Stmt} {b : MS} (k : Nat) (hp : PassesOwn (model X.prog X.w) X.A X.env X.xe) (hc : PT X c (tT X.K cA W p)) (hb : PSs X body (tS X.K cA W b)) : PS X (.While c body [] pos) (tS X.K cA W (whileS p b k)) :=
  (ps_while hp hc hb).imp fun E σ H h => by
    refine ⟨fun m σ H => tS X.K cA W (whileS p b m) E σ H, ⟨k, h⟩, fun m σ H h => ?_⟩
    cases m with
    | zero => obtain ⟨ρ, S, l, hS, hl, h⟩ := h; exact h.elim
    | succ m =>
      refine (after_L (rep := rId) h).imp fun t H1 h => ?_
      obtain ⟨ρ, S, l, d, hS, hl, hr, h⟩ := h
      subst hr
      cases d with
      | true => exact ⟨fun σ' H' => tS X.K cA W (whileS p b m) E σ' H', fun σ' H' h => ⟨m, Nat.lt_succ_self m, h⟩, ρ, S, l, hS, hl, again_of (fun _ _ h => h) h⟩
      | false => exact After.same (b := (FlV.nx, σ)) h hS ⟨hl, trivial⟩
end

/-! ### what is walked -/
structure SrcOk (K : PySem.W.Frag) (cA : Nat → Addr) (J : It) (ρ1 : List Addr) (H1 : Hp) (p : Sn) : Prop where
  go : ∀ (ρ : List Addr) (H : Hp) (S : Store), Ext ρ1 H1 ρ H → Reps K cA ρ H S → p.2 S → ∀ (i : Nat) (d : D), p.1[i]? = some d → J.go i H ∧ ∀ x H', J.yld i H x H' → Ext ρ H ρ H' ∧ (∀ a ∈ ρ, H' a = H a) ∧ RepV K ρ H' d x
  stop : ∀ (ρ : List Addr) (H : Hp) (S : Store), Ext ρ1 H1 ρ H → Reps K cA ρ H S → p.2 S → J.stop p.1.length H
def rSrc (K : PySem.W.Frag) (cA : Nat → Addr) : Rel Sn It := fun _ ρ H p J => SrcOk K cA J ρ H p
theorem st_Src {K : PySem.W.Frag} {cA : Nat → Addr} : Stable (rSrc K cA) := fun _ _ _ _ _ _ _ _ _ h => h
def tSrc (K : PySem.W.Frag) (cA : Nat → Addr) (W : XK) (m : Loc → Store → R Sn) : TI := tG K cA W (rSrc K cA) m
section
variable {X : Cx} {cA : Nat → Addr} {W : XK} {pos : Pos} {tg iter : Expr} {b : MS} {t : MT} {src : Loc → Store → R Sn}
theorem sfor {body : List Stmt} (hp : PassesOwn (model X.prog X.w) X.A X.env X.xe) (hc : X.calm = true) (hi : PI X tg iter (tSrc X.K cA W src)) (hg : PG X tg (tTg X.K cA W t)) (hb : PSs X body (tS X.K cA W b))
    (hs : ∀ x, foldedSetIterable iter X.env x = pure x := by intro _; rfl) : PS X (.For tg iter body [] pos) (tS X.K cA W (forS src t b)) :=
  (ps_for hp hc hi hg hb hs).imp fun E σ H h => (after_L (rep := rSrc X.K cA) h).imp fun J H1 h => by
    obtain ⟨ρ1, S1, l1, q, hS1, hl1, hJ, h⟩ := h
    obtain ⟨ds, chk⟩ := q
    refine ⟨fun i m σ H => ∃ ρ S l, Ext ρ1 H1 ρ H ∧ Reps X.K cA ρ H S ∧ RepL X.K ρ H l σ ∧ m + i = ds.length ∧ After X.K cA W ρ H (rS X.K) (forL chk t b (ds.drop i) l S) (endQ E), ⟨ds.length, ρ1, S1, l1, Ext.refl _ _, hS1, hl1, by omega, by rw [List.drop_zero]; exact h⟩, fun i m σ H h => ?_⟩
    obtain ⟨ρ, S, l, e1, hS, hl, hm, h⟩ := h
    by_cases hi : i < ds.length
    · have hd : ds.drop i = ds[i] :: ds.drop (i + 1) := List.drop_eq_getElem_cons hi
      rw [hd] at h
      unfold forL at h
      split at h
      · rename_i hk
        obtain ⟨hgo, hy⟩ := hJ.go ρ H S e1 hS hk i ds[i] (List.getElem?_eq_getElem hi)
        refine .inr ⟨hgo, fun σ' H' => ∃ ρ S l, Ext ρ1 H1 ρ H' ∧ Reps X.K cA ρ H' S ∧ RepL X.K ρ H' l σ' ∧ After X.K cA W ρ H' (rS X.K) (forL chk t b (ds.drop (i + 1)) l S) (endQ E), fun σ' H' ⟨ρ', S', l', a1, a2, a3, a4⟩ => ⟨m - 1, by omega, ρ', S', l', a1, a2, a3, by omega, a4⟩, fun x H' y => ?_⟩
        obtain ⟨e2, same, rx⟩ := hy x H' y
        have hS' := hS.other e2 same
        refine ⟨ρ, S, l, ds[i], hS', hl.ext e2, rx, ?_⟩
        have h' := After.back st_S e2 h
        refine (After.bind' (rep := rL X.K) st_S h').imp fun σ2 H2 h => ?_
        obtain ⟨ρ2, S2, l2, e3, hS2, hl2, h⟩ := h
        refine ⟨ρ2, S2, l2, hS2, hl2, ?_⟩
        have e13 := (e1.trans e2).trans e3
        refine (After.bind (rep := rS X.K) st_S h).imp fun bb H3 h => ?_
        obtain ⟨ρ3, S3, a, e4, hS3, ⟨hl3, hf⟩, h⟩ := h
        obtain ⟨f, l3⟩ := a
        obtain ⟨g, σ3⟩ := bb
        cases f with
        | nx => cases g with
          | nx => exact ⟨ρ3, S3, l3, e13.trans e4, hS3, hl3, h⟩
          | _ => exact hf.elim
        | rt d => cases g with
          | rt v => exact After.same (rep := rS X.K) (a := (Fl.rt d, l3)) (b := (FlV.rt v, σ3)) (Q := endQ E) h hS3 ⟨hl3, hf⟩
          | _ => exact hf.elim
        | bk => cases g with
          | bk => exact After.same (rep := rS X.K) (a := (Fl.nx, l3)) (b := (FlV.nx, σ3)) (Q := endQ E) h hS3 ⟨hl3, trivial⟩
          | _ => exact hf.elim
        | ct => cases g with
          | ct => exact ⟨ρ3, S3, l3, e13.trans e4, hS3, hl3, h⟩
          | _ => exact hf.elim
      · exact h.elim
    · have ei : i = ds.length := by omega
      subst ei
      rw [List.drop_length] at h
      unfold forL at h
      split at h
      · rename_i hk
        exact .inl ⟨hJ.stop ρ H S e1 hS hk, After.same (b := (FlV.nx, σ)) h hS ⟨hl, trivial⟩⟩
      · exact h.elim
where
  After.bind' {α β γ δ : Type} {K : PySem.W.Frag} {cA : Nat → Addr} {W : XK} {ρ : List Addr} {H : Hp} {rep : Rel α β} {rep' : Rel γ δ} (st : Stable rep') {r : R α} {f : α → Store → R γ} {Q : δ → Hp → Prop} (h : After K cA W ρ H rep' (r.bind f) Q) :
    After K cA W ρ H rep r fun b H1 => ∃ ρ1 S1 a, Ext ρ H ρ1 H1 ∧ Reps K cA ρ1 H1 S1 ∧ rep H ρ1 H1 a b ∧ After K cA W ρ1 H1 rep' (f a S1) Q := After.bind st h
end
end ML

set_option Elab.async false
set_option linter.all false
set_option maxRecDepth 100000
set_option autoImplicit false
/-! ML8: what is walked, comprehensions, calls, defs. -/
namespace ML
open PySem PySem.Spec L2

/-! ### what is walked -/
def still : Store → Prop := fun _ => True
def signsOf (z : Str) : List D := z.cps.toList.map fun c => .str ⟨#[c]⟩
/-- the items of a value -/
def srcD (d : D) (S : Store) : R Sn := match d with
  | .tup xs => .ok (xs, still) S
  | .lis xs => .ok (xs, still) S
  | .str z => .ok (signsOf z, still) S
  | .ref n => match lstAt S n with
    | some xs => .ok (xs, fun S' => lstAt S' n = some xs) S
    | none => .bad
  | _ => .bad
def srcV (m : ME) : Loc → Store → R Sn := fun l S => (m l S).bind srcD
def srcN (m : MA) : Loc → Store → R Sn := fun l S => (m l S).bind fun ds S1 => .ok (ds, still) S1
def intsFrom (lo : Int) (n : Nat) : List D := (List.range n).map fun i => .int (lo + (i : Nat))
def rng1 (ds : List D) (S : Store) : R Sn := match ds with
  | [.int j] => if -(2 ^ 62) ≤ j ∧ j < 2 ^ 62 then .ok (intsFrom 0 j.toNat, still) S else .bad
  | _ => .bad
def rng2 (ds : List D) (S : Store) : R Sn := match ds with
  | [.int i, .int j] => if -(2 ^ 62) ≤ i ∧ i < 2 ^ 62 ∧ -(2 ^ 62) ≤ j ∧ j < 2 ^ 62 then .ok (intsFrom i (j - i).toNat, still) S else .bad
  | _ => .bad
def srcR1 (m : MA) : Loc → Store → R Sn := fun l S => (m l S).bind rng1
def srcR2 (m : MA) : Loc → Store → R Sn := fun l S => (m l S).bind rng2
section
variable {X : Cx} {cA : Nat → Addr} {W : XK} {pos p0 : Pos} {tg e a b : Expr} {m : ME} {n : MA} {K : PySem.W.Frag}
theorem _root_.L2.PI.imp {X : Cx} {tg e : Expr} {w w' : TI} (h : PI X tg e w) (i : ∀ σ H R, w' σ H R → w σ H R) : PI X tg e w' := ⟨fun pins s σ H R I q => h.run pins s σ H R I (i σ H R q)⟩
theorem _root_.L2.PI.or {X : Cx} {tg e : Expr} {w w' : TI} (h : PI X tg e w) (h' : PI X tg e w') : PI X tg e (fun σ H R => w σ H R ∨ w' σ H R) := ⟨fun pins s σ H R I q => q.elim (h.run pins s σ H R I) (h'.run pins s σ H R I)⟩
theorem ext_self {ρ : List Addr} {H : Hp} : Ext ρ H ρ H ∧ ∀ a ∈ ρ, H a = H a := ⟨Ext.refl _ _, fun _ _ => rfl⟩
/-- a tuple that stands -/
theorem src_tup {ρ : List Addr} {H : Hp} {x : Addr} {vs : List V} {ds : List D} (hs : SqT K H x vs) (hr : RepVs K ρ H ds vs) : SrcOk K cA (Itt K x) ρ H (ds, still) := by
  have len := RepVs.length hr
  refine ⟨fun ρ' H' S e _ _ i d hd => ?_, fun ρ' H' S e _ _ => ⟨vs, SqT.ext e hs, Nat.le_of_eq len⟩⟩
  obtain ⟨v, hv, r⟩ := RepVs.get hr i d hd
  refine ⟨⟨vs, v, SqT.ext e hs, hv⟩, fun y H2 hy => ?_⟩
  obtain ⟨rfl, hy⟩ := hy
  have : vs[i]? = some y := hy vs (SqT.ext e hs)
  rw [hv] at this
  cases this
  exact ⟨ext_self.1, ext_self.2, r.ext e⟩
/-- a list that stands -/
theorem src_lst {ρ : List Addr} {H : Hp} {x : Addr} {ds : List D} {chk : Store → Prop} (hs : ∀ (ρ' : List Addr) (H' : Hp) (S : Store), Ext ρ H ρ' H' → Reps K cA ρ' H' S → chk S → ∃ vs, SqL K H' x vs ∧ RepVs K ρ' H' ds vs) : SrcOk K cA (Itl K x) ρ H (ds, chk) := by
  refine ⟨fun ρ' H' S e hS hk i d hd => ?_, fun ρ' H' S e hS hk => ?_⟩
  · obtain ⟨vs, hq, hr⟩ := hs ρ' H' S e hS hk
    obtain ⟨v, hv, r⟩ := RepVs.get hr i d hd
    refine ⟨⟨vs, v, hq, hv⟩, fun y H2 hy => ?_⟩
    obtain ⟨rfl, hy⟩ := hy
    have : vs[i]? = some y := hy vs hq
    rw [hv] at this
    cases this
    exact ⟨ext_self.1, ext_self.2, r⟩
  · obtain ⟨vs, hq, hr⟩ := hs ρ' H' S e hS hk
    exact ⟨vs, hq, Nat.le_of_eq (RepVs.length hr)⟩
theorem src_str {ρ : List Addr} {H : Hp} {z : Str} : SrcOk K cA (Its z) ρ H (signsOf z, still) := by
  have len : (signsOf z).length = z.cps.size := by simp [signsOf]
  refine ⟨fun ρ' H' S e _ _ i d hd => ?_, fun ρ' H' S e _ _ => Nat.le_of_eq len.symm⟩
  have hi : i < z.cps.size := by rw [← len]; exact (List.getElem?_eq_some_iff.mp hd).1
  refine ⟨hi, fun y H2 hy => ?_⟩
  obtain ⟨rfl, c, hc, rfl⟩ := hy
  refine ⟨ext_self.1, ext_self.2, ?_⟩
  have : d = .str ⟨#[c]⟩ := by
    unfold signsOf at hd
    rw [List.getElem?_map] at hd
    have hc' : z.cps.toList[i]? = some c := by simpa using hc
    rw [hc'] at hd
    exact (Option.some.inj hd).symm
  rw [this]
  unfold RepV
  rfl
theorem src_int {ρ : List Addr} {H : Hp} {lo : Int} {n : Nat} : SrcOk K cA (Itr lo n) ρ H (intsFrom lo n, still) := by
  have len : (intsFrom lo n).length = n := by simp [intsFrom]
  refine ⟨fun ρ' H' S e _ _ i d hd => ?_, fun ρ' H' S e _ _ => Nat.le_of_eq len.symm⟩
  have hi : i < n := by rw [← len]; exact (List.getElem?_eq_some_iff.mp hd).1
  refine ⟨hi, fun y H2 hy => ?_⟩
  obtain ⟨rfl, rfl⟩ := hy
  refine ⟨ext_self.1, ext_self.2, ?_⟩
  have : d = .int (lo + (i : Nat)) := by
    unfold intsFrom at hd
    rw [List.getElem?_map, List.getElem?_range hi] at hd
    exact (Option.some.inj hd).symm
  rw [this]
  unfold RepV
  rfl
/-- for .. in a value -/
theorem isrc (he : PE X e (tE X.K cA W m)) : PI X tg e (tSrc X.K cA W (srcV m)) :=
  ((pi_tup he).or ((pi_list he).or (pi_str he))).imp fun σ H R h => by
    obtain ⟨ρ, S, l, hS, hl, h⟩ := h
    unfold srcV at h
    generalize hm : m l S = r at h
    -- the kind is known at the outset: the value is
    cases r with
    | bad => exact h.elim
    | ex x S1 =>
      refine .inl ⟨ρ, S, l, hS, hl, ?_⟩
      rw [hm]
      exact h
    | ok d S1 =>
      have h : After X.K cA W ρ H (rSrc X.K cA) (srcD d S1) R := h
      unfold srcD at h
      have st : ∀ {k : It → Hp → Prop} {q : V → Hp → Prop}, (∀ ρ' H' v, Ext ρ H ρ' H' → Reps X.K cA ρ' H' S1 → RepV X.K ρ' H' d v → q v H') → tE X.K cA W m σ H q := fun {k q} hq => ⟨ρ, S, l, hS, hl, by rw [hm]; exact hq⟩
      split at h
      · refine .inl (st (k := R) fun ρ' H' v e1 hS1 hr => ?_)
        unfold RepV at hr
        obtain ⟨x, vs, rfl, h1, h2⟩ := hr
        exact ⟨x, rfl, ⟨vs, h1⟩, h ρ' H' _ e1 hS1 (src_tup h1 h2)⟩
      · refine .inr (.inl (st (k := R) fun ρ' H' v e1 hS1 hr => ?_))
        unfold RepV at hr
        obtain ⟨x, vs, rfl, h1, h2⟩ := hr
        exact ⟨x, rfl, ⟨vs, h1.sq⟩, h ρ' H' _ e1 hS1 (src_lst (chk := still) fun ρ2 H2 S2 e2 _ _ => ⟨vs, (h1.ext e2).sq, RepVs.ext e2 h2⟩)⟩
      · refine .inr (.inr (st (k := R) fun ρ' H' v e1 hS1 hr => ?_))
        unfold RepV at hr
        subst hr
        exact ⟨_, rfl, h ρ' H' _ e1 hS1 src_str⟩
      · split at h
        · rename_i n _ _ xs e0
          refine .inr (.inl (st (k := R) fun ρ' H' v e1 hS1 hr => ?_))
          obtain ⟨x, vs, rfl, ha, h1, h2⟩ := rlst_rep hS1 hr e0
          refine ⟨x, rfl, ⟨vs, SqL.of h1⟩, h ρ' H' _ e1 hS1 (src_lst fun ρ2 H2 S2 e2 hS2 hk => ?_)⟩
          have hr2 : RepV X.K ρ2 H2 (.ref n) (.ref x) := hr.ext e2
          obtain ⟨x', vs', ex, _, h3, h4⟩ := rlst_rep hS2 hr2 hk
          cases ex
          exact ⟨vs', SqL.of h3, h4⟩
        · exact h.elim
      · exact h.elim
/-- for .. in a new list -/
theorem isrcN (he : PE X e (tNw X.K cA W n)) : PI X tg e (tSrc X.K cA W (srcN n)) :=
  (pi_list he).imp fun σ H R h => by
    obtain ⟨ρ, S, l, hS, hl, h⟩ := h
    refine ⟨ρ, S, l, hS, hl, (After.bind (rep := rNew X.K) st_Src h).imp fun v H1 h => ?_⟩
    obtain ⟨ρ1, S1, ds, e1, hS1, ⟨p, vs, rfl, h0, hn, h1, h2⟩, h⟩ := h
    exact ⟨p, rfl, ⟨vs, SqL.of h1⟩, After.same (rep := rSrc X.K cA) h hS1 (src_lst (chk := still) fun ρ2 H2 S2 e2 _ _ => ⟨vs, SqL.of (e2.keep p _ h1 hn), RepVs.ext e2 h2⟩)⟩
theorem irng1 (hg : Gl X "range") (hm : X.mg "range" = none) (ha : PA X [a] (tAs X.K cA W n)) (hs : starEach [a] X.env = [(false, eval a X.env)] := by rfl) : PI X tg (.Call (.Name "range" p0) [a] [] pos) (tSrc X.K cA W (srcR1 n)) :=
  (pi_range1 hg hm ha hs).imp fun σ H R h => (bind1 (rep1 := rVs X.K) st_Src h).imp fun vs H1 h => by
    obtain ⟨ρ, S, ds, hS, hr, h⟩ := h
    unfold rng1 at h
    split at h
    · split at h
      · rename_i hz
        obtain ⟨v, rfl, h1⟩ := one_rep hr
        unfold RepV at h1
        subst h1
        exact ⟨_, rfl, hz.1, hz.2, After.same (rep := rSrc X.K cA) h hS src_int⟩
      · exact h.elim
    · exact h.elim
theorem irng2 (hg : Gl X "range") (hm : X.mg "range" = none) (ha : PA X [a, b] (tAs X.K cA W n)) (hs : starEach [a, b] X.env = [(false, eval a X.env), (false, eval b X.env)] := by rfl) (hs2 : starEach [b] X.env = [(false, eval b X.env)] := by rfl) : PI X tg (.Call (.Name "range" p0) [a, b] [] pos) (tSrc X.K cA W (srcR2 n)) :=
  (pi_range2 hg hm ha hs hs2).imp fun σ H R h => (bind1 (rep1 := rVs X.K) st_Src h).imp fun vs H1 h => by
    obtain ⟨ρ, S, ds, hS, hr, h⟩ := h
    unfold rng2 at h
    split at h
    · split at h
      · rename_i hz
        obtain ⟨v, w, rfl, h1, h2⟩ := two_rep hr
        unfold RepV at h1 h2
        subst h1 h2
        exact ⟨_, _, rfl, hz, After.same (rep := rSrc X.K cA) h hS src_int⟩
      · exact h.elim
    · exact h.elim
end

/-! ### comprehensions -/
def R.noex {α : Type} : R α → R α
  | .ok a S => .ok a S
  | _ => .bad
abbrev W0 : XK := fun _ _ _ => False
theorem After.noex {α β : Type} {K : PySem.W.Frag} {cA : Nat → Addr} {W W' : XK} {ρ : List Addr} {H : Hp} {rep : Rel α β} {r : R α} {Q : β → Hp → Prop} (h : After K cA W ρ H rep r.noex Q) : After K cA W' ρ H rep r Q := by
  cases r with
  | ok a S => exact h
  | ex x S => exact h.elim
  | bad => exact h.elim
theorem noex_bind {α β : Type} (r : R α) (f : α → Store → R β) : (r.bind f).noex = r.noex.bind fun a S => (f a S).noex := by cases r <;> rfl
/-- the slots of the block's own names -/
def wipeL (l : Loc) : List Nat → Loc
  | [] => l
  | v :: vs => (wipeL l vs).set v none
def yesM : MB := fun _ S => .ok true S
/-- how a block's target is set: one name, or several -/
inductive Tgt where
  | one (i : Nat) | many (is : List Nat)
def Tgt.own : Tgt → List Nat
  | .one i => [i]
  | .many is => is
def Tgt.put (t : Tgt) (d : D) (l : Loc) : Option Loc := match t with
  | .one i => some (l.set i (some d))
  | .many is => match d with
    | .tup xs => namesL is xs l
    | _ => none
open Classical in
noncomputable def compL (chk : Store → Prop) (t : Tgt) (c : MB) (m : ME) (l : Loc) : List D → List D → Store → R (List D)
  | [], acc, S => if chk S then .ok acc S else .bad
  | d :: ds, acc, S => if chk S then (match t.put d l with
    | some l1 => (c l1 S).bind fun b S1 => if b = true then (m l1 S1).bind fun y S2 => if acc.length < sizeLine then compL chk t c m l ds (acc ++ [y]) S2 else .bad else compL chk t c m l ds acc S1
    | none => .bad) else .bad
noncomputable def compN (src : Loc → Store → R Sn) (t : Tgt) (c : MB) (m : ME) : MA := fun l S => (src l S).bind fun p S1 => (compL p.2 t c m (wipeL l t.own) p.1 [] S1).noex
section
variable {X : Cx} {cA : Nat → Addr} {W : XK} {K : PySem.W.Frag}
theorem RepL.wipe {ρ : List Addr} {H : Hp} {l : Loc} {σ : L2.St} (h : RepL K ρ H l σ) : ∀ vs : List Nat, RepL K ρ H (wipeL l vs) (wipe σ vs)
  | [] => h
  | v :: vs => by
    have ih := RepL.wipe h vs
    refine ⟨by unfold wipeL L2.wipe; rw [List.length_set, List.length_set]; exact ih.len, fun j e hj => ?_⟩
    unfold wipeL at hj
    unfold L2.wipe
    by_cases q : v = j
    · subst q
      have hi : v < (wipeL l vs).length := by
        have := (List.getElem?_eq_some_iff.mp hj).1
        rwa [List.length_set] at this
      rw [List.getElem?_set_self hi] at hj
      cases hj
    · rw [List.getElem?_set_ne q] at hj
      obtain ⟨w, hw, r⟩ := ih.at_ j e hj
      exact ⟨w, by rw [List.getElem?_set_ne q]; exact hw, r⟩
theorem set_wipe {σ : L2.St} {i : Nat} {v : Option V} : ∀ {vs : List Nat}, i ∈ vs → wipe (σ.set i v) vs = wipe σ vs
  | [], h => nomatch h
  | j :: vs, h => by
    unfold L2.wipe
    by_cases q : j = i
    · subst q
      by_cases hm : j ∈ vs
      · rw [set_wipe hm]
      · rw [wipe_set_comm hm, List.set_set]
    · rcases List.mem_cons.mp h with e | hm
      · exact absurd e.symm q
      · rw [set_wipe hm]
where
  wipe_set_comm {σ : L2.St} {i : Nat} {v : Option V} : ∀ {vs : List Nat}, i ∉ vs → wipe (σ.set i v) vs = (wipe σ vs).set i v
    | [], _ => rfl
    | j :: vs, h => by
      unfold L2.wipe
      have h1 : j ≠ i := fun e => h (by simp [e])
      have h2 : i ∉ vs := fun e => h (by simp [e])
      rw [wipe_set_comm h2, List.set_comm _ _ (Ne.symm h1)]
/-- the raw reading of a target -/
def gT (K : PySem.W.Frag) : Tgt → TG
  | .one i => gName i
  | .many is => gTup K is.length (gNms is)
theorem gNms_of {ρ : List Addr} {H : Hp} : ∀ {is : List Nat} {ds : List D} {vs : List V} {l l1 : Loc} {σ : L2.St} {own : List Nat} {Q : L2.St → Hp → Prop}, (∀ i ∈ is, i ∈ own) → namesL is ds l = some l1 → RepVs K ρ H ds vs → RepL K ρ H l σ →
    (∀ σ1, RepL K ρ H l1 σ1 → wipe σ1 own = wipe σ own → Q σ1 H) → gNms is vs σ H Q
  | [], [], vs, l, l1, σ, own, Q, ho, h, r, hl, q => by
    unfold RepVs at r
    cases h
    exact ⟨r, q σ hl rfl⟩
  | i :: is, d :: ds, vs, l, l1, σ, own, Q, ho, h, r, hl, q => by
    unfold RepVs at r
    obtain ⟨v, w, rfl, h1, h2⟩ := r
    refine ⟨v, w, rfl, gNms_of (is := is) (own := own) (fun i hi => ho i (List.mem_cons_of_mem _ hi)) h h2 (hl.set h1 i) fun σ1 hl1 e => q σ1 hl1 ?_⟩
    rw [e, set_wipe (ho i List.mem_cons_self)]
  | [], _ :: _, _, _, _, _, _, _, _, h, _, _, _ => nomatch h
  | _ :: _, [], _, _, _, _, _, _, _, h, _, _, _ => nomatch h
theorem gT_of {ρ : List Addr} {H : Hp} {t : Tgt} {d : D} {v : V} {l l1 : Loc} {σ : L2.St} {Q : L2.St → Hp → Prop} (h : t.put d l = some l1) (r : RepV K ρ H d v) (hl : RepL K ρ H l σ) (q : ∀ σ1, RepL K ρ H l1 σ1 → wipe σ1 t.own = wipe σ t.own → Q σ1 H) : gT K t v σ H Q := by
  cases t with
  | one i =>
    cases h
    exact q _ (hl.set r i) (set_wipe (by simp [Tgt.own]))
  | many is =>
    unfold Tgt.put at h
    cases d with
    | tup xs =>
      unfold RepV at r
      obtain ⟨a, vs, rfl, h1, h2⟩ := r
      exact ⟨a, vs, rfl, h1, by rw [RepVs.length h2]; exact namesL_len h, gNms_of (own := is) (fun _ h => h) h h2 hl q⟩
    | _ => cases h
theorem wipe_wipe {σ : L2.St} : ∀ {vs : List Nat}, wipe (wipe σ vs) vs = wipe σ vs
  | [] => rfl
  | v :: vs => by
    rw [show wipe σ (v :: vs) = (wipe σ vs).set v none from rfl]
    exact (set_wipe List.mem_cons_self).trans (by show (wipe (wipe σ vs) vs).set v none = _; rw [wipe_wipe])
variable {elt tg iter : Expr} {ifs : List Expr} {scope : Scope} {own : List (Str × Nat)} {pos spos : Pos} {src : Loc → Store → R Sn} {t : Tgt} {c : MB} {m : ME}
mutual
theorem RepV.hp {ρ : List Addr} {H H' : Hp} (t1 : ∀ a xs, Rd H a (.tup xs) → Rd H' a (.tup xs)) (t2 : ∀ a o xs, H a = some (.frz o (.lst xs)) → H' a = some (.frz o (.lst xs))) : ∀ {d : D} {v : V}, RepV K ρ H d v → RepV K ρ H' d v
  | .non, _, h => h
  | .bl _, _, h => h
  | .int _, _, h => h
  | .str _, _, h => h
  | .tup xs, v, h => by
    unfold RepV at h ⊢
    obtain ⟨a, vs, ev, hs, hr⟩ := h
    refine ⟨a, vs, ev, ?_, RepVs.hp t1 t2 hr⟩
    rcases hs with hs | hs
    · exact .inl (t1 a vs hs)
    · exact .inr hs
  | .lis xs, v, h => by
    unfold RepV at h ⊢
    obtain ⟨a, vs, ev, hs, hr⟩ := h
    refine ⟨a, vs, ev, ?_, RepVs.hp t1 t2 hr⟩
    rcases hs with ⟨o, hs⟩ | hs
    · exact .inl ⟨o, t2 a o vs hs⟩
    · exact .inr hs
  | .ref n, v, h => h
  | .exn _, v, h => h
theorem RepVs.hp {ρ : List Addr} {H H' : Hp} (t1 : ∀ a xs, Rd H a (.tup xs) → Rd H' a (.tup xs)) (t2 : ∀ a o xs, H a = some (.frz o (.lst xs)) → H' a = some (.frz o (.lst xs))) : ∀ {ds : List D} {vs : List V}, RepVs K ρ H ds vs → RepVs K ρ H' ds vs
  | [], _, h => h
  | x :: xs, vs, h => by
    unfold RepVs at h ⊢
    obtain ⟨v, r, ev, h1, h2⟩ := h
    exact ⟨v, r, ev, RepV.hp t1 t2 h1, RepVs.hp t1 t2 h2⟩
end
theorem RepP.hp {ρ : List Addr} {H H' : Hp} (t1 : ∀ a xs, Rd H a (.tup xs) → Rd H' a (.tup xs)) (t2 : ∀ a o xs, H a = some (.frz o (.lst xs)) → H' a = some (.frz o (.lst xs))) {κ : Type} : ∀ {kvs : List (κ × D)} {ps : List (κ × V)}, RepP K ρ H kvs ps → RepP K ρ H' kvs ps
  | [], _, h => h
  | (k, x) :: r, ps, h => by
    unfold RepP at h ⊢
    obtain ⟨v, q, ev, h1, h2⟩ := h
    exact ⟨v, q, ev, h1.hp t1 t2, RepP.hp t1 t2 h2⟩
/-- an inner step, the wish kept of where it began -/
theorem After.step {α β γ δ : Type} {W : XK} {ρ1 ρ2 : List Addr} {H1 H2 : Hp} {rep : Rel α β} {rep' : Rel γ δ} {r : R α} {f : α → Store → R γ} {Q : δ → Hp → Prop} (h : After K cA W ρ1 H1 rep' (r.bind f) Q) (e : Ext ρ1 H1 ρ2 H2) :
    After K cA W ρ2 H2 rep r fun b H3 => ∃ ρ3 S3 a, Ext ρ2 H2 ρ3 H3 ∧ Reps K cA ρ3 H3 S3 ∧ rep H2 ρ3 H3 a b ∧ After K cA W ρ1 H1 rep' (f a S3) Q := by
  cases r with
  | ok a S => exact fun ρ' H' b e' hs hr => ⟨ρ', S, a, e', hs, hr, h⟩
  | ex x S => exact fun ρ' H' c d e' hs hr => h ρ' H' c d (e.trans e') hs hr
  | bad => exact h
/-- the list that is being built is written -/
structure Owned (D0 : Addr) (ρ1 : List Addr) (H1 : Hp) (ρ2 : List Addr) (H2 : Hp) (vs : List V) : Prop where
  no : H1 D0 = none
  ext : Ext ρ1 H1 ρ2 H2
  nin : D0 ∉ ρ2
  at_ : H2 D0 = some (.lst vs)
section
variable {D0 : Addr} {ρ1 ρ2 ρ3 : List Addr} {H1 H2 H3 : Hp} {vs ws : List V}
theorem Owned.go (o : Owned D0 ρ1 H1 ρ2 H2 vs) (e : Ext ρ2 H2 ρ3 H3) : Owned D0 ρ1 H1 ρ3 H3 vs := by
  refine ⟨o.no, o.ext.trans e, fun hm => ?_, e.keep D0 _ o.at_ o.nin⟩
  obtain ⟨r, er, nr⟩ := e.pre
  rw [er] at hm
  rcases List.mem_append.mp hm with z | z
  · exact o.nin z
  · have := nr D0 z
    rw [o.at_] at this; cases this
theorem Owned.t1 (o : Owned D0 ρ1 H1 ρ2 H2 vs) : ∀ a xs, Rd H2 a (.tup xs) → Rd (upd H2 D0 (.lst ws)) a (.tup xs) := fun a xs h => by
  have ne : a ≠ D0 := by
    rintro rfl
    rcases h with h | ⟨u, h⟩ <;> (rw [o.at_] at h; cases h)
  rcases h with h | ⟨u, h⟩
  · exact .inl (by rw [upd_ne ne]; exact h)
  · exact .inr ⟨u, by rw [upd_ne ne]; exact h⟩
theorem Owned.t2 (o : Owned D0 ρ1 H1 ρ2 H2 vs) : ∀ a u xs, H2 a = some (.frz u (.lst xs)) → (upd H2 D0 (.lst ws)) a = some (.frz u (.lst xs)) := fun a u xs h => by
  have ne : a ≠ D0 := by
    rintro rfl
    rw [o.at_] at h; cases h
  rw [upd_ne ne]; exact h
theorem Owned.put (o : Owned D0 ρ1 H1 ρ2 H2 vs) : Owned D0 ρ1 H1 ρ2 (upd H2 D0 (.lst ws)) ws := by
  have ne : ∀ {b : Addr}, H1 b ≠ none → b ≠ D0 := fun {b} hb e => hb (by rw [e]; exact o.no)
  obtain ⟨r, er, nr⟩ := o.ext.pre
  refine ⟨o.no, ⟨⟨r, er, nr⟩, fun b q hb nb => ?_, fun b xs hb => o.t1 b xs (o.ext.tups b xs hb), fun b q xs hb => o.t2 b q xs (o.ext.frzs b q xs hb), fun b hb => ?_⟩, o.nin, upd_same⟩
  · rw [upd_ne (ne (by rw [hb]; simp))]; exact o.ext.keep b q hb nb
  · rw [upd_ne (ne hb)]; exact o.ext.there b hb
theorem Owned.reps {S : Store} (o : Owned D0 ρ1 H1 ρ2 H2 vs) (h : Reps K cA ρ2 H2 S) : Reps K cA ρ2 (upd H2 D0 (.lst ws)) S := by
  refine ⟨h.len, h.nd, fun n c a hc ha => ?_⟩
  have na : a ≠ D0 := fun e => o.nin (by rw [← e]; exact List.mem_of_getElem? ha)
  have q := h.at_ n c a hc ha
  cases c with
  | lst xs => obtain ⟨vs, h1, h2⟩ := q; exact ⟨vs, by rw [upd_ne na]; exact h1, h2.hp o.t1 o.t2⟩
  | dct xs => obtain ⟨vs, h1, h2⟩ := q; exact ⟨vs, by rw [upd_ne na]; exact h1, h2.hp o.t1 o.t2⟩
  | dlk xs => obtain ⟨u, vs, h1, h2⟩ := q; exact ⟨u, vs, by rw [upd_ne na]; exact h1, h2.hp o.t1 o.t2⟩
  | ins c xs => obtain ⟨dx, vs, h1, h2⟩ := q; exact ⟨dx, vs, by rw [upd_ne na]; exact h1, h2.hp o.t1 o.t2⟩
end
/-- what a comprehension asks -/
theorem comp_of (ho : own.map (·.2) = t.own) {σ : L2.St} {H : Hp} {Q : VK} (h : tNw X.K cA W (compN src t c m) σ H Q) : tLc (tSrc X.K cA W src) (gT X.K t) (tT X.K cA W0 c) (tE X.K cA W0 m) (own.map (·.2)) σ H Q := by
  rw [ho]
  obtain ⟨ρ, S, l, hS, hl, h⟩ := h
  refine ⟨ρ, S, l, hS, hl, (After.bind (rep := rSrc X.K cA) st_New h).imp fun J H1 h => ?_⟩
  obtain ⟨ρ1, S1, p, e1, hS1, hJ, h⟩ := h
  intro D0 hD
  have hl1 : RepL X.K ρ1 H1 (wipeL l t.own) (wipe σ t.own) := (hl.ext e1).wipe t.own
  -- the invariant: behind i turns
  refine ⟨fun i k H2 => ∃ ρ2 S2 acc vs, Owned D0 ρ1 H1 ρ2 H2 vs ∧ Reps X.K cA ρ2 H2 S2 ∧ RepVs X.K ρ2 H2 acc vs ∧ k + i = p.1.length ∧
    After X.K cA W ρ1 H1 (rNew X.K) (compL p.2 t c m (wipeL l t.own) (p.1.drop i) acc S2).noex Q, ?_, ?_⟩
  · refine ⟨p.1.length, ρ1, S1, [], [], ⟨hD, Ext.new hD, hS1.free hD, upd_same⟩, hS1.new hD, .nil, by omega, ?_⟩
    rw [List.drop_zero]
    exact h
  · rintro i k H2 ⟨ρ2, S2, acc, vs, o, hS2, hr, hk, h⟩
    by_cases hi : i < p.1.length
    · have hd : p.1.drop i = p.1[i] :: p.1.drop (i + 1) := List.drop_eq_getElem_cons hi
      rw [hd] at h
      unfold compL at h
      split at h
      · rename_i hc
        obtain ⟨hgo, hy⟩ := hJ.go ρ2 H2 S2 o.ext hS2 hc i p.1[i] (List.getElem?_eq_getElem hi)
        refine .inr ⟨hgo, fun H' => ∃ ρ2 S2 acc vs, Owned D0 ρ1 H1 ρ2 H' vs ∧ Reps X.K cA ρ2 H' S2 ∧ RepVs X.K ρ2 H' acc vs ∧
          After X.K cA W ρ1 H1 (rNew X.K) (compL p.2 t c m (wipeL l t.own) (p.1.drop (i + 1)) acc S2).noex Q, fun H' ⟨ρ2, S2, acc, vs, a1, a2, a3, a4⟩ => ⟨k - 1, by omega, ρ2, S2, acc, vs, a1, a2, a3, by omega, a4⟩, fun x H3 hx => ?_⟩
        obtain ⟨e3, same, rx⟩ := hy x H3 hx
        have hS3 := hS2.other e3 same
        have o3 := o.go e3
        split at h
        · rename_i l1 el
          have hl3 : RepL X.K ρ2 H3 (wipeL l t.own) (wipe σ t.own) := hl1.ext o3.ext
          refine gT_of el rx hl3 fun σ1 hs1 hw => ⟨hw.trans wipe_wipe, ?_⟩
          rw [noex_bind] at h
          refine ⟨ρ2, S2, l1, hS3, hs1, After.noex (W := W) ((After.step (rep := rId) h o3.ext).imp fun tb H4 hq => ?_)⟩
          obtain ⟨ρ4, S4, tb', e4, hS4, ht, h⟩ := hq
          subst ht
          have o4 := o3.go e4
          have hr4 : RepVs X.K ρ4 H4 acc vs := RepVs.ext e4 (RepVs.ext e3 hr)
          cases tb' with
          | true =>
            simp only [if_true] at h ⊢
            rw [noex_bind] at h
            refine ⟨ρ4, S4, l1, hS4, hs1.ext e4, After.noex (W := W) ((After.step (rep := rV X.K) h o4.ext).imp fun y H5 hq => ?_)⟩
            obtain ⟨ρ5, S5, yd, e5, hS5, ry, h⟩ := hq
            have o5 := o4.go e5
            have hr5 := RepVs.ext e5 hr4
            split at h
            · rename_i hz
              refine ⟨vs, o5.at_, by rw [RepVs.length hr5]; exact hz, ρ5, S5, acc ++ [yd], vs ++ [y], o5.put, o5.reps hS5, ?_, h⟩
              exact RepVs.hp o5.t1 o5.t2 (hr5.append (.cons ry .nil))
            · exact h.elim
          | false =>
            exact ⟨ρ4, S4, acc, vs, o4, hS4, hr4, h⟩
        · exact h.elim
      · exact h.elim
    · have ei : i = p.1.length := by omega
      subst ei
      rw [List.drop_length] at h
      unfold compL at h
      split at h
      · rename_i hc
        exact .inl ⟨hJ.stop ρ2 H2 S2 o.ext hS2 hc, h ρ2 H2 _ o.ext hS2 ⟨D0, vs, rfl, hD, o.nin, o.at_, hr⟩⟩
      · exact h.elim
/-- [elt for .. in .. if ..] -/
theorem mcomp (ho : own.map (·.2) = t.own) (hc : X.calm = true) (hN : X.N.Nodup) (hi : PI X tg iter (tSrc X.K cA W src)) (ok : BlkOk X.N X.env.scope scope own)
    (hg : ∀ (s : Shared) (H : Hp) (C : Addr) (cl : List (Str × Addr)) (fp : List Addr), PG (X.blk s H scope (compEnvC scope cl C X.env) fp) tg (gT X.K t)) (ht : ∀ (s : Shared) (H : Hp) (C : Addr) (cl : List (Str × Addr)) (fp : List Addr), PTs (X.blk s H scope (compEnvC scope cl C X.env) fp) ifs (tT X.K cA W0 c))
    (he : ∀ (s : Shared) (H : Hp) (C : Addr) (cl : List (Str × Addr)) (fp : List Addr), PE (X.blk s H scope (compEnvC scope cl C X.env) fp) elt (tE X.K cA W0 m)) (hs : ∀ x, foldedSetIterable iter X.env x = pure x := by intro _; rfl) :
    PE X (.ListComp elt [⟨tg, iter, ifs, 0⟩] scope pos) (tNw X.K cA W (compN src t c m)) :=
  (pe_lc hc hN hi ok hg ht he hs).imp fun σ H Q h => comp_of ho h
/-- y = [elt for .. in .. if ..] -/
theorem ssetC {i : Nat} {y : Str} {py : Pos} (ho : own.map (·.2) = t.own) (hc : X.calm = true) (hN : X.N.Nodup) (hy : X.N[i]? = some y) (hyl : X.env.scope.names.lookup y = some .local)
    (hsw : swapsWith (.ListComp elt [⟨tg, iter, ifs, 0⟩] scope pos) (some (.Name y py)) spos.line X.env = pure true) (hi : PI X tg iter (tSrc X.K cA W src)) (ok : BlkOk X.N X.env.scope scope own)
    (hg : ∀ (s : Shared) (H : Hp) (C : Addr) (cl : List (Str × Addr)) (fp : List Addr), PG (X.blk s H scope (compEnvC scope cl C X.env) fp) tg (gT X.K t)) (ht : ∀ (s : Shared) (H : Hp) (C : Addr) (cl : List (Str × Addr)) (fp : List Addr), PTs (X.blk s H scope (compEnvC scope cl C X.env) fp) ifs (tT X.K cA W0 c))
    (he : ∀ (s : Shared) (H : Hp) (C : Addr) (cl : List (Str × Addr)) (fp : List Addr), PE (X.blk s H scope (compEnvC scope cl C X.env) fp) elt (tE X.K cA W0 m)) (hs : ∀ x, foldedSetIterable iter X.env x = pure x := by intro _; rfl) :
    PS X (.Assign [.Name y py] (.ListComp elt [⟨tg, iter, ifs, 0⟩] scope pos) spos) (tS X.K cA W (setS i (allocE (compN src t c m)))) :=
  (ps_setLc hc hN hy hyl hsw hi ok hg ht he hs).imp fun E σ H h => by
    have h1 : tE X.K cA W (allocE (compN src t c m)) σ H fun v H1 => E.nx (σ.set i (some v)) H1 := (after_L (rep := rV X.K) h).imp fun v H1 h => by
      obtain ⟨ρ, S, l, d, hS, hl, hr, h⟩ := h
      exact After.same (b := (FlV.nx, σ.set i (some v))) h hS ⟨hl.set hr i, trivial⟩
    exact comp_of ho (alloc_of h1)
where
  alloc_of {n : MA} {σ : L2.St} {H : Hp} {Q : VK} (h : tE X.K cA W (allocE n) σ H Q) : tNw X.K cA W n σ H Q := by
    obtain ⟨ρ, S, l, hS, hl, h⟩ := h
    refine ⟨ρ, S, l, hS, hl, ?_⟩
    unfold allocE at h
    generalize n l S = r at h
    cases r with
    | ok ds S1 =>
      intro ρ' H' v e1 hs hr
      obtain ⟨p, vs, rfl, h0, hn, h1, h2⟩ := hr
      refine h (ρ' ++ [p]) H' (.ref p) (e1.take h0) (hs.push hn ⟨vs, h1, h2⟩) ?_
      show RepV X.K (ρ' ++ [p]) H' (.ref S1.length) (.ref p)
      unfold RepV
      exact ⟨p, by rw [← hs.len, List.getElem?_append_right (Nat.le_refl _)]; simp, rfl⟩
    | ex x S1 => exact h
    | bad => exact h
theorem tyes : PTs X [] (tT X.K cA W yesM) := ⟨fun pins s σ H Q I h => pts_nil.run pins s σ H Q I (by
  obtain ⟨ρ, S, l, hS, hl, h⟩ := h
  exact After.same (rep := rId) h hS rfl)⟩
theorem tone {c : Expr} {p : MB} (h : PT X c (tT X.K cA W p)) : PTs X [c] (tT X.K cA W p) := pts_one h
end

/-! ### calls, defs -/
def spM (K : PySem.W.Frag) (cA : Nat → Addr) (G : List D → Store → R D) (n : Nat) : Sp := fun vs H Q E => vs.length = n ∧ tN K cA E (rV K) G vs H Q
structure FnM (P : Program) (w : World) (K : PySem.W.Frag) (mg : Str → Option Value) (base : Heap) (cA : Nat → Addr) (k : Nat) (x : Str) (n : Nat) (G : List D → Store → R D) : Prop where
  ex : ∃ f fd ps, mg x = some (.ref f) ∧ PySem.W.keepIn K (.ref f) = true ∧ Binds K fd ps [] ∧ FnOk P w K mg base (L2.CX P w) k f fd ps (spM K cA G n)
def callE (n : Nat) (G : List D → Store → R D) (m : MA) : ME := fun l S => (m l S).bind fun ds S1 => if ds.length = n then G ds S1 else .bad
def startL (n : Nat) (ds : List D) : Loc := ds.map some ++ List.replicate (n - ds.length) none
def bodyF (n : Nat) (m : MS) (ds : List D) (S : Store) : R D := (m (startL n ds) S).bind fun p S1 => match p.1 with
  | .nx => .ok .non S1
  | .rt d => .ok d S1
  | _ => .bad
section
variable {X : Cx} {cA : Nat → Addr} {W : XK} {p pos : Pos} {x : Str} {e : Expr} {es : List Expr} {m : MA} {k j n : Nat} {G : List D → Store → R D}
theorem call_of {σ : L2.St} {H : Hp} {Q : VK} (h : tE X.K cA W (callE n G m) σ H Q) : tAs X.K cA W m σ H fun vs H1 => spM X.K cA G n vs H1 Q W :=
  (bind1 (rep1 := rVs X.K) st_V h).imp fun vs H1 h => by
    obtain ⟨ρ, S, ds, hS, hr, h⟩ := h
    split at h
    · rename_i hn
      exact ⟨by rw [RepVs.length hr]; exact hn, ρ, S, ds, hS, hr, h⟩
    · exact h.elim
theorem mcall (F : FnM X.prog X.w X.K X.mg X.base cA k x n G) (hk : k ≤ j) (hr : Room j X.A) (hx : Passes (L2.CX X.prog X.w) X W) (hg : Gl X x) (ha : PA X (e :: es) (tAs X.K cA W m)) (hdb : (x == ("__debug__" : Str)) = false := by decide)
    (he : starEach (e :: es) X.env = (false, eval e X.env) :: starEach es X.env := by rfl) (hpl : (backTo pos (starEach es X.env)).any (·.1) = false := by rfl) : PE X (.Call (.Name x p) (e :: es) [] pos) (tE X.K cA W (callE n G m)) := by
  obtain ⟨f, fd, ps, hm, hkp, hb, FF⟩ := F.ex
  exact (pe_call FF (hr.mono hk) hg hm hkp hb .nil hx ha hdb he hpl).imp fun σ H Q h => by
    refine (call_of h).imp fun vs H1 h => ?_
    show spM X.K cA G n (vs ++ []) H1 Q W
    rw [List.append_nil]
    exact h
theorem mcall0 (F : FnM X.prog X.w X.K X.mg X.base cA k x n G) (hk : k ≤ j) (hr : Room j X.A) (hx : Passes (L2.CX X.prog X.w) X W) (hg : Gl X x) (hdb : (x == ("__debug__" : Str)) = false := by decide) : PE X (.Call (.Name x p) [] [] pos) (tE X.K cA W (callE n G nilA)) := by
  obtain ⟨f, fd, ps, hm, hkp, hb, FF⟩ := F.ex
  exact (pe_call0 FF (hr.mono hk) hg hm hkp hb .nil hx hdb).imp fun σ H Q h => by
    obtain ⟨ρ, S, l, hS, hl, h⟩ := h
    have h : After X.K cA W ρ H (rV X.K) (if ([] : List D).length = n then G [] S else .bad) Q := h
    split at h
    · rename_i hn
      exact ⟨hn, ρ, S, [], hS, .nil, h⟩
    · exact h.elim
end
section
variable {P : Program} {w : World} {K : PySem.W.Frag} {mg : Str → Option Value} {base : Heap} {cA : Nat → Addr}
theorem start_rep {ρ : List Addr} {H : Hp} {ds : List D} {vs : List V} {N : List Str} (h : RepVs K ρ H ds vs) : RepL K ρ H (startL N.length ds) (L2.start N vs) := by
  have hl := RepVs.length h
  refine ⟨by unfold startL L2.start; simp [hl], fun i d hd => ?_⟩
  unfold startL at hd
  unfold L2.start
  by_cases q : i < ds.length
  · rw [List.getElem?_append_left (by simpa using q), List.getElem?_map] at hd
    cases e : ds[i]? with
    | none => rw [e] at hd; cases hd
    | some x =>
      rw [e] at hd
      have : x = d := Option.some.inj (Option.some.inj hd)
      subst this
      obtain ⟨v, hv, r⟩ := RepVs.get h i x e
      exact ⟨v, by rw [List.getElem?_append_left (by simpa [hl] using q), List.getElem?_map, hv]; rfl, r⟩
  · rw [List.getElem?_append_right (by simpa using q), List.getElem?_replicate] at hd
    split at hd <;> cases hd
/-- a def keeps what its body's function says -/
theorem defM {x qual : Str} {st : Stmt} {f : Addr} {fd : FuncData} {N ps : List Str} {k : Nat} {m : MS} (F : Fun K x qual st f fd) (S : FnScope N ps (defScope st))
    (hbody : ∀ (cdv : Value) (A : Around) (outer : List Env) (s : Shared) (H : Hp) (E : XK), Room k (A.deeper (PyProof.Rows.envOfC qual (defScope st) s.heap.objs.size f cdv)) →
      PSs (cxOf (L2.CX P w) P w K mg base N qual (defScope st) f cdv A outer s H E) (defBody st) (tS K cA E m)) : FnOk P w K mg base (L2.CX P w) (k + 1) f fd ps (spM K cA (bodyF N.length m) ps.length) :=
  F.okX S (fun vs H Q E h => h.1) fun cdv A outer s H vs Q E hr h => by
    obtain ⟨hl, ρ, S0, ds, hS, hrep, h⟩ := h
    refine ⟨tS K cA E m, hbody cdv A outer s H E hr, ρ, S0, startL N.length ds, hS, start_rep hrep, (After.bind (rep := rS K) st_V h).imp fun b H1 h => ?_⟩
    obtain ⟨ρ1, S1, a, e1, hS1, ⟨hl1, hf⟩, h⟩ := h
    obtain ⟨fl, l1⟩ := a
    obtain ⟨g, σ1⟩ := b
    cases fl with
    | nx => cases g with
      | nx => exact After.same (rep := rV K) h hS1 rep_non'
      | _ => exact hf.elim
    | rt d => cases g with
      | rt v => exact After.same (rep := rV K) h hS1 hf
      | _ => exact hf.elim
    | bk => exact h.elim
    | ct => exact h.elim
/-- what a def's body may hand on -/
theorem pass_def {N : List Str} {qual : Str} {scope : Scope} {f : Addr} {cd : Value} {A : Around} {outer : List Env} {s : Shared} {H : Hp} {E : XK} : Passes (L2.CX P w) (cxOf (L2.CX P w) P w K mg base N qual scope f cd A outer s H E) E :=
  passes_call (takes_of rfl rfl rfl rfl) fun _ _ _ _ h => h
theorem own_def {N : List Str} {qual : Str} {scope : Scope} {f : Addr} {cd : Value} {A : Around} {outer : List Env} {s : Shared} {H : Hp} {E : XK} : PassesOwn (model P w) (cxOf (L2.CX P w) P w K mg base N qual scope f cd A outer s H E).A (cxOf (L2.CX P w) P w K mg base N qual scope f cd A outer s H E).env (cxOf (L2.CX P w) P w K mg base N qual scope f cd A outer s H E).xe := passes_of rfl
end
end ML

set_option Elab.async false
set_option linter.all false
set_option maxRecDepth 100000
set_option autoImplicit false
/-! ML9: what is built in by its name; dicts written out; new lists compared; list(range(..)). -/
namespace ML
open PySem PySem.Spec L2

theorem bt_len : bootBuiltins "len" = some (.builtin "len") := by decide +kernel
theorem bt_abs : bootBuiltins "abs" = some (.builtin "abs") := by decide +kernel
theorem bt_max : bootBuiltins "max" = some (.builtin "max") := by decide +kernel
theorem bt_min : bootBuiltins "min" = some (.builtin "min") := by decide +kernel
theorem bt_all : bootBuiltins "all" = some (.builtin "all") := by decide +kernel
theorem bt_any : bootBuiltins "any" = some (.builtin "any") := by decide +kernel
theorem bt_sum : bootBuiltins "sum" = some (.builtin "sum") := by decide +kernel
theorem bt_sorted : bootBuiltins "sorted" = some (.builtin "sorted") := by decide +kernel
theorem bt_ord : bootBuiltins "ord" = some (.builtin "ord") := by decide +kernel
theorem bt_isinstance : bootBuiltins "isinstance" = some (.builtin "isinstance") := by decide +kernel
theorem bt_int : bootBuiltins "int" = some (.type "int") := by decide +kernel
theorem bt_str : bootBuiltins "str" = some (.type "str") := by decide +kernel
theorem bt_bool : bootBuiltins "bool" = some (.type "bool") := by decide +kernel
theorem bt_list : bootBuiltins "list" = some (.type "list") := by decide +kernel
theorem bt_tuple : bootBuiltins "tuple" = some (.type "tuple") := by decide +kernel
theorem bt_dict : bootBuiltins "dict" = some (.type "dict") := by decide +kernel
theorem bt_set : bootBuiltins "set" = some (.type "set") := by decide +kernel

/-! ### dicts written out -/
abbrev MP := Loc → Store → R (List (D × D))
def nilP : MP := fun _ S => .ok [] S
def consP (k v : ME) (r : MP) : MP := fun l S => (k l S).bind fun a S1 => (v l S1).bind fun b S2 => (r l S2).bind fun ps S3 => .ok ((a, b) :: ps) S3
def keysO (ps : List (D × D)) : Option (List (Key × D)) := mapO (fun p => (keyO p.1).map fun k => (k, p.2)) ps
def mergeD (kvs more : List (Key × D)) : List (Key × D) := more.foldl (fun acc kv => dPut acc kv.1 kv.2) kvs
def dictE (r : MP) : ME := fun l S => (r l (S ++ [.dct []])).bind fun ps S1 => match keysO ps with
  | some kvs => if kvs.length ≤ 15 then (match dctAt S1 S.length with
    | some [] => .ok (.ref S.length) (S1.set S.length (.dct (mergeD [] kvs)))
    | _ => .bad) else .bad
  | none => .bad
def dict0 : ME := fun _ S => newC (.dct []) S
def RepPr (K : PySem.W.Frag) (ρ : List Addr) (H : Hp) : List (D × D) → List (V × V) → Prop
  | [], ps => ps = []
  | (a, b) :: r, ps => ∃ x y q, ps = (x, y) :: q ∧ RepV K ρ H a x ∧ RepV K ρ H b y ∧ RepPr K ρ H r q
theorem RepPr.ext {K : PySem.W.Frag} {ρ ρ' : List Addr} {H H' : Hp} (e : Ext ρ H ρ' H') : ∀ {ds : List (D × D)} {ps : List (V × V)}, RepPr K ρ H ds ps → RepPr K ρ' H' ds ps
  | [], _, h => h
  | (a, b) :: r, ps, h => by
    obtain ⟨x, y, q, ep, h1, h2, h3⟩ := h
    exact ⟨x, y, q, ep, h1.ext e, h2.ext e, RepPr.ext e h3⟩
def rPr (K : PySem.W.Frag) : Rel (List (D × D)) (List (V × V)) := fun _ ρ H a b => RepPr K ρ H a b
theorem st_Pr {K : PySem.W.Frag} : Stable (rPr K) := fun _ _ _ _ _ _ _ _ _ h => h
/-- a display's pairs keep their reading -/
def PairsOk (K : PySem.W.Frag) (cA : Nat → Addr) (W : XK) (trs : List (TE × TE)) (r : MP) : Prop := ∀ (σ : L2.St) (H : Hp) (Q : List (V × V) → Hp → Prop), tG K cA W (rPr K) r σ H Q → tPairs trs σ H Q
section
variable {X : Cx} {cA : Nat → Addr} {W : XK} {pos : Pos} {K : PySem.W.Frag} {ρ : List Addr} {H : Hp}
structure PD (X : Cx) (cA : Nat → Addr) (W : XK) (pos : Pos) (ks : List (Option Expr)) (vs : List Expr) (r : MP) : Prop where
  ex : ∃ trs, PPs X pos ks vs trs ∧ PairsOk X.K cA W trs r
theorem pnil : PD X cA W pos [] [] nilP := ⟨[], pps_nil, fun σ H Q h => by
  obtain ⟨ρ, S, l, hS, hl, h⟩ := h
  exact After.same (rep := rPr X.K) h hS rfl⟩
theorem pcons {k v : Expr} {ks : List (Option Expr)} {vs : List Expr} {mk mv : ME} {r : MP} (hk : PE X k (tE X.K cA W mk)) (hv : PE X v (tE X.K cA W mv)) (hr : PD X cA W pos ks vs r) : PD X cA W pos (some k :: ks) (v :: vs) (consP mk mv r) := by
  obtain ⟨trs, h1, h2⟩ := hr.ex
  refine ⟨_, pps_cons hk hv h1, fun σ H Q h => ?_⟩
  refine tG.imp (bind3 (rep1 := rV X.K) (rep2 := rV X.K) (rep3 := rPr X.K) st_Pr mo_V mo_V h) fun x H1 h => tG.imp h fun y H2 h => h2 _ _ _ (tG.imp h fun ps H3 h => ?_)
  obtain ⟨ρ, S, a, b, c, hS, r1, r2, r3, h⟩ := h
  exact After.same (rep := rPr X.K) h hS ⟨x, y, ps, rfl, r1, r2, r3⟩
theorem keys_of : ∀ {ds : List (D × D)} {ps : List (V × V)} {kvs : List (Key × D)}, keysO ds = some kvs → RepPr K ρ H ds ps → ∃ qs : List (Key × V), ps = qs.map (fun kv => (kV kv.1, kv.2)) ∧ RepP K ρ H kvs qs
  | [], ps, kvs, h, r => by cases h; exact ⟨[], r, by unfold RepP; rfl⟩
  | (a, b) :: ds, ps, kvs, h, r => by
    obtain ⟨x, y, q, ep, h1, h2, h3⟩ := r
    unfold keysO mapO at h
    split at h
    · rename_i kv rest e1 e2
      cases h
      obtain ⟨k, ek, rfl⟩ := Option.map_eq_some_iff.mp e1
      obtain ⟨qs, e3, h4⟩ := keys_of e2 h3
      have := key_rep ek h1
      subst this
      exact ⟨(k, y) :: qs, by rw [ep, e3]; rfl, y, qs, rfl, h2, h4⟩
    · cases h
theorem merge_rep : ∀ {more : List (Key × D)} {ms : List (Key × V)} {kvs : List (Key × D)} {ps : List (Key × V)}, RepP K ρ H more ms → RepP K ρ H kvs ps → RepP K ρ H (mergeD kvs more) (mergeK ps ms)
  | [], ms, kvs, ps, h, r => by unfold RepP at h; rw [h]; exact r
  | (k, d) :: more, ms, kvs, ps, h, r => by
    unfold RepP at h
    obtain ⟨v, q, rfl, h1, h2⟩ := h
    show RepP K ρ H (mergeD (dPut kvs k d) more) (mergeK (putK ps k v) q)
    exact merge_rep h2 (put_rep h1 r)
theorem mdict {ks : List (Option Expr)} {vs : List Expr} {r : MP} (h : PD X cA W pos ks vs r) (hall : ks.all (·.isSome) = true := by rfl) (hl : ks.length = vs.length := by rfl) (h0 : ks ≠ [] := by exact fun z => by cases z) (h15 : ks.length ≤ 15 := by decide) :
    PE X (.Dict ks vs pos) (tE X.K cA W (dictE r)) := by
  obtain ⟨trs, h1, h2⟩ := h.ex
  refine (pe_disp h1 hall hl h0 h15).imp fun σ H Q h => ?_
  intro p hp
  obtain ⟨ρ, S, l, hS, hl, h⟩ := h
  have E1 : Ext ρ H (ρ ++ [p]) (upd H p (.dK [])) := Ext.alloc hp
  have hS1 : Reps X.K cA (ρ ++ [p]) (upd H p (.dK [])) (S ++ [.dct []]) := (hS.new hp).push (hS.free hp) ⟨[], upd_same, by unfold RepP; rfl⟩
  refine h2 _ _ _ ⟨ρ ++ [p], S ++ [.dct []], l, hS1, hl.ext E1, (After.step (rep := rPr X.K) h E1).imp fun ps H2 hq => ?_⟩
  obtain ⟨ρ2, S2, ds, e2, hS2, hr, h⟩ := hq
  split at h
  · rename_i kvs ek
    split at h
    · rename_i h15'
      split at h
      · rename_i e3
        have hrp : ρ2[S.length]? = some p := by
          obtain ⟨r, er, _⟩ := e2.pre
          rw [er, List.getElem?_append_left (by rw [List.length_append, hS.len]; exact Nat.lt_succ_self _), ← hS.len, List.getElem?_append_right (Nat.le_refl _)]
          simp
        obtain ⟨ps0, h3, h4⟩ := hS2.at_ _ _ p (dctAt_some e3) hrp
        unfold RepP at h4
        subst h4
        obtain ⟨qs, eq, h5⟩ := keys_of ek hr
        refine ⟨h3, qs, eq, by rw [← c_lenV.len_repP h5] at h15'; exact h15', ?_⟩
        have EW : Ext ρ2 H2 ρ2 (upd H2 p (.dK (mergeK [] qs))) := Ext.write hrp h3 True.intro
        refine h ρ2 _ _ ((E1.trans e2).trans EW) (hS2.write hrp h3 True.intro ⟨_, upd_same, ?_⟩) ?_
        · exact (merge_rep h5 (by unfold RepP; rfl)).ext EW
        · show RepV X.K ρ2 _ (.ref S.length) (.ref p)
          unfold RepV
          exact ⟨p, hrp, rfl⟩
      · exact h.elim
    · exact h.elim
  · exact h.elim
theorem mdict0 : PE X (.Dict [] [] pos) (tE X.K cA W dict0) := pe_dnewK.imp fun σ H Q h => by
  obtain ⟨ρ, S, l, hS, hl, h⟩ := h
  exact fun p hp => After.new h hS hp ⟨[], upd_same, by unfold RepP; rfl⟩
end

/-! ### two new lists -/
def eqLs (S : Store) (xs ys : List D) : Option Bool := match mapO (toPy S 63) xs, mapO (toPy S 63) ys with
  | some ps, some qs => if SeqAt.shaped (.list ps) = true ∧ SeqAt.shaped (.list qs) = true then some (PyData.eqv (.list ps) (.list qs)) else none
  | _, _ => none
def eqN (m n : MA) : MB := fun l S => (m l S).bind fun xs S1 => (n l S1).bind fun ys S2 => match eqLs S2 xs ys with
  | some b => .ok b S2
  | none => .bad
def neN (m n : MA) : MB := fun l S => (m l S).bind fun xs S1 => (n l S1).bind fun ys S2 => match eqLs S2 xs ys with
  | some b => .ok (!b) S2
  | none => .bad
section
variable {X : Cx} {cA : Nat → Addr} {W : XK} {pos : Pos} {a b : Expr} {m n : MA}
theorem eqLs_rep {K : PySem.W.Frag} {ρ : List Addr} {H : Hp} {S : Store} {H0 H1 : Hp} (hS : Reps K cA ρ H S) {xs ys : List D} {x y : V} {t : Bool} (h1 : rNew K H0 ρ H xs x) (h2 : rNew K H1 ρ H ys y) (h : eqLs S xs ys = some t) :
    ∃ p q, Dp K H x p ∧ Dp K H y q ∧ SeqAt.shaped p = true ∧ SeqAt.shaped q = true ∧ t = PyData.eqv p q := by
  unfold eqLs at h
  split at h
  · rename_i ps qs e1 e2
    split at h
    · rename_i hz
      cases h
      obtain ⟨a, vs, rfl, _, _, h3, h4⟩ := h1
      obtain ⟨b, ws, rfl, _, _, h5, h6⟩ := h2
      exact ⟨.list ps, .list qs, .lst (SqL.of h3) (toPy_rep.all hS _ _ _ _ e1 h4), .lst (SqL.of h5) (toPy_rep.all hS _ _ _ _ e2 h6), hz.1, hz.2, rfl⟩
    · cases h
  · cases h
theorem eqN_of {f : Option Bool → Option Bool} {g : Bool → Bool} {σ : L2.St} {H : Hp} {Q : Bool → Hp → Prop} (h : tT X.K cA W (fun l S => (m l S).bind fun xs S1 => (n l S1).bind fun ys S2 => match eqLs S2 xs ys with
    | some b => .ok (g b) S2
    | none => .bad) σ H Q) : tNw X.K cA W m σ H fun x H1 => tNw X.K cA W n σ H1 fun y H2 => ∃ p q, Dp X.K H2 x p ∧ Dp X.K H2 y q ∧ SeqAt.shaped p = true ∧ SeqAt.shaped q = true ∧ Q (g (PyData.eqv p q)) H2 :=
  tG.imp (bind2 (rep1 := rNew X.K) (rep2 := rNew X.K) st_Id mo_New h) fun x H1 h => tG.imp h fun y H2 h => by
    obtain ⟨ρ, S, xs, ys, hS, h1, h2, h⟩ := h
    split at h
    · rename_i t et
      obtain ⟨p, q, k1, k2, k3, k4, rfl⟩ := eqLs_rep hS h1 h2 et
      exact ⟨p, q, k1, k2, k3, k4, After.same (rep := rId) h hS rfl⟩
    · exact h.elim
theorem meqN (hu : X.A.units + 64 < cLine) (ha : PE X a (tNw X.K cA W m)) (hb : PE X b (tNw X.K cA W n)) : PE X (.Compare a [.Eq] [b] pos) (tE X.K cA W (toV (eqN m n))) :=
  (pe_cmpR (op_eqD hu) ha hb (nomark _)).imp fun σ H Q h => eqN_of (f := id) (g := id) (tE_toV h)
theorem mneN (hu : X.A.units + 64 < cLine) (ha : PE X a (tNw X.K cA W m)) (hb : PE X b (tNw X.K cA W n)) : PE X (.Compare a [.NotEq] [b] pos) (tE X.K cA W (toV (neN m n))) :=
  (pe_cmpR (op_neD hu) ha hb (nomark _)).imp fun σ H Q h => eqN_of (f := id) (g := not) (tE_toV h)
theorem meqNT (hu : X.A.units + 64 < cLine) (ha : PE X a (tNw X.K cA W m)) (hb : PE X b (tNw X.K cA W n)) : PT X (.Compare a [.Eq] [b] pos) (tT X.K cA W (eqN m n)) :=
  (pt_cmpR (op_eqD hu) ha hb (nomark _)).imp fun σ H Q h => tG.imp (eqN_of (f := id) (g := id) h) fun x H1 h => tG.imp h fun y H2 ⟨p, q, k1, k2, k3, k4, k5⟩ => ⟨p, q, k1, k2, k3, k4, _, rfl, k5⟩
theorem mneNT (hu : X.A.units + 64 < cLine) (ha : PE X a (tNw X.K cA W m)) (hb : PE X b (tNw X.K cA W n)) : PT X (.Compare a [.NotEq] [b] pos) (tT X.K cA W (neN m n)) :=
  (pt_cmpR (op_neD hu) ha hb (nomark _)).imp fun σ H Q h => tG.imp (eqN_of (f := id) (g := not) h) fun x H1 h => tG.imp h fun y H2 ⟨p, q, k1, k2, k3, k4, k5⟩ => ⟨p, q, k1, k2, k3, k4, _, rfl, k5⟩
end

/-! ### list(range(..)) -/
def rngO (a b : Int) (S : Store) : R (List D) := if -(2 ^ 62) ≤ a ∧ a < 2 ^ 62 ∧ -(2 ^ 62) ≤ b ∧ b < 2 ^ 62 ∧ (b - a).toNat ≤ 2 ^ 24 then .ok (intsFrom a (b - a).toNat) S else .bad
def rngN1 (m : ME) : MA := fun l S => (m l S).bind fun d S1 => match intO d with
  | some b => rngO 0 b S1
  | none => .bad
def rngN2 (m n : ME) : MA := fun l S => (m l S).bind fun d S1 => (n l S1).bind fun e S2 => match intO d, intO e with
  | some a, some b => rngO a b S2
  | _, _ => .bad
section
variable {X : Cx} {cA : Nat → Addr} {W : XK} {pos p0 p1 p2 : Pos} {a b : Expr} {m n : ME}
theorem intO_rep {K : PySem.W.Frag} {ρ : List Addr} {H : Hp} {d : D} {v : V} {i : Int} (h : intO d = some i) (r : RepV K ρ H d v) : v = .int i := by
  cases d with
  | int j => cases h; unfold RepV at r; exact r
  | _ => cases h
theorem rg_rep {K : PySem.W.Frag} {ρ : List Addr} {H : Hp} {a b : Int} : RepVs K ρ H (intsFrom a (b - a).toNat) (rgV a b) := by
  have e1 : intsFrom a (b - a).toNat = ((List.range (b - a).toNat).map fun i => a + ((i : Nat) : Int)).map D.int := by unfold intsFrom; rw [List.map_map]; rfl
  have e2 : rgV a b = ((List.range (b - a).toNat).map fun i => a + ((i : Nat) : Int)).map V.int := by unfold rgV; rw [List.map_map]; rfl
  rw [e1, e2]
  exact RepVs.of_ints
theorem rng_of {ρ : List Addr} {H : Hp} {S : Store} {i j : Int} {Q : V → Hp → Prop} (hS : Reps X.K cA ρ H S) (h : After X.K cA W ρ H (rNew X.K) (rngO i j S) Q) : RgOk i j ∧ ∀ q, H q = none → Q (.ref q) (upd H q (.lst (rgV i j))) := by
  unfold rngO at h
  split at h
  · rename_i hz
    exact ⟨hz, fun q hq => After.fresh h hS hq rg_rep⟩
  · exact h.elim
theorem mrngN1 (hc : X.calm = true) (hg : Gl X "list") (hm : X.mg "list" = none) (hg2 : Gl X "range") (hm2 : X.mg "range" = none) (ha : PE X a (tE X.K cA W m)) (na : starEach [a] X.env = (false, eval a X.env) :: starEach [] X.env := by rfl)
    (nb : starEach [(.Call (.Name "range" p1) [a] [] p2 : Expr)] X.env = (false, eval (.Call (.Name "range" p1) [a] [] p2) X.env) :: starEach [] X.env := by rfl) : PE X (.Call (.Name "list" p0) [.Call (.Name "range" p1) [a] [] p2] [] pos) (tNw X.K cA W (rngN1 m)) :=
  (pe_listRg hc hg hm (prg_1 hg2 hm2 ha na) nb).imp fun σ H Q h => (bind1 (rep1 := rV X.K) st_New h).imp fun v H1 h => by
    obtain ⟨ρ, S, d, hS, hr, h⟩ := h
    split at h
    · rename_i i e
      exact ⟨i, intO_rep e hr, rng_of hS h⟩
    · exact h.elim
theorem mrngN2 (hc : X.calm = true) (hg : Gl X "list") (hm : X.mg "list" = none) (hg2 : Gl X "range") (hm2 : X.mg "range" = none) (ha : PE X a (tE X.K cA W m)) (hb : PE X b (tE X.K cA W n)) (na : starEach [a, b] X.env = (false, eval a X.env) :: starEach [b] X.env := by rfl) (nc : starEach [b] X.env = (false, eval b X.env) :: starEach [] X.env := by rfl)
    (nb : starEach [(.Call (.Name "range" p1) [a, b] [] p2 : Expr)] X.env = (false, eval (.Call (.Name "range" p1) [a, b] [] p2) X.env) :: starEach [] X.env := by rfl) (hp : (backTo p2 (starEach [b] X.env)).any (·.1) = false := by rfl) : PE X (.Call (.Name "list" p0) [.Call (.Name "range" p1) [a, b] [] p2] [] pos) (tNw X.K cA W (rngN2 m n)) :=
  (pe_listRg hc hg hm (prg_2 hg2 hm2 ha hb na nc hp) nb).imp fun σ H Q h => tG.imp (bind2 (rep1 := rV X.K) (rep2 := rV X.K) st_New mo_V h) fun v H1 h => tG.imp h fun u H2 h => by
    obtain ⟨ρ, S, d, e, hS, hr, hr2, h⟩ := h
    split at h
    · rename_i i j e1 e2
      exact ⟨i, j, intO_rep e1 hr, intO_rep e2 hr2, rng_of hS h⟩
    · exact h.elim
end
end ML

set_option Elab.async false
set_option linter.all false
set_option maxRecDepth 100000
set_option autoImplicit false
/-! ML12: raise, try .. except C as e, isinstance of what is caught. -/
namespace ML
open PySem PySem.Spec L2

/-! ### what is not covered (and not reached) -/
def badS : MS := fun _ _ => .bad
theorem sbad {X : Cx} {cA : Nat → Addr} {W : XK} {st : Stmt} : PS X st (tS X.K cA W badS) := ⟨fun pins s σ H E I h => by obtain ⟨ρ, S, l, _, _, h⟩ := h; exact h.elim⟩

/-! ### raise -/
def raiseS (k : Nat) : MS := fun _ S => .ex ⟨k, []⟩ S
/-- a class of the text that is an exception, made with a text -/
structure ExcK (K : PySem.W.Frag) (mg : Str → Option Value) (x : Str) (C : Addr) : Prop where
  g : mg x = some (.ref C)
  q : PySem.W.excIn K C [.type "ValueError", .type "Exception", .type "BaseException", .type "object"] "ValueError.__new__" = true
  k : PySem.W.keepIn K (.ref C) = true
  s : PySem.W.subIn K (.ref C) (.type "BaseException") = some true
  t : PySem.W.typeIn K (.ref C) = some (.type "type")
section
variable {X : Cx} {cA : Nat → Addr} {W : XK} {K : PySem.W.Frag}
theorem sraise {x m : Str} {j k : Nat} {p p2 pos pos2 : Pos} (E : ExcK X.K X.mg x (cA k)) (tk : Takes X (fun cls d _ H => W cls d H)) (hc : X.calm = true) (hg : Gl X x) (hdb : (x == ("__debug__" : Str)) = false := by decide) :
    PS X (.Raise (some (.Call (.Name x p) [.Constant (.str m) j p2] [] pos)) none pos2) (tS X.K cA W (raiseS k)) :=
  (ps_raise (W := fun cls d _ H => W cls d H) hc tk (pmk_own PySem.F.excBase_ValueError E.q E.g E.k (raises_own E.s E.t) hg hdb)).imp fun D σ H h => by
    obtain ⟨ρ, S, l, hS, hl, h⟩ := h
    exact h ρ H _ _ (Ext.refl _ _) hS ⟨rfl, .inl ⟨rfl, rfl⟩⟩
end

/-! ### in a try's body: the wish may look at the slots -/
def tX (K : PySem.W.Frag) (cA : Nat → Addr) (W : WX) (m : MS) : TS := fun D σ H => tS K cA (L2.WE W σ) m D σ H
def tEX (K : PySem.W.Frag) (cA : Nat → Addr) (W : WX) (m : ME) : TE := fun σ H Q => tE K cA (L2.WE W σ) m σ H Q
section
variable {X : Cx} {cA : Nat → Addr} {W : WX} {p pos : Pos} {x : Str} {e c : Expr} {es : List Expr} {m : MA} {me : ME} {k j n : Nat} {G : List D → Store → R D} {st : Stmt} {rest : List Stmt} {ma mb : MS} {q : MB}
theorem xof (h : ∀ W0 : XK, PE X e (tE X.K cA W0 me)) : PE X e (tEX X.K cA W me) := ⟨fun pins s σ H Q I q => (h (L2.WE W σ)).run pins s σ H Q I q⟩
theorem xcall (F : FnM X.prog X.w X.K X.mg X.base cA k x n G) (hk : k ≤ j) (hr : Room j X.A) (tk : Takes X W) (hg : Gl X x) (ha : ∀ W0 : XK, PA X (e :: es) (tAs X.K cA W0 m)) (hdb : (x == ("__debug__" : Str)) = false := by decide)
    (he : starEach (e :: es) X.env = (false, eval e X.env) :: starEach es X.env := by rfl) (hpl : (backTo pos (starEach es X.env)).any (·.1) = false := by rfl) : PE X (.Call (.Name x p) (e :: es) [] pos) (tEX X.K cA W (callE n G m)) := by
  obtain ⟨f, fd, ps, hm, hkp, hb, FF⟩ := F.ex
  have hA : PA X (e :: es) (fun σ H Q => tAs X.K cA (L2.WE W σ) m σ H Q) := ⟨fun pos pins s σ H Q I q => (ha (L2.WE W σ)).run pos pins s σ H Q I q⟩
  exact (pe_callS FF (hr.mono hk) hg hm hkp hb (fun σ => passAt tk σ) hA hdb he hpl).imp fun σ H Q h => call_of h
theorem xexpr (he : PE X e (tEX X.K cA W me)) (hs : swapsWith e none pos.line X.env = pure false := by rfl) : PS X (.Expr e pos) (tX X.K cA W (exprS me)) :=
  (ps_expr he hs).imp fun E σ H h => (after_L (W := L2.WE W σ) (rep := rV X.K) h).imp fun v H1 h => by
    obtain ⟨ρ, S, l, d, hS, hl, _, h⟩ := h
    exact After.same (b := (FlV.nx, σ)) h hS ⟨hl, trivial⟩
theorem xret (he : PE X e (tEX X.K cA W me)) : PS X (.Return (some e) pos) (tX X.K cA W (retS me)) :=
  (ps_ret he).imp fun E σ H h => (after_L (W := L2.WE W σ) (rep := rV X.K) h).imp fun v H1 h => by
    obtain ⟨ρ, S, l, d, hS, hl, hr, h⟩ := h
    exact After.same (b := (FlV.rt v, σ)) h hS ⟨hl, hr⟩
theorem xone (h1 : PS X st (tX X.K cA W ma)) : PSs X [st] (tX X.K cA W ma) := pss_one h1
theorem xif {a b : List Stmt} (hc : ∀ W0 : XK, PT X c (tT X.K cA W0 q)) (ha : PSs X a (tX X.K cA W ma)) (hb : PSs X b (tX X.K cA W mb)) : PS X (.If c a b pos) (tX X.K cA W (ifS q ma mb)) := by
  have hC : PT X c (fun σ H Q => tT X.K cA (L2.WE W σ) q σ H Q) := ⟨fun pins s σ H Q I q => (hc (L2.WE W σ)).run pins s σ H Q I q⟩
  exact (ps_if hC ha hb).imp fun E σ H h => (after_L (W := L2.WE W σ) (rep := rId) h).imp fun t H1 h => by
    obtain ⟨ρ, S, l, d, hS, hl, hr, h⟩ := h
    subst hr
    cases d with
    | true => exact ⟨ρ, S, l, hS, hl, h⟩
    | false => exact ⟨ρ, S, l, hS, hl, h⟩
end

/-! ### try .. except C as e -/
def goneS (i : Nat) (r : R (Fl × Loc)) : R (Fl × Loc) := r.bind fun p S => .ok (p.1, p.2.set i none) S
open Classical in
noncomputable def same {α : Type} (f : Addr → R α) : R α := if h : ∃ r, ∀ a, f a = r then h.choose else .bad
theorem same_of {α : Type} {f : Addr → R α} {r : R α} (h : ∀ a, f a = r) : same f = r := by
  unfold same
  have e : ∃ r, ∀ a, f a = r := ⟨r, h⟩
  rw [dif_pos e]
  exact (e.choose_spec 0).symm.trans (h 0)
theorem same_at {α : Type} {f : Addr → R α} (a : Addr) : same f = f a ∨ same f = .bad := by
  unfold same
  split
  · rename_i h
    exact .inl (h.choose_spec a).symm
  · exact .inr rfl
noncomputable def catchS (hit : Nat → Option Bool) (i : Nat) (mb : MS) (mh : Addr → Exn → MS) : MS := fun l S => match mb l S with
  | .ok p S1 => .ok p S1
  | .ex x S1 => match hit x.c with
    | some true => same fun a => (goneS i (mh a x (l.set i (some (.exn a))) S1)).noex
    | some false => .ex x S1
    | none => .bad
  | .bad => .bad
def NoX : XK := fun _ _ _ => False
section
variable {K : PySem.W.Frag} {cA : Nat → Addr} {W : XK} {ρ : List Addr} {H : Hp}
theorem RepL.gone {l : Loc} {σ : L2.St} (h : RepL K ρ H l σ) (i : Nat) : RepL K ρ H (l.set i none) (σ.set i none) := by
  refine ⟨by rw [List.length_set, List.length_set]; exact h.len, fun j e hj => ?_⟩
  by_cases q : i = j
  · subst q
    have hi : i < l.length := by
      have := (List.getElem?_eq_some_iff.mp hj).1
      rwa [List.length_set] at this
    rw [List.getElem?_set_self hi] at hj
    cases hj
  · rw [List.getElem?_set_ne q] at hj
    obtain ⟨w, hw, r⟩ := h.at_ j e hj
    exact ⟨w, by rw [List.getElem?_set_ne q]; exact hw, r⟩
theorem gone_of {i : Nat} {r : R (Fl × Loc)} {D : Ends} (h : After K cA W ρ H (rS K) (goneS i r).noex (endQ D)) :
    After K cA NoX ρ H (rS K) r (endQ { nx := fun σ' H' => D.nx (σ'.set i none) H', rt := D.rt, bk := fun σ' H' => D.bk (σ'.set i none) H', ct := fun σ' H' => D.ct (σ'.set i none) H' }) := by
  cases r with
  | ok p S =>
    intro ρ' H' b e hs hr
    obtain ⟨hl, hf⟩ := hr
    obtain ⟨f, l⟩ := p
    obtain ⟨g, σ⟩ := b
    cases f with
    | nx => cases g with
      | nx => exact h ρ' H' (FlV.nx, σ.set i none) e hs ⟨hl.gone i, trivial⟩
      | _ => exact hf.elim
    | rt d => cases g with
      | rt v => exact h ρ' H' (FlV.rt v, σ.set i none) e hs ⟨hl.gone i, hf⟩
      | _ => exact hf.elim
    | bk => cases g with
      | bk => exact h ρ' H' (FlV.bk, σ.set i none) e hs ⟨hl.gone i, trivial⟩
      | _ => exact hf.elim
    | ct => cases g with
      | ct => exact h ρ' H' (FlV.ct, σ.set i none) e hs ⟨hl.gone i, trivial⟩
      | _ => exact hf.elim
  | ex x S => exact h.elim
  | bad => exact h.elim
variable {X : Cx} {x n : Str} {c : Value} {i : Nat} {body suite : List Stmt} {b₀ : Stmt} {np pos pos' : Pos} {mb : MS} {mh : Addr → Exn → MS} {hit : Nat → Option Bool}
theorem stry (hh : ∀ k b, hit k = some b → PySem.W.exmOne X.K (.ref (cA k)) c = some b) (hN : X.N.Nodup) (hi : X.N[i]? = some n) (hc : Names X x c) (tk : Takes X (fun cls d _ H => W cls d H))
    (hb : ∀ (W' : WX) (pn : List (Addr × Obj)) (xe : Value → Shared → Prop), Takes (X.tr pn xe) W' → PassesOwn (model X.prog X.w) X.A X.env xe → PSs (X.tr pn xe) body (tX X.K cA W' mb))
    (hsu : ∀ (a : Addr) (oe : Obj) (pn : List (Addr × Obj)) (z : Exn) (d : Option Addr), Zc (.ref (cA z.c)) d oe → (z.fs = [] → d = none) → (∃ vs, oe.data = .fields vs) → PSs (X.suite a ((a, oe) :: pn)) (b₀ :: suite) (tS X.K cA NoX (mh a z)))
    (hs : X.stack = X.env :: X.outer := by rfl) (hf : X.env.frame = some X.env.locals := by rfl) (hln : X.env.kindOf n = some .local := by rfl) :
    PS X (.Try body [.ExceptHandler (some (.Name x np)) (some n) (b₀ :: suite) pos'] [] [] pos) (tS X.K cA W (catchS hit i mb mh)) := by
  refine (ps_try_as (Wout := fun cls d _ H => W cls d H) (tb := fun W' => tX X.K cA W' mb) (ts := fun a cls d D σ H => ∃ z : Exn, cls = .ref (cA z.c) ∧ (z.fs = [] → d = none) ∧ tS X.K cA NoX (mh a z) D σ H) hs hf hN hi hln hc tk hb
    (fun a oe cls d pn hz hv => ⟨fun pins s σ H D I h => ?_⟩)).imp fun D σ H h => ?_
  · obtain ⟨z, rfl, h1, h2⟩ := h
    exact (hsu a oe pn z d hz h1 hv).run pins s σ H D I h2
  · obtain ⟨ρ, S, l, hS, hl, h⟩ := h
    refine ⟨ρ, S, l, hS, hl, ?_⟩
    unfold catchS at h
    generalize mb l S = r at h
    cases r with
    | ok p S1 => exact h
    | bad => exact h.elim
    | ex z S1 =>
      intro ρ' H' cls d e hS' hx
      obtain ⟨rfl, hx⟩ := hx
      simp only at h
      cases eh : hit z.c with
      | none => rw [eh] at h; exact h.elim
      | some b =>
        rw [eh] at h
        cases b with
        | false =>
          refine ⟨false, hh _ _ eh, fun q => ?_, fun _ => h ρ' H' _ _ e hS' ⟨rfl, hx⟩⟩
          cases q
        | true =>
          refine ⟨true, hh _ _ eh, fun _ a ha => ⟨z, rfl, fun q => ?_, ?_⟩, fun q => nomatch q⟩
          · rcases hx with ⟨_, h2⟩ | ⟨h2, _⟩
            · exact h2
            · exact absurd q h2
          · refine ⟨ρ', S1, l.set i (some (.exn a)), hS', (hl.ext e).set (by unfold RepV; rfl) i, ?_⟩
            rcases same_at (f := fun a => (goneS i (mh a z (l.set i (some (.exn a))) S1)).noex) a with q | q
            · have h := After.back st_S e h
              simp only at h
              rw [q] at h
              exact gone_of h
            · simp only at h
              rw [q] at h
              exact h.elim
end
/-! ### isinstance of what is caught -/
inductive CN where
  | own (j : Nat) | ty (n : String)
def CN.val (cA : Nat → Addr) : CN → Value
  | .own j => .ref (cA j)
  | .ty n => .type n
def CN.v (cA : Nat → Addr) : CN → V
  | .own j => .ref (cA j)
  | .ty n => .ty n
theorem CN.clsv {cA : Nat → Addr} : ∀ n : CN, ClsV (n.v cA) (n.val cA)
  | .own j => .own _
  | .ty n => .ty _
theorem CN.all {cA : Nat → Addr} : ∀ ns : List CN, Paired ClsV (ns.map (CN.v cA)) (ns.map (CN.val cA))
  | [] => .nil
  | n :: ns => .cons n.clsv (CN.all ns)
def IsFacts (K : PySem.W.Frag) (cA : Nat → Addr) (kis : Nat → CN → Option Bool) : Prop := ∀ c n b, kis c n = some b → ExcC K (cA c) ∧ PySem.W.kitOne K (.ref (cA c)) (n.val cA) = some b
def kisX (kis : Nat → CN → Option Bool) (z : Exn) (n : CN) : Option Bool := match z.fs with
  | [] => kis z.c n
  | _ => none
def kisA (kis : Nat → CN → Option Bool) (z : Exn) : List CN → Option Bool
  | [] => some false
  | n :: r => match kisX kis z n with
    | some true => some true
    | some false => kisA kis z r
    | none => none
def isX (ans : Option Bool) (a : Addr) (m : ME) : MB := match ans with
  | none => fun _ _ => .bad
  | some t => fun l S => (m l S).bind fun d S1 => match d with
    | .exn b => if b = a then .ok t S1 else .bad
    | _ => .bad
theorem kit_own {K : PySem.W.Frag} {C D : Addr} {b : Bool} (h : PySem.W.subIn K (.ref D) (.ref C) = some b) (hd : PySem.W.hasDictIn K C = true) (ht : PySem.W.typeIn K (.ref C) = some (.type "type")) (hs : PySem.W.subIn K (.ref D) (.ref D) = some true) : PySem.W.kitOne K (.ref D) (.ref C) = some b := by
  unfold PySem.W.kitOne
  by_cases q : D = C
  · subst q
    rw [hs] at h
    rw [if_pos (beq_self_eq_true _)]
    exact h
  · rw [if_neg (fun z => q (Value.ref.inj (beq_iff_eq.mp z)))]
    obtain ⟨cd, hc, _⟩ := PySem.W.any_some hd
    show (if ((PySem.W.clsIn K C).isSome && PySem.W.typeIn K (.ref C) == some (.type "type")) = true then PySem.W.subIn K (.ref D) (.ref C) else none) = some b
    rw [hc, ht, if_pos (by rw [Option.isSome_some, Bool.true_and]; exact beq_self_eq_true _)]
    exact h
theorem kit_bt {K : PySem.W.Frag} {D : Addr} {T : String} {b : Bool} (h : PySem.W.subIn K (.ref D) (.type T) = some b) (hm : PySem.W.kitMeta T = true) : PySem.W.kitOne K (.ref D) (.type T) = some b := by
  unfold PySem.W.kitOne
  have ne : ¬ (Value.ref D == Value.type T) = true := fun z => by
    have := beq_iff_eq.mp z
    cases this
  rw [if_neg ne]
  show (if PySem.W.kitMeta T = true then PySem.W.subIn K (.ref D) (.type T) else none) = some b
  rw [if_pos hm]
  exact h
section
variable {X : Cx} {cA : Nat → Addr} {W : XK} {K : PySem.W.Frag} {kis : Nat → CN → Option Bool} {z : Exn}
theorem kisX_of {n : CN} {b : Bool} (F : IsFacts K cA kis) (h : kisX kis z n = some b) : z.fs = [] ∧ ExcC K (cA z.c) ∧ PySem.W.kitOne K (.ref (cA z.c)) (n.val cA) = some b := by
  unfold kisX at h
  split at h
  · rename_i e; exact ⟨e, F _ _ _ h⟩
  · cases h
theorem kisA_of (F : IsFacts K cA kis) : ∀ {ns : List CN} {b : Bool}, kisA kis z ns = some b → PySem.W.kitAny K (.ref (cA z.c)) (ns.map (CN.val cA)) = some b
  | [], b, h => h
  | n :: ns, b, h => by
    unfold kisA at h
    show (match PySem.W.kitOne K (.ref (cA z.c)) (n.val cA) with
      | some true => some true
      | some false => PySem.W.kitAny K (.ref (cA z.c)) (ns.map (CN.val cA))
      | none => none) = some b
    split at h
    · rename_i e
      rw [(kisX_of F e).2.2]
      exact h
    · rename_i e
      rw [(kisX_of F e).2.2]
      exact kisA_of F h
    · cases h
theorem kisA_ex (F : IsFacts K cA kis) {n : CN} {ns : List CN} {b : Bool} (h : kisA kis z (n :: ns) = some b) : z.fs = [] ∧ ExcC K (cA z.c) := by
  unfold kisA at h
  split at h
  · rename_i e; exact ⟨(kisX_of F e).1, (kisX_of F e).2.1⟩
  · rename_i e; exact ⟨(kisX_of F e).1, (kisX_of F e).2.1⟩
  · cases h
/-- the names of classes as they stand -/
theorem cown {x : Str} {j : Nat} {p : Pos} (hm : X.mg x = some (.ref (cA j))) (hg : Gl X x) (hd : (x == ("__debug__" : Str)) = false := by decide) : PE X (.Name x p) (tC ((CN.own j).v cA)) := pe_glob (v := .ref (cA j)) hg hm rfl hd
theorem cty {x : Str} {n : String} {p : Pos} (hm : X.mg x = none) (hv : bootBuiltins x = some (.type n)) (hg : Gl X x) (hn : x ≠ "__name__" := by decide) (hd : (x == ("__debug__" : Str)) = false := by decide) : PE X (.Name x p) (tC ((CN.ty n).v cA)) := pe_bltn (v := .ty n) hg hm hv rfl hn hd
def tVs (vs : List V) : TA := fun _ H Q => Q vs H
theorem vnil : PA X [] (tVs []) := pa_nil
theorem vcons {e : Expr} {es : List Expr} {v : V} {vs : List V} (h : PE X e (tC v)) (r : PA X es (tVs vs)) (hs : starEach (e :: es) X.env = (false, eval e X.env) :: starEach es X.env := by rfl) : PA X (e :: es) (tVs (v :: vs)) := pa_cons h r hs
variable {a : Addr} {oe : Obj} {pn : List (Addr × Obj)} {d : Option Addr} {pos p0 p1 : Pos} {e : Expr} {m : ME} {x : Str}
theorem misE {ec : Expr} {n : CN} (F : IsFacts X.K cA kis) (hz : Zc (.ref (cA z.c)) d oe) (hd : z.fs = [] → d = none) (hf : ∃ vs, oe.data = .fields vs) (ha : PE (X.suite a ((a, oe) :: pn)) e (tE X.K cA W m)) (hcn : PE (X.suite a ((a, oe) :: pn)) ec (tC (n.v cA)))
    (hg : Gl X "isinstance") (hm : X.mg "isinstance" = none) (hv : bootBuiltins "isinstance" = some (.builtin "isinstance") := by decide +kernel)
    (hs2 : starEach [ec] X.env = (false, eval ec X.env) :: starEach [] X.env := by rfl) (hs : starEach [e, ec] X.env = (false, eval e X.env) :: starEach [ec] X.env := by rfl)
    (hpl : (backTo pos (starEach [ec] X.env)).any (·.1) = false := by rfl) : PE (X.suite a ((a, oe) :: pn)) (.Call (.Name "isinstance" p0) [e, ec] [] pos) (tE X.K cA W (toV (isX (kisX kis z n) a m))) := by
  cases hk : kisX kis z n with
  | none => exact ⟨fun pins s σ H Q I h => by obtain ⟨ρ, S, l, _, _, h⟩ := h; exact h.elim⟩
  | some b =>
    obtain ⟨k1, k2, k3⟩ := kisX_of F hk
    have hz' : Zc (.ref (cA z.c)) none oe := by rw [← hd k1]; exact hz
    exact (pe_callB (call_isE k2 hz' hf) hg hm hv (pa_cons ha (pa_cons hcn pa_nil hs2) hs) (by decide) (by decide) hs hpl).imp fun σ H Q h0 => by
      refine tG.imp (bind1 (rep1 := rV X.K) st_Id (tE_toV h0)) fun v H1 h => ?_
      obtain ⟨ρ, S, dd, hS, hr, h⟩ := h
      split at h
      · rename_i b'
        split at h
        · rename_i e
          subst e
          unfold rV RepV at hr
          subst hr
          exact ⟨n.v cA, n.val cA, b, rfl, fun u r => n.clsv.eq r, k3, After.same (Q := fun b H' => Q (.bl b) H') (rep := rId) h hS rfl⟩
        · exact h.elim
      · exact h.elim
/-- isinstance(e, (c1, ..)), e the exception that the suite holds -/
def rIsET (K : PySem.W.Frag) (D a : Addr) : List V → Hp → VK → Prop := fun xs H Q => ∃ (tp : Addr) (cs : List V) (us : List Value) (b : Bool), xs = [.ref a, .ref tp] ∧ H tp = some (.tup cs) ∧ Paired ClsV cs us ∧ PySem.W.kitAny K (.ref D) us = some b ∧ Q (.bl b) H
theorem call_isET {D : Addr} (C : ExcC X.K D) (hz : Zc (.ref D) none oe) (hf : ∃ vs, oe.data = .fields vs) : CallR (X.suite a ((a, oe) :: pn)) (.builtin "isinstance") (rIsET X.K D a) := by
  intro pins s σ H xs us Q I r h
  obtain ⟨tp, cs, ws, b, rfl, hT, k, e, q⟩ := h
  obtain ⟨u1, u2, rfl, r1, r2⟩ := vals2 r
  cases (show u2 = Value.ref tp from r2)
  cases (show u1 = Value.ref a from r1)
  obtain ⟨hget, _⟩ := I.pin (a, oe) (List.mem_append.mpr (.inl List.mem_cons_self))
  obtain ⟨vs, hv⟩ := hf
  have J : PySem.W.InstAt s.heap a oe D none := by
    obtain ⟨oc, od, oda, osl⟩ := oe
    obtain ⟨h1, h2⟩ := hz
    dsimp only at h1 h2 hv
    subst h1 h2 hv
    exact ⟨hget, rfl, rfl, trivial⟩
  obtain ⟨_, its, rv, o, h1, h2, n, h3⟩ := (show ObjOk X.prog X.w H s.heap tp (.tup cs) from I.hok tp _ hT)
  have e3 := ClsV.all k rv
  subst e3
  obtain ⟨oc, od, dt, sl⟩ := o
  simp only at h2 h3
  subst h2 h3
  exact PySem.W.kia_tup (PySem.W.handS_kitx_exc C.hg C.hk C.hs C.hd C.ha C.hn C.ht C.hm) I.kIn J h1 e (fun z => nomatch z) fun tk => ⟨.bl b, H, I.kept (t' := tk) fun _ _ z => z, rfl, q⟩
theorem misEt {es : List Expr} {k : Nat} {n : CN} {ns : List CN} {p2 : Pos} (F : IsFacts X.K cA kis) (hz : Zc (.ref (cA z.c)) d oe) (hd : z.fs = [] → d = none) (hf : ∃ vs, oe.data = .fields vs) (ha : PE (X.suite a ((a, oe) :: pn)) e (tE X.K cA W m)) (hcn : PA (X.suite a ((a, oe) :: pn)) es (tVs ((n :: ns).map (CN.v cA))))
    (hlen : (n :: ns).length ≤ sizeLine) (hg : Gl X "isinstance") (hm : X.mg "isinstance" = none) (hv : bootBuiltins "isinstance" = some (.builtin "isinstance") := by decide +kernel)
    (hs2 : starEach [(.Tuple es k p2 : Expr)] X.env = (false, eval (.Tuple es k p2) X.env) :: starEach [] X.env := by rfl) (hs : starEach [e, .Tuple es k p2] X.env = (false, eval e X.env) :: starEach [.Tuple es k p2] X.env := by rfl)
    (hpl : (backTo pos (starEach [(.Tuple es k p2 : Expr)] X.env)).any (·.1) = false := by rfl) : PE (X.suite a ((a, oe) :: pn)) (.Call (.Name "isinstance" p0) [e, .Tuple es k p2] [] pos) (tE X.K cA W (toV (isX (kisA kis z (n :: ns)) a m))) := by
  cases hk : kisA kis z (n :: ns) with
  | none => exact ⟨fun pins s σ H Q I h => by obtain ⟨ρ, S, l, _, _, h⟩ := h; exact h.elim⟩
  | some b =>
    obtain ⟨k1, k2⟩ := kisA_ex F hk
    have hz' : Zc (.ref (cA z.c)) none oe := by rw [← hd k1]; exact hz
    exact (pe_callB (call_isET k2 hz' hf) hg hm hv (pa_cons ha (pa_cons (pe_tup hcn) pa_nil hs2) hs) (by decide) (by decide) hs hpl).imp fun σ H Q h0 => by
      refine tG.imp (bind1 (rep1 := rV X.K) st_Id (tE_toV h0)) fun v H1 h => ?_
      obtain ⟨ρ, S, dd, hS, hr, h⟩ := h
      split at h
      · rename_i b'
        split at h
        · rename_i e
          subst e
          unfold rV RepV at hr
          subst hr
          refine ⟨by rw [List.length_map]; exact hlen, fun tp htp => ⟨tp, _, _, b, rfl, upd_same, CN.all (n :: ns), kisA_of F hk, ?_⟩⟩
          exact h ρ _ b (Ext.new htp) (hS.new htp) rfl
        · exact h.elim
      · exact h.elim
end
end ML

set_option Elab.async false
set_option linter.all false
set_option maxRecDepth 100000
set_option autoImplicit false
/-! ML10: the end of a law's row. -/
namespace ML
open PySem PySem.Spec L2
theorem FnM.mk' {P : Program} {w : World} {K : PySem.W.Frag} {mg : Str → Option Value} {base : Heap} {cA : Nat → Addr} {k n : Nat} {x qual : Str} {st : Stmt} {f : Addr} {fd : FuncData} {ps : List Str} {G : List D → Store → R D} (F : Fun K x qual st f fd) (hm : mg x = some (.ref f)) (b : Binds K fd ps []) (ok : FnOk P w K mg base (L2.CX P w) k f fd ps (spM K cA G n)) : FnM P w K mg base cA k x n G := ⟨⟨f, fd, ps, hm, F.kp, b, ok⟩⟩
/-- a law's promise, from what its function tells -/
theorem law_sp {n : Nat} {F : List D → Store → R D} (h : ∀ ns : List Int, ns.length ≤ n → ∃ S', F [.lis (ns.map D.int)] [] = .ok (.bl true) S') {K : PySem.W.Frag} {cA : Nat → Addr} {H : Hp} {a : Addr} {ns : List Int} (hn : ns.length ≤ n) (hO : Only H) (hS : SqL K H a (ns.map V.int)) :
    spM K cA F 1 [.ref a] H (fun v _ => v = .bl true) (fun _ _ _ => False) := by
  obtain ⟨S', e⟩ := h ns hn
  refine ⟨rfl, [], [], [.lis (ns.map D.int)], ⟨rfl, List.nodup_nil, fun n c a h => by simp at h⟩, ?_, ?_⟩
  · refine .cons ?_ .nil
    unfold RepV
    refine ⟨a, ns.map V.int, rfl, ?_, RepVs.of_ints⟩
    rcases hS with (hS | ⟨o, hS⟩) | hS
    · rcases hO a with z | ⟨o, xs, z⟩ <;> (rw [hS] at z; cases z)
    · exact .inl ⟨o, hS⟩
    · exact .inr hS
  · rw [e]
    intro ρ' H' v _ _ hv
    unfold rV RepV at hv
    exact hv
/-- the classes' addresses by number -/
def tabA (l : List Addr) : Nat → Addr := fun n => l.getD n 0
/-- a promise that does not name the classes -/
def spA (K : PySem.W.Frag) (F : List D → Store → R D) (n : Nat) : Sp := fun vs H Q E => ∀ cA : Nat → Addr, spM K cA F n vs H Q E
theorem spA_of {P : Program} {w : World} {K : PySem.W.Frag} {mg : Str → Option Value} {base : Heap} {cA : Nat → Addr} {k n : Nat} {f : Addr} {fd : FuncData} {ps : List Str} {F : List D → Store → R D} {CX : CXT} (h : FnOk P w K mg base CX k f fd ps (spM K cA F n)) : FnOk P w K mg base CX k f fd ps (spA K F n) :=
  ⟨fun vs H Q E q => h.len vs H Q E (q cA), fun A st s H args us vs Q E hr e b r q => h.run A st s H args us vs Q E hr e b r (q cA)⟩
theorem law_spA {n : Nat} {F : List D → Store → R D} (h : ∀ ns : List Int, ns.length ≤ n → ∃ S', F [.lis (ns.map D.int)] [] = .ok (.bl true) S') {K : PySem.W.Frag} {H : Hp} {a : Addr} {ns : List Int} (hn : ns.length ≤ n) (hO : Only H) (hS : SqL K H a (ns.map V.int)) :
    spA K F 1 [.ref a] H (fun v _ => v = .bl true) (fun _ _ _ => False) := fun _ => law_sp h hn hO hS
theorem cx_end {P : Program} {w : World} {H : Hp} {s : Shared} {e : Value} {s' : Shared} (h : L2.CX P w [] H s (fun _ _ _ => False) e s') : False := by
  obtain ⟨_, _, _, _, _, _, _, _, _, _, _, _, z⟩ := h
  exact z
end ML

set_option Elab.async false
set_option linter.all false
set_option maxRecDepth 100000
set_option autoImplicit false
/-! ML11: reckoning with the functions. -/
namespace ML
open PySem PySem.Spec L2

/-- a text of one sign -/
def sgn (c : Nat) : D := .str ⟨#[c]⟩
/-- the signs of a text -/
def cs (x : Str) : List Nat := TL.tl x
@[simp] theorem cs_one (c : Nat) : cs ⟨#[c]⟩ = [c] := (rfl)
theorem cs_of (s : String) : cs (Str.ofString s) = s.toList.map Char.toNat := TL.tl_ofString s
@[simp] theorem cs_app (x y : Str) : cs (x ++ y) = cs x ++ cs y := TL.tl_append x y
@[simp] theorem cs_len (x : Str) : (cs x).length = x.length := (TL.len_tl x).symm
theorem cs_ext {x y : Str} (h : cs x = cs y) : x = y := TL.ext_tl h
theorem cs_join (y : Str) (parts : List Str) : cs (Str.join y parts) = TL.joinL (cs y) (parts.map cs) := TL.tl_join y parts
theorem signs_tl (z : Str) : signsOf z = (cs z).map sgn := rfl
section
variable {m n o : ME} {l : Loc} {S : Store}
@[simp] theorem x_con (d : D) : conE d l S = .ok d S := (rfl)
@[simp] theorem x_var0 (d : D) (r : Loc) : varE 0 (some d :: r) S = .ok d S := (rfl)
@[simp] theorem x_varS (i : Nat) (a : Option D) (r : Loc) : varE (i + 1) (a :: r) S = varE i r S := by simp [varE]
@[simp] theorem x_bin (f : D → D → Store → R D) : binE f m n l S = (m l S).bind fun a S1 => (n l S1).bind (f a) := (rfl)
@[simp] theorem x_un (f : D → Store → R D) : unE f m l S = (m l S).bind f := (rfl)
@[simp] theorem x_cmp (f : D → D → Store → R Bool) : cmpM f m n l S = (m l S).bind fun a S1 => (n l S1).bind (f a) := (rfl)
@[simp] theorem x_toV (m : MB) : toV m l S = (m l S).bind fun b S1 => .ok (.bl b) S1 := (rfl)
@[simp] theorem x_chain (f g : D → D → Store → R Bool) : chainM f g m n o l S = (m l S).bind fun a S1 => (n l S1).bind fun b S2 => (f a b S2).bind fun t S3 => if t = true then (o l S3).bind (g b) else .ok false S3 := (rfl)
@[simp] theorem x_andM (m n : MB) : andM m n l S = (m l S).bind fun b S1 => if b = true then n l S1 else .ok false S1 := (rfl)
@[simp] theorem x_orM (m n : MB) : orM m n l S = (m l S).bind fun b S1 => if b = true then .ok true S1 else n l S1 := (rfl)
@[simp] theorem x_notM (m : MB) : notM m l S = (m l S).bind fun b S1 => .ok (!b) S1 := (rfl)
@[simp] theorem x_isBl (b : Bool) : isBl (.bl b) = some b := (rfl)
@[simp] theorem x_ofV : ofV m l S = (m l S).bind fun d S1 => match isBl d with
  | some b => .ok b S1
  | none => .bad := (rfl)
@[simp] theorem x_andV (p : MB) : andV p n l S = (p l S).bind fun b S1 => if b = true then n l S1 else .ok (.bl false) S1 := (rfl)
@[simp] theorem x_orV (p : MB) : orV p n l S = (p l S).bind fun b S1 => if b = true then .ok (.bl true) S1 else n l S1 := (rfl)
@[simp] theorem x_ifE (c : MB) : ifE c m n l S = (c l S).bind fun b S1 => if b = true then m l S1 else n l S1 := (rfl)
@[simp] theorem x_nilA : nilA l S = .ok [] S := (rfl)
@[simp] theorem x_consA (r : MA) : consA m r l S = (m l S).bind fun d S1 => (r l S1).bind fun ds S2 => .ok (d :: ds) S2 := (rfl)
@[simp] theorem x_tupE (r : MA) : tupE r l S = (r l S).bind fun ds S1 => if ds.length ≤ sizeLine then .ok (.tup ds) S1 else .bad := (rfl)
@[simp] theorem x_lstN (r : MA) : lstN r l S = (r l S).bind fun ds S1 => if ds.length ≤ sizeLine then .ok ds S1 else .bad := (rfl)
@[simp] theorem x_allocE (r : MA) : allocE r l S = (r l S).bind fun ds S1 => newC (.lst ds) S1 := (rfl)
@[simp] theorem x_newL {α : Type} (f : List D → Store → R α) (r : MA) : newL f r l S = (r l S).bind f := (rfl)
@[simp] theorem x_ofL {α : Type} (f : List D → Store → R α) : ofL f m l S = (m l S).bind fun d S1 => match lstOf S1 d with
  | some ds => f ds S1
  | none => .bad := (rfl)
@[simp] theorem x_isE (T : String) : isE T m l S = (m l S).bind fun d S1 => match kindO S1 d with
  | some t => .ok (isKind T t) S1
  | none => .bad := (rfl)
@[simp] theorem x_call (k : Nat) (G : List D → Store → R D) (r : MA) : callE k G r l S = (r l S).bind fun ds S1 => if ds.length = k then G ds S1 else .bad := (rfl)
@[simp] theorem x_slice (lo hi : MO) : sliceE m lo hi l S = (m l S).bind fun d S1 => (lo l S1).bind fun i S2 => (hi l S2).bind (sliceD d i) := (rfl)
@[simp] theorem x_noO : noO l S = .ok none S := (rfl)
@[simp] theorem x_someO : someO m l S = (m l S).bind fun d S1 => match intO d with
  | some i => .ok (some i) S1
  | none => .bad := (rfl)
@[simp] theorem x_intO (i : Int) : intO (.int i) = some i := (rfl)
@[simp] theorem x_strO (i : Str) : strO (.str i) = some i := (rfl)
@[simp] theorem x_fld (cs : List Nat) (f : Str) : fldE cs f m l S = (m l S).bind fun d S1 => match d with
  | .ref n => match insAt S1 n with
    | some (c, fs) => if c ∈ cs then (match fs.lookup f with
      | some x => .ok x S1
      | none => .bad) else .bad
    | none => .bad
  | _ => .bad := (rfl)
@[simp] theorem x_lmE (f : D → List D → Store → R D) (r : MA) : lmE f m r l S = (m l S).bind fun d S1 => if (lstOf S1 d).isSome = true then (r l S1).bind (f d) else .bad := (rfl)
@[simp] theorem x_joinN (r : MA) : joinN m r l S = (m l S).bind fun d S1 => match strO d with
  | some a => (r l S1).bind fun ds S2 => match mapO strO ds with
    | some ys => if (ys.map (·.length)).sum + ys.length * a.length ≤ 16777216 then .ok (.str (Str.join a ys)) S2 else .bad
    | none => .bad
  | none => .bad := (rfl)
@[simp] theorem x_yes : yesM l S = .ok true S := (rfl)
/-! statements -/
@[simp] theorem x_nilS : nilS l S = .ok (.nx, l) S := (rfl)
@[simp] theorem x_seqS (a b : MS) : seqS a b l S = (a l S).bind (thenS b) := (rfl)
@[simp] theorem x_then_nx (b : MS) (l : Loc) : thenS b (.nx, l) S = b l S := (rfl)
@[simp] theorem x_then_rt (b : MS) (d : D) (l : Loc) : thenS b (.rt d, l) S = .ok (.rt d, l) S := (rfl)
@[simp] theorem x_then_bk (b : MS) (l : Loc) : thenS b (.bk, l) S = .ok (.bk, l) S := (rfl)
@[simp] theorem x_then_ct (b : MS) (l : Loc) : thenS b (.ct, l) S = .ok (.ct, l) S := (rfl)
@[simp] theorem x_exprS : exprS m l S = (m l S).bind fun _ S1 => .ok (.nx, l) S1 := (rfl)
@[simp] theorem x_retS : retS m l S = (m l S).bind fun d S1 => .ok (.rt d, l) S1 := (rfl)
@[simp] theorem x_retN : retN l S = .ok (.rt .non, l) S := (rfl)
@[simp] theorem x_ifS (c : MB) (a b : MS) : ifS c a b l S = (c l S).bind fun t S1 => if t = true then a l S1 else b l S1 := (rfl)
@[simp] theorem x_breakS : breakS l S = .ok (.bk, l) S := (rfl)
@[simp] theorem x_contS : contS l S = .ok (.ct, l) S := (rfl)
@[simp] theorem x_setS (i : Nat) : setS i m l S = (m l S).bind fun d S1 => .ok (.nx, l.set i (some d)) S1 := (rfl)
@[simp] theorem x_asgS (t : MT) : asgS t m l S = (m l S).bind fun d S1 => (t d l S1).bind fun l1 S2 => .ok (.nx, l1) S2 := (rfl)
@[simp] theorem x_nameT (i : Nat) (d : D) : nameT i d l S = .ok (l.set i (some d)) S := (rfl)
@[simp] theorem x_subT (d : D) : subT m n d l S = (m l S).bind fun o S1 => (n l S1).bind fun i S2 => match setO S2 o i d with
  | some S3 => .ok l S3
  | none => .bad := (rfl)
@[simp] theorem x_forS (src : Loc → Store → R Sn) (t : MT) (b : MS) : forS src t b l S = (src l S).bind fun p S1 => forL p.2 t b p.1 l S1 := (rfl)
@[simp] theorem x_srcN (r : MA) : srcN r l S = (r l S).bind fun ds S1 => .ok (ds, still) S1 := (rfl)
@[simp] theorem x_srcV : srcV m l S = (m l S).bind srcD := (rfl)
@[simp] theorem x_srcR1 (r : MA) : srcR1 r l S = (r l S).bind rng1 := (rfl)
@[simp] theorem x_srcR2 (r : MA) : srcR2 r l S = (r l S).bind rng2 := (rfl)
@[simp] theorem x_compN (src : Loc → Store → R Sn) (t : Tgt) (c : MB) : compN src t c m l S = (src l S).bind fun p S1 => (compL p.2 t c m (wipeL l t.own) p.1 [] S1).noex := (rfl)
@[simp] theorem x_noex_ok {α : Type} (a : α) (S : Store) : (R.ok a S).noex = .ok a S := (rfl)
@[simp] theorem x_again_nx (b : MS) (l : Loc) : againS b (.nx, l) S = b l S := (rfl)
@[simp] theorem x_again_ct (b : MS) (l : Loc) : againS b (.ct, l) S = b l S := (rfl)
@[simp] theorem x_again_bk (b : MS) (l : Loc) : againS b (.bk, l) S = .ok (.nx, l) S := (rfl)
@[simp] theorem x_again_rt (b : MS) (d : D) (l : Loc) : againS b (.rt d, l) S = .ok (.rt d, l) S := (rfl)
@[simp] theorem x_eqN (r s : MA) : eqN r s l S = (r l S).bind fun xs S1 => (s l S1).bind fun ys S2 => match eqLs S2 xs ys with
  | some b => .ok b S2
  | none => .bad := (rfl)
@[simp] theorem x_neN (r s : MA) : neN r s l S = (r l S).bind fun xs S1 => (s l S1).bind fun ys S2 => match eqLs S2 xs ys with
  | some b => .ok (!b) S2
  | none => .bad := (rfl)
@[simp] theorem x_nilP : nilP l S = .ok [] S := (rfl)
@[simp] theorem x_consP (k v : ME) (r : MP) : consP k v r l S = (k l S).bind fun a S1 => (v l S1).bind fun b S2 => (r l S2).bind fun ps S3 => .ok ((a, b) :: ps) S3 := (rfl)
@[simp] theorem x_dictE (r : MP) : dictE r l S = (r l (S ++ [.dct []])).bind fun ps S1 => match keysO ps with
  | some kvs => if kvs.length ≤ 15 then (match dctAt S1 S.length with
    | some [] => .ok (.ref S.length) (S1.set S.length (.dct (mergeD [] kvs)))
    | _ => .bad) else .bad
  | none => .bad := (rfl)
@[simp] theorem x_bodyF (k : Nat) (b : MS) (ds : List D) : bodyF k b ds S = (b (startL k ds) S).bind fun p S1 => match p.1 with
  | .nx => .ok .non S1
  | .rt d => .ok d S1
  | _ => .bad := (rfl)
/-! values -/
@[simp] theorem x_addI (i j : Int) : addD (.int i) (.int j) S = .ok (.int (i + j)) S := (rfl)
@[simp] theorem x_addT (x y : Str) : addD (.str x) (.str y) S = if x.length + y.length ≤ sizeLine then .ok (.str (x ++ y)) S else .bad := (rfl)
@[simp] theorem x_addU (x y : List D) : addD (.tup x) (.tup y) S = if x.length + y.length ≤ sizeLine then .ok (.tup (x ++ y)) S else .bad := (rfl)
@[simp] theorem x_subI (i j : Int) : subD (.int i) (.int j) S = .ok (.int (i - j)) S := (rfl)
theorem mulOk_r {i j : Int} (h : j.natAbs < 18446744073709551616) : mulOk i j = true := by
  have e : ((2 : Int) ^ 64) = 18446744073709551616 := by decide +kernel
  unfold mulOk
  rw [e]
  simp
  right
  omega
theorem mulOk_l {i j : Int} (h : i.natAbs < 18446744073709551616) : mulOk i j = true := by
  have e : ((2 : Int) ^ 64) = 18446744073709551616 := by decide +kernel
  unfold mulOk
  rw [e]
  simp
  left
  omega
@[simp] theorem x_mulR {i j : Int} (h : j.natAbs < 18446744073709551616) : mulD (.int i) (.int j) S = .ok (.int (i * j)) S := if_pos (mulOk_r h)
@[simp] theorem x_mulL {i j : Int} (h : i.natAbs < 18446744073709551616) : mulD (.int i) (.int j) S = .ok (.int (i * j)) S := if_pos (mulOk_l h)
@[simp] theorem x_fdivI (i j : Int) : fdivD (.int i) (.int j) S = if 0 < j ∧ j < 1073741824 then .ok (.int (i / j)) S else .bad := (rfl)
@[simp] theorem x_modI (i j : Int) : modD (.int i) (.int j) S = if 0 < j then .ok (.int (i % j)) S else .bad := (rfl)
@[simp] theorem x_powI (i j : Int) : powD (.int i) (.int j) S = if 0 ≤ j ∧ j ≤ 1000000 ∧ i.natAbs < 2 ^ 64 then .ok (.int (i ^ j.toNat)) S else .bad := (rfl)
@[simp] theorem x_negI (i : Int) : negD (.int i) S = .ok (.int (-i)) S := (rfl)
@[simp] theorem x_ltI (i j : Int) : ltD (.int i) (.int j) S = .ok (decide (i < j)) S := (rfl)
@[simp] theorem x_leI (i j : Int) : leD (.int i) (.int j) S = .ok (decide (i ≤ j)) S := (rfl)
@[simp] theorem x_gtI (i j : Int) : gtD (.int i) (.int j) S = .ok (decide (j < i)) S := (rfl)
@[simp] theorem x_geI (i j : Int) : geD (.int i) (.int j) S = .ok (decide (j ≤ i)) S := (rfl)
@[simp] theorem x_leS (x y : Str) : leD (.str x) (.str y) S = .ok (!decide (cs y < cs x)) S := (rfl)
@[simp] theorem x_ltS (x y : Str) : ltD (.str x) (.str y) S = .ok (decide (cs x < cs y)) S := (rfl)
@[simp] theorem x_lenT (x : Str) : lenV [.str x] S = if x.length ≤ sizeLine then .ok (.int x.length) S else .bad := (rfl)
@[simp] theorem x_lenU (x : List D) : lenV [.tup x] S = .ok (.int x.length) S := (rfl)
@[simp] theorem x_lenW (x : List D) : lenV [.lis x] S = .ok (.int x.length) S := (rfl)
theorem x_lenR {n : Nat} {xs : List D} (h : lstAt S n = some xs) : lenV [.ref n] S = .ok (.int xs.length) S := by
  unfold lenV
  simp only [seqOf, h]
@[simp] theorem x_abs (i : Int) : absV [.int i] S = .ok (.int i.natAbs) S := by
  show R.ok (D.int (if i < 0 then -i else i)) S = _
  congr 2
  split <;> omega
@[simp] theorem x_max (i j : Int) : maxV [.int i, .int j] S = .ok (.int (max i j)) S := by
  show R.ok (D.int (if j > i then j else i)) S = _
  congr 2
  split <;> omega
@[simp] theorem x_min (i j : Int) : minV [.int i, .int j] S = .ok (.int (min i j)) S := by
  show R.ok (D.int (if j < i then j else i)) S = _
  congr 2
  split <;> omega
@[simp] theorem x_int (i : Int) : intV [.int i] S = .ok (.int i) S := (rfl)
@[simp] theorem x_intB (b : Bool) : intV [.bl b] S = .ok (.int (if b = true then 1 else 0)) S := (rfl)
@[simp] theorem x_strI (i : Int) : strV [.int i] S = if i.natAbs.log2 < 1920 then .ok (.str (toString i)) S else .bad := (rfl)
@[simp] theorem x_ixU (x : List D) (i : Int) : ixO S (.tup x) (.int i) = atI x i := (rfl)
@[simp] theorem x_ixW (x : List D) (i : Int) : ixO S (.lis x) (.int i) = atI x i := (rfl)
@[simp] theorem x_ixT (z : Str) (i : Int) : ixO S (.str z) (.int i) = if z.length ≤ sizeLine then (atI (cs z) i).map sgn else none := (rfl)
theorem x_ixR {n : Nat} {xs : List D} (h : lstAt S n = some xs) (i : Int) : ixO S (.ref n) (.int i) = atI xs i := by
  unfold ixO
  simp only [lstAt_some h]
theorem x_ixK {n : Nat} {kvs : List (Key × D)} (h : kvAt S n = some kvs) (x : Str) : ixO S (.ref n) (.str x) = dLook kvs (.inr x) := by
  unfold ixO
  simp only [h]
@[simp] theorem x_srcU (x : List D) : srcD (.tup x) S = .ok (x, still) S := (rfl)
@[simp] theorem x_srcW (x : List D) : srcD (.lis x) S = .ok (x, still) S := (rfl)
@[simp] theorem x_srcT (z : Str) : srcD (.str z) S = .ok ((cs z).map sgn, still) S := (rfl)
@[simp] theorem x_inT (c : Nat) (z : Str) : inD (sgn c) (.str z) S = .ok (decide (c ∈ cs z)) S := (rfl)
@[simp] theorem x_ninT (c : Nat) (z : Str) : notInD (sgn c) (.str z) S = .ok (!decide (c ∈ cs z)) S := (rfl)
@[simp] theorem x_eqT (x y : Str) : eqD (.str x) (.str y) S = .ok (decide (x = y)) S := (rfl)
@[simp] theorem x_neT (x y : Str) : neD (.str x) (.str y) S = .ok (!decide (x = y)) S := (rfl)
@[simp] theorem x_leG (x : Str) (c : Nat) : leD (.str x) (sgn c) S = .ok (!decide ([c] < cs x)) S := (rfl)
@[simp] theorem x_leG' (x : Str) (c : Nat) : leD (sgn c) (.str x) S = .ok (!decide (cs x < [c])) S := (rfl)
@[simp] theorem x_kNon : kindO S .non = some "NoneType" := (rfl)
@[simp] theorem x_kBl (b : Bool) : kindO S (.bl b) = some "bool" := (rfl)
@[simp] theorem x_kInt (i : Int) : kindO S (.int i) = some "int" := (rfl)
@[simp] theorem x_kStr (i : Str) : kindO S (.str i) = some "str" := (rfl)
@[simp] theorem x_kTup (i : List D) : kindO S (.tup i) = some "tuple" := (rfl)
@[simp] theorem x_kLis (i : List D) : kindO S (.lis i) = some "list" := (rfl)
theorem x_kLst {n : Nat} {xs : List D} (h : S[n]? = some (.lst xs)) : kindO S (.ref n) = some "list" := by unfold kindO; simp only [h]
end
theorem still_true (S : Store) : still S := trivial
@[simp] theorem if_still {α : Type} {S : Store} (a b : R α) [Decidable (still S)] : (if still S then a else b) = a := if_pos trivial

/-! ### loops that change nothing -/
theorem forL_nil {chk : Store → Prop} {t : MT} {b : MS} {l : Loc} {S : Store} (hk : chk S) : forL chk t b [] l S = .ok (.nx, l) S := by unfold forL; exact if_pos hk
theorem forL_cons {chk : Store → Prop} {t : MT} {b : MS} {d : D} {ds : List D} {l : Loc} {S : Store} (hk : chk S) : forL chk t b (d :: ds) l S = (t d l S).bind fun l1 S1 => (b l1 S1).bind (againS (forL chk t b ds)) := by
  conv => lhs; unfold forL
  exact if_pos hk
theorem compL_nil {chk : Store → Prop} {t : Tgt} {c : MB} {m : ME} {l : Loc} {acc : List D} {S : Store} (hk : chk S) : compL chk t c m l [] acc S = .ok acc S := by unfold compL; exact if_pos hk
theorem compL_cons {chk : Store → Prop} {t : Tgt} {c : MB} {m : ME} {l : Loc} {d : D} {ds acc : List D} {S : Store} (hk : chk S) : compL chk t c m l (d :: ds) acc S = (match t.put d l with
    | some l1 => (c l1 S).bind fun b S1 => if b = true then (m l1 S1).bind fun y S2 => if acc.length < sizeLine then compL chk t c m l ds (acc ++ [y]) S2 else .bad else compL chk t c m l ds acc S1
    | none => .bad) := by
  conv => lhs; unfold compL
  exact if_pos hk
/-- a comprehension of one name whose elements change nothing -/
theorem compL_pure {chk : Store → Prop} {i : Nat} {c : MB} {m : ME} {l : Loc} {S : Store} (hk : chk S) (p : D → Bool) (f : D → D) : ∀ (ds acc : List D), (∀ d ∈ ds, c (l.set i (some d)) S = .ok (p d) S) → (∀ d ∈ ds, p d = true → m (l.set i (some d)) S = .ok (f d) S) → acc.length + ds.length ≤ sizeLine →
    compL chk (.one i) c m l ds acc S = .ok (acc ++ (ds.filter p).map f) S
  | [], acc, _, _, _ => by rw [compL_nil hk]; simp
  | d :: ds, acc, hc, hm, hz => by
    have h1 := hc d List.mem_cons_self
    have h2 := hm d List.mem_cons_self
    rw [List.length_cons] at hz
    rw [compL_cons hk]
    simp only [Tgt.put, h1, R.bind_ok]
    cases e : p d with
    | true =>
      simp only [if_true, h2 e, R.bind_ok]
      rw [if_pos (by omega), compL_pure hk p f ds (acc ++ [f d]) (fun x hx => hc x (List.mem_cons_of_mem _ hx)) (fun x hx => hm x (List.mem_cons_of_mem _ hx)) (by rw [List.length_append, List.length_singleton]; omega)]
      simp [e]
    | false =>
      simp only [if_false, Bool.false_eq_true]
      rw [compL_pure hk p f ds acc (fun x hx => hc x (List.mem_cons_of_mem _ hx)) (fun x hx => hm x (List.mem_cons_of_mem _ hx)) (by omega)]
      simp [e]
theorem compL_map {chk : Store → Prop} {i : Nat} {m : ME} {l : Loc} {S : Store} (f : D → D) (ds : List D) (hm : ∀ d ∈ ds, m (l.set i (some d)) S = .ok (f d) S) (hz : ds.length ≤ sizeLine) (hk : chk S := by trivial) : compL chk (.one i) yesM m l ds [] S = .ok (ds.map f) S := by
  rw [compL_pure hk (fun _ => true) f ds [] (fun _ _ => rfl) (fun d hd _ => hm d hd) (by simpa using hz), List.filter_eq_self.mpr (fun _ _ => rfl)]
  rfl
theorem mapO_some {α β γ : Type} {f : α → Option β} {g : γ → α} {h : γ → β} (e : ∀ x, f (g x) = some (h x)) : ∀ xs : List γ, mapO f (xs.map g) = some (xs.map h)
  | [] => rfl
  | x :: xs => by rw [List.map_cons]; unfold mapO; rw [e, mapO_some e xs]; rfl
theorem mapO_of {α β : Type} {f : α → Option β} {h : α → β} : ∀ {xs : List α}, (∀ x ∈ xs, f x = some (h x)) → mapO f xs = some (xs.map h)
  | [], _ => rfl
  | x :: xs, e => by unfold mapO; rw [e x List.mem_cons_self, mapO_of fun y hy => e y (List.mem_cons_of_mem _ hy)]; rfl
/-- .. over items g b -/
theorem compL_pureG {β : Type} {chk : Store → Prop} {i : Nat} {c : MB} {m : ME} {l : Loc} {S : Store} (hk : chk S) (g : β → D) (p : β → Bool) (f : β → D) : ∀ (bs : List β) (acc : List D), (∀ b ∈ bs, c (l.set i (some (g b))) S = .ok (p b) S) → (∀ b ∈ bs, p b = true → m (l.set i (some (g b))) S = .ok (f b) S) → acc.length + bs.length ≤ sizeLine →
    compL chk (.one i) c m l (bs.map g) acc S = .ok (acc ++ (bs.filter p).map f) S
  | [], acc, _, _, _ => by rw [List.map_nil, compL_nil hk]; simp
  | d :: ds, acc, hc, hm, hz => by
    have h1 := hc d List.mem_cons_self
    have h2 := hm d List.mem_cons_self
    rw [List.length_cons] at hz
    rw [List.map_cons, compL_cons hk]
    simp only [Tgt.put, h1, R.bind_ok]
    cases e : p d with
    | true =>
      simp only [if_true, h2 e, R.bind_ok]
      rw [if_pos (by omega), compL_pureG hk g p f ds (acc ++ [f d]) (fun x hx => hc x (List.mem_cons_of_mem _ hx)) (fun x hx => hm x (List.mem_cons_of_mem _ hx)) (by rw [List.length_append, List.length_singleton]; omega)]
      simp [e]
    | false =>
      simp only [if_false, Bool.false_eq_true]
      rw [compL_pureG hk g p f ds acc (fun x hx => hc x (List.mem_cons_of_mem _ hx)) (fun x hx => hm x (List.mem_cons_of_mem _ hx)) (by omega)]
      simp [e]
theorem compL_mapG {β : Type} {chk : Store → Prop} {i : Nat} {m : ME} {l : Loc} {S : Store} (g : β → D) (f : β → D) (bs : List β) (hm : ∀ b ∈ bs, m (l.set i (some (g b))) S = .ok (f b) S) (hz : bs.length ≤ sizeLine) (hk : chk S := by trivial) : compL chk (.one i) yesM m l (bs.map g) [] S = .ok (bs.map f) S := by
  rw [compL_pureG hk g (fun _ => true) f bs [] (fun _ _ => rfl) (fun d hd _ => hm d hd) (by simpa using hz), List.filter_eq_self.mpr (fun _ _ => rfl)]
  rfl
theorem compL_filG {β : Type} {chk : Store → Prop} {i : Nat} {c : MB} {m : ME} {l : Loc} {S : Store} (g : β → D) (p : β → Bool) (f : β → D) (bs : List β) (hc : ∀ b ∈ bs, c (l.set i (some (g b))) S = .ok (p b) S) (hm : ∀ b ∈ bs, p b = true → m (l.set i (some (g b))) S = .ok (f b) S) (hz : bs.length ≤ sizeLine) (hk : chk S := by trivial) :
    compL chk (.one i) c m l (bs.map g) [] S = .ok ((bs.filter p).map f) S := by
  rw [compL_pureG hk g p f bs [] hc hm (by simpa using hz)]
  rfl
theorem allL_map {β : Type} (p : β → Bool) (bs : List β) (S : Store) : allL (bs.map fun b => .bl (p b)) S = .ok (.bl (bs.all p)) S := by
  unfold allL
  rw [mapO_some (f := isBl) (g := fun b => .bl (p b)) (h := p) (fun _ => rfl)]
  simp
theorem anyL_map {β : Type} (p : β → Bool) (bs : List β) (S : Store) : anyL (bs.map fun b => .bl (p b)) S = .ok (.bl (bs.any p)) S := by
  unfold anyL
  rw [mapO_some (f := isBl) (g := fun b => .bl (p b)) (h := p) (fun _ => rfl)]
  simp
theorem sz : sizeLine = 16777216 := rfl
theorem lt1 (a b : Nat) : ([a] : List Nat) < [b] ↔ a < b := by simp [List.cons_lt_cons_iff]
/-- a run that ends well -/
def Ret {α : Type} (r : R α) (Q : α → Store → Prop) : Prop := match r with
  | .ok a S => Q a S
  | _ => False
@[simp] theorem Ret_ok {α : Type} (a : α) (S : Store) (Q : α → Store → Prop) : Ret (.ok a S) Q ↔ Q a S := Iff.rfl
theorem Ret_bind {α β : Type} (r : R α) (f : α → Store → R β) (Q : β → Store → Prop) : Ret (r.bind f) Q ↔ Ret r fun a S => Ret (f a S) Q := by cases r <;> exact Iff.rfl
theorem Ret.imp {α : Type} {r : R α} {Q Q' : α → Store → Prop} (h : Ret r Q) (i : ∀ a S, Q a S → Q' a S) : Ret r Q' := by
  cases r with
  | ok a S => exact i a S h
  | ex x S => exact h
  | bad => exact h
theorem Ret.of {α : Type} {r : R α} {Q : α → Store → Prop} (h : Ret r Q) : ∃ a S, r = .ok a S ∧ Q a S := by
  cases r with
  | ok a S => exact ⟨a, S, rfl, h⟩
  | ex x S => exact h.elim
  | bad => exact h.elim
theorem Ret.bind {α β : Type} {r : R α} {f : α → Store → R β} {Q : β → Store → Prop} (h : Ret r fun a S => Ret (f a S) Q) : Ret (r.bind f) Q := (Ret_bind r f Q).mpr h
/-- a for loop with an invariant over the number of turns -/
theorem forL_inv {chk : Store → Prop} {t : MT} {b : MS} {Q : Fl × Loc → Store → Prop} (I : Nat → Loc → Store → Prop) {ds : List D} (hc : ∀ k l S, I k l S → chk S)
    (hs : ∀ k d l S, I k l S → ds[k]? = some d → Ret (t d l S) fun l1 S1 => Ret (b l1 S1) fun p S2 => match p.1 with
      | .nx => I (k + 1) p.2 S2
      | .ct => I (k + 1) p.2 S2
      | .bk => Q (.nx, p.2) S2
      | .rt _ => Q p S2) (he : ∀ l S, I ds.length l S → Q (.nx, l) S) :
    ∀ (j k : Nat) (l : Loc) (S : Store), j = ds.length - k → k ≤ ds.length → I k l S → Ret (forL chk t b (ds.drop k) l S) Q
  | 0, k, l, S, e, hk, h => by
    have : k = ds.length := by omega
    subst this
    rw [List.drop_length]
    unfold forL
    rw [if_pos (hc _ _ _ h)]
    exact he l S h
  | j + 1, k, l, S, e, hk, h => by
    have hk : k < ds.length := by omega
    rw [List.drop_eq_getElem_cons hk]
    unfold forL
    rw [if_pos (hc _ _ _ h)]
    have h1 := hs k ds[k] l S h (List.getElem?_eq_getElem hk)
    refine (h1.imp fun l1 S1 h => ?_).bind
    refine (h.imp fun p S2 h => ?_).bind
    obtain ⟨fl, l2⟩ := p
    cases fl with
    | nx => exact forL_inv I hc hs he j (k + 1) l2 S2 (by omega) (by omega) h
    | ct => exact forL_inv I hc hs he j (k + 1) l2 S2 (by omega) (by omega) h
    | bk => exact h
    | rt d => exact h
/-! ### equality is equality of data -/
mutual
theorem toPy_dep {S : Store} : ∀ (k : Nat) (d : D) (p : PyData), toPy S k d = some p → p.depth ≤ k
  | k, .non, p, h => by
    unfold toPy at h
    cases h
    exact by simp [PyData.depth]
  | k, .bl b, p, h => by
    unfold toPy at h
    cases h
    exact by simp [PyData.depth]
  | k, .int b, p, h => by
    unfold toPy at h
    cases h
    exact by simp [PyData.depth]
  | k, .str b, p, h => by
    unfold toPy at h
    cases h
    exact by simp [PyData.depth]
  | k, .exn b, p, h => by
    unfold toPy at h
    cases h
  | 0, .tup xs, p, h => by simp [toPy] at h
  | 0, .lis xs, p, h => by simp [toPy] at h
  | 0, .ref n, p, h => by simp [toPy] at h
  | k + 1, .tup xs, p, h => by
    have h : (mapO (toPy S k) xs).map PyData.tuple = some p := h
    cases e : mapO (toPy S k) xs with
    | none => rw [e] at h; simp at h
    | some q =>
      rw [e] at h
      cases h
      have := toPys_dep k xs q e
      exact by simp [PyData.depth]; omega
  | k + 1, .lis xs, p, h => by
    have h : (mapO (toPy S k) xs).map PyData.list = some p := h
    cases e : mapO (toPy S k) xs with
    | none => rw [e] at h; simp at h
    | some q =>
      rw [e] at h
      cases h
      have := toPys_dep k xs q e
      exact by simp [PyData.depth]; omega
  | k + 1, .ref n, p, h => by
    unfold toPy at h
    cases e1 : lstAt S n with
    | none => simp [e1] at h
    | some xs =>
      simp only [e1] at h
      cases e : mapO (toPy S k) xs with
      | none => simp [e] at h
      | some q =>
        rw [e] at h
        cases h
        have := toPys_dep k xs q e
        exact by simp [PyData.depth]; omega
theorem toPys_dep {S : Store} (k : Nat) : ∀ (xs : List D) (ps : List PyData), mapO (toPy S k) xs = some ps → PyData.depthAll ps ≤ k
  | [], ps, h => by
    unfold mapO at h
    cases h
    exact by simp [PyData.depthAll]
  | x :: xs, ps, h => by
    unfold mapO at h
    cases e1 : toPy S k x with
    | none => simp [e1] at h
    | some p =>
      cases e2 : mapO (toPy S k) xs with
      | none => simp [e1, e2] at h
      | some q =>
        simp [e1, e2] at h
        cases h
        have h1 := toPy_dep k x p e1
        have h2 := toPys_dep k xs q e2
        exact by simp [PyData.depthAll]; omega
end
theorem toPy_shaped {S : Store} {d : D} {p : PyData} (h : toPy S 64 d = some p) (c : p.canLay0 = true) : SeqAt.shaped p = true := by
  have := toPy_dep 64 d p h
  show (p.canLay0 && decide (p.depth ≤ 64)) = true
  rw [c, decide_eq_true this]
  rfl
theorem eqPy_of {S : Store} {d e : D} {p q : PyData} (h1 : toPy S 64 d = some p) (h2 : toPy S 64 e = some q) (c1 : p.canLay0 = true) (c2 : q.canLay0 = true) : eqPy S d e = some (PyData.eqv p q) := by
  unfold eqPy
  simp only [h1, h2]
  rw [if_pos ⟨toPy_shaped h1 c1, toPy_shaped h2 c2⟩]
theorem eqO_of {S : Store} {d e : D} {p q : PyData} (h1 : toPy S 64 d = some p) (h2 : toPy S 64 e = some q) (c1 : p.canLay0 = true) (c2 : q.canLay0 = true) : eqO S d e = some (PyData.eqv p q) := by
  unfold eqO
  split
  · simp only [toPy] at h1 h2
    cases h1
    cases h2
    simp [PyData.eqv]
    rfl
  · simp only [toPy] at h1 h2; cases h1; cases h2; rfl
  · simp only [toPy] at h1 h2; cases h1; cases h2; rfl
  · simp only [toPy] at h1 h2; cases h1; cases h2; rfl
  · simp only [toPy] at h1 h2; cases h1; cases h2; rfl
  · simp only [toPy] at h1 h2; cases h1; cases h2; rfl
  · simp only [toPy] at h1 h2; cases h1; cases h2; rfl
  · exact eqPy_of h1 h2 c1 c2
theorem eqD_of {S : Store} {d e : D} {p q : PyData} (h1 : toPy S 64 d = some p) (h2 : toPy S 64 e = some q) (c1 : p.canLay0 = true) (c2 : q.canLay0 = true) : eqD d e S = .ok (PyData.eqv p q) S := by
  unfold eqD
  simp only [eqO_of h1 h2 c1 c2]
theorem neD_of {S : Store} {d e : D} {p q : PyData} (h1 : toPy S 64 d = some p) (h2 : toPy S 64 e = some q) (c1 : p.canLay0 = true) (c2 : q.canLay0 = true) : neD d e S = .ok (!PyData.eqv p q) S := by
  unfold neD
  simp only [eqO_of h1 h2 c1 c2]
theorem eqLs_of {S : Store} {xs ys : List D} {ps qs : List PyData} (h1 : mapO (toPy S 63) xs = some ps) (h2 : mapO (toPy S 63) ys = some qs) (c1 : PyData.canLayAll0 ps = true) (c2 : PyData.canLayAll0 qs = true) : eqLs S xs ys = some (PyData.eqvAll ps qs) := by
  have a1 := toPys_dep 63 xs ps h1
  have a2 := toPys_dep 63 ys qs h2
  unfold eqLs
  simp only [h1, h2]
  rw [if_pos]
  · rw [PyData.eqv]
  · constructor
    · show (PyData.canLay0 (.list ps) && decide (PyData.depth (.list ps) ≤ 64)) = true
      simp [PyData.canLay0, PyData.depth, c1]
      omega
    · show (PyData.canLay0 (.list qs) && decide (PyData.depth (.list qs) ≤ 64)) = true
      simp [PyData.canLay0, PyData.depth, c2]
      omega
@[simp] theorem toPy_non (S : Store) (k : Nat) : toPy S k .non = some .none := by unfold toPy; cases k <;> rfl
@[simp] theorem toPy_bl (S : Store) (k : Nat) (b : Bool) : toPy S k (.bl b) = some (.bool b) := by unfold toPy; cases k <;> rfl
@[simp] theorem toPy_int (S : Store) (k : Nat) (i : Int) : toPy S k (.int i) = some (.int i) := by unfold toPy; cases k <;> rfl
@[simp] theorem toPy_str (S : Store) (k : Nat) (x : Str) : toPy S k (.str x) = some (.str x) := by unfold toPy; cases k <;> rfl
@[simp] theorem toPy_exn (S : Store) (k : Nat) (a : Addr) : toPy S k (.exn a) = none := by unfold toPy; cases k <;> rfl
@[simp] theorem toPy_sgn (S : Store) (k : Nat) (c : Nat) : toPy S k (sgn c) = some (.str ⟨#[c]⟩) := toPy_str S k _
@[simp] theorem toPy_tup (S : Store) (k : Nat) (xs : List D) : toPy S (k + 1) (.tup xs) = (mapO (toPy S k) xs).map .tuple := (rfl)
@[simp] theorem toPy_lis (S : Store) (k : Nat) (xs : List D) : toPy S (k + 1) (.lis xs) = (mapO (toPy S k) xs).map .list := (rfl)
theorem toPy_ref {S : Store} {n : Nat} {xs : List D} (h : S[n]? = some (.lst xs)) (k : Nat) : toPy S (k + 1) (.ref n) = (mapO (toPy S k) xs).map .list := by
  conv => lhs; unfold toPy
  simp only [lstAt_of h]
@[simp] theorem mapO_nil {α β : Type} (f : α → Option β) : mapO f [] = some [] := (rfl)
@[simp] theorem mapO_cons {α β : Type} (f : α → Option β) (x : α) (xs : List α) : mapO f (x :: xs) = match f x, mapO f xs with
  | some y, some ys => some (y :: ys)
  | _, _ => none := (rfl)
theorem eqvAll_nil (ps : List PyData) : PyData.eqvAll ps [] = ps.isEmpty := by cases ps <;> simp [PyData.eqvAll]
/-- loops -/
theorem forS_inv {chk : Store → Prop} {t : MT} {b : MS} {Q : Fl × Loc → Store → Prop} (I : Nat → Loc → Store → Prop) {ds : List D} {l : Loc} {S : Store} (h0 : I 0 l S) (hc : ∀ k l S, I k l S → chk S)
    (hs : ∀ k d l S, I k l S → ds[k]? = some d → Ret (t d l S) fun l1 S1 => Ret (b l1 S1) fun p S2 => match p.1 with
      | .nx => I (k + 1) p.2 S2
      | .ct => I (k + 1) p.2 S2
      | .bk => Q (.nx, p.2) S2
      | .rt _ => Q p S2) (he : ∀ l S, I ds.length l S → Q (.nx, l) S) : Ret (forL chk t b ds l S) Q := by
  have := forL_inv I hc hs he ds.length 0 l S (by omega) (by omega) h0
  rwa [List.drop_zero] at this
@[simp] theorem ofString_inj (a b : String) : Str.ofString a = Str.ofString b ↔ a = b := by
  refine ⟨fun h => ?_, fun h => by rw [h]⟩
  have := congrArg cs h
  rw [cs_of, cs_of] at this
  have inj : ∀ l m : List Char, l.map Char.toNat = m.map Char.toNat → l = m := by
    intro l
    induction l with
    | nil => intro m h; cases m with
      | nil => rfl
      | cons c m => simp at h
    | cons a l ih => intro m h; cases m with
      | nil => simp at h
      | cons c m =>
        simp at h
        rw [Char.toNat_inj.mp h.1, ih m h.2]
  exact String.toList_inj.mp (inj _ _ this)
theorem x_ix (d e : D) (S : Store) : ixD d e S = match ixO S d e with
  | some x => .ok x S
  | none => .bad := (rfl)
theorem x_ixD {d e x : D} {S : Store} (h : ixO S d e = some x) : ixD d e S = .ok x S := by unfold ixD; rw [h]
@[simp] theorem x_eqI (i j : Int) (S : Store) : eqD (.int i) (.int j) S = .ok (decide (i = j)) S := by
  rw [eqD_of (p := .int i) (q := .int j) rfl rfl rfl rfl]
  simp [PyData.eqv]
  rfl
@[simp] theorem x_neI (i j : Int) (S : Store) : neD (.int i) (.int j) S = .ok (!decide (i = j)) S := by
  rw [neD_of (p := .int i) (q := .int j) rfl rfl rfl rfl]
  simp [PyData.eqv]
  rfl
@[simp] theorem x_slT (z : Str) (lo hi : Option Int) (S : Store) : sliceD (.str z) lo hi S = if z.length ≤ sizeLine then .ok (.str (cutS z lo hi)) S else .bad := (rfl)
theorem cs_cut {z : Str} {lo hi : Option Int} {c : Nat} (h : c ∈ cs (cutS z lo hi)) : c ∈ cs z := by
  have h : c ∈ ((cs z).drop (HT.sIx z.length 0 lo)).take (HT.sIx z.length z.length hi - HT.sIx z.length 0 lo) := h
  exact List.mem_of_mem_drop (List.mem_of_mem_take h)
theorem joinL_one : ∀ l : List Nat, TL.joinL [] (l.map fun c => [c]) = l
  | [] => rfl
  | [c] => rfl
  | c :: d :: l => by
    have := joinL_one (d :: l)
    simp only [List.map_cons] at this ⊢
    unfold TL.joinL
    rw [this]
    rfl
theorem cs_join1 (l : List Nat) : cs (Str.join (Str.ofString "") (l.map fun c => (⟨#[c]⟩ : Str))) = l := by
  rw [cs_join, cs_of, List.map_map]
  exact joinL_one l
theorem strO_sgns (l : List Nat) : mapO strO (l.map sgn) = some (l.map fun c => (⟨#[c]⟩ : Str)) := mapO_some (f := strO) (g := sgn) (h := fun c => (⟨#[c]⟩ : Str)) (fun _ => rfl) l
theorem sum_ones (l : List Nat) : ((l.map fun c => (⟨#[c]⟩ : Str)).map (·.length)).sum = l.length := by
  induction l with
  | nil => rfl
  | cons c l ih =>
    simp only [List.map_cons, List.sum_cons, ih, List.length_cons]
    have : (⟨#[c]⟩ : Str).length = 1 := rfl
    omega
/-- ''.join of signs -/
theorem joinN_signs {m : MA} {l : Loc} {S S1 : Store} {ks : List Nat} (h : m l S = .ok (ks.map sgn) S1) (hz : ks.length ≤ 16777216) : ∃ x, joinN (conE (.str (Str.ofString ""))) m l S = .ok (.str x) S1 ∧ cs x = ks := by
  refine ⟨Str.join (Str.ofString "") (ks.map fun c => (⟨#[c]⟩ : Str)), ?_, cs_join1 ks⟩
  have e : (Str.ofString "").length = 0 := rfl
  simp only [x_joinN, x_con, R.bind_ok, h, x_strO, strO_sgns, sum_ones, e, Nat.mul_zero, Nat.add_zero]
  rw [if_pos hz]
@[simp] theorem len_app (x y : Str) : (x ++ y).length = x.length + y.length := by rw [← cs_len, cs_app, List.length_append, cs_len, cs_len]
theorem len_of (s : String) : (Str.ofString s).length = s.toList.length := by rw [← cs_len, cs_of, List.length_map]
theorem atI_mem {α : Type} {xs : List α} {i : Int} (h0 : 0 ≤ i) (h1 : i < xs.length) : ∃ u ∈ xs, atI xs i = some u := by
  obtain ⟨k, rfl⟩ : ∃ k : Nat, i = k := ⟨i.toNat, by omega⟩
  have hk : k < xs.length := by omega
  exact ⟨xs[k], List.getElem_mem hk, L2.atI_nat (List.getElem?_eq_getElem hk)⟩
@[simp] theorem x_rng1 {j : Int} {S : Store} (h1 : -4611686018427387904 ≤ j) (h2 : j < 4611686018427387904) : rng1 [.int j] S = .ok (intsFrom 0 j.toNat, still) S := if_pos ⟨by omega, by omega⟩
@[simp] theorem x_rng2 {i j : Int} {S : Store} (h3 : -4611686018427387904 ≤ i) (h4 : i < 4611686018427387904) (h1 : -4611686018427387904 ≤ j) (h2 : j < 4611686018427387904) : rng2 [.int i, .int j] S = .ok (intsFrom i (j - i).toNat, still) S := if_pos ⟨by omega, by omega, by omega, by omega⟩
theorem ints_at {lo : Int} {n k : Nat} {d : D} (h : (intsFrom lo n)[k]? = some d) : k < n ∧ d = .int (lo + (k : Nat)) := by
  unfold intsFrom at h
  have hk := (List.getElem?_eq_some_iff.mp h).1
  rw [List.length_map, List.length_range] at hk
  rw [List.getElem?_map, List.getElem?_range hk] at h
  cases h
  exact ⟨hk, rfl⟩
@[simp] theorem x_newC (c : Cell) (S : Store) : newC c S = .ok (.ref S.length) (S ++ [c]) := (rfl)
theorem x_addR {S : Store} {n m : Nat} {xs ys : List D} (h1 : S[n]? = some (.lst xs)) (h2 : S[m]? = some (.lst ys)) (h : xs.length + ys.length ≤ 16777216) : addD (.ref n) (.ref m) S = .ok (.ref S.length) (S ++ [.lst (xs ++ ys)]) := by
  unfold addD
  simp only [lstAt_of h1, lstAt_of h2]
  rw [if_pos (show _ ≤ sizeLine from h)]
  rfl
theorem x_srcR {S : Store} {n : Nat} {xs : List D} (h : S[n]? = some (.lst xs)) : srcD (.ref n) S = .ok (xs, fun S' => lstAt S' n = some xs) S := by
  unfold srcD
  simp only [lstAt_of h]
theorem at_app {S T : Store} {n : Nat} {c : Cell} (h : S[n]? = some c) : (S ++ T)[n]? = some c := by
  rw [List.getElem?_append_left (List.getElem?_eq_some_iff.mp h).1]
  exact h
theorem at_end {S : Store} {c : Cell} : (S ++ [c])[S.length]? = some c := by simp
/-- the text of a number -/
theorem num_text (n : Int) (h0 : 0 ≤ n) (k : Nat) (hk : 0 < k) (h1 : n < 10 ^ k) : ∃ x : Str, Str.ofString (toString n) = x ∧ x.length ≤ k ∧ ∀ c ∈ cs x, 48 ≤ c ∧ c ≤ 57 := by
  obtain ⟨m, rfl⟩ : ∃ m : Nat, n = m := ⟨n.toNat, by omega⟩
  have hm : m < 10 ^ k := by exact_mod_cast h1
  refine ⟨_, rfl, ?_, ?_⟩
  · rw [← cs_len, cs, TL.tl_num]
    exact TL.numL_len hk hm
  · rw [cs, TL.tl_num]
    exact TL.numL_digits m
end ML

set_option Elab.async false
set_option linter.all false
set_option maxRecDepth 100000
set_option autoImplicit false
/-! ML13: more reckoning. -/
namespace ML
open PySem PySem.Spec L2

/-- a text of signs -/
def mkS (w : List Nat) : Str := ⟨w.toArray⟩
@[simp] theorem cs_mkS (w : List Nat) : cs (mkS w) = w := by
  show w.toArray.toList = w
  simp
theorem mkS_cs (x : Str) : mkS (cs x) = x := cs_ext (cs_mkS _)
@[simp] theorem mkS_len (w : List Nat) : (mkS w).length = w.length := by rw [← cs_len, cs_mkS]
theorem mkS_of (s : String) : Str.ofString s = mkS (s.toList.map Char.toNat) := cs_ext (by rw [cs_of, cs_mkS])
theorem mkS_inj {a b : List Nat} : mkS a = mkS b ↔ a = b := ⟨fun h => by have := congrArg cs h; rwa [cs_mkS, cs_mkS] at this, fun h => by rw [h]⟩
theorem mkS_app (a b : List Nat) : mkS a ++ mkS b = mkS (a ++ b) := cs_ext (by rw [cs_app, cs_mkS, cs_mkS, cs_mkS])
theorem sgn_mk (c : Nat) : sgn c = .str (mkS [c]) := rfl
theorem x_neG (c : Nat) (y : Str) (S : Store) : neD (sgn c) (.str y) S = .ok (!decide ([c] = cs y)) S := by
  rw [sgn_mk, x_neT]
  congr 2
  refine decide_eq_decide.mpr ⟨fun h => ?_, fun h => cs_ext ?_⟩
  · rw [← h, cs_mkS]
  · rw [cs_mkS]; exact h
@[simp] theorem x_ordG (c : Nat) (S : Store) : ordV [sgn c] S = .ok (.int c) S := (rfl)
@[simp] theorem lstAt_end (T : Store) (xs : List D) : lstAt (T ++ [.lst xs]) T.length = some xs := lstAt_of (by simp)
@[simp] theorem set_end (T : Store) (c d : Cell) : (T ++ [c]).set T.length d = T ++ [d] := by
  rw [List.set_append_right _ _ (Nat.le_refl _)]
  simp
theorem x_append {S : Store} {n : Nat} {xs : List D} {d : D} (h : lstAt S n = some xs) (hz : xs.length < 16777216) : appendM (.ref n) [d] S = .ok .non (S.set n (.lst (xs ++ [d]))) := by
  unfold appendM
  simp only [h]
  exact if_pos hz
@[simp] theorem x_lstOfR (S : Store) (n : Nat) : lstOf S (.ref n) = lstAt S n := (rfl)
theorem sIx_of {n d : Nat} {k : Nat} : HT.sIx n d (some (k : Int)) = min k n := HT.sIx_nat n d k
theorem cs_take (z : Str) (k : Nat) : cs (cutS z none (some (k : Int))) = (cs z).take k := by
  have h : cs (cutS z none (some (k : Int))) = ((cs z).drop (HT.sIx z.length 0 none)).take (HT.sIx z.length z.length (some (k : Int)) - HT.sIx z.length 0 none) := rfl
  rw [h, sIx_of, HT.sIx_none, List.drop_zero, Nat.sub_zero, ← cs_len, ← List.take_take, List.take_length]
theorem cs_drop (z : Str) (k : Nat) : cs (cutS z (some (k : Int)) none) = (cs z).drop k := by
  have h : cs (cutS z (some (k : Int)) none) = ((cs z).drop (HT.sIx z.length 0 (some (k : Int)))).take (HT.sIx z.length z.length none - HT.sIx z.length 0 (some (k : Int))) := rfl
  rw [h, sIx_of, HT.sIx_none, ← cs_len, List.take_of_length_le (by rw [List.length_drop]; exact Nat.le_refl _)]
  by_cases q : k ≤ (cs z).length
  · rw [Nat.min_eq_left q]
  · rw [Nat.min_eq_right (by omega), List.drop_length, List.drop_of_length_le (by omega)]
theorem cutD_take (xs : List D) (k : Nat) : cutD xs none (some (k : Int)) = xs.take k := by
  unfold cutD
  rw [sIx_of, HT.sIx_none, List.drop_zero, Nat.sub_zero, ← List.take_take, List.take_length]
theorem cutD_drop (xs : List D) (k : Nat) : cutD xs (some (k : Int)) none = xs.drop k := by
  unfold cutD
  rw [sIx_of, HT.sIx_none, List.take_of_length_le (by rw [List.length_drop]; exact Nat.le_refl _)]
  by_cases q : k ≤ xs.length
  · rw [Nat.min_eq_left q]
  · rw [Nat.min_eq_right (by omega), List.drop_length, List.drop_of_length_le (by omega)]
/-- texts as things -/
def strD (w : List Nat) : D := .str (mkS w)
def okT (w : List Nat) : Prop := ∀ c ∈ w, c < 1114112
theorem lay_str {w : List Nat} (h : okT w) : (PyData.str (mkS w)).canLay0 = true := by
  simp only [PyData.canLay0, PyData.strOk, mkS]
  simpa [okT] using h
theorem lay_strs : ∀ {ws : List (List Nat)}, (∀ w ∈ ws, okT w) → PyData.canLayAll0 (ws.map fun w => PyData.str (mkS w)) = true
  | [], _ => rfl
  | w :: ws, h => by
    rw [List.map_cons, PyData.canLayAll0, lay_str (h w List.mem_cons_self), lay_strs fun v hv => h v (List.mem_cons_of_mem _ hv)]
    rfl
theorem eqv_strs : ∀ (ws vs : List (List Nat)), PyData.eqvAll (ws.map fun w => PyData.str (mkS w)) (vs.map fun w => PyData.str (mkS w)) = decide (ws = vs)
  | [], [] => by simp [PyData.eqvAll]
  | [], v :: vs => by simp [PyData.eqvAll]
  | w :: ws, [] => by simp [PyData.eqvAll]
  | w :: ws, v :: vs => by
    have e : (mkS w == mkS v) = decide (w = v) := by
      by_cases q : w = v
      · subst q; simp
      · rw [decide_eq_false q]
        exact beq_eq_false_iff_ne.mpr fun z => q (mkS_inj.mp z)
    simp [PyData.eqvAll, PyData.eqv, eqv_strs ws vs, e]
theorem toPy_strs {S : Store} {n : Nat} {ws : List (List Nat)} (h : S[n]? = some (.lst (ws.map strD))) (k : Nat) : toPy S (k + 1) (.ref n) = some (.list (ws.map fun w => PyData.str (mkS w))) := by
  rw [toPy_ref h, mapO_some (f := toPy S k) (g := strD) (h := fun w => PyData.str (mkS w)) (fun w => toPy_str S k _)]
  rfl
theorem x_eqStrs {S : Store} {n m : Nat} {ws vs : List (List Nat)} (h1 : S[n]? = some (.lst (ws.map strD))) (h2 : S[m]? = some (.lst (vs.map strD))) (k1 : ∀ w ∈ ws, okT w) (k2 : ∀ w ∈ vs, okT w) : eqD (.ref n) (.ref m) S = .ok (decide (ws = vs)) S := by
  rw [eqD_of (toPy_strs h1 63) (toPy_strs h2 63) (by rw [PyData.canLay0]; exact lay_strs k1) (by rw [PyData.canLay0]; exact lay_strs k2), PyData.eqv, eqv_strs]
theorem x_neStrs {S : Store} {n m : Nat} {ws vs : List (List Nat)} (h1 : S[n]? = some (.lst (ws.map strD))) (h2 : S[m]? = some (.lst (vs.map strD))) (k1 : ∀ w ∈ ws, okT w) (k2 : ∀ w ∈ vs, okT w) : neD (.ref n) (.ref m) S = .ok (!decide (ws = vs)) S := by
  rw [neD_of (toPy_strs h1 63) (toPy_strs h2 63) (by rw [PyData.canLay0]; exact lay_strs k1) (by rw [PyData.canLay0]; exact lay_strs k2), PyData.eqv, eqv_strs]
theorem strD_one (c : Nat) : strD [c] = sgn c := rfl
theorem strD_nil : D.str (Str.ofString "") = strD [] := congrArg D.str (mkS_of "")
theorem x_neD (w : List Nat) (y : Str) (S : Store) : neD (strD w) (.str y) S = .ok (!decide (w = cs y)) S := by
  show neD (.str (mkS w)) (.str y) S = _
  rw [x_neT]
  congr 2
  exact decide_eq_decide.mpr ⟨fun h => by rw [← h, cs_mkS], fun h => cs_ext (by rw [cs_mkS]; exact h)⟩
theorem x_neDD (w v : List Nat) (S : Store) : neD (strD w) (strD v) S = .ok (!decide (w = v)) S := by
  have := x_neD w (mkS v) S
  rwa [cs_mkS] at this
theorem x_addDG (w : List Nat) (c : Nat) (S : Store) : addD (strD w) (sgn c) S = if w.length + 1 ≤ sizeLine then .ok (strD (w ++ [c])) S else .bad := by
  show addD (.str (mkS w)) (.str (mkS [c])) S = _
  rw [x_addT, mkS_app, mkS_len, mkS_len]
  rfl
theorem x_addDD (w v : List Nat) (S : Store) : addD (strD w) (strD v) S = if w.length + v.length ≤ sizeLine then .ok (strD (w ++ v)) S else .bad := by
  show addD (.str (mkS w)) (.str (mkS v)) S = _
  rw [x_addT, mkS_app, mkS_len, mkS_len]
  rfl
theorem x_lenD {w : List Nat} {S : Store} (h : w.length ≤ 16777216) : lenV [strD w] S = .ok (.int w.length) S := by
  show lenV [.str (mkS w)] S = _
  rw [x_lenT, mkS_len, if_pos (show _ ≤ sizeLine from h)]
theorem x_slTake {w : List Nat} {k : Nat} {S : Store} (h : w.length ≤ 16777216) : sliceD (strD w) none (some (k : Int)) S = .ok (strD (w.take k)) S := by
  show sliceD (.str (mkS w)) none (some (k : Int)) S = _
  rw [x_slT, mkS_len, if_pos (show _ ≤ sizeLine from h)]
  have e : cutS (mkS w) none (some (k : Int)) = mkS (w.take k) := cs_ext (by rw [cs_take, cs_mkS, cs_mkS])
  rw [e]
  rfl
theorem x_slDrop {w : List Nat} {k : Nat} {S : Store} (h : w.length ≤ 16777216) : sliceD (strD w) (some (k : Int)) none S = .ok (strD (w.drop k)) S := by
  show sliceD (.str (mkS w)) (some (k : Int)) none S = _
  rw [x_slT, mkS_len, if_pos (show _ ≤ sizeLine from h)]
  have e : cutS (mkS w) (some (k : Int)) none = mkS (w.drop k) := cs_ext (by rw [cs_drop, cs_mkS, cs_mkS])
  rw [e]
  rfl
theorem x_slR {S : Store} {n k : Nat} {xs : List D} (h : lstAt S n = some xs) : sliceD (.ref n) none (some (k : Int)) S = .ok (.ref S.length) (S ++ [.lst (xs.take k)]) := by
  unfold sliceD
  simp only [x_lstOfR, h, cutD_take]
  rfl
theorem x_slRD {S : Store} {n k : Nat} {xs : List D} (h : lstAt S n = some xs) : sliceD (.ref n) (some (k : Int)) none S = .ok (.ref S.length) (S ++ [.lst (xs.drop k)]) := by
  unfold sliceD
  simp only [x_lstOfR, h, cutD_drop]
  rfl
/-- a try that catches -/
theorem catch_ok {hit : Nat → Option Bool} {i : Nat} {mb : MS} {mh : Addr → Exn → MS} {l : Loc} {S S1 : Store} {p : Fl × Loc} (h : mb l S = .ok p S1) : catchS hit i mb mh l S = .ok p S1 := by
  unfold catchS
  rw [h]
theorem catch_ex {hit : Nat → Option Bool} {i : Nat} {mb : MS} {mh : Addr → Exn → MS} {l : Loc} {S S1 : Store} {x : Exn} {r : R (Fl × Loc)} (h : mb l S = .ex x S1) (hh : hit x.c = some true) (hr : ∀ a, (goneS i (mh a x (l.set i (some (.exn a))) S1)).noex = r) : catchS hit i mb mh l S = r := by
  unfold catchS
  rw [h]
  simp only [hh]
  exact same_of hr
@[simp] theorem x_raiseS (k : Nat) (l : Loc) (S : Store) : raiseS k l S = .ex ⟨k, []⟩ S := (rfl)
@[simp] theorem x_goneOk (i : Nat) (p : Fl × Loc) (S : Store) : goneS i (.ok p S) = .ok (p.1, p.2.set i none) S := (rfl)
@[simp] theorem x_isX (t : Bool) (a : Addr) (m : ME) (l : Loc) (S : Store) : isX (some t) a m l S = (m l S).bind fun d S1 => match d with
    | .exn b => if b = a then .ok t S1 else .bad
    | _ => .bad := (rfl)
theorem x_rep {x : Str} {n : Int} {S : Store} (h : 2 ≤ n) (h1 : 0 < x.length) (h2 : n < 4294967296) (h3 : x.length * n.toNat ≤ 16777216) : mulD (.str x) (.int n) S = .ok (.str (repS x n.toNat)) S := by
  show (if n ≤ 0 ∧ -(2 ^ 63) ≤ n then R.ok (D.str Str.empty) S else if n = 1 then R.ok (D.str x) S else if 2 ≤ n ∧ 0 < x.length ∧ n < 2 ^ 32 ∧ x.length * n.toNat ≤ 16777216 then R.ok (D.str (repS x n.toNat)) S else .bad) = _
  rw [if_neg (by omega), if_neg (by omega), if_pos ⟨h, h1, by omega, h3⟩]
theorem cs_rep (x : Str) (n : Nat) : cs (repS x n) = (List.replicate n (cs x)).flatten := rep_cs x n
theorem repS_D (x : Str) (n : Nat) : D.str (repS x n) = strD (List.replicate n (cs x)).flatten := by
  show _ = D.str (mkS _)
  rw [← cs_rep, mkS_cs]
end ML

set_option Elab.async false
set_option linter.all false
set_option maxRecDepth 100000
set_option autoImplicit false
/-! ML14: instances: made, asked, told. -/
namespace ML
open PySem PySem.Spec L2

/-- the turns that a while has -/
def FU : Nat := 1000000
structure MkM (P : Program) (w : World) (K : PySem.W.Frag) (mg : Str → Option Value) (base : Heap) (cA : Nat → Addr) (k : Nat) (x : Str) (c n : Nat) (G : List D → Store → R D) : Prop where
  ex : ∃ f fd ps, mg x = some (.ref (cA c)) ∧ Mk K (cA c) f ∧ Binds K fd ps [] ∧ FnOk P w K mg base (L2.CX P w) k f fd ps (spM K cA G n)
structure MtM (P : Program) (w : World) (K : PySem.W.Frag) (mg : Str → Option Value) (base : Heap) (cA : Nat → Addr) (k : Nat) (m : Str) (c n : Nat) (G : List D → Store → R D) : Prop where
  ex : ∃ f fd ps, Cls K (cA c) ∧ Meth K (cA c) m f ∧ Binds K fd ps [] ∧ FnOk P w K mg base (L2.CX P w) k f fd ps (spM K cA G n)
abbrev Tbl := List (Nat × (List D → Store → R D))
/-- the classes that have the method -/
def MtL (P : Program) (w : World) (K : PySem.W.Frag) (mg : Str → Option Value) (base : Heap) (cA : Nat → Addr) (j : Nat) (m : Str) (n : Nat) : Tbl → Prop
  | [] => True
  | p :: r => (∃ k, k ≤ j ∧ MtM P w K mg base cA k m p.1 n p.2) ∧ MtL P w K mg base cA j m n r
def ClsL (K : PySem.W.Frag) (cA : Nat → Addr) (f : Str) : List Nat → Prop
  | [] => True
  | c :: r => (Cls K (cA c) ∧ NoAttr K (cA c) f) ∧ ClsL K cA f r
theorem ClsL.all {K : PySem.W.Frag} {cA : Nat → Addr} {f : Str} : ∀ {cs : List Nat}, ClsL K cA f cs → ∀ c ∈ cs, Cls K (cA c) ∧ NoAttr K (cA c) f
  | d :: r, h, c, hc => by
    rcases List.mem_cons.mp hc with e | e
    · subst e; exact h.1
    · exact ClsL.all h.2 c e
def makeE (c n : Nat) (G : List D → Store → R D) (m : MA) : ME := fun l S => (m l S).bind fun ds S1 => if ds.length + 1 = n then (G (.ref S1.length :: ds) (S1 ++ [.ins c []])).bind fun d S2 => match d with
  | .non => .ok (.ref S1.length) S2
  | _ => .bad else .bad
def tblAt : Tbl → Nat → Option (List D → Store → R D)
  | [], _ => none
  | p :: r, c => if p.1 = c then some p.2 else tblAt r c
def methE (m : Str) (n : Nat) (tbl : Tbl) (o : ME) (a : MA) : ME := fun l S => (o l S).noex.bind fun d S1 => match d with
  | .ref i => match insAt S1 i with
    | some (c, fs) => if fs.lookup m = none then (match tblAt tbl c with
      | some G => (a l S1).bind fun ds S2 => if ds.length + 1 = n then G (d :: ds) S2 else .bad
      | none => .bad) else .bad
    | none => .bad
  | _ => .bad
section
variable {X : Cx} {cA : Nat → Addr} {W : XK} {p pos apos : Pos} {x m : Str} {e o : Expr} {es : List Expr} {mo : ME} {ma : MA} {k j n c : Nat} {G : List D → Store → R D} {tbl : Tbl}
theorem make_of {σ : L2.St} {H : Hp} {Q : VK} (h : tE X.K cA W (makeE c n G ma) σ H Q) : tMake (cA c) (spM X.K cA G n) [] W (tAs X.K cA W ma) σ H Q :=
  (bind1 (rep1 := rVs X.K) st_V h).imp fun vs H1 h => by
    obtain ⟨ρ, S, ds, hS, hr, h⟩ := h
    split at h
    · rename_i hn
      intro y dx hy hdx ne
      have E1 : Ext ρ H1 ρ (upd H1 dx (.own y)) := Ext.new hdx
      have hy2 : (upd H1 dx (.own y)) y = none := by rw [upd_ne (Ne.symm ne)]; exact hy
      have hS1 := hS.new (o := .own y) hdx
      have E2 : Ext ρ (upd H1 dx (.own y)) (ρ ++ [y]) (upd (upd H1 dx (.own y)) y (.ins (cA c) dx [])) := Ext.alloc hy2
      have hS2 : Reps X.K cA (ρ ++ [y]) (upd (upd H1 dx (.own y)) y (.ins (cA c) dx [])) (S ++ [.ins c []]) := (hS1.new hy2).push (hS1.free hy2) ⟨dx, [], upd_same, by unfold RepP; rfl⟩
      have hrp : (ρ ++ [y])[S.length]? = some y := by rw [← hS.len, List.getElem?_append_right (Nat.le_refl _)]; simp
      refine ⟨by rw [List.append_nil, List.length_cons, RepVs.length hr]; exact hn, ρ ++ [y], S ++ [.ins c []], .ref S.length :: ds, hS2, .cons ?_ ?_, (After.step (rep := rV X.K) h (E1.trans E2)).imp fun v H2 hq => ?_⟩
      · unfold RepV
        exact ⟨y, hrp, rfl⟩
      · rw [List.append_nil]
        exact (hr.ext E1).ext E2
      · obtain ⟨ρ3, S3, d, e3, hS3, hd, h⟩ := hq
        split at h
        · unfold rV RepV at hd
          refine ⟨hd, h ρ3 H2 _ ((E1.trans E2).trans e3) hS3 ?_⟩
          show RepV X.K ρ3 H2 (.ref S.length) (.ref y)
          unfold RepV
          obtain ⟨r, er, _⟩ := e3.pre
          refine ⟨y, ?_, rfl⟩
          rw [er, List.getElem?_append_left (List.getElem?_eq_some_iff.mp hrp).1]
          exact hrp
        · exact h.elim
    · exact h.elim
/-- C(e, ..) -/
theorem mmake (M : MkM X.prog X.w X.K X.mg X.base cA k x c n G) (hk : k + 1 ≤ j) (hr : Room j X.A) (hx : Passes (L2.CX X.prog X.w) X W) (hg : Gl X x) (ha : PA X (e :: es) (tAs X.K cA W ma)) (hdb : (x == ("__debug__" : Str)) = false := by decide)
    (he : starEach (e :: es) X.env = (false, eval e X.env) :: starEach es X.env := by rfl) (hpl : (backTo pos (starEach es X.env)).any (·.1) = false := by rfl) : PE X (.Call (.Name x p) (e :: es) [] pos) (tE X.K cA W (makeE c n G ma)) := by
  obtain ⟨f, fd, ps, hm, hM, hb, F⟩ := M.ex
  exact (pe_make hM F (hr.mono hk) hg hm hb .nil hx ha hdb he hpl).imp fun σ H Q h => make_of h
theorem mmake0 (M : MkM X.prog X.w X.K X.mg X.base cA k x c n G) (hk : k + 1 ≤ j) (hr : Room j X.A) (hx : Passes (L2.CX X.prog X.w) X W) (hg : Gl X x) (hdb : (x == ("__debug__" : Str)) = false := by decide) : PE X (.Call (.Name x p) [] [] pos) (tE X.K cA W (makeE c n G nilA)) := by
  obtain ⟨f, fd, ps, hm, hM, hb, F⟩ := M.ex
  refine (pe_make0 hM F (hr.mono hk) hg hm hb .nil hx hdb).imp fun σ H Q h => ?_
  have h' := make_of h
  obtain ⟨ρ, S, l, hS, hl, h2⟩ := h'
  exact After.same (rep := rVs X.K) (a := []) (b := []) h2 hS .nil
theorem tbl_of {P : Program} {w : World} {K : PySem.W.Frag} {mg : Str → Option Value} {base : Heap} : ∀ {tbl : Tbl} {c : Nat} {G : List D → Store → R D}, MtL P w K mg base cA j m n tbl → tblAt tbl c = some G → ∃ k, k ≤ j ∧ MtM P w K mg base cA k m c n G
  | [], c, G, _, e => nomatch e
  | q :: r, c, G, h, e => by
    unfold tblAt at e
    split at e
    · rename_i hc
      cases e
      subst hc
      exact h.1
    · exact tbl_of h.2 e
/-- o.m(e, ..) -/
theorem mmeth {pl : Sem Bool} (T : MtL X.prog X.w X.K X.mg X.base cA j m n tbl) (hr : Room j X.A) (hx : Passes (L2.CX X.prog X.w) X W) (ho : PE X o (tE X.K cA W mo)) (ha : PA X (e :: es) (tAs X.K cA W ma))
    (hst : starEach (e :: es) X.env = (false, eval e X.env) :: starEach es X.env := by rfl) (hpl : (backTo pos (starEach es X.env)).any (·.1) = false := by rfl)
    (ht : eval (.Call (.Attribute o m apos) (e :: es) [] pos) X.env = (do
      let ov ← eval o X.env
      standAt apos.atName
      let (f, first) ← holding [ov] (getMethod ov m pl)
      callWith pos f first (backTo pos (starEach (e :: es) X.env)) (backToKw pos (keywordEach [] X.env))) := by rfl) : PE X (.Call (.Attribute o m apos) (e :: es) [] pos) (tE X.K cA W (methE m n tbl mo ma)) := by
  refine ⟨fun pins s σ H Q I h => ?_⟩
  obtain ⟨ρ, S, l, hS, hl, h⟩ := h
  cases eo : mo l S with
  | ok d S1 =>
    unfold methE at h
    rw [eo] at h
    simp only [R.noex, R.bind_ok] at h
    split at h
    · rename_i i
      split at h
      · rename_i c fs ei
        split at h
        · rename_i hf
          split at h
          · rename_i G eG
            obtain ⟨k, hk, M⟩ := tbl_of T eG
            obtain ⟨f, fd, ps, hC, hM, hb, F⟩ := M.ex
            refine (pe_meth (pl := pl) ho hC hM F (hr.mono hk) hb .nil hx ha hst hpl ht).run pins s σ H Q I ⟨ρ, S, l, hS, hl, ?_⟩
            rw [eo]
            intro ρ1 H1 v e1 hS1 hv
            obtain ⟨a, dx, vs, rfl, _, h1, h2⟩ := rins_rep hS1 hv ei
            refine ⟨a, dx, vs, rfl, h1, fld_none h2 hf, ρ1, S1, l, hS1, hl.ext e1, (After.step (rep := rVs X.K) h e1).imp fun us H2 hq => ?_⟩
            obtain ⟨ρ2, S2, ds, e2, hS2, hr2, h⟩ := hq
            split at h
            · rename_i hn
              refine ⟨by rw [List.append_nil, List.length_cons, RepVs.length hr2]; exact hn, ρ2, S2, .ref i :: ds, hS2, .cons (hv.ext e2) (by rw [List.append_nil]; exact hr2), After.back st_V (e1.trans e2) h⟩
            · exact h.elim
          · exact h.elim
        · exact h.elim
      · exact h.elim
    · exact h.elim
  | ex z S1 =>
    unfold methE at h
    rw [eo] at h
    exact h.elim
  | bad =>
    unfold methE at h
    rw [eo] at h
    exact h.elim
/-- o.m() -/
theorem mmeth0 {pl : Sem Bool} (T : MtL X.prog X.w X.K X.mg X.base cA j m n tbl) (hr : Room j X.A) (hx : Passes (L2.CX X.prog X.w) X W) (ho : PE X o (tE X.K cA W mo))
    (ht : eval (.Call (.Attribute o m apos) [] [] pos) X.env = (do
      let ov ← eval o X.env
      standAt apos.atName
      let (f, first) ← holding [ov] (getMethod ov m pl)
      callWith pos f first (backTo pos (starEach [] X.env)) (backToKw pos (keywordEach [] X.env))) := by rfl) : PE X (.Call (.Attribute o m apos) [] [] pos) (tE X.K cA W (methE m n tbl mo nilA)) := by
  refine ⟨fun pins s σ H Q I h => ?_⟩
  obtain ⟨ρ, S, l, hS, hl, h⟩ := h
  cases eo : mo l S with
  | ok d S1 =>
    unfold methE at h
    rw [eo] at h
    simp only [R.noex, R.bind_ok] at h
    split at h
    · rename_i i
      split at h
      · rename_i c fs ei
        split at h
        · rename_i hf
          split at h
          · rename_i G eG
            obtain ⟨k, hk, M⟩ := tbl_of T eG
            obtain ⟨f, fd, ps, hC, hM, hb, F⟩ := M.ex
            refine (pe_meth0 (pl := pl) ho hC hM F (hr.mono hk) hb .nil hx ht).run pins s σ H Q I ⟨ρ, S, l, hS, hl, ?_⟩
            rw [eo]
            intro ρ1 H1 v e1 hS1 hv
            obtain ⟨a, dx, vs, rfl, _, h1, h2⟩ := rins_rep hS1 hv ei
            refine ⟨a, dx, vs, rfl, h1, fld_none h2 hf, ?_⟩
            have h : After X.K cA W ρ H (rV X.K) (if ([] : List D).length + 1 = n then G [.ref i] S1 else .bad) Q := h
            split at h
            · rename_i hn
              exact ⟨hn, ρ1, S1, [.ref i], hS1, .cons hv .nil, After.back st_V e1 h⟩
            · exact h.elim
          · exact h.elim
        · exact h.elim
      · exact h.elim
    · exact h.elim
  | ex z S1 =>
    unfold methE at h
    rw [eo] at h
    exact h.elim
  | bad =>
    unfold methE at h
    rw [eo] at h
    exact h.elim
end
end ML

set_option Elab.async false
set_option linter.all false
set_option maxRecDepth 100000
set_option autoImplicit false
/-! ML15: what is reached from numbers, by any order of walking; loops. -/
namespace ML
open PySem PySem.Spec L2

inductive Reach (succ : Nat → List Nat) (vs : List Nat) : Nat → Prop where
  | base {k : Nat} (h : k ∈ vs) : Reach succ vs k
  | step {j k : Nat} (h : Reach succ vs j) (e : k ∈ succ j) : Reach succ vs k
/-- the rising list of what is reached -/
def IsCl (succ : Nat → List Nat) (vs L : List Nat) : Prop := L.Pairwise (· < ·) ∧ ∀ k, k ∈ L ↔ Reach succ vs k
theorem rising_eq : ∀ {L M : List Nat}, L.Pairwise (· < ·) → M.Pairwise (· < ·) → (∀ k, k ∈ L ↔ k ∈ M) → L = M := by
  intro L M h1 h2 h
  have n1 : L.Nodup := h1.imp fun h => Nat.ne_of_lt h
  have n2 : M.Nodup := h2.imp fun h => Nat.ne_of_lt h
  have hp : L.Perm M := (List.perm_ext_iff_of_nodup n1 n2).mpr h
  exact hp.eq_of_pairwise (fun a b _ _ h1 h2 => absurd h1 (by omega)) h1 h2
theorem IsCl.uniq {succ : Nat → List Nat} {vs L M : List Nat} (h1 : IsCl succ vs L) (h2 : IsCl succ vs M) : L = M := rising_eq h1.1 h2.1 fun k => (h1.2 k).trans (h2.2 k).symm
/-- numbers as things -/
def intsD (l : List Nat) : List D := l.map fun k : Nat => .int (k : Int)
theorem sort_nat (l : List Nat) : sortI (l.map fun k : Nat => (k : Int)) = (l.mergeSort fun a b => decide (a ≤ b)).map fun k : Nat => (k : Int) := by
  have hp : (l.mergeSort fun a b => decide (a ≤ b)).Perm l := List.mergeSort_perm l _
  have hs : (l.mergeSort fun a b => decide (a ≤ b)).Pairwise (· ≤ ·) := by
    have := List.pairwise_mergeSort (le := fun (a b : Nat) => decide (a ≤ b)) (fun a b c h1 h2 => by simp only [decide_eq_true_eq] at *; omega) (fun a b => by simp only [Bool.or_eq_true, decide_eq_true_eq]; omega) l
    exact this.imp fun h => by simpa using h
  refine (sortI_eq (hp.map _) ?_).symm
  rw [List.pairwise_map]
  exact hs.imp fun h => by omega
theorem sort_nodup {l : List Nat} (h : l.Nodup) : (l.mergeSort fun a b => decide (a ≤ b)).Pairwise (· < ·) := by
  have hp : (l.mergeSort fun a b => decide (a ≤ b)).Perm l := List.mergeSort_perm l _
  have hs : (l.mergeSort fun a b => decide (a ≤ b)).Pairwise (· ≤ ·) := by
    have := List.pairwise_mergeSort (le := fun (a b : Nat) => decide (a ≤ b)) (fun a b c h1 h2 => by simp only [decide_eq_true_eq] at *; omega) (fun a b => by simp only [Bool.or_eq_true, decide_eq_true_eq]; omega) l
    exact this.imp fun h => by simpa using h
  have hn : (l.mergeSort fun a b => decide (a ≤ b)).Nodup := hp.symm.nodup h
  exact (hs.and hn).imp fun ⟨a, b⟩ => by omega
theorem mapO_ints (l : List Nat) : mapO intO (intsD l) = some (l.map fun k : Nat => (k : Int)) := mapO_some (f := intO) (g := fun k : Nat => D.int (k : Int)) (h := fun k : Nat => (k : Int)) (fun _ => rfl) l
theorem sortL_ints (l : List Nat) (S : Store) : sortL (intsD l) S = .ok (intsD (l.mergeSort fun a b => decide (a ≤ b))) S := by
  unfold sortL
  rw [mapO_ints]
  simp only [sort_nat, List.map_map]
  rfl
structure CI (succ : Nat → List Nat) (vs seen td : List Nat) : Prop where
  nd : seen.Nodup
  s1 : ∀ k ∈ seen, Reach succ vs k
  s2 : ∀ k ∈ td, Reach succ vs k
  c0 : ∀ k ∈ vs, k ∈ seen ∨ k ∈ td
  c1 : ∀ j ∈ seen, ∀ k ∈ succ j, k ∈ seen ∨ k ∈ td
section
variable {succ : Nat → List Nat} {vs seen td td' : List Nat} {k : Nat}
theorem CI.start : CI succ vs [] vs := ⟨List.nodup_nil, fun k h => by simp at h, fun k h => .base h, fun k h => .inr h, fun j h => by simp at h⟩
theorem CI.skip (h : CI succ vs seen td) (h1 : ∀ x ∈ td, x ∈ td' ∨ x ∈ seen) (h2 : ∀ x ∈ td', x ∈ td) : CI succ vs seen td' :=
  ⟨h.nd, h.s1, fun x hx => h.s2 x (h2 x hx), fun x hx => (h.c0 x hx).elim .inl fun q => (h1 x q).symm, fun j hj x hx => (h.c1 j hj x hx).elim .inl fun q => (h1 x q).symm⟩
theorem CI.take (h : CI succ vs seen td) (hk : k ∈ td) (hn : k ∉ seen) (h1 : ∀ x ∈ td, x = k ∨ x ∈ td') (h2 : ∀ x ∈ td', x ∈ td ∨ x ∈ succ k) (h3 : ∀ x ∈ succ k, x ∈ td') : CI succ vs (seen ++ [k]) td' := by
  have q : ∀ x, x ∈ td → x ∈ seen ++ [k] ∨ x ∈ td' := fun x hx => (h1 x hx).elim (fun e => .inl (by simp [e])) .inr
  refine ⟨?_, fun x hx => ?_, fun x hx => ?_, fun x hx => ?_, fun j hj x hx => ?_⟩
  · rw [List.nodup_append]
    exact ⟨h.nd, by simp, fun a ha b hb => by simp at hb; subst hb; rintro rfl; exact hn ha⟩
  · rcases List.mem_append.mp hx with hx | hx
    · exact h.s1 x hx
    · simp at hx; subst hx; exact h.s2 _ hk
  · rcases h2 x hx with e | e
    · exact h.s2 x e
    · exact .step (h.s2 k hk) e
  · rcases h.c0 x hx with e | e
    · exact .inl (by simp [e])
    · exact q x e
  · rcases List.mem_append.mp hj with hj | hj
    · rcases h.c1 j hj x hx with e | e
      · exact .inl (by simp [e])
      · exact q x e
    · simp at hj; subst hj
      exact .inr (h3 x hx)
theorem CI.done (h : CI succ vs seen []) : ∀ k, k ∈ seen ↔ Reach succ vs k := fun k => by
  refine ⟨h.s1 k, fun r => ?_⟩
  induction r with
  | base hk => rcases h.c0 _ hk with e | e
               · exact e
               · simp at e
  | step _ e ih => rcases h.c1 _ ih _ e with e | e
                   · exact e
                   · simp at e
theorem CI.cl (h : CI succ vs seen []) : IsCl succ vs (seen.mergeSort fun a b => decide (a ≤ b)) := by
  refine ⟨sort_nodup h.nd, fun k => ?_⟩
  rw [← h.done k]
  exact (List.mergeSort_perm seen _).mem_iff
end
/-- what is not yet seen -/
def un (dom seen : List Nat) : Nat := (dom.filter fun k => decide (k ∉ seen)).length
theorem un_le (dom seen : List Nat) : un dom seen ≤ dom.length := List.length_filter_le _ _
theorem un_mono (dom seen : List Nat) (k : Nat) : un dom (seen ++ [k]) ≤ un dom seen := by
  induction dom with
  | nil => exact Nat.le_refl _
  | cons x dom ih =>
    unfold un at ih ⊢
    simp only [List.filter_cons]
    by_cases h : x ∈ seen
    · simp [h] at ih ⊢
      exact ih
    · by_cases e : x = k
      · simp [h, e] at ih ⊢
        have : ¬ k ∈ seen := by rw [← e]; exact h
        simp [this]
        omega
      · simp [h, e] at ih ⊢
        exact ih
theorem un_take {dom seen : List Nat} {k : Nat} (h : k ∈ dom) (hn : k ∉ seen) : un dom (seen ++ [k]) + 1 ≤ un dom seen := by
  induction dom with
  | nil => simp at h
  | cons x dom ih =>
    have m := un_mono dom seen k
    unfold un at ih m ⊢
    simp only [List.filter_cons]
    by_cases e : x = k
    · subst e
      simp [hn] at m ⊢
      exact m
    · have hm : k ∈ dom := by
        rcases List.mem_cons.mp h with q | q
        · exact absurd q.symm e
        · exact q
      have ih := ih hm
      by_cases hx : x ∈ seen
      · simp [hx] at ih ⊢
        exact ih
      · simp [hx, e] at ih ⊢
        exact ih
/-! stores -/
@[simp] theorem get_mid (S : Store) (c : Cell) (Z : Store) : (S ++ c :: Z)[S.length]? = some c := by simp
theorem get_mid1 (S : Store) (c e : Cell) (Z : Store) : (S ++ c :: e :: Z)[S.length + 1]? = some e := by
  rw [List.getElem?_append_right (by omega)]
  simp
theorem set_mid (S : Store) (c d : Cell) (Z : Store) : (S ++ c :: Z).set S.length d = S ++ d :: Z := by
  rw [List.set_append_right _ _ (Nat.le_refl _)]
  simp
theorem set_mid1 (S : Store) (c e d : Cell) (Z : Store) : (S ++ c :: e :: Z).set (S.length + 1) d = S ++ c :: d :: Z := by
  rw [List.set_append_right _ _ (by omega)]
  simp
theorem x_while {c : MB} {b : MS} {k : Nat} {l : Loc} {S : Store} : whileS c b (k + 1) l S = (c l S).bind fun t S1 => if t = true then (b l S1).bind (againS (whileS c b k)) else .ok (.nx, l) S1 := (rfl)
theorem lookup_eq (f : String) (x : D) (r : List (Str × D)) : List.lookup (Str.ofString f) ((Str.ofString f, x) :: r) = some x := by simp [List.lookup]
theorem beq_of (a b : String) : (Str.ofString a == Str.ofString b) = (a == b) := by
  by_cases h : a = b
  · subst h; simp
  · have h2 : ¬ Str.ofString a = Str.ofString b := fun e => h ((ofString_inj a b).mp e)
    rw [beq_eq_false_iff_ne.mpr h2, beq_eq_false_iff_ne.mpr h]
/-! instances -/
@[simp] theorem x_makeE (c n : Nat) (G : List D → Store → R D) (m : MA) (l : Loc) (S : Store) : makeE c n G m l S = (m l S).bind fun ds S1 => if ds.length + 1 = n then (G (.ref S1.length :: ds) (S1 ++ [.ins c []])).bind fun d S2 => match d with
  | .non => .ok (.ref S1.length) S2
  | _ => .bad else .bad := (rfl)
@[simp] theorem x_methE (m : Str) (n : Nat) (tbl : Tbl) (o : ME) (a : MA) (l : Loc) (S : Store) : methE m n tbl o a l S = (o l S).noex.bind fun d S1 => match d with
  | .ref i => match insAt S1 i with
    | some (c, fs) => if fs.lookup m = none then (match tblAt tbl c with
      | some G => (a l S1).bind fun ds S2 => if ds.length + 1 = n then G (d :: ds) S2 else .bad
      | none => .bad) else .bad
    | none => .bad
  | _ => .bad := (rfl)
@[simp] theorem x_fldS (cs : List Nat) (f : Str) (m v : ME) (l : Loc) (S : Store) : fldS cs f m v l S = (v l S).bind fun y S1 => (m l S1).bind fun d S2 => match d with
  | .ref n => match insAt S2 n with
    | some (c, fs) => if c ∈ cs ∧ fs.length < 1000 then .ok (.nx, l) (S2.set n (.ins c (putD f y fs))) else .bad
    | none => .bad
  | _ => .bad := (rfl)
@[simp] theorem x_tblAt0 (c : Nat) : tblAt [] c = none := (rfl)
@[simp] theorem x_tblAtS (p : Nat × (List D → Store → R D)) (r : Tbl) (c : Nat) : tblAt (p :: r) c = if p.1 = c then some p.2 else tblAt r c := (rfl)
@[simp] theorem insAt_end (S : Store) (c : Nat) (fs : List (Str × D)) : insAt (S ++ [.ins c fs]) S.length = some (c, fs) := insAt_of (by simp)
theorem insAt_app {S T : Store} {n c : Nat} {fs : List (Str × D)} (h : S[n]? = some (.ins c fs)) : insAt (S ++ T) n = some (c, fs) := insAt_of (at_app h)
@[simp] theorem x_dict0 (l : Loc) (S : Store) : dict0 l S = .ok (.ref S.length) (S ++ [.dct []]) := (rfl)
@[simp] theorem x_isN0 (S : Store) : isD .non .non S = .ok true S := (rfl)
theorem x_isN {d : D} (h : d ≠ .non) (S : Store) : isD d .non S = .ok false S := by
  cases d with
  | non => exact absurd rfl h
  | _ => rfl
@[simp] theorem x_inN0 (S : Store) : isNotD .non .non S = .ok false S := (rfl)
theorem x_inN {d : D} (h : d ≠ .non) (S : Store) : isNotD d .non S = .ok true S := by
  cases d with
  | non => exact absurd rfl h
  | _ => rfl
@[simp] theorem x_slU (xs : List D) (lo hi : Option Int) (S : Store) : sliceD (.tup xs) lo hi S = .ok (.tup (cutD xs lo hi)) S := (rfl)
theorem x_pop {S : Store} {n : Nat} {xs : List D} {x : D} (h : lstAt S n = some (xs ++ [x])) : popM (.ref n) [] S = .ok x (S.set n (.lst xs)) := by
  unfold popM
  simp only [h]
  simp
theorem x_popAt0 {S : Store} {n : Nat} {xs : List D} {x : D} (h : lstAt S n = some (x :: xs)) : popAtM (.ref n) [.int 0] S = .ok x (S.set n (.lst xs)) := by
  unfold popAtM
  simp only [h]
  simp
theorem x_extend {S : Store} {n k : Nat} {xs ys : List D} (h : lstAt S n = some xs) (h2 : lstAt S k = some ys) (hz : xs.length + ys.length ≤ 16777216) : extendM (.ref n) [.ref k] S = .ok .non (S.set n (.lst (xs ++ ys))) := by
  unfold extendM
  simp only [h, h2]
  exact if_pos hz
/-- a dict of numbers that are seen -/
def seenD (l : List Nat) : List (Key × D) := l.map fun k : Nat => (.inl (k : Int), .bl true)
theorem seen_look (l : List Nat) (k : Nat) : (dLook (seenD l) (.inl (k : Int))).isSome = decide (k ∈ l) := by
  induction l with
  | nil => rfl
  | cons x l ih =>
    unfold seenD dLook at ih ⊢
    rw [List.map_cons, List.find?_cons]
    by_cases h : x = k
    · subst h; simp
    · have h2 : ¬ ((x : Int) = (k : Int)) := by omega
      have h3 : ¬ ((Sum.inl (x : Int) : Key) = Sum.inl (k : Int)) := fun z => h2 (Sum.inl.inj z)
      simp only [h3, decide_false]
      rw [ih]
      simp [Ne.symm h]
theorem seen_put {l : List Nat} {k : Nat} (h : k ∉ l) : dPut (seenD l) (.inl (k : Int)) (.bl true) = seenD (l ++ [k]) := by
  unfold dPut
  rw [if_neg]
  · simp [seenD]
  · intro q
    rw [List.any_eq_true] at q
    obtain ⟨p, hp, e⟩ := q
    unfold seenD at hp
    obtain ⟨x, hx, rfl⟩ := List.mem_map.mp hp
    have : (Sum.inl (x : Int) : Key) = Sum.inl (k : Int) := of_decide_eq_true e
    have := Sum.inl.inj this
    have : x = k := by omega
    subst this
    exact h hx
def keyD : Key → D
  | .inl i => .int i
  | .inr x => .str x
theorem seen_keys (l : List Nat) : ((seenD l).map fun kv => keyD kv.1) = intsD l := by
  unfold seenD intsD
  rw [List.map_map]
  rfl
theorem x_listDict {S : Store} {n : Nat} {kvs : List (Key × D)} (h : S[n]? = some (.dct kvs)) : listV [.ref n] S = .ok (kvs.map fun kv => keyD kv.1) S := by
  unfold listV
  have h1 : seqOf S (.ref n) = none := by
    show lstAt S n = none
    unfold lstAt
    rw [h]
  simp only [h1, dctAt_of h]
  congr 1
theorem x_listLst {S : Store} {n : Nat} {xs : List D} (h : lstAt S n = some xs) : listV [.ref n] S = .ok xs S := by
  unfold listV
  have h1 : seqOf S (.ref n) = some xs := h
  simp only [h1]
theorem x_ninDict {S : Store} {n k : Nat} {kvs : List (Key × D)} (h : S[n]? = some (.dct kvs)) : notInD (.int (k : Int)) (.ref n) S = .ok (!(dLook kvs (.inl (k : Int))).isSome) S := by
  unfold notInD inO
  have h1 : seqOf S (.ref n) = none := by
    show lstAt S n = none
    unfold lstAt
    rw [h]
  simp only [h1, kvAt_of h, keyO]
theorem x_setDict {S : Store} {n k : Nat} {kvs : List (Key × D)} {v : D} (h : S[n]? = some (.dct kvs)) (hz : kvs.length < 16777216) : setO S (.ref n) (.int (k : Int)) v = some (S.set n (.dct (dPut kvs (.inl (k : Int)) v))) := by
  unfold setO
  simp only [h, keyO]
  exact if_pos hz
theorem mapO_flat (l : List Nat) : mapO flatO (intsD l) = some (l.map fun k : Nat => V.int (k : Int)) := mapO_some (f := flatO) (g := fun k : Nat => D.int (k : Int)) (h := fun k : Nat => V.int (k : Int)) (fun _ => rfl) l
theorem x_ninInts {S : Store} {n k : Nat} {l : List Nat} (h : lstAt S n = some (intsD l)) : notInD (.int (k : Int)) (.ref n) S = .ok (!decide (k ∈ l)) S := by
  unfold notInD inO
  have h1 : seqOf S (.ref n) = some (intsD l) := h
  simp only [h1, mapO_flat, flatO]
  congr 2
  rw [Bool.eq_iff_iff]
  simp [inV, eqV]
  constructor
  · rintro ⟨a, h1, h2⟩
    have : a = k := by omega
    subst this; exact h1
  · intro h; exact ⟨k, h, rfl⟩
theorem x_ixDict {S : Store} {n : Nat} {k : Int} {kvs : List (Key × D)} (h : S[n]? = some (.dct kvs)) : ixO S (.ref n) (.int k) = dLook kvs (.inl k) := by
  unfold ixO
  simp only [h]
theorem toPy_ints {S : Store} {n : Nat} {l : List Nat} (h : S[n]? = some (.lst (intsD l))) (k : Nat) : toPy S (k + 1) (.ref n) = some (.list (l.map fun i : Nat => PyData.int (i : Int))) := by
  rw [toPy_ref h]
  unfold intsD
  rw [mapO_some (f := toPy S k) (g := fun i : Nat => D.int (i : Int)) (h := fun i : Nat => PyData.int (i : Int)) (fun i => toPy_int S k i)]
  rfl
theorem lay_ints : ∀ l : List Nat, PyData.canLayAll0 (l.map fun i : Nat => PyData.int (i : Int)) = true
  | [] => rfl
  | i :: l => by rw [List.map_cons, PyData.canLayAll0, PyData.canLay0, lay_ints l]; rfl
theorem eqv_ints : ∀ l m : List Nat, PyData.eqvAll (l.map fun i : Nat => PyData.int (i : Int)) (m.map fun i : Nat => PyData.int (i : Int)) = decide (l = m)
  | [], [] => by simp [PyData.eqvAll]
  | [], _ :: _ => by simp [PyData.eqvAll]
  | _ :: _, [] => by simp [PyData.eqvAll]
  | i :: l, j :: m => by
    have e : ((i : Int) == (j : Int)) = decide (i = j) := by
      by_cases q : i = j
      · subst q; simp
      · rw [decide_eq_false q]
        exact beq_eq_false_iff_ne.mpr (by omega)
    simp [PyData.eqvAll, PyData.eqv, eqv_ints l m, e]
theorem x_eqInts {S : Store} {n m : Nat} {l k : List Nat} (h1 : S[n]? = some (.lst (intsD l))) (h2 : S[m]? = some (.lst (intsD k))) : eqD (.ref n) (.ref m) S = .ok (decide (l = k)) S := by
  rw [eqD_of (toPy_ints h1 63) (toPy_ints h2 63) (by rw [PyData.canLay0]; exact lay_ints l) (by rw [PyData.canLay0]; exact lay_ints k), PyData.eqv, eqv_ints]
theorem x_neInts {S : Store} {n m : Nat} {l k : List Nat} (h1 : S[n]? = some (.lst (intsD l))) (h2 : S[m]? = some (.lst (intsD k))) : neD (.ref n) (.ref m) S = .ok (!decide (l = k)) S := by
  rw [neD_of (toPy_ints h1 63) (toPy_ints h2 63) (by rw [PyData.canLay0]; exact lay_ints l) (by rw [PyData.canLay0]; exact lay_ints k), PyData.eqv, eqv_ints]
theorem rng_ints (n : Nat) : intsFrom 0 n = intsD (List.range n) := by
  unfold intsFrom intsD
  refine List.map_congr_left fun k _ => ?_
  rw [Int.zero_add]
theorem x_rngO {n : Nat} {S : Store} (h : n ≤ 16777216) : rngO 0 (n : Int) S = .ok (intsD (List.range n)) S := by
  unfold rngO
  rw [if_pos ⟨by omega, by omega, by omega, by omega, by omega⟩, Int.sub_zero, Int.toNat_natCast, rng_ints]
@[simp] theorem x_rngN1 (m : ME) (l : Loc) (S : Store) : rngN1 m l S = (m l S).bind fun d S1 => match intO d with
  | some b => rngO 0 b S1
  | none => .bad := (rfl)
@[simp] theorem x_rngN2 (m n : ME) (l : Loc) (S : Store) : rngN2 m n l S = (m l S).bind fun d S1 => (n l S1).bind fun e S2 => match intO d, intO e with
  | some a, some b => rngO a b S2
  | _, _ => .bad := (rfl)
theorem get_set_ne {S : Store} {i j : Nat} {c : Cell} (h : i ≠ j) : (S.set i c)[j]? = S[j]? := List.getElem?_set_ne h
theorem get_set_at {S : Store} {i : Nat} {c d : Cell} (h : S[i]? = some d) : (S.set i c)[i]? = some c := List.getElem?_set_self (List.getElem?_eq_some_iff.mp h).1
theorem lt_of_at {S : Store} {i : Nat} {c : Cell} (h : S[i]? = some c) : i < S.length := (List.getElem?_eq_some_iff.mp h).1
theorem Reach.lt {succ : Nat → List Nat} {vs : List Nat} {n k : Nat} (h1 : ∀ j ∈ vs, j < n) (h2 : ∀ j < n, ∀ i ∈ succ j, i < n) (h : Reach succ vs k) : k < n := by
  induction h with
  | base h => exact h1 _ h
  | step _ e ih => exact h2 _ ih _ e
theorem IsCl.len {succ : Nat → List Nat} {vs L : List Nat} {n : Nat} (h : IsCl succ vs L) (h1 : ∀ j ∈ vs, j < n) (h2 : ∀ j < n, ∀ i ∈ succ j, i < n) : L.length ≤ n := by
  have e : L = (List.range n).filter fun k => decide (k ∈ L) := rising_eq h.1 (List.pairwise_lt_range.filter _) fun k => by
    rw [List.mem_filter, List.mem_range]
    simp
    exact fun hk => Reach.lt h1 h2 ((h.2 k).mp hk)
  rw [e]
  refine Nat.le_trans (List.length_filter_le _ _) ?_
  rw [List.length_range]
  exact Nat.le_refl _
theorem x_slW (xs : List D) (lo hi : Option Int) (S : Store) : sliceD (.lis xs) lo hi S = .ok (.ref S.length) (S ++ [.lst (cutD xs lo hi)]) := (rfl)
theorem cutD_mem {xs : List D} {lo hi : Option Int} {d : D} (h : d ∈ cutD xs lo hi) : d ∈ xs := by
  unfold cutD at h
  exact List.mem_of_mem_drop (List.mem_of_mem_take h)
theorem cutD_len (xs : List D) (lo hi : Option Int) : (cutD xs lo hi).length ≤ xs.length := by
  unfold cutD
  rw [List.length_take, List.length_drop]
  omega
theorem x_setLst {S : Store} {n k : Nat} {xs : List D} {v : D} (h : S[n]? = some (.lst xs)) (hk : k < xs.length) : setO S (.ref n) (.int (k : Int)) v = some (S.set n (.lst (xs.set k v))) := by
  unfold setO
  simp only [h]
  have e : ixN xs.length (k : Int) = some k := by
    unfold ixN
    simp
    omega
  rw [e]
  rfl
theorem x_reverse {S : Store} {n : Nat} {xs : List D} (h : lstAt S n = some xs) : reverseM (.ref n) [] S = .ok .non (S.set n (.lst xs.reverse)) := by
  unfold reverseM
  simp only [h]
/-- a comprehension over pairs -/
theorem comp_pairs {chk : Store → Prop} {i j : Nat} {m : ME} {l : Loc} {S : Store} (hk : chk S) (ps : List (D × D)) (hm : ∀ p ∈ ps, m ((l.set i (some p.1)).set j (some p.2)) S = .ok (.bl true) S) : ∀ (acc : List D), acc.length + ps.length ≤ 16777216 → compL chk (.many [i, j]) yesM m l (ps.map fun p => .tup [p.1, p.2]) acc S = .ok (acc ++ ps.map fun _ => .bl true) S := by
  induction ps with
  | nil => intro acc _; rw [List.map_nil, compL_nil hk]; simp
  | cons p ps ih =>
    intro acc hz
    rw [List.length_cons] at hz
    have h1 := hm p List.mem_cons_self
    rw [List.map_cons, compL_cons hk]
    simp only [Tgt.put, namesL, x_yes, R.bind_ok, if_true, h1]
    rw [if_pos (show _ < sizeLine by rw [sz]; omega), ih (fun q hq => hm q (List.mem_cons_of_mem _ hq)) _ (by simp; omega)]
    simp
end ML

set_option Elab.async false
set_option linter.all false
set_option maxRecDepth 100000
set_option autoImplicit false
/-! ML16: dicts: pop, dict([..]); methods within a try. -/
namespace ML
open PySem PySem.Spec L2

/-! ### d.pop(k) -/
def dpopE (m n : ME) : ME := fun l S => (m l S).bind fun d S1 => match d with
  | .ref i => match dctAt S1 i with
    | some _ => (n l S1).bind fun e S2 => match dctAt S2 i with
      | some kvs => match keyO e with
        | some k => match dLook kvs k with
          | some v => .ok v (S2.set i (.dct (dDrop kvs k)))
          | none => .bad
        | none => .bad
      | none => .bad
    | none => .bad
  | _ => .bad
section
variable {X : Cx} {cA : Nat → Addr} {W : XK} {K : PySem.W.Frag} {ρ : List Addr} {H : Hp}
theorem drop_rep {k : Key} : ∀ {kvs : List (Key × D)} {ps : List (Key × V)}, RepP K ρ H kvs ps → RepP K ρ H (dDrop kvs k) (dropK ps k)
  | [], ps, h => by unfold RepP at h; subst h; unfold RepP; rfl
  | (j, x) :: r, ps, h => by
    unfold RepP at h
    obtain ⟨v, q, rfl, h1, h2⟩ := h
    unfold dDrop dropK
    rw [List.filter_cons, List.filter_cons]
    by_cases e : j = k
    · simp only [e, ne_eq, not_true_eq_false, decide_false, Bool.false_eq_true, if_false]
      exact drop_rep h2
    · simp only [ne_eq, e, not_false_eq_true, decide_true, if_true]
      exact ⟨v, _, rfl, h1, drop_rep h2⟩
variable {o e : Expr} {m n : ME} {apos cpos : Pos}
theorem mdpop (ho : PE X o (tE X.K cA W m)) (he : PE X e (tE X.K cA W n)) (hM : M1 X o "pop" apos e cpos := by exact ⟨rfl, rfl, rfl, rfl⟩) : PE X (.Call (.Attribute o "pop" apos) [e] [] cpos) (tE X.K cA W (dpopE m n)) :=
  (pe_dpop1 ho he hM).imp fun σ H Q h => (bind1L (rep1 := rV X.K) st_V h).imp fun x H1 h => by
    obtain ⟨ρ, S, l, d, hS, hl, hr, h⟩ := h
    split at h
    · rename_i i
      split at h
      · rename_i kvs0 e0
        obtain ⟨a, ps, rfl, ha, h1, h2⟩ := rdct_rep hS hr e0
        refine ⟨a, rfl, .inl ⟨ps, .inl h1⟩, ρ, S, l, hS, hl, (After.bind (rep := rV X.K) st_V h).imp fun y H2 h => ?_⟩
        obtain ⟨ρ2, S2, ed, e2, hS2, hr2, h⟩ := h
        split at h
        · rename_i kvs e3
          obtain ⟨a', ps', ea, ha', h3, h4⟩ := rdct_rep hS2 (hr.ext e2) e3
          cases ea
          split at h
          · rename_i k ek
            split at h
            · rename_i v ev
              have := key_rep ek hr2
              subst this
              have hv := look_rep k h4
              rw [ev] at hv
              obtain ⟨w, hw, rw'⟩ := hv
              have E : Ext ρ2 H2 ρ2 (upd H2 a (.dK (dropK ps' k))) := Ext.write ha' h3 True.intro
              exact ⟨ps', k, w, h3, rfl, hw, h ρ2 _ _ E (hS2.write ha' h3 True.intro ⟨_, upd_same, (drop_rep h4).ext E⟩) (rw'.ext E)⟩
            · exact h.elim
          · exact h.elim
        · exact h.elim
      · exact h.elim
    · exact h.elim
end

/-! ### dict([..]) of pairs -/
def pairO : D → Option (Key × D)
  | .tup [k, v] => (keyO k).map fun k => (k, v)
  | _ => none
def pairsL (ds : List D) (S : Store) : R D := match mapO pairO ds with
  | some kvs => newC (.dct (mergeD [] kvs)) S
  | none => .bad
section
variable {X : Cx} {cA : Nat → Addr} {W : XK} {K : PySem.W.Frag} {ρ : List Addr} {H : Hp}
theorem pairs_rep : ∀ {ds : List D} {vs : List V} {kvs : List (Key × D)}, mapO pairO ds = some kvs → RepVs K ρ H ds vs → ∃ ps qs, vs = ps.map V.ref ∧ Paired (fun p (kv : Key × V) => SqT K H p [kV kv.1, kv.2]) ps qs ∧ RepP K ρ H kvs qs
  | [], vs, kvs, h, r => by unfold RepVs at r; subst r; cases h; exact ⟨[], [], rfl, .nil, by unfold RepP; rfl⟩
  | d :: ds, vs, kvs, h, r => by
    unfold RepVs at r
    obtain ⟨v, q, rfl, h1, h2⟩ := r
    unfold mapO at h
    split at h
    · rename_i kv kvs' e1 e2
      cases h
      obtain ⟨ps, qs, rfl, h3, h4⟩ := pairs_rep e2 h2
      unfold pairO at e1
      split at e1
      · rename_i k x
        obtain ⟨k', ek, rfl⟩ := Option.map_eq_some_iff.mp e1
        unfold RepV at h1
        obtain ⟨a, ws, rfl, h5, h6⟩ := h1
        obtain ⟨y, z, rfl, h7, h8⟩ := two_rep h6
        have := key_rep ek h7
        subst this
        exact ⟨a :: ps, (k', z) :: qs, rfl, .cons h5 h3, z, qs, rfl, h8, h4⟩
      · cases e1
    · cases h
theorem c_pairs (hc : X.calm = true) : CallR X (.type "dict") (tL1 X.K cA W (rV X.K) pairsL) := CallR.imp (call_dictP hc) fun xs H Q h => by
  obtain ⟨ρ, S, ds, p, vs, hS, rfl, h1, h2, h⟩ := h
  unfold pairsL at h
  split at h
  · rename_i kvs e
    obtain ⟨ps, qs, rfl, h3, h4⟩ := pairs_rep e h2
    exact ⟨p, ps, qs, rfl, h1, h3, fun q hq => After.new h hS hq ⟨_, upd_same, (merge_rep h4 (by unfold RepP; rfl)).ext (Ext.new hq)⟩⟩
  · exact h.elim
end

/-! ### o.m(e, ..) within a try -/
section
variable {X : Cx} {cA : Nat → Addr} {W : WX} {p pos apos : Pos} {x m : Str} {e o : Expr} {es : List Expr} {mo : ME} {ma : MA} {k j n c : Nat} {tbl : Tbl}
theorem meth_ok {pl : Sem Bool} {f C : Addr} {fd : FuncData} {ps : List Str} {sp : Sp} {ta : TE} {t : TA} (he : PE X o ta) (hC : Cls X.K C) (hm : Meth X.K C m f)
    (F : FnOk X.prog X.w X.K X.mg X.base (L2.CX X.prog X.w) k f fd ps sp) (hr : Room k X.A) (hb : Binds X.K fd ps []) (tk : Takes X W) (ha : PA X (e :: es) t)
    (hst : starEach (e :: es) X.env = (false, eval e X.env) :: starEach es X.env) (hpl : (backTo pos (starEach es X.env)).any (·.1) = false)
    (ht : eval (.Call (.Attribute o m apos) (e :: es) [] pos) X.env = (do
      let ov ← eval o X.env
      standAt apos.atName
      let (f, first) ← holding [ov] (getMethod ov m pl)
      callWith pos f first (backTo pos (starEach (e :: es) X.env)) (backToKw pos (keywordEach [] X.env)))) :
    PE X (.Call (.Attribute o m apos) (e :: es) [] pos) (fun σ H Q => ta σ H fun x H1 => ∃ a dx fs, x = .ref a ∧ H1 a = some (.ins C dx fs) ∧ fs.lookup m = none ∧ t σ H1 fun vs H2 => sp (x :: vs) H2 Q (L2.WE W σ)) := by
  refine ⟨fun pins s σ H Q I h => ?_⟩
  refine PySem.W.methodCall_KW (pl := pl) (thn (he.run pins s σ H _ I h) fun u s1 ⟨x, H1, I1, rx, a, dx, fs, ex, ea, l, q⟩ => ?_) ht
  subst ex
  obtain rfl : u = Value.ref a := rx
  refine getmeth_ok I1 ea hC hm l ?_
  refine PySem.W.callWith_K (first := [.ref a]) (h₀ := X.base) I.ok.mod.kin hm.kp (thn (ha.run pos pins s1 σ H1 _ I1 q) fun us s2 ⟨vs, H2, I2, r, q2⟩ => ⟨I2.kIn, ?_⟩) hst hpl
  exact run_fnS (us := .ref a :: us) (vs := .ref a :: vs) F hr hb (passAt tk σ) I2 (.cons rfl r) q2
theorem xmeth {pl : Sem Bool} (T : MtL X.prog X.w X.K X.mg X.base cA j m n tbl) (hr : Room j X.A) (tk : Takes X W) (ho : ∀ W0 : XK, PE X o (tE X.K cA W0 mo)) (ha : ∀ W0 : XK, PA X (e :: es) (tAs X.K cA W0 ma))
    (hst : starEach (e :: es) X.env = (false, eval e X.env) :: starEach es X.env := by rfl) (hpl : (backTo pos (starEach es X.env)).any (·.1) = false := by rfl)
    (ht : eval (.Call (.Attribute o m apos) (e :: es) [] pos) X.env = (do
      let ov ← eval o X.env
      standAt apos.atName
      let (f, first) ← holding [ov] (getMethod ov m pl)
      callWith pos f first (backTo pos (starEach (e :: es) X.env)) (backToKw pos (keywordEach [] X.env))) := by rfl) : PE X (.Call (.Attribute o m apos) (e :: es) [] pos) (tEX X.K cA W (methE m n tbl mo ma)) := by
  refine ⟨fun pins s σ H Q I h => ?_⟩
  obtain ⟨ρ, S, l, hS, hl, h⟩ := h
  have hA : PA X (e :: es) (fun σ H Q => tAs X.K cA (L2.WE W σ) ma σ H Q) := ⟨fun pos pins s σ H Q I q => (ha (L2.WE W σ)).run pos pins s σ H Q I q⟩
  have hO : PE X o (fun σ H Q => tE X.K cA (L2.WE W σ) mo σ H Q) := ⟨fun pins s σ H Q I q => (ho (L2.WE W σ)).run pins s σ H Q I q⟩
  cases eo : mo l S with
  | ok d S1 =>
    unfold methE at h
    rw [eo] at h
    simp only [R.noex, R.bind_ok] at h
    split at h
    · rename_i i
      split at h
      · rename_i c fs ei
        split at h
        · rename_i hf
          split at h
          · rename_i G eG
            obtain ⟨k, hk, M⟩ := tbl_of T eG
            obtain ⟨f, fd, ps, hC, hM, hb, F⟩ := M.ex
            refine (meth_ok (pl := pl) hO hC hM F (hr.mono hk) hb tk hA hst hpl ht).run pins s σ H Q I ⟨ρ, S, l, hS, hl, ?_⟩
            rw [eo]
            intro ρ1 H1 v e1 hS1 hv
            obtain ⟨a, dx, vs, rfl, _, h1, h2⟩ := rins_rep hS1 hv ei
            refine ⟨a, dx, vs, rfl, h1, fld_none h2 hf, ρ1, S1, l, hS1, hl.ext e1, (After.step (rep := rVs X.K) h e1).imp fun us H2 hq => ?_⟩
            obtain ⟨ρ2, S2, ds, e2, hS2, hr2, h⟩ := hq
            split at h
            · rename_i hn
              exact ⟨by rw [List.length_cons, RepVs.length hr2]; exact hn, ρ2, S2, .ref i :: ds, hS2, .cons (hv.ext e2) hr2, After.back st_V (e1.trans e2) h⟩
            · exact h.elim
          · exact h.elim
        · exact h.elim
      · exact h.elim
    · exact h.elim
  | ex z S1 =>
    unfold methE at h
    rw [eo] at h
    exact h.elim
  | bad =>
    unfold methE at h
    rw [eo] at h
    exact h.elim
end
end ML

set_option Elab.async false
set_option linter.all false
set_option maxRecDepth 100000
set_option autoImplicit false
/-! ML17: more reckoning: dicts by key, equality with itself, rows that leave something behind. -/
namespace ML
open PySem PySem.Spec L2
mutual
theorem eqv_self : ∀ p : PyData, p.canLay0 = true → PyData.eqv p p = true
  | .none, _ => by simp [PyData.eqv]
  | .bool b, _ => by simp [PyData.eqv]
  | .int i, _ => by simp [PyData.eqv]
  | .str x, _ => by simp [PyData.eqv]
  | .list xs, h => by
    rw [PyData.canLay0] at h
    rw [PyData.eqv]
    exact eqvs_self xs h
  | .tuple xs, h => by
    rw [PyData.canLay0] at h
    rw [PyData.eqv]
    exact eqvs_self xs h
  | .dict _, h => by rw [PyData.canLay0] at h; cases h
theorem eqvs_self : ∀ ps : List PyData, PyData.canLayAll0 ps = true → PyData.eqvAll ps ps = true
  | [], _ => by simp [PyData.eqvAll]
  | p :: ps, h => by
    rw [PyData.canLayAll0, Bool.and_eq_true] at h
    rw [PyData.eqvAll, eqv_self p h.1, eqvs_self ps h.2]
    rfl
end
theorem eqLs_self {S : Store} {xs : List D} {ps : List PyData} (h : mapO (toPy S 63) xs = some ps) (c : PyData.canLayAll0 ps = true) : eqLs S xs xs = some true := by
  rw [eqLs_of h h c c, eqvs_self ps c]
/-! ### dicts of things by number -/
section
variable {α : Type}
def dK (k : α → Nat) (f : α → D) (ps : List α) : List (Key × D) := ps.map fun p => (.inl (k p : Int), f p)
def atK (k : α → Nat) (ps : List α) (i : Nat) : Option α := ps.find? fun p => decide (k p = i)
theorem dK_look (k : α → Nat) (f : α → D) (i : Nat) : ∀ ps : List α, dLook (dK k f ps) (.inl (i : Int)) = (atK k ps i).map f
  | [] => rfl
  | p :: ps => by
    have ih := dK_look k f i ps
    unfold dK dLook atK at ih ⊢
    rw [List.map_cons, List.find?_cons, List.find?_cons]
    by_cases e : k p = i
    · simp [e]
    · have h2 : ¬ ((Sum.inl (k p : Int) : Key) = Sum.inl (i : Int)) := fun z => e (by have := Sum.inl.inj z; omega)
      simp only [h2, e, decide_false]
      exact ih
theorem atK_mem {k : α → Nat} {ps : List α} {i : Nat} (h : i ∈ ps.map k) : ∃ p, atK k ps i = some p ∧ p ∈ ps ∧ k p = i := by
  obtain ⟨q, hq, e⟩ := List.mem_map.mp h
  cases h2 : atK k ps i with
  | none =>
    unfold atK at h2
    rw [List.find?_eq_none] at h2
    exact absurd (by simpa using e) (h2 q hq)
  | some p =>
    unfold atK at h2
    exact ⟨p, rfl, List.mem_of_find?_eq_some h2, by simpa using List.find?_some h2⟩
theorem atK_none {k : α → Nat} {ps : List α} {i : Nat} (h : i ∉ ps.map k) : atK k ps i = none := by
  unfold atK
  rw [List.find?_eq_none]
  intro p hp
  simp
  intro e
  exact h (List.mem_map.mpr ⟨p, hp, e⟩)
theorem dK_keys (k : α → Nat) (f : α → D) (ps : List α) : ((dK k f ps).map fun kv => keyD kv.1) = intsD (ps.map k) := by
  unfold dK intsD
  rw [List.map_map, List.map_map]
  rfl
theorem dK_len (k : α → Nat) (f : α → D) (ps : List α) : (dK k f ps).length = ps.length := by simp [dK]
theorem dK_put {k : α → Nat} {f : α → D} {ps : List α} {q : α} (h : k q ∉ ps.map k) : dPut (dK k f ps) (.inl (k q : Int)) (f q) = dK k f (ps ++ [q]) := by
  unfold dPut
  rw [if_neg]
  · simp [dK]
  · intro z
    rw [List.any_eq_true] at z
    obtain ⟨p, hp, e⟩ := z
    unfold dK at hp
    obtain ⟨r, hr, rfl⟩ := List.mem_map.mp hp
    have := Sum.inl.inj (of_decide_eq_true e)
    exact h (List.mem_map.mpr ⟨r, hr, by omega⟩)
theorem dK_set {k : α → Nat} {f : α → D} {ps : List α} {q : α} (h : k q ∈ ps.map k) : dPut (dK k f ps) (.inl (k q : Int)) (f q) = dK k f (ps.map fun p => if k p = k q then q else p) := by
  unfold dPut
  rw [if_pos]
  · unfold dK
    rw [List.map_map, List.map_map]
    refine List.map_congr_left fun p _ => ?_
    simp only [Function.comp]
    by_cases e : k p = k q
    · simp [e]
    · have h2 : ¬ ((Sum.inl (k p : Int) : Key) = Sum.inl (k q : Int)) := fun z => e (by have := Sum.inl.inj z; omega)
      simp [h2, e]
  · rw [List.any_eq_true]
    obtain ⟨p, hp, e⟩ := List.mem_map.mp h
    exact ⟨(.inl (k p : Int), f p), List.mem_map.mpr ⟨p, hp, rfl⟩, by simp [e]⟩
theorem dK_drop (k : α → Nat) (f : α → D) (ps : List α) (i : Nat) : dDrop (dK k f ps) (.inl (i : Int)) = dK k f (ps.filter fun p => decide (k p ≠ i)) := by
  unfold dDrop dK
  rw [List.filter_map]
  congr 1
  refine List.filter_congr fun p _ => ?_
  simp only [Function.comp]
  by_cases e : k p = i
  · simp [e]
  · have h2 : ¬ ((Sum.inl (k p : Int) : Key) = Sum.inl (i : Int)) := fun z => e (by have := Sum.inl.inj z; omega)
    simp [h2, e]
end
theorem x_dpop {S : Store} {m n : ME} {l : Loc} {i : Nat} {kvs : List (Key × D)} {k : Nat} {v : D} (hm : m l S = .ok (.ref i) S) (hn : n l S = .ok (.int (k : Int)) S) (h : S[i]? = some (.dct kvs)) (hv : dLook kvs (.inl (k : Int)) = some v) : dpopE m n l S = .ok v (S.set i (.dct (dDrop kvs (.inl (k : Int))))) := by
  unfold dpopE
  simp only [hm, hn, R.bind_ok, dctAt_of h, keyO, hv]
/-- the kept numbers as a dict -/
theorem pairs_seen (l : List Nat) (h : l.Nodup) (S : Store) : pairsL (l.map fun k : Nat => D.tup [.int (k : Int), .bl true]) S = .ok (.ref S.length) (S ++ [.dct (seenD l)]) := by
  have e : mapO pairO (l.map fun k : Nat => D.tup [.int (k : Int), .bl true]) = some (l.map fun k : Nat => ((.inl (k : Int), .bl true) : Key × D)) := mapO_some (f := pairO) (g := fun k : Nat => D.tup [.int (k : Int), .bl true]) (h := fun k : Nat => ((.inl (k : Int), .bl true) : Key × D)) (fun _ => rfl) l
  unfold pairsL
  rw [e]
  have gen : ∀ (l a : List Nat), (a ++ l).Nodup → mergeD (seenD a) (l.map fun k : Nat => ((.inl (k : Int), .bl true) : Key × D)) = seenD (a ++ l) := by
    intro l
    induction l with
    | nil => intro a _; simp [mergeD]
    | cons x l ih =>
      intro a hn
      have hx : x ∉ a := by
        rw [List.nodup_append] at hn
        exact fun q => hn.2.2 x q x (by simp) rfl
      have := ih (a ++ [x]) (by simpa using hn)
      rw [List.map_cons]
      show mergeD (dPut (seenD a) (.inl (x : Int)) (.bl true)) _ = _
      rw [seen_put hx, this]
      simp
  have := gen l [] h
  simp only [List.nil_append] at this
  show newC (.dct (mergeD [] _)) S = _
  have e0 : seenD [] = [] := rfl
  rw [e0] at this
  rw [this]
  rfl
/-- a row of things, each of which may leave something behind -/
theorem rowX {α : Type} (g : α → D) (P : α → Prop) {i n : Nat} {m : ME} {l : Loc} {t : Nat} {c : Cell} (hz : n ≤ 1000) (h : ∀ k : Nat, k < n → ∃ v, P v ∧ ∀ S, S[t]? = some c → ∃ Y, m (l.set i (some (.int (k : Int)))) S = .ok (g v) (S ++ Y)) :
    ∃ vs : List α, vs.length = n ∧ (∀ v ∈ vs, P v) ∧ ∀ S, S[t]? = some c → ∃ Y, compL still (.one i) yesM m l (intsFrom 0 n) [] S = .ok (vs.map g) (S ++ Y) := by
  have gen : ∀ (ks : List Nat), (∀ k ∈ ks, k < n) → ∃ vs : List α, vs.length = ks.length ∧ (∀ v ∈ vs, P v) ∧ ∀ (acc : List D) S, acc.length + ks.length ≤ 16000000 → S[t]? = some c → ∃ Y, compL still (.one i) yesM m l (ks.map fun k : Nat => D.int (k : Int)) acc S = .ok (acc ++ vs.map g) (S ++ Y) := by
    intro ks
    induction ks with
    | nil => intro _; exact ⟨[], rfl, fun v hv => by simp at hv, fun acc S _ _ => ⟨[], by rw [List.map_nil, compL_nil trivial]; simp⟩⟩
    | cons k ks ih =>
      intro hk
      obtain ⟨v, hv, ev⟩ := h k (hk k List.mem_cons_self)
      obtain ⟨vs, h1, h2, h3⟩ := ih (fun x hx => hk x (List.mem_cons_of_mem _ hx))
      refine ⟨v :: vs, by simp [h1], fun w hw => ?_, fun acc S ha ht => ?_⟩
      · rcases List.mem_cons.mp hw with e | e
        · subst e; exact hv
        · exact h2 w e
      · rw [List.length_cons] at ha
        obtain ⟨Y, eY⟩ := ev S ht
        obtain ⟨Z, eZ⟩ := h3 (acc ++ [g v]) (S ++ Y) (by simp; omega) (at_app ht)
        refine ⟨Y ++ Z, ?_⟩
        rw [List.map_cons, compL_cons trivial]
        simp only [Tgt.put, x_yes, R.bind_ok, if_true, eY]
        rw [if_pos (show _ < sizeLine by rw [sz]; omega), eZ]
        simp
  obtain ⟨vs, h1, h2, h3⟩ := gen (List.range n) fun k hk => List.mem_range.mp hk
  refine ⟨vs, by simpa using h1, h2, fun S ht => ?_⟩
  obtain ⟨Y, e⟩ := h3 [] S (by simp; omega) ht
  refine ⟨Y, ?_⟩
  rw [rng_ints]
  exact e
end ML

set_option Elab.async false
set_option linter.all false
set_option maxRecDepth 100000
set_option autoImplicit false
/-! ML19: a law's own def where it is called from the top alone: the guards around it are known to be none, so that str(..) of a tuple tells the same text each time. -/
namespace ML
open PySem PySem.Spec L2 PyProof.Rows
structure TopOk (P : Program) (w : World) (K : PySem.W.Frag) (mg : Str → Option Value) (base : Heap) (CX : CXT) (k : Nat) (f : Addr) (fd : FuncData) (ps : List Str) (sp : Sp) : Prop where
  len : ∀ vs H Q E, sp vs H Q E → vs.length = ps.length
  run : ∀ (s : Shared) (H : Hp) (args : Args) (us : List Value) (vs : List V) (Q : VK) (E : XK), Room k callerA → Env0 P w K mg base callerA [] s H → BindsTo s fd args (ps.zip us) → Vals vs us → sp vs H Q E →
    codeAny (model P w) callerA (.call (.ref f) args) (CR CX [] P w H s Q E) s
section
variable {P : Program} {w : World} {K : PySem.W.Frag} {mg : Str → Option Value} {base : Heap} {cA : Nat → Addr}
theorem top_run {CX : CXT} {x qual : Str} {st : Stmt} {f : Addr} {fd : FuncData} {N ps : List Str} {k : Nat} {sp : Sp} (F : Fun K x qual st f fd) (S : FnScope N ps (defScope st)) (len : ∀ vs H Q E, sp vs H Q E → vs.length = ps.length)
    (hb0 : ∀ (cdv : Value) (s : Shared) (H : Hp) (vs : List V) (Q : VK) (E : XK), Room k (callerA.deeper (envOfC qual (defScope st) s.heap.objs.size f cdv)) → sp vs H Q E →
      ∃ t, PSs (cxOf CX P w K mg base N qual (defScope st) f cdv callerA [] s H E) (defBody st) t ∧ t { nx := fun _ H' => Q .non H', rt := Q } (start N vs) H) : TopOk P w K mg base CX (k + 1) f fd ps sp := by
  obtain ⟨oc, od, kV, doc, pm, an, cdv, ct, osl, rfl, lk, hcd⟩ := F.ex
  refine ⟨len, fun s H args us vs Q E room e0 binds vals q => ?_⟩
  have there : ∀ b o, base.get? b = some o → s.heap.get? b = some o := fun b o e => (e0.bs b o e).1
  have inK : K.In s.heap := e0.mod.kin.keeps there
  refine codeAny_call_function room.depth (inK _ _ lk) rfl S.co S.gen rfl (PySem.W.codeRec_of inK hcd) (binds _ _ _ _ ?_)
  have kinds : ∀ y ∈ ps.zip us, (defScope st).names.lookup y.1 = some .local ∨ ((defScope st).names.lookup y.1 = some .cell ∧ ((cellsFrom (s.heap.objs.size + 1) (defScope st).names []).lookup y.1).isSome = true) := by
    rintro ⟨n, v⟩ hy
    cases S.par n (List.of_mem_zip hy).1 with
    | inl z => exact .inl z
    | inr z => exact .inr ⟨z, PySem.W.cellsFrom_some _ _ _ (.inl z)⟩
  refine wpAny_newFunctionEnv_cells S.kind kinds fun env he s1 new => ?_
  subst he
  refine ⟨(e0.mod.nolimit.keeps there).keeps new.toInCall.keep, codeAny_func ?_⟩
  obtain ⟨t, body, wish⟩ := hb0 cdv s H vs Q E (room.deeper _) q
  have inv : Inv (cxOf CX P w K mg base N qual (defScope st) f cdv callerA [] s H E) [] (start N vs) H s1 := inv_start S room.hd e0 (len _ _ _ _ q) vals new
  refine wpAny_mono (body.run [] s1 (start N vs) H _ inv wish) ?_ fun _ _ z => z
  intro fl s2 z
  cases fl with
  | next => obtain ⟨_, H2, J, z⟩ := z; exact ⟨.non, H2, J.os, J.bare, J.base, J.hok, rfl, z⟩
  | ret u => obtain ⟨v, _, H2, J, rv, z⟩ := z; exact ⟨v, H2, J.os, J.bare, J.base, J.hok, rv, z⟩
  | brk => obtain ⟨_, _, _, z⟩ := z; exact z.elim
  | cont => obtain ⟨_, _, _, z⟩ := z; exact z.elim
/-- the law's def keeps what its body's function says -/
theorem defTop {x qual : Str} {st : Stmt} {f : Addr} {fd : FuncData} {N ps : List Str} {k : Nat} {m : MS} (F : Fun K x qual st f fd) (S : FnScope N ps (defScope st))
    (hbody : ∀ (cdv : Value) (A : Around) (outer : List Env) (s : Shared) (H : Hp) (E : XK), A.guards = some [] → Room k (A.deeper (envOfC qual (defScope st) s.heap.objs.size f cdv)) →
      PSs (cxOf (L2.CX P w) P w K mg base N qual (defScope st) f cdv A outer s H E) (defBody st) (tS K cA E m)) : TopOk P w K mg base (L2.CX P w) (k + 1) f fd ps (spM K cA (bodyF N.length m) ps.length) :=
  top_run F S (fun vs H Q E h => h.1) fun cdv s H vs Q E hr h => by
    obtain ⟨hl, ρ, S0, ds, hS, hrep, h⟩ := h
    refine ⟨tS K cA E m, hbody cdv callerA [] s H E rfl hr, ρ, S0, startL N.length ds, hS, start_rep hrep, (After.bind (rep := rS K) st_V h).imp fun b H1 h => ?_⟩
    obtain ⟨ρ1, S1, a, e1, hS1, ⟨hl1, hf⟩, h⟩ := h
    obtain ⟨fl, l1⟩ := a
    obtain ⟨g, σ1⟩ := b
    cases fl with
    | nx => cases g with
      | nx => exact After.same (rep := rV K) h hS1 rep_non'
      | _ => exact hf.elim
    | rt d => cases g with
      | rt v => exact After.same (rep := rV K) h hS1 hf
      | _ => exact hf.elim
    | bk => exact h.elim
    | ct => exact h.elim
theorem topA_of {k n : Nat} {f : Addr} {fd : FuncData} {ps : List Str} {F : List D → Store → R D} {CX : CXT} (h : TopOk P w K mg base CX k f fd ps (spM K cA F n)) : TopOk P w K mg base CX k f fd ps (spA K F n) :=
  ⟨fun vs H Q E q => h.len vs H Q E (q cA), fun s H args us vs Q E hr e b r q => h.run s H args us vs Q E hr e b r (q cA)⟩
end
/-- the law's call -/
theorem law_top {P : Program} {w : World} {K : PySem.W.Frag} {mg mb : Str → Option Value} {CX : CXT} {k : Nat} {fa a : Addr} {fd : FuncData} {x : Str} {sp : Sp} {s : Shared} {vs : List Value} {ns : List Int}
    (inK : K.In s.heap) (g1 : s.heap.Ns mainGlobals mg) (g2 : s.heap.Ns builtinsNs mb) (g3 : ∀ x : Str, x ≠ "__name__" → mb x = bootBuiltins x) (g4 : s.heap.NoLimit) (g5 : s.gens = #[])
    (la : s.heap.get? a = some { cls := .type "list", data := .seq vs.toArray }) (li : IntsAre vs ns) (ll : ns.length ≤ sizeLine) (room : Room k callerA)
    (F : ∀ base : Heap, K.In base → base.Ns mainGlobals mg → TopOk P w K mg base CX k fa fd [x] sp) (binds : ∀ (s : Shared) (u : Value), BindsTo s fd ⟨[u], []⟩ [(x, u)])
    (hsp : ∀ H : Hp, Only H → SqL K H a (ns.map V.int) → sp [.ref a] H (fun v _ => v = .bl true) fun _ _ _ => False)
    (hCX : ∀ H e s', CX [] H s (fun _ _ _ => False) e s' → False) :
    codeAny (model P w) callerA (.call (.ref fa) ⟨[.ref a], []⟩) (fun r s' => r = .ok (.ret (.bool true)) ∧ OldK s.heap s'.heap ∧ s'.os = s.os ∧ AllBare s'.gens) s := by
  -- what is tracked: at most the script
  have main : ∀ H : Hp, (∀ b, H b = none ∨ (b = a ∧ K.lookup a = none ∧ H b = some (.frz { cls := .type "list", data := .seq vs.toArray } (.lst (ns.map V.int))))) → SqL K H a (ns.map V.int) →
      codeAny (model P w) callerA (.call (.ref fa) ⟨[.ref a], []⟩) (fun r s' => r = .ok (.ret (.bool true)) ∧ OldK s.heap s'.heap ∧ s'.os = s.os ∧ AllBare s'.gens) s := by
    intro H sh sq
    have stays : ∀ {b : Addr} {o : Obj}, s.heap.get? b = some o → (b = a → K.lookup a = none → False) → (hidT s.heap H).get? b = some o := fun {b o} e ne => by
      rcases sh b with z | ⟨z, z2, _⟩
      · exact hidT_get e z
      · exact (ne z z2).elim
    have kb : K.In (hidT s.heap H) := fun b o e => stays (inK b o e) fun z z2 => by subst z; rw [e] at z2; cases z2
    have nb : ∀ {b : Addr} {m : Str → Option Value}, s.heap.Ns b m → (hidT s.heap H).Ns b m := fun {b m} ⟨o, es, ep, e, d, r⟩ => ⟨o, es, ep, stays e (fun z _ => by
      subst z
      have q := e.symm.trans la
      cases q
      cases (show Data.seq vs.toArray _ = Data.dict es ep from d)), d, r⟩
    have hok : HOk P w H s.heap := fun b u e => by
      rcases sh b with z | ⟨z, _, z3⟩
      · rw [z] at e; cases e
      · rw [z3] at e
        cases e
        subst z
        exact ⟨la, by rw [List.length_map]; exact ll, vs, _, vals_ints li, la⟩
    have e0 : Env0 P w K mg (hidT s.heap H) callerA [] s H :=
      { frames := rfl, mod := ⟨kb, nb g1, ⟨mb, nb g2, g3⟩, by obtain ⟨mc, c1, c2⟩ := g4; exact ⟨mc, nb c1, c2⟩⟩, bs := fun _ _ e => of_hidT e, bsz := by rw [hidT_size]; exact Nat.le_refl _, funs := trivial,
        frf := fun b hb => absurd (show b ∈ ([] : List Addr) from hb) List.not_mem_nil, hok := hok, bare := .of_eq g5 }
    have only : Only H := fun b => (sh b).imp id fun z => ⟨_, _, z.2.2⟩
    refine codeAny_mono ((F _ kb (nb g1)).run s H ⟨[.ref a], []⟩ [.ref a] [.ref a] _ _ room e0 (binds s (.ref a)) (.cons rfl .nil) (hsp H only sq)) ?_
    intro r s' z
    cases r with
    | error e => exact (hCX H e s' z).elim
    | ok fl => cases fl with
      | ret u =>
        obtain ⟨v, H', os, bare, un, hok', rv, q⟩ := z
        cases (show v = .bl true from q)
        cases (show u = Value.bool true from rv)
        refine ⟨rfl, OldK.of_keep fun b o e => ?_, os, bare⟩
        rcases sh b with n | ⟨_, _, n⟩
        · exact un.keep b o e n (fun z => absurd (show b ∈ ([] : List Addr) from z) List.not_mem_nil) (by simp)
        · obtain ⟨c1, _⟩ := hok b _ n
          obtain ⟨c2, _⟩ := hok' b _ (un.frzs b _ _ n)
          rw [c1] at e
          cases e
          exact c2
      | next => exact (show False from z).elim
      | brk => exact (show False from z).elim
      | cont => exact (show False from z).elim
  by_cases hk : K.lookup a = none
  · refine main (fun b => if b = a then some (.frz { cls := .type "list", data := .seq vs.toArray } (.lst (ns.map V.int))) else none) (fun b => ?_) (.inl (.inr ⟨_, if_pos rfl⟩))
    by_cases hb : b = a
    · exact .inr ⟨hb, hk, if_pos hb⟩
    · exact .inl (if_neg hb)
  · obtain ⟨o, ho⟩ := Option.ne_none_iff_exists'.mp hk
    have e := inK a o ho
    rw [la] at e
    cases e
    exact main (fun _ => none) (fun _ => .inl rfl) (.inr ⟨_, vs.toArray, _, ho, rfl, rfl, rfl, by rw [List.size_toArray, li.length]; exact ll, by simpa using vals_ints li⟩)
theorem walk_top {l : PySem.W.OpenLaw} {n k : Nat} {q : Program} {loose : List Str} {XP : (Str → Option Value) → Heap → Prop} {YP : World → Heap → Prop} {d : DefRec} {K : Params → PySem.W.Frag} {CX : World → CXT} {sp : World → Sp} {x : Str}
    (hn : l.most = some n) (hn2 : n ≤ sizeLine) (hdf : d.params.defaults = []) (hr : Room k callerA) (hY : ∀ (w : World) (h : Heap), YP w h → (K w.params).In h)
    (F : ∀ (w : World) (mg : Str → Option Value) (fa : Addr) (h : Heap), (K w.params).In h → h.Ns mainGlobals mg → mg d.name = some (.ref fa) →
      ∃ fd : FuncData, (∀ (s : Shared) (u : Value), BindsTo s fd ⟨[u], []⟩ [(x, u)]) ∧ ∀ base : Heap, (K w.params).In base → base.Ns mainGlobals mg → TopOk l.prog w (K w.params) mg base (CX w) k fa fd [x] (sp w))
    (hsp : ∀ (w : World) (H : Hp) (a : Addr) (ns : List Int), ns.length ≤ n → Only H → SqL (K w.params) H a (ns.map V.int) → sp w [.ref a] H (fun v _ => v = .bl true) fun _ _ _ => False)
    (hCX : ∀ (w : World) (H : Hp) (s : Shared) (e : Value) (s' : Shared), CX w [] H s (fun _ _ _ => False) e s' → False) : PySem.W.WalkO q loose XP YP l.row.toRowW d [] (fun f vs => PySem.call f vs) := by
  refine Att.attach_call hn hdf ?_
  intro w s₀ s₁ mg mb fa o pm cd doc a vs ns G Y _ _ _ hmg la li ll g5
  obtain ⟨fd, hb, hF⟩ := F w mg fa _ (hY w _ Y) G.T.g hmg
  exact law_top (hY w _ Y) G.T.g G.T.b G.T.builtins G.T.nolimit g5 la li (Nat.le_trans ll hn2) hr hF hb (fun H o s => hsp w H a ns ll o s) (fun H e s' => hCX w H s₁ e s')
end ML

set_option Elab.async false
set_option linter.all false
set_option maxRecDepth 100000
set_option autoImplicit false
/-! ML20: len(set(x)) of a tuple or list of texts: how many there are, each counted once. -/
namespace ML
open PySem PySem.Spec L2
/-- each one once, as they come -/
def uqs {α : Type} [DecidableEq α] (l : List α) : List α := l.foldl (fun acc x => if x ∈ acc then acc else acc ++ [x]) []
theorem uqs_snoc {α : Type} [DecidableEq α] (l : List α) (x : α) : uqs (l ++ [x]) = if x ∈ uqs l then uqs l else uqs l ++ [x] := by
  unfold uqs
  rw [List.foldl_append]
  rfl
theorem mem_uqs {α : Type} [DecidableEq α] (l : List α) (x : α) : x ∈ uqs l ↔ x ∈ l := by
  have gen : ∀ (n : Nat) (l : List α), l.length = n → ∀ x, x ∈ uqs l ↔ x ∈ l := by
    intro n
    induction n with
    | zero => intro l hl x; have := List.length_eq_zero_iff.mp hl; subst this; exact Iff.rfl
    | succ n ih =>
      intro l hl x
      obtain ⟨r, y, rfl⟩ : ∃ r y, l = r ++ [y] := ⟨l.dropLast, l.getLast (by rintro rfl; simp at hl), (List.dropLast_concat_getLast _).symm⟩
      have hr : r.length = n := by simpa using hl
      rw [uqs_snoc]
      split
      · rename_i q
        rw [ih r hr]
        have := (ih r hr y).mp q
        simp
        rintro rfl
        exact this
      · simp [ih r hr]
  exact gen _ l rfl x
theorem uqs_le {α : Type} [DecidableEq α] (l : List α) : (uqs l).length ≤ l.length := by
  have gen : ∀ (n : Nat) (l : List α), l.length = n → (uqs l).length ≤ n := by
    intro n
    induction n with
    | zero => intro l hl; have := List.length_eq_zero_iff.mp hl; subst this; exact Nat.le_refl _
    | succ n ih =>
      intro l hl
      obtain ⟨r, y, rfl⟩ : ∃ r y, l = r ++ [y] := ⟨l.dropLast, l.getLast (by rintro rfl; simp at hl), (List.dropLast_concat_getLast _).symm⟩
      have hr : r.length = n := by simpa using hl
      have := ih r hr
      rw [uqs_snoc]
      split
      · omega
      · simp; exact this
  exact gen _ l rfl
theorem uqs_nodup {α : Type} [DecidableEq α] {l : List α} (h : l.Nodup) : uqs l = l := by
  have gen : ∀ (n : Nat) (l : List α), l.length = n → l.Nodup → uqs l = l := by
    intro n
    induction n with
    | zero => intro l hl _; have := List.length_eq_zero_iff.mp hl; subst this; rfl
    | succ n ih =>
      intro l hl hd
      obtain ⟨r, y, rfl⟩ : ∃ r y, l = r ++ [y] := ⟨l.dropLast, l.getLast (by rintro rfl; simp at hl), (List.dropLast_concat_getLast _).symm⟩
      have hr : r.length = n := by simpa using hl
      rw [List.nodup_append] at hd
      have ny : y ∉ r := fun q => (hd.2.2 y q y (by simp)) rfl
      rw [uqs_snoc, ih r hr hd.1, if_neg ny]
  exact gen _ l rfl h
section
variable {prog : Program} {w : World} {A : Around} {R : Result → Shared → Prop} {I : Addr} {fp wr : List Addr} {G : Array GenState → Array GenState → Prop} {n : Nat} {P : Nat → Value → Prop} {St : Nat → Shared → Prop}
/-- the adding, one by one -/
theorem set_adds (W : WalksS prog w A.in1 I fp wr G n P St) (T : Addr) (off : T ∉ fp) (xs : List Str) (len : xs.length = n) (room : n + 1 < scanBound) (val : ∀ i v, P i v → ∃ t, v = .str (xs.getD i Str.empty) t) :
    ∀ (k i : Nat) (s : Shared), n - i = k → i ≤ n → St i s → s.heap.SetOf (PySem.strKind prog w) T (fun y => decide (y ∈ xs.take i)) (uqs (xs.take i)).length →
      (∀ s', Moved (T :: wr) G s s' → s'.heap.SetOf (PySem.strKind prog w) T (fun y => decide (y ∈ xs)) (uqs xs).length → R (.ok (.ret .none)) s') →
      codeAny (model prog w) A (.builtin "set.update.loop" ⟨[.ref T, .ref I], []⟩) R s := by
  have off2 : T ∉ wr := fun h => off (W.sub _ h)
  have more : ∀ b ∈ wr, b ∈ T :: wr := fun b hb => List.mem_cons_of_mem _ hb
  have keep : ∀ {s s' : Shared} {i : Nat}, Moved wr G s s' → s.heap.SetOf (PySem.strKind prog w) T (fun y => decide (y ∈ xs.take i)) (uqs (xs.take i)).length → s'.heap.SetOf (PySem.strKind prog w) T (fun y => decide (y ∈ xs.take i)) (uqs (xs.take i)).length := fun {s s' i} hm hS => by
    obtain ⟨o, es, ep, t, ho, rest⟩ := hS
    exact ⟨o, es, ep, t, hm.heap T _ off2 ho, rest⟩
  intro k
  induction k with
  | zero =>
    intro i s hk hi hst hS hR
    have : i = n := by omega
    subst this
    refine codeAny_builtin PyProof.Rows.F.entry_set_update_loop ?_
    rw [Around.under_plainId PyProof.Rows.F.plain_set_update_loop _]
    show wpAny _ A.in1 (pyNext (.ref I) >>= _) _ _ s
    refine wpAny_bind (W.done s _ _ hst fun s' hm => ?_)
    show wpAny _ A.in1 (ret Value.none) _ _ s'
    have e := keep hm hS
    rw [List.take_of_length_le (by omega)] at e
    exact wpAny_pure (hR s' (hm.mono more) e)
  | succ k ih =>
    intro i s hk hi hst hS hR
    have lt : i < n := by omega
    refine codeAny_builtin PyProof.Rows.F.entry_set_update_loop ?_
    rw [Around.under_plainId PyProof.Rows.F.plain_set_update_loop _]
    show wpAny _ A.in1 (pyNext (.ref I) >>= _) _ _ s
    refine wpAny_bind (W.item i s _ _ lt hst fun v s' hP hst' hm => ?_)
    obtain ⟨t, rfl⟩ := val i v hP
    show wpAny _ A.in1 (holding [Value.str (xs.getD i Str.empty) t] (setAdd T (.str (xs.getD i Str.empty) t)) >>= _) _ _ s'
    refine wpAny_bind (wpAny_holding ?_)
    unfold setAdd
    refine wpAny_holding ?_
    refine wpAny_bind ((PySem.strKind prog w).pyHash (k := xs.getD i Str.empty) (strKind_is _ _ _ _) ?_)
    have few : (uqs (xs.take i)).length ≤ n := Nat.le_trans (uqs_le _) (by rw [List.length_take]; omega)
    refine wpAny_setAddHashed_of (knd := PySem.strKind prog w) (s := { s' with toks := s'.toks + 1 }) (strKind_is _ _ _ _) rfl (show s'.heap.SetOf _ _ _ _ from keep hm hS) (by omega) fun h' same hS2 => ?_
    have hx : xs[i]? = some (xs.getD i Str.empty) := by
      rw [List.getD_eq_getElem?_getD]
      have : i < xs.length := by omega
      rw [List.getElem?_eq_getElem this]
      rfl
    have hS3 : h'.SetOf (PySem.strKind prog w) T (fun y => decide (y ∈ xs.take (i + 1))) (uqs (xs.take (i + 1))).length := by
      refine PyProof.Rows.SetOf_congr hS2 (fun y => ?_) ?_
      · rw [List.take_add_one, hx]
        simp [List.mem_append]
      · rw [List.take_add_one, hx]
        show _ = (uqs (xs.take i ++ [xs.getD i Str.empty])).length
        rw [uqs_snoc]
        by_cases q : xs.getD i Str.empty ∈ xs.take i
        · rw [if_pos (decide_eq_true q), if_pos ((mem_uqs _ _).mpr q)]
        · rw [if_neg (by simpa using q), if_neg (fun z => q ((mem_uqs _ _).mp z)), List.length_append]
          rfl
    refine wpAny_pure ⟨plainId_quiet PyProof.Rows.F.plain_set_update_loop _, ih (i + 1) _ (by omega) lt (W.frame _ s' _ _ hst' (Nat.le_succ _) fun b hb o e => ?_) hS3 fun s2 hm2 hS4 => ?_⟩
    · rw [same.2 b (fun h : b = T => off (by rw [← h]; exact hb))]; exact e
    · refine hR s2 (Moved.trans W.gtrans ((hm.mono more).then_heap (Nat.le_succ _) fun b o hb e => ?_) hm2) hS4
      rw [same.2 b (fun h : b = T => hb (by rw [h]; exact List.mem_cons_self))]; exact e
end
section
variable {prog : Program} {w : World} {A : Around} {E : Value → Shared → Prop} {s : Shared}
set_option maxHeartbeats 3200000 in
/-- set(t), t a tuple of texts -/
theorem set_of_tup {l : Addr} {items : Array Value} {xs : List Str} {Q : Value → Shared → Prop} (hh : A.handled = none) (hl : s.heap.IsTuple l items) (hi : PyProof.Rows.StrsAre items.toList xs) (room : xs.length + 1 < scanBound)
    (h : ∀ (h' : Heap) (tk : Nat), h'.SetOf (PySem.strKind prog w) s.heap.objs.size (fun y => decide (y ∈ xs)) (uqs xs).length → (∀ b o, b < s.heap.objs.size → s.heap.get? b = some o → h'.get? b = some o) → Q (.ref s.heap.objs.size) { s with heap := h', toks := tk }) :
    wpAny (model prog w) A (call (.type "set") [.ref l]) Q E s := by
  obtain ⟨c, tl, mro⟩ := PySem.F.called_set.mro
  have made := PySem.F.called_set.made
  have sub := PySem.F.called_set.sub
  refine wpAny_call (codeAny_of_tree ?_)
  show wpAny _ _ (callAny (.type "set") _) _ _ _
  refine wpAny_pure ⟨Code.quiet_builtin _ (by decide +kernel), codeAny_builtin PySem.F.entry_type_call ?_⟩
  rw [Around.under_plain (weight_type_call_type "set" [.ref l] []) rfl]
  have f1 := PySem.F.called_set.notType
  have f2 := PySem.F.called_set.canCreate
  have f3 := PySem.F.typeCall_set_1 (.ref l)
  repeat (any_goals (first | assumption | wp_step))
  refine codeAny_mono (code_set_new_1 (.ref l) (E := E) (Q₁ := fun obj s₁ => ∃ led : Bool, obj = .ref s.heap.objs.size ∧ s₁ = { s with heap := s.heap.push { cls := .type "set", dict := none, data := .set #[] 0 (.fresh 0 0 led) } }) fun led => ⟨led, rfl, rfl⟩) fun r s₁ hr => ?_
  cases r with
  | error e => exact hr
  | ok fl => cases fl with
    | ret obj =>
      obtain ⟨led, rfl, rfl⟩ := hr
      obtain ⟨h0, hh0⟩ : ∃ h0, s.heap.push { cls := .type "set", dict := none, data := .set #[] 0 (.fresh 0 0 led) } = h0 := ⟨_, rfl⟩
      have at0 : h0.get? s.heap.objs.size = some { cls := .type "set", dict := none, data := .set #[] 0 (.fresh 0 0 led) } := by rw [← hh0]; exact Heap.get?_push_size _ rfl
      have up0 : ∀ {b o}, s.heap.get? b = some o → h0.get? b = some o := fun e => by rw [← hh0]; exact Heap.get?_push_of_some _ e
      have z0 : h0.objs.size = s.heap.objs.size + 1 := by rw [← hh0]; exact Heap.size_push ..
      rw [hh0]
      have ty : Shared.TypeIs { s with heap := h0 } (.ref s.heap.objs.size) "set" := ⟨_, at0, rfl⟩
      have g1 := PySem.F.called_set.init.lookup
      have g2 := PySem.F.called_set.init.bind (.ref s.heap.objs.size)
      repeat (any_goals (first | assumption | wp_step))
      refine codeAny_mono (codeAny_call_builtin (R := wants (fun r s₂ => r = .none ∧ ∃ h' tk, s₂ = { s with heap := h', toks := tk } ∧ h'.SetOf (PySem.strKind prog w) s.heap.objs.size (fun y => decide (y ∈ xs)) (uqs xs).length ∧ (∀ b o, b < s.heap.objs.size → s.heap.get? b = some o → h'.get? b = some o)) E)
        PySem.F.called_set.init.plain PySem.F.entry_set_init (check_set_init_1 ty ?_)) fun r₂ s₂ hr₂ => ?_
      · obtain ⟨ol, hol, hcl, nl, hdl⟩ := hl
        obtain ⟨ocls, odict, odata, oslots⟩ := ol
        simp only at hcl hdl
        subst hcl hdl
        have hol2 := up0 hol
        have k1 := PySem.F.sub_tuple_set
        have k2 := PySem.F.sub_tuple_frozenset
        have k3 : (Value.type "tuple" == Value.type "dict") = false := by decide
        have tup0 : h0.IsTuple l items := ⟨_, hol2, rfl, nl, rfl⟩
        unfold Builtin.«set.__init__» noKeywords Builtin.Frozenset.updateFrom
        generalize hPI : pyIter = PI
        wp_walk
        subst hPI
        refine wpAny_pyIter_tuple tup0 ?_
        refine wpAny_bind (wpAny_runValue ?_)
        have ll : l < s.heap.objs.size := Heap.lt_size hol
        have len : xs.length = items.size := by rw [← PyProof.Rows.StrsAre.len_eq hi, Array.length_toList]
        refine set_adds (A := A.in1.in1) ((Walks.tuple (by simp [hh]) _ l (Nat.ne_of_lt (show l < h0.objs.size by rw [z0]; exact Nat.lt_succ_of_lt ll)) items).toS) s.heap.objs.size (show s.heap.objs.size ∉ [h0.objs.size, l] by rw [z0]; simp; exact Nat.ne_of_gt ll) xs len (by omega) (fun i v hv => SS.strs_at hi i v (by rw [Array.getElem?_toList]; exact hv)) (items.size - 0) 0 _ (by omega) (Nat.zero_le _)
          ⟨⟨_, Heap.get?_push_size _ rfl, rfl, rfl⟩, (tup0.push _)⟩ ?_ ?_
        · have at1 : (h0.push { cls := .type "tuple_iterator", data := .fields #[.ref l, .int 0 0] }).get? s.heap.objs.size = some { cls := .type "set", dict := none, data := .set #[] 0 (.fresh 0 0 led) } := Heap.get?_push_of_some _ at0
          exact PyProof.Rows.SetOf_congr ((PyProof.Rows.setObjOf_fresh (knd := PySem.strKind prog w) led).setOf at1 (by unfold scanBound; omega)) (fun _ => by simp) rfl
        · intro s' hm hS'
          obtain ⟨h', g', d', tk', os'⟩ := s'
          cases (show g' = s.gens from hm.gens)
          cases (show d' = s.drawn from hm.drawn)
          cases (show os' = s.os from hm.os)
          show wpAny _ _ _ _ _ _
          refine wpAny_pure ?_
          show wpAny _ _ (ret Value.none) _ _ _
          refine wpAny_pure ⟨rfl, h', tk', rfl, hS', fun b o hb e => hm.heap b o ?_ (Heap.get?_push_of_some _ (up0 e))⟩
          show b ∉ [s.heap.objs.size, h0.objs.size]
          rw [z0]
          simp
          exact ⟨Nat.ne_of_lt hb, Nat.ne_of_lt (Nat.lt_succ_of_lt hb)⟩
      · cases r₂ with
        | error e => exact hr₂
        | ok fl₂ => cases fl₂ with
          | ret r =>
            obtain ⟨rfl, h', tk, rfl, hS', hk'⟩ := hr₂
            repeat (any_goals (first | assumption | wp_step))
            exact h _ _ hS' hk'
          | _ => exact hr₂.elim
    | _ => exact hr.elim
end
/-- len(set(e)) -/
def lenSetD (d : D) (S : Store) : R D := match d with
  | .tup xs => match mapO strO xs with
    | some zs => if zs.length < 1000 then .ok (.int ((uqs zs).length : Nat)) S else .bad
    | none => .bad
  | _ => .bad
def lenSetE (m : ME) : ME := fun l S => (m l S).bind lenSetD
section
variable {X : Cx} {cA : Nat → Addr} {W : XK} {m : ME} {K : PySem.W.Frag} {ρ : List Addr} {H : Hp}
open PyProof.Rows in
theorem mlenset {a : Expr} {p p2 q pos : Pos} (hc : X.calm = true) (hg : Gl X "len") (hm : X.mg "len" = none) (hg2 : Gl X "set") (hm2 : X.mg "set" = none) (ha : PE X a (tE X.K cA W m))
    (na : starEach [a] X.env = (false, eval a X.env) :: starEach [] X.env := by rfl) : PE X (.Call (.Name "len" p) [.Call (.Name "set" p2) [a] [] q] [] pos) (tE X.K cA W (lenSetE m)) := by
  refine ⟨fun pins s σ H Q I h => ?_⟩
  refine Call_ (ld_blt I hg hm boot_len ?_)
  refine PyProof.Rows.callWith_builtin1 (PyProof.Rows.args_cons ?_ rfl) rfl rfl
  refine Call_ (ld_blt I hg2 hm2 boot_set ?_)
  refine PyProof.Rows.callWith_type1 (PyProof.Rows.args_cons (thn (ha.run pins s σ H _ I (bind1 (rep1 := rV X.K) st_V h)) fun v s1 ⟨x, H1, I1, r1, q1⟩ => PyProof.Rows.args_nil ?_) na) na rfl
  obtain ⟨ρ, S, d, hS, hr, q1⟩ := q1
  unfold lenSetD at q1
  split at q1
  · rename_i xs
    split at q1
    · rename_i zs ez
      split at q1
      · rename_i few
        have q2 : Q (.int ((uqs zs).length : Nat)) H1 := After.same (rep := rV X.K) q1 hS (by unfold rV RepV; rfl)
        unfold rV RepV at hr
        obtain ⟨l, vs, rfl, hq, hrs⟩ := hr
        have ev := strs_rep ez hrs
        subst ev
        cases r1
        obtain ⟨its, r, pl, hz⟩ := I1.tuple hq
        have le := uqs_le zs
        refine set_of_tup (I1.ok.hd hc) pl (by simpa using L2.strsAre_of r) (by unfold scanBound; omega) fun h' tk hS' hk => ?_
        refine PyProof.Rows.args_nil ?_
        obtain ⟨o, es, ep, t, ho, hex, hd, _, _, _, hf, hn⟩ := hS'
        have I2 : Inv X pins σ H1 { s1 with heap := h', toks := tk } := I1.kept fun b o e => hk b o (Heap.lt_size e) e
        exact call_len_set ho hex hd hf (by rw [hn]; omega) ⟨.int (uqs zs).length, H1, I2.tok _, ⟨_, by rw [hn]⟩, q2⟩
      · exact q1.elim
    · exact q1.elim
  · exact q1.elim
end
end ML

set_option Elab.async false
set_option linter.all false
set_option maxRecDepth 100000
set_option autoImplicit false
/-! ML18: str(..) of a tuple at the top, join of a list that stands, tuples of texts at the module, defs that call themselves. -/
namespace ML
open PySem PySem.Spec L2
/-! ### str(t) -/
def strT (ds : List D) (S : Store) : R D := match ds with
  | [.tup xs] => match toPy S 64 (.tup xs) with
    | some p => if p.canLay0 = true ∧ p.depth ≤ 64 ∧ PyData.showable p = true ∧ (PyData.shown p).length ≤ sizeLine then .ok (.str (PyData.shown p)) S else .bad
    | none => .bad
  | _ => .bad
section
variable {X : Cx} {cA : Nat → Addr} {W : XK} {K : PySem.W.Frag} {ρ : List Addr} {H : Hp}
theorem u100 {k : Nat} {A : Around} (r : Room k A) : A.units + 100 < cLine := by have := r.un; omega
theorem c_strT (hg : X.A.guards = some []) (hu : X.A.units + 100 < cLine) : CallR X (.type "str") (tN X.K cA W (rV X.K) strT) := by
  intro pins s σ H xs us Q I r h
  obtain ⟨ρ, S, ds, hS, hr, h⟩ := h
  unfold strT at h
  split at h
  · rename_i ys
    split at h
    · rename_i p ep
      split at h
      · rename_i hz
        obtain ⟨v, rfl, h1⟩ := one_rep hr
        have q : Q (.str (PyData.shown p)) H := After.same (rep := rV X.K) h hS (by unfold rV RepV; rfl)
        have dp := toPy_rep hS _ _ _ _ ep h1
        unfold RepV at h1
        obtain ⟨a, vs, rfl, _, _⟩ := h1
        cases r with
        | cons r rr =>
          cases rr
          cases r
          obtain ⟨as, rd⟩ := Dp.reads I p _ _ dp rfl
          exact _root_.PySem.str_of_reads rd hz.2.2.1 (_root_.PySem.PyData.noDict_hsm (PyData.hasDict_of_canLay p hz.1)) hg (by have := hz.2.1; omega) (fun _ _ e => e) (fun h' u tk hk => ⟨.str (PyData.shown p), H, I.kept (t' := tk) hk, ⟨_, rfl⟩, q⟩) hz.2.2.2
      · exact h.elim
    · exact h.elim
  · exact h.elim
/-! ### join of a list or tuple that stands -/
def joinV (m n : ME) : ME := fun l S => (m l S).bind fun d S1 => match strO d with
  | some a => (n l S1).bind fun d2 S2 => match seqOf S2 d2 with
    | some ds => match mapO strO ds with
      | some ys => if (ys.map (·.length)).sum + ys.length * a.length ≤ 16777216 then .ok (.str (Str.join a ys)) S2 else .bad
      | none => .bad
    | none => .bad
  | none => .bad
end
section
variable {X : Cx} {cA : Nat → Addr} {W : XK} {o e : Expr} {m n : ME} {apos cpos : Pos}
theorem mjoinV (ho : PE X o (tE X.K cA W m)) (he : PE X e (tE X.K cA W n)) (hs : starEach [e] X.env = [(false, eval e X.env)] := by rfl) (hbase : attributeBase o "join" X.env (eval o X.env) = eval o X.env := by rfl) (hline : (apos.endLine == cpos.line) = true := by rfl) :
    PE X (.Call (.Attribute o "join" apos) [e] [] cpos) (tE X.K cA W (joinV m n)) :=
  (pe_join ho he hs hbase hline).imp fun σ H Q h => (bind1L (rep1 := rV X.K) st_V h).imp fun v H1 h => by
    obtain ⟨ρ, S, l, d, hS, hl, hr, h⟩ := h
    split at h
    · rename_i a e1
      cases d with
      | str b =>
        cases e1
        unfold rV RepV at hr
        subst hr
        refine ⟨⟨a, rfl⟩, ρ, S, l, hS, hl, (After.bind (rep := rV X.K) st_V h).imp fun us H2 h => ?_⟩
        obtain ⟨ρ2, S2, d2, e2, hS2, hr2, h⟩ := h
        split at h
        · rename_i ds e3
          split at h
          · rename_i ys e4
            split at h
            · rename_i hz
              cases d2 with
              | tup xs =>
                cases e3
                unfold rV RepV at hr2
                obtain ⟨p, vs, rfl, h1, h2⟩ := hr2
                have := strs_rep e4 h2
                subst this
                refine ⟨a, p, ys, rfl, rfl, .inr h1, hz, ?_⟩
                rw [show Txt.join a ys = Str.join a ys from PySem.StrLaws.glued_eq_join a ys]
                exact h.same hS2 (by unfold rV RepV; rfl)
              | lis xs =>
                cases e3
                unfold rV RepV at hr2
                obtain ⟨p, vs, rfl, h1, h2⟩ := hr2
                have := strs_rep e4 h2
                subst this
                refine ⟨a, p, ys, rfl, rfl, .inl h1.sq, hz, ?_⟩
                rw [show Txt.join a ys = Str.join a ys from PySem.StrLaws.glued_eq_join a ys]
                exact h.same hS2 (by unfold rV RepV; rfl)
              | ref k =>
                obtain ⟨p, vs, rfl, _, h1, h2⟩ := rlst_rep hS2 hr2 e3
                have := strs_rep e4 h2
                subst this
                refine ⟨a, p, ys, rfl, rfl, .inl (SqL.of h1), hz, ?_⟩
                rw [show Txt.join a ys = Str.join a ys from PySem.StrLaws.glued_eq_join a ys]
                exact h.same hS2 (by unfold rV RepV; rfl)
              | _ => cases e3
            · exact h.elim
          · exact h.elim
        · exact h.elim
      | _ => cases e1
    · exact h.elim
/-! ### a tuple of texts at the module -/
theorem reps_strs {K : PySem.W.Frag} {ρ : List Addr} {H : Hp} : ∀ zs : List Str, RepVs K ρ H (zs.map D.str) (zs.map V.str)
  | [] => .nil
  | z :: zs => .cons (by unfold RepV; rfl) (reps_strs zs)
theorem mgstrs {x : Str} {pos : Pos} (zs : List Str) (hg : Gl X x) (hm : ∃ a, X.mg x = some (.ref a) ∧ ∀ H, SqT X.K H a (zs.map V.str)) (hd : (x == ("__debug__" : Str)) = false := by decide) : PE X (.Name x pos) (tE X.K cA W (conE (.tup (zs.map D.str)))) := by
  obtain ⟨a, hm, hs⟩ := hm
  exact mgtup hg hm hs (fun ρ H => reps_strs zs) hd
theorem sqt_strs {K : PySem.W.Frag} {a : Addr} {n : Nat} {d : Option Addr} {z : Array (Option Value)} {its : Array Value} (l : K.lookup a = some ⟨.type "tuple", d, .seq its n, z⟩) (zs : List Str) (hz : its.size ≤ sizeLine) (h : Vals (zs.map V.str) its.toList) (H : Hp) : SqT K H a (zs.map V.str) :=
  .inr ⟨_, its, n, l, rfl, rfl, hz, h⟩
/-! ### a def that calls itself: the lowest level promises nothing -/
def badF : List D → Store → R D := fun _ _ => .bad
theorem ok_bad {P : Program} {w : World} {K : PySem.W.Frag} {mg : Str → Option Value} {base : Heap} {CX : CXT} {k : Nat} {f : Addr} {fd : FuncData} {ps : List Str} {n : Nat} (h : n = ps.length) : FnOk P w K mg base CX k f fd ps (spM K cA badF n) :=
  ⟨fun vs H Q E q => q.1.trans h, fun A outer s H args us vs Q E hr e b r q => by
    obtain ⟨_, ρ, S, l, _, _, q⟩ := q
    exact q.elim⟩
end
end ML

set_option Elab.async false
set_option linter.all false
set_option maxRecDepth 100000
set_option autoImplicit false
/-! ML21: parts of written tuples, words, lists gone through while the store grows. -/
namespace ML
open PySem PySem.Spec L2
theorem ofS_eq (a b : String) : (Str.ofString a = Str.ofString b) ↔ a = b := by
  constructor
  · intro h
    have := beq_of a b
    rw [h] at this
    simp at this
    exact this
  · intro h; rw [h]
theorem at0 (a : D) (r : List D) : atI (a :: r) 0 = some a := L2.atI_nat (j := 0) rfl
theorem at1 (a b : D) (r : List D) : atI (a :: b :: r) 1 = some b := L2.atI_nat (j := 1) rfl
theorem at2 (a b c : D) (r : List D) : atI (a :: b :: c :: r) 2 = some c := L2.atI_nat (j := 2) rfl
theorem at3 (a b c d : D) (r : List D) : atI (a :: b :: c :: d :: r) 3 = some d := L2.atI_nat (j := 3) rfl
theorem at4 (a b c d e : D) (r : List D) : atI (a :: b :: c :: d :: e :: r) 4 = some e := L2.atI_nat (j := 4) rfl
theorem at5 (a b c d e f : D) (r : List D) : atI (a :: b :: c :: d :: e :: f :: r) 5 = some f := L2.atI_nat (j := 5) rfl
theorem x_inNilS (a : Str) (S : Store) : inD (.str a) (.tup []) S = .ok false S := rfl
theorem x_inNilI (a : Int) (S : Store) : inD (.int a) (.tup []) S = .ok false S := rfl
theorem x_inConsS (a b : Str) (ys : List D) (S : Store) : inD (.str a) (.tup (.str b :: ys)) S = (inD (.str a) (.tup ys) S).bind fun r S1 => .ok (decide (b = a) || r) S1 := by
  have e : eqV (.str b) (.str a) = decide (b = a) := by
    show (b == a) = _
    by_cases q : b = a <;> simp [q]
  unfold inD inO
  simp only [seqOf, mapO_cons, flatO]
  cases mapO flatO ys with
  | none => rfl
  | some vs =>
    simp only [inV, List.any_cons, e]
    rfl
theorem x_inConsI (a b : Int) (ys : List D) (S : Store) : inD (.int a) (.tup (.int b :: ys)) S = (inD (.int a) (.tup ys) S).bind fun r S1 => .ok (decide (b = a) || r) S1 := by
  have e : eqV (.int b) (.int a) = decide (b = a) := by
    show (b == a) = _
    by_cases q : b = a <;> simp [q]
  unfold inD inO
  simp only [seqOf, mapO_cons, flatO]
  cases mapO flatO ys with
  | none => rfl
  | some vs =>
    simp only [inV, List.any_cons, e]
    rfl
theorem x_ninD (x y : D) (S : Store) : notInD x y S = (inD x y S).bind fun r S1 => .ok (!r) S1 := by
  unfold notInD inD
  cases inO S x y <;> rfl
theorem compX {chk : Store → Prop} (mono : ∀ S X, chk S → chk (S ++ X)) {i : Nat} {m : ME} {l : Loc} (f : D → D) : ∀ (ds : List D), (∀ d ∈ ds, ∀ S, chk S → ∃ X, m (l.set i (some d)) S = .ok (f d) (S ++ X)) → ∀ acc S, chk S → acc.length + ds.length ≤ 16000000 → ∃ X, compL chk (.one i) yesM m l ds acc S = .ok (acc ++ ds.map f) (S ++ X)
  | [], _, acc, S, hk, _ => ⟨[], by rw [compL_nil hk]; simp⟩
  | d :: ds, h, acc, S, hk, hl => by
    obtain ⟨Y, eY⟩ := h d List.mem_cons_self S hk
    rw [List.length_cons] at hl
    obtain ⟨Z, eZ⟩ := compX mono f ds (fun x hx => h x (List.mem_cons_of_mem _ hx)) (acc ++ [f d]) (S ++ Y) (mono S Y hk) (by simp; omega)
    refine ⟨Y ++ Z, ?_⟩
    rw [compL_cons hk]
    simp only [Tgt.put, x_yes, R.bind_ok, if_true, eY]
    rw [if_pos (show _ < sizeLine by rw [sz]; omega), eZ]
    simp
/-- the same under what is known of the store -/
theorem compXI {chk Inv : Store → Prop} (mono : ∀ S X, chk S → chk (S ++ X)) (mono2 : ∀ S X, Inv S → Inv (S ++ X)) {i : Nat} {m : ME} {l : Loc} (f : D → D) : ∀ (ds : List D), (∀ d ∈ ds, ∀ S, Inv S → ∃ X, m (l.set i (some d)) S = .ok (f d) (S ++ X)) → ∀ acc S, chk S → Inv S → acc.length + ds.length ≤ 16000000 → ∃ X, compL chk (.one i) yesM m l ds acc S = .ok (acc ++ ds.map f) (S ++ X)
  | [], _, acc, S, hk, _, _ => ⟨[], by rw [compL_nil hk]; simp⟩
  | d :: ds, h, acc, S, hk, hi, hl => by
    obtain ⟨Y, eY⟩ := h d List.mem_cons_self S hi
    rw [List.length_cons] at hl
    obtain ⟨Z, eZ⟩ := compXI mono mono2 f ds (fun x hx => h x (List.mem_cons_of_mem _ hx)) (acc ++ [f d]) (S ++ Y) (mono S Y hk) (mono2 S Y hi) (by simp; omega)
    refine ⟨Y ++ Z, ?_⟩
    rw [compL_cons hk]
    simp only [Tgt.put, x_yes, R.bind_ok, if_true, eY]
    rw [if_pos (show _ < sizeLine by rw [sz]; omega), eZ]
    simp
theorem joinV_eq {m n : ME} {l : Loc} {S S1 : Store} {q : Nat} {ws : List Nat} (h1 : m l S = .ok (.str (Str.ofString "")) S) (h2 : n l S = .ok (.ref q) S1) (h3 : lstAt S1 q = some (ws.map sgn)) (h4 : ws.length ≤ 1000) : joinV m n l S = .ok (strD ws) S1 := by
  have e : (Str.ofString "").length = 0 := by rw [← cs_len, cs_of]; rfl
  unfold joinV
  simp only [h1, h2, R.bind_ok, x_strO, seqOf, h3, strO_sgns, sum_ones, e, Nat.mul_zero, Nat.add_zero]
  rw [if_pos (by omega)]
  have : Str.join (Str.ofString "") (ws.map fun c => (⟨#[c]⟩ : Str)) = mkS ws := cs_ext (by rw [cs_join1, cs_mkS])
  rw [this]
  rfl
theorem compT {chk : Store → Prop} (mono : ∀ S X, chk S → chk (S ++ X)) {i : Nat} {m : ME} {l : Loc} (ds : List D) (h : ∀ d ∈ ds, ∀ S, ∃ X, m (l.set i (some d)) S = .ok (.bl true) (S ++ X)) (S : Store) (hk : chk S) (hl : ds.length ≤ 16000000) : ∃ X, compL chk (.one i) yesM m l ds [] S = .ok (ds.map fun _ => .bl true) (S ++ X) := by
  obtain ⟨X, e⟩ := compX mono (fun _ => .bl true) ds (fun d hd S _ => h d hd S) [] S hk (by simpa using hl)
  exact ⟨X, by simpa using e⟩
theorem still_mono : ∀ S X : Store, still S → still (S ++ X) := fun _ _ _ => trivial
theorem lst_mono (n : Nat) (xs : List D) : ∀ S X : Store, lstAt S n = some xs → lstAt (S ++ X) n = some xs := fun S X h => lstAt_of (at_app (lstAt_some h))
end ML

set_option Elab.async false
set_option linter.all false
set_option maxRecDepth 100000
set_option autoImplicit false
/-! ML22: max(new list of numbers, default=number). -/
namespace ML
open PySem PySem.Spec L2 PyProof.Rows
def maxF (k : Int) : List Int → Int
  | [] => k
  | n :: ns => ns.foldl max n
def maxLD (k : Int) (ds : List D) (S : Store) : R D := match mapO intO ds with
  | some bs => .ok (.int (maxF k bs)) S
  | none => .bad
theorem depth_ints : ∀ ns : List Int, PyData.depthAll (ns.map .int) = 0
  | [] => rfl
  | n :: ns => by
    rw [List.map_cons, PyData.depthAll, depth_ints ns]
    rfl
section
variable {prog : Program} {w : World} {A : Around} {E : Value → Shared → Prop} {s : Shared} {l : Addr} {its : List Value} {ns : List Int} {Q : Value → Shared → Prop}
theorem max_raw_default {k : Int} {t0 : Tok} (hh : A.handled = none) (hl : s.heap.IsList l its.toArray) (hi : IntsAre its ns) (hu : A.units + 1 < cLine)
    (h : ∀ h' tk t', (∀ b o, s.heap.get? b = some o → h'.get? b = some o) → Q (.int (maxF k ns) t') { s with heap := h', toks := tk }) : wpAny (model prog w) A (call (.builtin "max") [.ref l] [(Str.ofString "default", .int k t0)]) Q E s := by
  refine PySem.W.max_list_default (xs := ns.map .int) hh hl (hi.reads _) ⟨?_, ?_⟩ (by rw [depth_ints]; exact hu) ?_ ?_
  · intro x hx y hy
    obtain ⟨a, _, rfl⟩ := List.mem_map.mp hx
    obtain ⟨b, _, rfl⟩ := List.mem_map.mp hy
    rfl
  · intro x hx
    obtain ⟨a, _, rfl⟩ := List.mem_map.mp hx
    intro e
    cases e
  · intro e h' tk hk
    have : ns = [] := by simpa using e
    subst this
    exact h h' tk t0 hk
  · intro y ys i v h' tk bs e hv hr hk
    cases ns with
    | nil => simp at e
    | cons n r =>
      rw [List.map_cons] at e
      cases e
      rw [PySem.W.maxD_ints] at hr
      cases hr with
      | int _ t => exact h h' tk t hk
end
section
variable {X : Cx} {cA : Nat → Addr} {W : XK} {pos p0 kpos cp : Pos} {e : Expr} {n : MA} {k : Int} {j : Nat}
def rMaxD (K : PySem.W.Frag) (cA : Nat → Addr) (W : XK) (k : Int) : List V → List V → Hp → VK → Prop := fun vs zs H Q =>
  ∃ ρ S ds p ws, Reps K cA ρ H S ∧ vs = [.ref p] ∧ SqL K H p ws ∧ RepVs K ρ H ds ws ∧ zs = [.int k] ∧ After K cA W ρ H (rV K) (maxLD k ds S) Q
theorem cr_maxD {kk : Nat} (hc : X.calm = true) (hr : Room kk X.A) : CallRK X (.builtin "max") [Str.ofString "default"] (rMaxD X.K cA W k) := by
  intro pins s σ H xs zs us ws Q I r1 r2 h
  obtain ⟨ρ, S, ds, p, vs, hS, rfl, h1, h2, rfl, h⟩ := h
  unfold maxLD at h
  split at h
  · rename_i bs e
    have := ints_rep e h2
    subst this
    obtain ⟨its, rv, hl, _⟩ := I.list h1
    rw [Vals.ref1 r1]
    cases r2 with
    | cons r rr =>
      cases rr
      obtain ⟨t, rfl⟩ := r
      have u := u100 hr
      exact max_raw_default (I.ok.hd hc) hl.isList rv.ints (by omega) fun h' tk t' hk => ⟨.int _, H, I.kept hk, ⟨_, rfl⟩, h.same hS (by unfold rV RepV; rfl)⟩
  · exact h.elim
theorem mmaxD {kk : Nat} (hc : X.calm = true) (hr : Room kk X.A) (hg : Gl X "max") (hm : X.mg "max" = none) (ha : PE X e (tNw X.K cA W n))
    (he : starEach [e] X.env = (false, eval e X.env) :: starEach [] X.env := by rfl) (hpl : (backTo pos (starEach [e] X.env)).any (·.1) = false := by rfl) (he2 : backTo pos (starEach [e] X.env) = (false, eval e X.env) :: backTo pos (starEach [] X.env) := by rfl) :
    PE X (.Call (.Name "max" p0) [e] [⟨some "default", .Constant (.int k) j cp, kpos⟩] pos) (tE X.K cA W (newL (maxLD k) n)) :=
  (pe_callBK (cr_maxD (cA := cA) (W := W) (k := k) hc hr) hg hm rfl (pa_cons ha pa_nil he) (pk_cons pe_int pk_nil) (by decide) (by decide) he2 hpl rfl rfl rfl).imp fun σ H Q h =>
    (bind1 (rep1 := rNew X.K) st_V h).imp fun v H1 h => by
      obtain ⟨ρ, S, ds, hS, ⟨p, vs, rfl, _, _, h1, h2⟩, h⟩ := h
      exact ⟨ρ, S, ds, p, vs, hS, rfl, SqL.of h1, h2, rfl, h⟩
end
@[simp] theorem x_maxLD (k : Int) (ds : List D) (S : Store) : maxLD k ds S = match mapO intO ds with
  | some bs => .ok (.int (maxF k bs)) S
  | none => .bad := (rfl)
end ML

set_option Elab.async false
set_option linter.all false
set_option maxRecDepth 100000
set_option autoImplicit false
/-! ML23: a def that an except suite hands its exception to. -/
namespace ML
open PySem PySem.Spec L2 PyProof.Rows
theorem mark_self {A : Around} {v : Option Value} (h : A.handled = v) : A.mark v = A := by
  obtain ⟨hd, dp, fr, gu, un⟩ := A
  subst h
  cases hd <;> rfl
structure HotOk (P : Program) (w : World) (K : PySem.W.Frag) (mg : Str → Option Value) (base : Heap) (cA : Nat → Addr) (k : Nat) (f : Addr) (fd : FuncData) (ps : List Str) (sp : Addr → Exn → Sp) : Prop where
  len : ∀ a z vs H Q E, sp a z vs H Q E → vs.length = ps.length
  run : ∀ (A : Around) (outer : List Env) (s : Shared) (H : Hp) (args : Args) (us : List Value) (vs : List V) (Q : VK) (a : Addr) (oe : Obj) (z : Exn) (d : Option Addr), L2H.RoomH k A → A.handled = some (.ref a) → Zc (.ref (cA z.c)) d oe → (z.fs = [] → d = none) → (∃ xs : Array Value, oe.data = .fields xs) →
    L2H.PinOk outer H s (a, oe) → Env0 P w K mg base A outer s H → BindsTo s fd args (ps.zip us) → Vals vs us → sp a z vs H Q NoX → codeAny (model P w) A (.call (.ref f) args) (CR (L2.CX P w) outer P w H s Q NoX) s
section
variable {P : Program} {w : World} {K : PySem.W.Frag} {mg : Str → Option Value} {base : Heap} {cA : Nat → Addr}
theorem hot_run {x qual : Str} {st : Stmt} {f : Addr} {fd : FuncData} {N ps : List Str} {k : Nat} {sp : Addr → Exn → Sp} (F : Fun K x qual st f fd) (S : FnScope N ps (defScope st)) (len : ∀ a z vs H Q E, sp a z vs H Q E → vs.length = ps.length)
    (hb0 : ∀ (cdv : Value) (A : Around) (outer : List Env) (s : Shared) (H : Hp) (vs : List V) (Q : VK) (a : Addr) (oe : Obj) (z : Exn) (d : Option Addr), L2H.RoomH k (A.deeper (envOfC qual (defScope st) s.heap.objs.size f cdv)) → Zc (.ref (cA z.c)) d oe → (z.fs = [] → d = none) → (∃ xs : Array Value, oe.data = .fields xs) → sp a z vs H Q NoX →
      ∃ t, PSs ((cxOf (L2.CX P w) P w K mg base N qual (defScope st) f cdv A outer s H NoX).suite a [(a, oe)]) (defBody st) t ∧ t { nx := fun _ H' => Q .non H', rt := Q } (start N vs) H) : HotOk P w K mg base cA (k + 1) f fd ps sp := by
  obtain ⟨oc, od, kV, doc, pm, an, cdv, ct, osl, rfl, lk, hcd⟩ := F.ex
  refine ⟨len, fun A outer s H args us vs Q a oe z d room hh hz hd hf pin e0 binds vals q => ?_⟩
  have there : ∀ b o, base.get? b = some o → s.heap.get? b = some o := fun b o e => (e0.bs b o e).1
  have inK : K.In s.heap := e0.mod.kin.keeps there
  refine codeAny_call_function room.depth (inK _ _ lk) rfl S.co S.gen rfl (PySem.W.codeRec_of inK hcd) (binds _ _ _ _ ?_)
  have kinds : ∀ y ∈ ps.zip us, (defScope st).names.lookup y.1 = some .local ∨ ((defScope st).names.lookup y.1 = some .cell ∧ ((cellsFrom (s.heap.objs.size + 1) (defScope st).names []).lookup y.1).isSome = true) := by
    rintro ⟨n, v⟩ hy
    cases S.par n (List.of_mem_zip hy).1 with
    | inl z => exact .inl z
    | inr z => exact .inr ⟨z, PySem.W.cellsFrom_some _ _ _ (.inl z)⟩
  refine wpAny_newFunctionEnv_cells S.kind kinds fun env he s1 new => ?_
  subst he
  refine ⟨(e0.mod.nolimit.keeps there).keeps new.toInCall.keep, codeAny_func ?_⟩
  obtain ⟨t, body, wish⟩ := hb0 cdv A outer s H vs Q a oe z d (room.deeper _) hz hd hf q
  have inv := L2H.inv_startH (CX := L2.CX P w) (cd := cdv) (qual := qual) (f := f) (E := NoX) S pin e0 (len _ _ _ _ _ _ q) vals new
  have hA : (A.deeper (envOfC qual (defScope st) s.heap.objs.size f cdv)).mark (some (.ref a)) = A.deeper (envOfC qual (defScope st) s.heap.objs.size f cdv) := mark_self hh
  have inv2 : Inv ((cxOf (L2.CX P w) P w K mg base N qual (defScope st) f cdv A outer s H NoX).suite a [(a, oe)]) [] (start N vs) H s1 := by
    have h := inv.toTry (fun _ _ => False)
    have e : (cxOf (L2.CX P w) P w K mg base N qual (defScope st) f cdv A outer s H NoX).suite a [(a, oe)] = (L2H.cxH (L2.CX P w) P w K mg base N qual (defScope st) f cdv A outer s H NoX (a, oe)).tr [(a, oe)] (fun _ _ => False) := by
      unfold L2H.cxH Cx.suite Cx.tr cxOf
      rw [hA]
    rw [e]
    exact h
  have r : wpAny (model P w) ((A.deeper (envOfC qual (defScope st) s.heap.objs.size f cdv)).mark (some (.ref a))) _ _ _ s1 := body.run [] s1 (start N vs) H _ inv2 wish
  rw [hA] at r
  refine wpAny_mono r ?_ fun _ _ z => z.elim
  intro fl s2 z
  cases fl with
  | next => obtain ⟨_, H2, J, z⟩ := z; exact ⟨.non, H2, J.os, J.bare, J.base, J.hok, rfl, z⟩
  | ret u => obtain ⟨v, _, H2, J, rv, z⟩ := z; exact ⟨v, H2, J.os, J.bare, J.base, J.hok, rv, z⟩
  | brk => obtain ⟨_, _, _, z⟩ := z; exact z.elim
  | cont => obtain ⟨_, _, _, z⟩ := z; exact z.elim
theorem defHot {x qual : Str} {st : Stmt} {f : Addr} {fd : FuncData} {N ps : List Str} {k : Nat} {m : Addr → Exn → MS} (F : Fun K x qual st f fd) (S : FnScope N ps (defScope st))
    (hbody : ∀ (cdv : Value) (A : Around) (outer : List Env) (s : Shared) (H : Hp) (a : Addr) (oe : Obj) (z : Exn) (d : Option Addr), L2H.RoomH k (A.deeper (envOfC qual (defScope st) s.heap.objs.size f cdv)) → Zc (.ref (cA z.c)) d oe → (z.fs = [] → d = none) → (∃ xs : Array Value, oe.data = .fields xs) →
      PSs ((cxOf (L2.CX P w) P w K mg base N qual (defScope st) f cdv A outer s H NoX).suite a [(a, oe)]) (defBody st) (tS K cA NoX (m a z))) : HotOk P w K mg base cA (k + 1) f fd ps (fun a z => spM K cA (bodyF N.length (m a z)) ps.length) :=
  hot_run F S (fun a z vs H Q E h => h.1) fun cdv A outer s H vs Q a oe z d hr hz hd hf h => by
    obtain ⟨hl, ρ, S0, ds, hS, hrep, h⟩ := h
    refine ⟨tS K cA NoX (m a z), hbody cdv A outer s H a oe z d hr hz hd hf, ρ, S0, startL N.length ds, hS, start_rep hrep, (After.bind (rep := rS K) st_V h).imp fun b H1 h => ?_⟩
    obtain ⟨ρ1, S1, a, e1, hS1, ⟨hl1, hf⟩, h⟩ := h
    obtain ⟨fl, l1⟩ := a
    obtain ⟨g, σ1⟩ := b
    cases fl with
    | nx => cases g with
      | nx => exact After.same (rep := rV K) h hS1 rep_non'
      | _ => exact hf.elim
    | rt d => cases g with
      | rt v => exact After.same (rep := rV K) h hS1 hf
      | _ => exact hf.elim
    | bk => exact h.elim
    | ct => exact h.elim
end
/-- such a def as its callers know it -/
structure HotM (P : Program) (w : World) (K : PySem.W.Frag) (mg : Str → Option Value) (base : Heap) (cA : Nat → Addr) (k : Nat) (x : Str) (n : Nat) (G : Addr → Exn → List D → Store → R D) : Prop where
  ex : ∃ f fd ps, mg x = some (.ref f) ∧ PySem.W.keepIn K (.ref f) = true ∧ Binds K fd ps [] ∧ HotOk P w K mg base cA k f fd ps (fun a z => spM K cA (G a z) n)
section
variable {X : Cx} {cA : Nat → Addr} {k j n : Nat} {x : Str} {p pos : Pos} {e : Expr} {es : List Expr} {m : MA} {G : Addr → Exn → List D → Store → R D} {a : Addr} {oe : Obj} {pn : List (Addr × Obj)} {z : Exn} {d : Option Addr}
theorem hotcall (F : HotM X.prog X.w X.K X.mg X.base cA k x n G) (hk : k ≤ j) (hr : Room j X.A) (hz : Zc (.ref (cA z.c)) d oe) (hd : z.fs = [] → d = none) (hf : ∃ xs : Array Value, oe.data = .fields xs) (hg : Gl X x) (ha : PA (X.suite a ((a, oe) :: pn)) (e :: es) (tAs X.K cA NoX m))
    (hdb : (x == ("__debug__" : Str)) = false := by decide) (he : starEach (e :: es) X.env = (false, eval e X.env) :: starEach es X.env := by rfl) (hpl : (backTo pos (starEach es X.env)).any (·.1) = false := by rfl) :
    PE (X.suite a ((a, oe) :: pn)) (.Call (.Name x p) (e :: es) [] pos) (tE X.K cA NoX (callE n (G a z) m)) := by
  obtain ⟨f, fd, ps, hm, hkp, hb, FF⟩ := F.ex
  refine ⟨fun pins s σ H Q I h => ?_⟩
  refine wpAny_Call_Name_kw (ld_glob (X := X.suite a ((a, oe) :: pn)) I hg hm ?_ hdb)
  refine PySem.W.callWith_K (h₀ := X.base) I.ok.mod.kin hkp (thn (ha.run pos pins s σ H _ I (call_of (X := X) h)) fun us s1 ⟨vs, H1, I1, r, q⟩ => ⟨I1.kIn, ?_⟩) he hpl
  have hl : us.length = ps.length := by rw [← r.length]; exact FF.len _ _ _ _ _ _ q
  have b := hb s1 us I1.kIn (by rw [List.append_nil]; exact hl)
  rw [List.append_nil] at b
  have P1 := I1.pin (a, oe) (List.mem_append_left _ List.mem_cons_self)
  have pin : L2H.PinOk X.stack H1 s1 (a, oe) := ⟨P1.1, P1.2.1, fun hm => (List.mem_cons.mp (I1.stkSub a hm)).elim P1.2.2.1 P1.2.2.2.1, P1.2.2.2.2⟩
  have rh : L2H.RoomH k (X.A.mark (some (.ref a))) := (⟨hr.dp, hr.un⟩ : L2H.RoomH j (X.A.mark (some (.ref a)))).mono hk
  refine wpAny_call (codeAny_mono (FF.run (X.A.mark (some (.ref a))) X.stack s1 H1 ⟨us, []⟩ us vs Q a oe z d rh rfl hz hd hf pin I1.env0 b r q) fun r s' hq => ?_)
  cases r with
  | error e =>
    obtain ⟨_, _, _, _, _, _, _, _, _, _, _, _, h⟩ := hq
    exact h.elim
  | ok fl =>
    cases fl with
    | ret u => exact I1.after hq
    | next => exact hq.elim
    | brk => exact hq.elim
    | cont => exact hq.elim
end
end ML
namespace ML
open PySem PySem.Spec L2
theorem HotM.mk' {P : Program} {w : World} {K : PySem.W.Frag} {mg : Str → Option Value} {base : Heap} {cA : Nat → Addr} {k n : Nat} {x qual : Str} {st : Stmt} {f : Addr} {fd : FuncData} {ps : List Str} {G : Addr → Exn → List D → Store → R D} (F : Fun K x qual st f fd) (hm : mg x = some (.ref f)) (b : Binds K fd ps []) (ok : HotOk P w K mg base cA k f fd ps (fun a z => spM K cA (G a z) n)) : HotM P w K mg base cA k x n G := ⟨⟨f, fd, ps, hm, F.kp, b, ok⟩⟩
end ML

set_option Elab.async false
set_option linter.all false
set_option maxRecDepth 100000
set_option autoImplicit false
/-! ML24: zip of two tuples or two lists, xs[::-1] of a list. -/
namespace ML
open PySem PySem.Spec L2
def pairsOf (xs ys : List D) : List D := (xs.zip ys).map fun p => .tup [p.1, p.2]
theorem pairs_len (xs ys : List D) : (pairsOf xs ys).length = min xs.length ys.length := by simp [pairsOf]
theorem pairs_at {xs ys : List D} {i : Nat} {d : D} (h : (pairsOf xs ys)[i]? = some d) : ∃ x y, xs[i]? = some x ∧ ys[i]? = some y ∧ d = .tup [x, y] := by
  unfold pairsOf at h
  rw [List.getElem?_map] at h
  cases e : (xs.zip ys)[i]? with
  | none => rw [e] at h; cases h
  | some p =>
    rw [e] at h
    cases h
    obtain ⟨h1, h2⟩ := List.getElem?_zip_eq_some.mp e
    exact ⟨p.1, p.2, h1, h2, rfl⟩
def zipD (ds : List D) (S : Store) : R Sn := match ds with
  | [.tup xs, .tup ys] => .ok (pairsOf xs ys, still) S
  | [.ref n, .ref m] => match lstAt S n, lstAt S m with
    | some xs, some ys => .ok (pairsOf xs ys, fun S' => lstAt S' n = some xs ∧ lstAt S' m = some ys) S
    | _, _ => .bad
  | _ => .bad
def srcZ (m : MA) : Loc → Store → R Sn := fun l S => (m l S).bind zipD
section
variable {X : Cx} {cA : Nat → Addr} {W : XK} {K : PySem.W.Frag}
theorem src_zipT {ρ : List Addr} {H : Hp} {a b : Addr} {vs ws : List V} {xs ys : List D} (h1 : SqT K H a vs) (r1 : RepVs K ρ H xs vs) (h2 : SqT K H b ws) (r2 : RepVs K ρ H ys ws) : SrcOk K cA (RZ.ItzT K a b) ρ H (pairsOf xs ys, still) := by
  have l1 := RepVs.length r1
  have l2 := RepVs.length r2
  refine ⟨fun ρ' H' S e hS _ i d hd => ?_, fun ρ' H' S e _ _ => ⟨vs, ws, SqT.ext e h1, SqT.ext e h2, by
    show vs.length ≤ (pairsOf xs ys).length ∨ ws.length ≤ (pairsOf xs ys).length
    rw [pairs_len]; omega⟩⟩
  obtain ⟨x, y, hx, hy, rfl⟩ := pairs_at hd
  obtain ⟨v, hv, rv⟩ := RepVs.get r1 i x hx
  obtain ⟨w, hw, rw'⟩ := RepVs.get r2 i y hy
  refine ⟨⟨vs, ws, v, w, SqT.ext e h1, SqT.ext e h2, hv, hw⟩, fun u H2 hu => ?_⟩
  obtain ⟨T, p, q, rfl, hT, rfl, hp, hq⟩ := hu
  have e1 := hp vs (SqT.ext e h1)
  have e2 := hq ws (SqT.ext e h2)
  rw [hv] at e1
  rw [hw] at e2
  cases e1
  cases e2
  have E : Ext ρ' H' ρ' (upd H' T (.tup [v, w])) := Ext.new hT
  refine ⟨E, fun c hc => upd_ne (fun z => by subst z; exact hS.free hT hc), ?_⟩
  unfold RepV
  exact ⟨T, [v, w], rfl, SqT.of upd_same, by unfold RepVs; exact ⟨v, [w], rfl, (rv.ext e).ext E, by unfold RepVs; exact ⟨w, [], rfl, (rw'.ext e).ext E, by unfold RepVs; rfl⟩⟩⟩
theorem src_zipL {ρ : List Addr} {H : Hp} {a b : Addr} {xs ys : List D} {chk : Store → Prop} (hs : ∀ (ρ' : List Addr) (H' : Hp) (S : Store), Ext ρ H ρ' H' → Reps K cA ρ' H' S → chk S → ∃ vs ws, SqL K H' a vs ∧ RepVs K ρ' H' xs vs ∧ SqL K H' b ws ∧ RepVs K ρ' H' ys ws) : SrcOk K cA (Itz K a b) ρ H (pairsOf xs ys, chk) := by
  refine ⟨fun ρ' H' S e hS hk i d hd => ?_, fun ρ' H' S e hS hk => ?_⟩
  · obtain ⟨vs, ws, h1, r1, h2, r2⟩ := hs ρ' H' S e hS hk
    obtain ⟨x, y, hx, hy, rfl⟩ := pairs_at hd
    obtain ⟨v, hv, rv⟩ := RepVs.get r1 i x hx
    obtain ⟨w, hw, rw'⟩ := RepVs.get r2 i y hy
    refine ⟨⟨vs, ws, v, w, h1, h2, hv, hw⟩, fun u H2 hu => ?_⟩
    obtain ⟨T, p, q, rfl, hT, rfl, hp, hq⟩ := hu
    have e1 := hp vs h1
    have e2 := hq ws h2
    rw [hv] at e1
    rw [hw] at e2
    cases e1
    cases e2
    have E : Ext ρ' H' ρ' (upd H' T (.tup [v, w])) := Ext.new hT
    refine ⟨E, fun c hc => upd_ne (fun z => by subst z; exact hS.free hT hc), ?_⟩
    unfold RepV
    exact ⟨T, [v, w], rfl, SqT.of upd_same, by unfold RepVs; exact ⟨v, [w], rfl, rv.ext E, by unfold RepVs; exact ⟨w, [], rfl, rw'.ext E, by unfold RepVs; rfl⟩⟩⟩
  · obtain ⟨vs, ws, h1, r1, h2, r2⟩ := hs ρ' H' S e hS hk
    have l1 := RepVs.length r1
    have l2 := RepVs.length r2
    exact ⟨vs, ws, h1, h2, by
      show vs.length ≤ (pairsOf xs ys).length ∨ ws.length ≤ (pairsOf xs ys).length
      rw [pairs_len]; omega⟩
theorem isrcZ {e e2 : Expr} {n : MA} {p pos tpos : Pos} {elts : List Expr} {kk : Nat} (hg : Gl X "zip") (hm : X.mg "zip" = none) (ha : PA X [e, e2] (tAs X.K cA W n))
    (hs : starEach [e, e2] X.env = (false, eval e X.env) :: starEach [e2] X.env := by rfl) (hpl : (backTo pos (starEach [e2] X.env)).any (·.1) = false := by rfl) : PI X (.Tuple elts kk tpos) (.Call (.Name "zip" p) [e, e2] [] pos) (tSrc X.K cA W (srcZ n)) :=
  (RZ.pi_zipA hg hm ha hs hpl).imp fun σ H R h => (bind1 (rep1 := rVs X.K) st_Src h).imp fun vs H1 h => by
    obtain ⟨ρ, S, ds, hS, hr, h⟩ := h
    unfold zipD at h
    split at h
    · obtain ⟨v1, q1, rfl, g1, hr⟩ := (by unfold RepVs at hr; exact hr)
      obtain ⟨v2, rfl, g2⟩ := one_rep hr
      unfold RepV at g1 g2
      obtain ⟨a, us, rfl, h1, r1⟩ := g1
      obtain ⟨b, ws, rfl, h2, r2⟩ := g2
      exact ⟨a, b, us, ws, rfl, .inr ⟨h1, h2, After.same (rep := rSrc X.K cA) h hS (src_zipT h1 r1 h2 r2)⟩⟩
    · rename_i n m
      split at h
      · rename_i xs ys e1 e2
        obtain ⟨v1, q1, rfl, g1, hr⟩ := (by unfold RepVs at hr; exact hr)
        obtain ⟨v2, rfl, g2⟩ := one_rep hr
        obtain ⟨a, us, rfl, _, h1, r1⟩ := rlst_rep hS g1 e1
        obtain ⟨b, ws, rfl, _, h2, r2⟩ := rlst_rep hS g2 e2
        refine ⟨a, b, us, ws, rfl, .inl ⟨SqL.of h1, SqL.of h2, After.same (rep := rSrc X.K cA) h hS (src_zipL fun ρ2 H2 S2 e0 hS2 hk => ?_)⟩⟩
        obtain ⟨a', us', ea, _, h3, r3⟩ := rlst_rep hS2 (g1.ext e0) hk.1
        obtain ⟨b', ws', eb, _, h4, r4⟩ := rlst_rep hS2 (g2.ext e0) hk.2
        cases ea
        cases eb
        exact ⟨us', ws', SqL.of h3, r3, SqL.of h4, r4⟩
      · exact h.elim
    · exact h.elim
/-! ### backwards -/
def revN (m : ME) : MA := fun l S => (m l S).bind fun d S1 => match lstOf S1 d with
  | some xs => .ok xs.reverse S1
  | none => .bad
theorem mrev {e : Expr} {m : ME} {k : Nat} {p1 p2 p3 pos : Pos} (he : PE X e (tE X.K cA W m)) : PE X (.Subscript e (.Slice none none (some (.UnaryOp .USub (.Constant (.int 1) k p1) p2)) p3) pos) (tNw X.K cA W (revN m)) :=
  (pe_revL he).imp fun σ H Q h => (bind1 (rep1 := rV X.K) st_New h).imp fun x H1 h => by
    obtain ⟨ρ, S, d, hS, hr, h⟩ := h
    split at h
    · rename_i xs e1
      obtain ⟨a, vs, rfl, h1, h2⟩ := lst_rep hS hr e1
      exact ⟨a, vs, rfl, h1, fun p hp => h.fresh hS hp h2.reverse⟩
    · exact h.elim
end
@[simp] theorem x_srcZ (r : MA) (l : Loc) (S : Store) : srcZ r l S = (r l S).bind zipD := (rfl)
@[simp] theorem x_revN (m : ME) (l : Loc) (S : Store) : revN m l S = (m l S).bind fun d S1 => match lstOf S1 d with
  | some xs => .ok xs.reverse S1
  | none => .bad := (rfl)
@[simp] theorem x_zipT (xs ys : List D) (S : Store) : zipD [.tup xs, .tup ys] S = .ok (pairsOf xs ys, still) S := (rfl)
theorem x_zipL {S : Store} {n m : Nat} {xs ys : List D} (h1 : lstAt S n = some xs) (h2 : lstAt S m = some ys) : zipD [.ref n, .ref m] S = .ok (pairsOf xs ys, fun S' => lstAt S' n = some xs ∧ lstAt S' m = some ys) S := by
  unfold zipD
  simp only [h1, h2]
end ML

set_option Elab.async false
set_option linter.all false
set_option maxRecDepth 100000
set_option autoImplicit false
/-! ML25: try .. except C, the exception unnamed. -/
namespace ML
open PySem PySem.Spec L2
noncomputable def catchO (hit : Nat → Option Bool) (mb mh : MS) : MS := fun l S => match mb l S with
  | .ok p S1 => .ok p S1
  | .ex x S1 => match hit x.c with
    | some true => (mh l S1).noex
    | some false => .ex x S1
    | none => .bad
  | .bad => .bad
section
variable {K : PySem.W.Frag} {cA : Nat → Addr} {W : XK} {ρ : List Addr} {H : Hp}
theorem noex_of {α β : Type} {rep : Rel α β} {r : R α} {Q : β → Hp → Prop} (h : After K cA W ρ H rep r.noex Q) : After K cA NoX ρ H rep r Q := by
  cases r with
  | ok p S => exact h
  | ex x S => exact h.elim
  | bad => exact h.elim
variable {X : Cx} {x : Str} {c : Value} {body suite : List Stmt} {b₀ : Stmt} {np pos pos' : Pos} {mb mh : MS} {hit : Nat → Option Bool}
theorem stryO (hh : ∀ k b, hit k = some b → PySem.W.exmOne X.K (.ref (cA k)) c = some b) (hc : Names X x c) (tk : Takes X (fun cls d _ H => W cls d H))
    (hb : ∀ (W' : WX) (pn : List (Addr × Obj)) (xe : Value → Shared → Prop), Takes (X.tr pn xe) W' → PassesOwn (model X.prog X.w) X.A X.env xe → PSs (X.tr pn xe) body (tX X.K cA W' mb))
    (hsu : ∀ (a : Addr) (oe : Obj) (pn : List (Addr × Obj)), PSs (X.suite a ((a, oe) :: pn)) (b₀ :: suite) (tS X.K cA NoX mh))
    (hs : X.stack = X.env :: X.outer := by rfl) (hf : X.env.frame = some X.env.locals := by rfl) :
    PS X (.Try body [.ExceptHandler (some (.Name x np)) none (b₀ :: suite) pos'] [] [] pos) (tS X.K cA W (catchO hit mb mh)) := by
  refine (ps_try_only (Wout := fun cls d _ H => W cls d H) (tb := fun W' => tX X.K cA W' mb) (ts := fun _ _ _ => tS X.K cA NoX mh) hs hf hc tk hb (fun a oe cls d pn hz hv => hsu a oe pn)).imp fun D σ H h => ?_
  obtain ⟨ρ, S, l, hS, hl, h⟩ := h
  refine ⟨ρ, S, l, hS, hl, ?_⟩
  unfold catchO at h
  generalize mb l S = r at h
  cases r with
  | ok p S1 => exact h
  | bad => exact h.elim
  | ex z S1 =>
    intro ρ' H' cls d e hS' hx
    obtain ⟨rfl, hx⟩ := hx
    simp only at h
    cases eh : hit z.c with
    | none => rw [eh] at h; exact h.elim
    | some b =>
      rw [eh] at h
      cases b with
      | false =>
        refine ⟨false, hh _ _ eh, fun q => ?_, fun _ => h ρ' H' _ _ e hS' ⟨rfl, hx⟩⟩
        cases q
      | true =>
        refine ⟨true, hh _ _ eh, fun _ a ha => ⟨ρ', S1, l, hS', hl.ext e, ?_⟩, fun q => nomatch q⟩
        exact noex_of (After.back st_S e h)
end
theorem catchO_ex {hit : Nat → Option Bool} {mb mh : MS} {l : Loc} {S S1 : Store} {x : Exn} (h : mb l S = .ex x S1) (hh : hit x.c = some true) : catchO hit mb mh l S = (mh l S1).noex := by
  unfold catchO
  rw [h]
  simp only [hh]
theorem catchO_ok {hit : Nat → Option Bool} {mb mh : MS} {l : Loc} {S S1 : Store} {p : Fl × Loc} (h : mb l S = .ok p S1) : catchO hit mb mh l S = .ok p S1 := by
  unfold catchO
  rw [h]
/-- int of a text too -/
def intX (ds : List D) (S : Store) : R D := match ds with
  | [.str z] => match PySem.intText? z with
    | some n => if z.length ≤ 640 then .ok (.int n) S else .bad
    | none => .bad
  | _ => intV ds S
section
variable {X : Cx} {cA : Nat → Addr} {W : XK}
theorem c_intX : CallR X (.type "int") (tN X.K cA W (rV X.K) intX) := by
  intro pins s σ H xs us Q I rs h
  obtain ⟨ρ, S, ds, hS, hr, h⟩ := h
  by_cases c : ∃ z, ds = [.str z]
  · obtain ⟨z, rfl⟩ := c
    have h : After X.K cA W ρ H (rV X.K) (match PySem.intText? z with
      | some n => if z.length ≤ 640 then .ok (.int n) S else .bad
      | none => .bad) Q := h
    split at h
    · rename_i n en
      split at h
      · rename_i hz
        obtain ⟨v, rfl, h1⟩ := one_rep hr
        unfold RepV at h1
        subst h1
        exact call_int_str pins s σ H _ us Q I rs ⟨z, n, rfl, en, hz, After.same (rep := rV X.K) h hS (by unfold rV RepV; rfl)⟩
      · exact h.elim
    · exact h.elim
  · have e : intX ds S = intV ds S := by
      unfold intX
      split
      · rename_i z; exact absurd ⟨z, rfl⟩ c
      · rfl
    rw [e] at h
    exact c_int pins s σ H xs us Q I rs ⟨ρ, S, ds, hS, hr, h⟩
end
theorem x_intX {z : Str} {n : Int} {S : Store} (h : PySem.intText? z = some n) (hz : z.length ≤ 640) : intX [.str z] S = .ok (.int n) S := by
  unfold intX
  simp only [h]
  exact if_pos hz
/-- == of two lists that differ in length needs no look at what they hold -/
def eqLD (d e : D) (S : Store) : R Bool := match lstOf S d, lstOf S e with
  | some xs, some ys => if xs.length = ys.length then eqD d e S else .ok false S
  | _, _ => eqD d e S
section
variable {X : Cx} {cA : Nat → Addr} {W : XK}
def rEqLen (K : PySem.W.Frag) : R2 := fun x y H Q => ∃ a b xs ys, x = .ref a ∧ y = .ref b ∧ SqL K H a xs ∧ SqL K H b ys ∧ xs.length ≠ ys.length ∧ Q (.bl false) H
theorem op_eqLen (hu : X.A.units + 64 < cLine) : OpR X (compareOp .Eq) (rEqLen X.K) := by
  intro pins s σ H x y v u Q I rx ry h
  obtain ⟨a, b, xs, ys, rfl, rfl, ha, hb, hl, q⟩ := h
  cases (show v = Value.ref a from rx)
  cases (show u = Value.ref b from ry)
  obtain ⟨us, r1, p1, _⟩ := I.list ha
  obtain ⟨ws, r2, p2, _⟩ := I.list hb
  refine SeqAt.RcAt.lists_lengths p1.isList p2.isList ?_ (by omega) _ _ _ _ ⟨.bl false, H, I, rfl, q⟩
  rw [List.size_toArray, List.size_toArray, ← r1.length, ← r2.length]
  exact bne_iff_ne.mpr hl
theorem op_eqLM (hu : X.A.units + 64 < cLine) : OpR X (compareOp .Eq) (tC2 X.K cA W eqLD) := by
  refine OpR.imp ((op_eqM (cA := cA) (W := W) hu).or (op_eqLen (X := X) hu)) fun x y H Q h => ?_
  obtain ⟨ρ, S, d, e, hS, hd, he, h⟩ := h
  unfold eqLD at h
  split at h
  · rename_i xs ys e1 e2
    split at h
    · exact .inl ⟨ρ, S, d, e, hS, hd, he, h⟩
    · rename_i hne
      obtain ⟨a, vs, rfl, h1, r1⟩ := lst_rep hS hd e1
      obtain ⟨b, ws, rfl, h2, r2⟩ := lst_rep hS he e2
      have l1 := RepVs.length r1
      have l2 := RepVs.length r2
      exact .inr ⟨a, b, vs, ws, rfl, rfl, h1, h2, by omega, h.same hS rfl⟩
  · exact .inl ⟨ρ, S, d, e, hS, hd, he, h⟩
end
theorem x_eqLne {S : Store} {n m : Nat} {xs ys : List D} (h1 : S[n]? = some (.lst xs)) (h2 : S[m]? = some (.lst ys)) (h : xs.length ≠ ys.length) : eqLD (.ref n) (.ref m) S = .ok false S := by
  unfold eqLD
  have e1 : lstOf S (.ref n) = some xs := lstAt_of h1
  have e2 : lstOf S (.ref m) = some ys := lstAt_of h2
  simp only [e1, e2]
  exact if_neg h
/-- the one text within the other -/
def inTD (x y : D) (S : Store) : R Bool := match x, y with
  | .str a, .str b => .ok (!(Builtin.Str.occurrences b a 0 b.length 1).isEmpty) S
  | _, _ => inD x y S
section
variable {X : Cx} {cA : Nat → Addr} {W : XK}
theorem op_inTM (hu : X.A.units + 1 < cLine) : OpR X (compareOp .In) (tC2 X.K cA W inTD) := by
  refine OpR.imp ((op_in_str (X := X)).or (op_inM (cA := cA) (W := W) hu)) fun x y H Q h => ?_
  obtain ⟨ρ, S, d, e, hS, hd, he, h⟩ := h
  by_cases c : (∃ a, d = .str a) ∧ ∃ b, e = .str b
  · obtain ⟨⟨a, rfl⟩, b, rfl⟩ := c
    unfold RepV at hd he
    exact .inl ⟨a, b, hd, he, After.same (Q := fun b H' => Q (.bl b) H') (rep := rId) h hS rfl⟩
  · have e1 : inTD d e S = inD d e S := by
      unfold inTD
      split
      · rename_i a b; exact absurd ⟨⟨a, rfl⟩, b, rfl⟩ c
      · rfl
    rw [e1] at h
    exact .inr ⟨ρ, S, d, e, hS, hd, he, h⟩
end
theorem inTD_one (c : Nat) (z : Str) (S : Store) : inTD (strD [c]) (.str z) S = .ok (decide (c ∈ cs z)) S := by
  show R.ok _ S = _
  rw [show mkS [c] = ⟨#[c]⟩ from rfl, StrLaws.found_one]
  rfl
theorem inTD_not {w : List Nat} {z : Str} (h0 : w ≠ []) (h : ∀ c ∈ w, c ∉ cs z) (S : Store) : inTD (strD w) (.str z) S = .ok false S := by
  show R.ok _ S = _
  congr 1
  refine Bool.eq_false_iff.mpr fun q => ?_
  obtain ⟨i, h1, h2⟩ := (StrLaws.found_iff z (mkS w)).mp q
  rw [StrLaws.subAt_eq] at h2
  have e := eq_of_beq h2
  have e3 : (mkS w).cps.toList = w := cs_mkS w
  rw [e3] at e
  obtain ⟨c, r, rfl⟩ := List.exists_cons_of_ne_nil h0
  have hm : c ∈ (z.cps.toList.drop i).take (mkS (c :: r)).length := by rw [e]; exact List.mem_cons_self
  exact h c List.mem_cons_self (List.mem_of_mem_drop (List.mem_of_mem_take hm))
end ML

set_option Elab.async false
set_option linter.all false
set_option maxRecDepth 100000
set_option autoImplicit false
/-! ML26: tuple * int. -/
namespace ML
open PySem PySem.Spec L2
def mulTD : D → D → Store → R D
  | .tup xs, .int n, S => if xs.length ≠ 0 ∧ 2 ≤ n ∧ n ≤ 1000 ∧ xs.length ≤ 1000 then .ok (.tup (List.replicate n.toNat xs).flatten) S else .bad
  | _, _, _ => .bad
section
variable {X : Cx} {K : PySem.W.Frag} {cA : Nat → Addr} {W : XK} {ρ : List Addr} {H : Hp}
theorem RepVs.rep {xs : List D} {vs : List V} (h : RepVs K ρ H xs vs) : ∀ n : Nat, RepVs K ρ H (List.replicate n xs).flatten (List.replicate n vs).flatten
  | 0 => .nil
  | n + 1 => by
    rw [List.replicate_succ, List.replicate_succ, List.flatten_cons, List.flatten_cons]
    exact h.append (RepVs.rep h n)
theorem op_mulTM : OpR X (binaryOp .Mult) (t2 X.K cA W (rV X.K) mulTD) := by
  refine OpR.imp (op_repT (X := X)) fun x y H Q h => ?_
  obtain ⟨ρ, S, d, e, hS, hd, he, h⟩ := h
  unfold mulTD at h
  split at h
  · rename_i xs n _
    split at h
    · rename_i c
      unfold RepV at hd he
      obtain ⟨a, vs, ex, h1, r1⟩ := hd
      have l := r1.length
      exact ⟨a, _, vs, ex, he, h1, fun z => c.1 (by rw [← l, z]; rfl), c.2.1, c.2.2.1, by rw [l]; exact c.2.2.2, fun p hp => h.tup hS hp (r1.rep _)⟩
    · exact h.elim
  · exact h.elim
end
@[simp] theorem x_mulT (xs : List D) (n : Int) (S : Store) (h0 : xs.length ≠ 0) (h1 : 2 ≤ n) (h2 : n ≤ 1000) (h3 : xs.length ≤ 1000) : mulTD (.tup xs) (.int n) S = .ok (.tup (List.replicate n.toNat xs).flatten) S := by
  simp only [mulTD]
  rw [if_pos ⟨h0, h1, h2, h3⟩]
end ML

set_option Elab.async false
set_option linter.all false
set_option maxRecDepth 100000
set_option autoImplicit false
set_option maxHeartbeats 4000000
namespace K05
open PySem PySem.Spec L2 ML
def topS (i : Nat) : Stmt := PySem.Challenge.pw_waitloom_k05_whole_shown_and_read.main.body.getD i (.Pass ⟨0, 0, 0, 0⟩)
abbrev s__law_cell_at : Stmt := topS 53
abbrev N__law_cell_at : List Str := ["_law_script", "_law_k"]
theorem sc__law_cell_at : FnScope N__law_cell_at ["_law_script", "_law_k"] (defScope s__law_cell_at) := ⟨rfl, rfl, rfl, by decide +kernel, rfl, by decide +kernel, by decide +kernel⟩
abbrev s__law_bodies : Stmt := topS 61
abbrev N__law_bodies : List Str := ["_law_body_here", "_law_found", "_law_one"]
theorem sc__law_bodies : FnScope N__law_bodies ["_law_body_here"] (defScope s__law_bodies) := ⟨rfl, rfl, rfl, by decide +kernel, rfl, by decide +kernel, by decide +kernel⟩
abbrev s__law_function_words : Stmt := topS 62
abbrev N__law_function_words : List Str := ["_law_part"]
theorem sc__law_function_words : FnScope N__law_function_words ["_law_part"] (defScope s__law_function_words) := ⟨rfl, rfl, rfl, by decide +kernel, rfl, by decide +kernel, by decide +kernel⟩
abbrev s__law_term_words : Stmt := topS 63
abbrev N__law_term_words : List Str := ["_law_term_here", "_law_found", "_law_one"]
theorem sc__law_term_words : FnScope N__law_term_words ["_law_term_here"] (defScope s__law_term_words) := ⟨rfl, rfl, rfl, by decide +kernel, rfl, by decide +kernel, by decide +kernel⟩
abbrev s__law_words : Stmt := topS 64
abbrev N__law_words : List Str := ["_law_one", "_law_word", "_law_found"]
theorem sc__law_words : FnScope N__law_words ["_law_one"] (defScope s__law_words) := ⟨rfl, rfl, rfl, by decide +kernel, rfl, by decide +kernel, by decide +kernel⟩
abbrev s__law_next : Stmt := topS 54
abbrev N__law_next : List Str := ["_law_state", "_law_k", "_law_cell"]
theorem sc__law_next : FnScope N__law_next ["_law_state"] (defScope s__law_next) := ⟨rfl, rfl, rfl, by decide +kernel, rfl, by decide +kernel, by decide +kernel⟩
abbrev s__law_text : Stmt := topS 65
abbrev N__law_text : List Str := ["_law_words_here", "_law_state", "_law_text_here", "_law_k", "_law_tight", "_law_some"]
theorem sc__law_text : FnScope N__law_text ["_law_words_here", "_law_state"] (defScope s__law_text) := ⟨rfl, rfl, rfl, by decide +kernel, rfl, by decide +kernel, by decide +kernel⟩
abbrev s_names_in : Stmt := topS 37
abbrev N_names_in : List Str := ["row", "name"]
theorem sc_names_in : FnScope N_names_in ["row"] (defScope s_names_in) := ⟨rfl, rfl, rfl, by decide +kernel, rfl, by decide +kernel, by decide +kernel⟩
abbrev s_need_row : Stmt := topS 36
abbrev N_need_row : List Str := ["row", "least"]
theorem sc_need_row : FnScope N_need_row ["row", "least"] (defScope s_need_row) := ⟨rfl, rfl, rfl, by decide +kernel, rfl, by decide +kernel, by decide +kernel⟩
abbrev s_is_name : Stmt := topS 13
abbrev N_is_name : List Str := ["thing", "sign"]
theorem sc_is_name : FnScope N_is_name ["thing"] (defScope s_is_name) := ⟨rfl, rfl, rfl, by decide +kernel, rfl, by decide +kernel, by decide +kernel⟩
abbrev s_is_number : Stmt := topS 14
abbrev N_is_number : List Str := ["thing"]
theorem sc_is_number : FnScope N_is_number ["thing"] (defScope s_is_number) := ⟨rfl, rfl, rfl, by decide +kernel, rfl, by decide +kernel, by decide +kernel⟩
abbrev s_number_of : Stmt := topS 35
abbrev N_number_of : List Str := ["word", "figures", "number", "sign"]
theorem sc_number_of : FnScope N_number_of ["word"] (defScope s_number_of) := ⟨rfl, rfl, rfl, by decide +kernel, rfl, by decide +kernel, by decide +kernel⟩
abbrev s_simple_term : Stmt := topS 38
abbrev N_simple_term : List Str := ["word", "number"]
theorem sc_simple_term : FnScope N_simple_term ["word"] (defScope s_simple_term) := ⟨rfl, rfl, rfl, by decide +kernel, rfl, by decide +kernel, by decide +kernel⟩
abbrev s_term_in : Stmt := topS 39
abbrev N_term_in : List Str := ["row", "left", "word", "one"]
theorem sc_term_in : FnScope N_term_in ["row", "left"] (defScope s_term_in) := ⟨rfl, rfl, rfl, by decide +kernel, rfl, by decide +kernel, by decide +kernel⟩
abbrev s_body_in : Stmt := topS 40
abbrev N_body_in : List Str := ["rows", "left", "row"]
theorem sc_body_in : FnScope N_body_in ["rows", "left"] (defScope s_body_in) := ⟨rfl, rfl, rfl, by decide +kernel, rfl, by decide +kernel, by decide +kernel⟩
abbrev s_long_statement : Stmt := topS 41
abbrev N_long_statement : List Str := ["row", "left", "word", "bodies", "at"]
theorem sc_long_statement : FnScope N_long_statement ["row", "left"] (defScope s_long_statement) := ⟨rfl, rfl, rfl, by decide +kernel, rfl, by decide +kernel, by decide +kernel⟩
abbrev s_statement_in : Stmt := topS 42
abbrev N_statement_in : List Str := ["row", "left", "word"]
theorem sc_statement_in : FnScope N_statement_in ["row", "left"] (defScope s_statement_in) := ⟨rfl, rfl, rfl, by decide +kernel, rfl, by decide +kernel, by decide +kernel⟩
abbrev s_has_word : Stmt := topS 16
abbrev N_has_word : List Str := ["thing", "word", "size"]
theorem sc_has_word : FnScope N_has_word ["thing", "word", "size"] (defScope s_has_word) := ⟨rfl, rfl, rfl, by decide +kernel, rfl, by decide +kernel, by decide +kernel⟩
abbrev s_is_names : Stmt := topS 15
abbrev N_is_names : List Str := ["thing", "name"]
theorem sc_is_names : FnScope N_is_names ["thing"] (defScope s_is_names) := ⟨rfl, rfl, rfl, by decide +kernel, rfl, by decide +kernel, by decide +kernel⟩
abbrev s_is_simple : Stmt := topS 17
abbrev N_is_simple : List Str := ["thing"]
theorem sc_is_simple : FnScope N_is_simple ["thing"] (defScope s_is_simple) := ⟨rfl, rfl, rfl, by decide +kernel, rfl, by decide +kernel, by decide +kernel⟩
abbrev s_is_function : Stmt := topS 18
abbrev N_is_function : List Str := ["thing", "left"]
theorem sc_is_function : FnScope N_is_function ["thing", "left"] (defScope s_is_function) := ⟨rfl, rfl, rfl, by decide +kernel, rfl, by decide +kernel, by decide +kernel⟩
abbrev s_is_term : Stmt := topS 19
abbrev N_is_term : List Str := ["thing", "left", "is_sign", "term"]
theorem sc_is_term : FnScope N_is_term ["thing", "left"] (defScope s_is_term) := ⟨rfl, rfl, rfl, by decide +kernel, rfl, by decide +kernel, by decide +kernel⟩
abbrev s_is_body : Stmt := topS 20
abbrev N_is_body : List Str := ["thing", "left", "may_hand", "one"]
theorem sc_is_body : FnScope N_is_body ["thing", "left", "may_hand"] (defScope s_is_body) := ⟨rfl, rfl, rfl, by decide +kernel, rfl, by decide +kernel, by decide +kernel⟩
abbrev s_is_short : Stmt := topS 21
abbrev N_is_short : List Str := ["thing", "left", "may_hand"]
theorem sc_is_short : FnScope N_is_short ["thing", "left", "may_hand"] (defScope s_is_short) := ⟨rfl, rfl, rfl, by decide +kernel, rfl, by decide +kernel, by decide +kernel⟩
abbrev s_is_statement : Stmt := topS 22
abbrev N_is_statement : List Str := ["thing", "left", "may_hand", "bodies", "body"]
theorem sc_is_statement : FnScope N_is_statement ["thing", "left", "may_hand"] (defScope s_is_statement) := ⟨rfl, rfl, rfl, by decide +kernel, rfl, by decide +kernel, by decide +kernel⟩
abbrev s_inner_of : Stmt := topS 25
abbrev N_inner_of : List Str := ["part", "word"]
theorem sc_inner_of : FnScope N_inner_of ["part"] (defScope s_inner_of) := ⟨rfl, rfl, rfl, by decide +kernel, rfl, by decide +kernel, by decide +kernel⟩
abbrev s_size_of : Stmt := topS 26
abbrev N_size_of : List Str := ["part", "inner"]
theorem sc_size_of : FnScope N_size_of ["part"] (defScope s_size_of) := ⟨rfl, rfl, rfl, by decide +kernel, rfl, by decide +kernel, by decide +kernel⟩
abbrev s_is_program : Stmt := topS 23
abbrev N_is_program : List Str := ["thing"]
theorem sc_is_program : FnScope N_is_program ["thing"] (defScope s_is_program) := ⟨rfl, rfl, rfl, by decide +kernel, rfl, by decide +kernel, by decide +kernel⟩
abbrev s_nested : Stmt := topS 34
abbrev N_nested : List Str := ["words", "rows", "word", "row"]
theorem sc_nested : FnScope N_nested ["words"] (defScope s_nested) := ⟨rfl, rfl, rfl, by decide +kernel, rfl, by decide +kernel, by decide +kernel⟩
abbrev s_need_text : Stmt := topS 30
abbrev N_need_text : List Str := ["text", "sign"]
theorem sc_need_text : FnScope N_need_text ["text"] (defScope s_need_text) := ⟨rfl, rfl, rfl, by decide +kernel, rfl, by decide +kernel, by decide +kernel⟩
abbrev s_words_of : Stmt := topS 31
abbrev N_words_of : List Str := ["text", "found", "word", "sign"]
theorem sc_words_of : FnScope N_words_of ["text"] (defScope s_words_of) := ⟨rfl, rfl, rfl, by decide +kernel, rfl, by decide +kernel, by decide +kernel⟩
abbrev s_read : Stmt := topS 43
abbrev N_read : List Str := ["text", "row", "found"]
theorem sc_read : FnScope N_read ["text"] (defScope s_read) := ⟨rfl, rfl, rfl, by decide +kernel, rfl, by decide +kernel, by decide +kernel⟩
abbrev s_in_brackets : Stmt := topS 45
abbrev N_in_brackets : List Str := ["words"]
theorem sc_in_brackets : FnScope N_in_brackets ["words"] (defScope s_in_brackets) := ⟨rfl, rfl, rfl, by decide +kernel, rfl, by decide +kernel, by decide +kernel⟩
abbrev s_names_text : Stmt := topS 46
abbrev N_names_text : List Str := ["names"]
theorem sc_names_text : FnScope N_names_text ["names"] (defScope s_names_text) := ⟨rfl, rfl, rfl, by decide +kernel, rfl, by decide +kernel, by decide +kernel⟩
abbrev s_body_text : Stmt := topS 47
abbrev N_body_text : List Str := ["body", "one"]
theorem sc_body_text : FnScope N_body_text ["body"] (defScope s_body_text) := ⟨rfl, rfl, rfl, by decide +kernel, rfl, by decide +kernel, by decide +kernel⟩
abbrev s_function_text : Stmt := topS 48
abbrev N_function_text : List Str := ["part", "one"]
theorem sc_function_text : FnScope N_function_text ["part"] (defScope s_function_text) := ⟨rfl, rfl, rfl, by decide +kernel, rfl, by decide +kernel, by decide +kernel⟩
abbrev s_term_text : Stmt := topS 49
abbrev N_term_text : List Str := ["term", "one"]
theorem sc_term_text : FnScope N_term_text ["term"] (defScope s_term_text) := ⟨rfl, rfl, rfl, by decide +kernel, rfl, by decide +kernel, by decide +kernel⟩
abbrev s_statement_text : Stmt := topS 50
abbrev N_statement_text : List Str := ["one", "word"]
theorem sc_statement_text : FnScope N_statement_text ["one"] (defScope s_statement_text) := ⟨rfl, rfl, rfl, by decide +kernel, rfl, by decide +kernel, by decide +kernel⟩
abbrev s_need_program : Stmt := topS 24
abbrev N_need_program : List Str := ["thing"]
theorem sc_need_program : FnScope N_need_program ["thing"] (defScope s_need_program) := ⟨rfl, rfl, rfl, by decide +kernel, rfl, by decide +kernel, by decide +kernel⟩
abbrev s_shown : Stmt := topS 51
abbrev N_shown : List Str := ["program"]
theorem sc_shown : FnScope N_shown ["program"] (defScope s_shown) := ⟨rfl, rfl, rfl, by decide +kernel, rfl, by decide +kernel, by decide +kernel⟩
abbrev s__law_deep_right : Stmt := topS 67
abbrev N__law_deep_right : List Str := ["_law_cell", "_law_inner", "_law_turn", "_law_some", "_law_program_here", "_law_due"]
theorem sc__law_deep_right : FnScope N__law_deep_right ["_law_cell"] (defScope s__law_deep_right) := ⟨rfl, rfl, rfl, by decide +kernel, rfl, by decide +kernel, by decide +kernel⟩
abbrev s__law_long_right : Stmt := topS 66
abbrev N__law_long_right : List Str := ["_law_cell", "_law_letters", "_law_names_here", "_law_body_here", "_law_program_here", "_law_due", "_law_k", "_law_j"]
theorem sc__law_long_right : FnScope N__law_long_right ["_law_cell"] (defScope s__law_long_right) := ⟨rfl, rfl, rfl, by decide +kernel, rfl, by decide +kernel, by decide +kernel⟩
abbrev s__law_names : Stmt := topS 55
abbrev N__law_names : List Str := ["_law_cell", "_law_many", "_law_letters", "_law_size", "_law_word", "_law_made", "_law_k"]
theorem sc__law_names : FnScope N__law_names ["_law_cell", "_law_many"] (defScope s__law_names) := ⟨rfl, rfl, rfl, by decide +kernel, rfl, by decide +kernel, by decide +kernel⟩
abbrev s__law_number : Stmt := topS 56
abbrev N__law_number : List Str := ["_law_more", "_law_far"]
theorem sc__law_number : FnScope N__law_number ["_law_more"] (defScope s__law_number) := ⟨rfl, rfl, rfl, by decide +kernel, rfl, by decide +kernel, by decide +kernel⟩
abbrev s__law_term : Stmt := topS 57
abbrev N__law_term : List Str := ["_law_state", "_law_deep", "_law_number_here", "_law_kind", "_law_more", "_law_names_here", "_law_params", "_law_maker", "_law_turn"]
theorem sc__law_term : FnScope N__law_term ["_law_state", "_law_deep"] (defScope s__law_term) := ⟨rfl, rfl, rfl, by decide +kernel, rfl, by decide +kernel, by decide +kernel⟩
abbrev s__law_body : Stmt := topS 58
abbrev N__law_body : List Str := ["_law_state", "_law_deep", "_law_may_hand", "_law_turn"]
theorem sc__law_body : FnScope N__law_body ["_law_state", "_law_deep", "_law_may_hand"] (defScope s__law_body) := ⟨rfl, rfl, rfl, by decide +kernel, rfl, by decide +kernel, by decide +kernel⟩
abbrev s__law_statement : Stmt := topS 59
abbrev N__law_statement : List Str := ["_law_state", "_law_deep", "_law_may_hand", "_law_number_here", "_law_kind", "_law_name", "_law_word", "_law_test", "_law_bodies_here", "_law_turn"]
theorem sc__law_statement : FnScope N__law_statement ["_law_state", "_law_deep", "_law_may_hand"] (defScope s__law_statement) := ⟨rfl, rfl, rfl, by decide +kernel, rfl, by decide +kernel, by decide +kernel⟩
abbrev s__law_program : Stmt := topS 60
abbrev N__law_program : List Str := ["_law_script", "_law_most", "_law_names_here", "_law_state", "_law_body_here"]
theorem sc__law_program : FnScope N__law_program ["_law_script", "_law_most"] (defScope s__law_program) := ⟨rfl, rfl, rfl, by decide +kernel, rfl, by decide +kernel, by decide +kernel⟩
abbrev s_law : Stmt := topS 68
abbrev N_law : List Str := ["_law_script", "_law_program_here", "_law_words_here", "_law_due", "_law_loose", "_law_told", "_law_text_here"]
theorem sc_law : FnScope N_law ["_law_script"] (defScope s_law) := ⟨rfl, rfl, rfl, by decide +kernel, rfl, by decide +kernel, by decide +kernel⟩
def hit_BadText (c : Nat) : Option Bool := match c with
  | 1 => some false
  | 2 => some true
  | _ => none
noncomputable def m__law_cell_at : MS := seqS (ifS (cmpM ltD (varE 1) (newL lenV (consA (varE 0) (nilA)))) (retS (binE ixD (varE 0) (varE 1))) (nilS)) (retS (conE (.int 0)))
noncomputable def F__law_cell_at : List D → Store → R D := bodyF N__law_cell_at.length m__law_cell_at
noncomputable def b__law_bodies_0 (r : Nat → List D → Store → R D) : MS := setS 1 (binE addD (varE 1) (callE 1 (r 3) (consA (varE 2) (nilA))))
noncomputable def m__law_bodies (r : Nat → List D → Store → R D) : MS := seqS (setS 1 (allocE (lstN (consA (conE (.str (Str.ofString "("))) (nilA))))) (seqS (forS (srcV (varE 0)) (nameT 2) ((b__law_bodies_0 r))) (retS (binE addD (varE 1) (allocE (lstN (consA (conE (.str (Str.ofString ")"))) (nilA)))))))
noncomputable def m__law_function_words (r : Nat → List D → Store → R D) : MS := retS (binE addD (binE addD (binE addD (allocE (lstN (consA (conE (.str (Str.ofString "("))) (consA (binE ixD (varE 0) (conE (.int 0))) (consA (conE (.str (Str.ofString "("))) (nilA)))))) (allocE (newL listV (consA (binE ixD (varE 0) (conE (.int 1))) (nilA))))) (allocE (lstN (consA (conE (.str (Str.ofString ")"))) (nilA))))) (sliceE (callE 1 (r 0) (consA (binE ixD (varE 0) (conE (.int 2))) (nilA))) (someO (conE (.int 1))) (noO)))
noncomputable def b__law_term_words_0 (r : Nat → List D → Store → R D) : MS := setS 1 (binE addD (varE 1) (callE 1 (r 2) (consA (varE 2) (nilA))))
noncomputable def m__law_term_words (r : Nat → List D → Store → R D) : MS := seqS (ifS (cmpM eqD (binE ixD (varE 0) (conE (.int 0))) (conE (.str (Str.ofString "number")))) (retS (allocE (lstN (consA (newL strV (consA (binE ixD (varE 0) (conE (.int 1))) (nilA))) (nilA))))) (nilS)) (seqS (ifS (cmpM eqD (binE ixD (varE 0) (conE (.int 0))) (conE (.str (Str.ofString "name")))) (retS (allocE (lstN (consA (binE ixD (varE 0) (conE (.int 1))) (nilA))))) (nilS)) (seqS (ifS (cmpM eqD (binE ixD (varE 0) (conE (.int 0))) (conE (.str (Str.ofString "two")))) (retS (binE addD (binE addD (binE addD (allocE (lstN (consA (conE (.str (Str.ofString "("))) (consA (binE ixD (varE 0) (conE (.int 1))) (nilA))))) (callE 1 (r 2) (consA (binE ixD (varE 0) (conE (.int 2))) (nilA)))) (callE 1 (r 2) (consA (binE ixD (varE 0) (conE (.int 3))) (nilA)))) (allocE (lstN (consA (conE (.str (Str.ofString ")"))) (nilA)))))) (nilS)) (seqS (ifS (cmpM inD (binE ixD (varE 0) (conE (.int 0))) (tupE (consA (conE (.str (Str.ofString "fun"))) (consA (conE (.str (Str.ofString "loop"))) (nilA))))) (retS (callE 1 (r 1) (consA (varE 0) (nilA)))) (nilS)) (seqS (setS 1 (binE addD (allocE (lstN (consA (conE (.str (Str.ofString "("))) (consA (binE ixD (varE 0) (conE (.int 0))) (nilA))))) (callE 1 (r 2) (consA (binE ixD (varE 0) (conE (.int 1))) (nilA))))) (seqS (forS (srcV (ifE (cmpM eqD (binE ixD (varE 0) (conE (.int 0))) (conE (.str (Str.ofString "call")))) (allocE (newL listV (consA (binE ixD (varE 0) (conE (.int 2))) (nilA)))) (allocE (lstN (consA (binE ixD (varE 0) (conE (.int 2))) (nilA)))))) (nameT 2) ((b__law_term_words_0 r))) (retS (binE addD (varE 1) (allocE (lstN (consA (conE (.str (Str.ofString ")"))) (nilA)))))))))))
noncomputable def m__law_words (r : Nat → List D → Store → R D) : MS := seqS (setS 1 (binE ixD (varE 0) (conE (.int 0)))) (seqS (ifS (cmpM inD (varE 1) (tupE (consA (conE (.str (Str.ofString "do"))) (consA (conE (.str (Str.ofString "hand"))) (consA (conE (.str (Str.ofString "back"))) (nilA)))))) (retS (binE addD (binE addD (allocE (lstN (consA (conE (.str (Str.ofString "("))) (consA (varE 1) (nilA))))) (callE 1 (r 2) (consA (binE ixD (varE 0) (conE (.int 1))) (nilA)))) (allocE (lstN (consA (conE (.str (Str.ofString ")"))) (nilA)))))) (nilS)) (seqS (ifS (cmpM inD (varE 1) (tupE (consA (conE (.str (Str.ofString "let"))) (consA (conE (.str (Str.ofString "set"))) (consA (conE (.str (Str.ofString "fault"))) (nilA)))))) (retS (binE addD (binE addD (allocE (lstN (consA (conE (.str (Str.ofString "("))) (consA (varE 1) (consA (binE ixD (varE 0) (conE (.int 1))) (nilA)))))) (callE 1 (r 2) (consA (binE ixD (varE 0) (conE (.int 2))) (nilA)))) (allocE (lstN (consA (conE (.str (Str.ofString ")"))) (nilA)))))) (nilS)) (seqS (ifS (cmpM eqD (varE 1) (conE (.str (Str.ofString "try")))) (retS (binE addD (binE addD (binE addD (binE addD (binE addD (allocE (lstN (consA (conE (.str (Str.ofString "("))) (consA (varE 1) (nilA))))) (callE 1 (r 0) (consA (binE ixD (varE 0) (conE (.int 1))) (nilA)))) (allocE (lstN (consA (binE ixD (varE 0) (conE (.int 2))) (consA (binE ixD (varE 0) (conE (.int 3))) (nilA)))))) (callE 1 (r 0) (consA (binE ixD (varE 0) (conE (.int 4))) (nilA)))) (callE 1 (r 0) (consA (binE ixD (varE 0) (conE (.int 5))) (nilA)))) (allocE (lstN (consA (conE (.str (Str.ofString ")"))) (nilA)))))) (nilS)) (seqS (setS 2 (binE addD (binE addD (allocE (lstN (consA (conE (.str (Str.ofString "("))) (consA (varE 1) (nilA))))) (callE 1 (r 2) (consA (binE ixD (varE 0) (conE (.int 1))) (nilA)))) (callE 1 (r 0) (consA (binE ixD (varE 0) (conE (.int 2))) (nilA))))) (seqS (ifS (cmpM eqD (varE 1) (conE (.str (Str.ofString "if")))) (setS 2 (binE addD (varE 2) (callE 1 (r 0) (consA (binE ixD (varE 0) (conE (.int 3))) (nilA))))) (nilS)) (retS (binE addD (varE 2) (allocE (lstN (consA (conE (.str (Str.ofString ")"))) (nilA)))))))))))
noncomputable def G__law_bodies : Nat → Nat → List D → Store → R D
  | 0, _ => badF
  | n + 1, 0 => bodyF N__law_bodies.length (m__law_bodies (G__law_bodies n))
  | n + 1, 1 => bodyF N__law_function_words.length (m__law_function_words (G__law_bodies n))
  | n + 1, 2 => bodyF N__law_term_words.length (m__law_term_words (G__law_bodies n))
  | n + 1, 3 => bodyF N__law_words.length (m__law_words (G__law_bodies n))
  | _ + 1, _ => badF
noncomputable def F__law_bodies : List D → Store → R D := G__law_bodies 60 0
theorem G__law_bodies_0 (n : Nat) : G__law_bodies (n + 1) 0 = bodyF N__law_bodies.length (m__law_bodies (G__law_bodies n)) := (rfl)
noncomputable def F__law_function_words : List D → Store → R D := G__law_bodies 60 1
theorem G__law_bodies_1 (n : Nat) : G__law_bodies (n + 1) 1 = bodyF N__law_function_words.length (m__law_function_words (G__law_bodies n)) := (rfl)
noncomputable def F__law_term_words : List D → Store → R D := G__law_bodies 60 2
theorem G__law_bodies_2 (n : Nat) : G__law_bodies (n + 1) 2 = bodyF N__law_term_words.length (m__law_term_words (G__law_bodies n)) := (rfl)
noncomputable def F__law_words : List D → Store → R D := G__law_bodies 60 3
theorem G__law_bodies_3 (n : Nat) : G__law_bodies (n + 1) 3 = bodyF N__law_words.length (m__law_words (G__law_bodies n)) := (rfl)
noncomputable def m__law_next : MS := seqS (asgS (subT (varE 0) (conE (.str (Str.ofString "at")))) (binE addD (binE ixD (varE 0) (conE (.str (Str.ofString "at")))) (conE (.int 1)))) (seqS (setS 1 (binE ixD (varE 0) (conE (.str (Str.ofString "at"))))) (seqS (setS 2 (callE 2 F__law_cell_at (consA (binE ixD (varE 0) (conE (.str (Str.ofString "cells")))) (consA (binE modD (varE 1) (newL maxV (consA (conE (.int 1)) (consA (newL lenV (consA (binE ixD (varE 0) (conE (.str (Str.ofString "cells")))) (nilA))) (nilA))))) (nilA))))) (retS (binE fdivD (binE modD (binE addD (binE mulD (varE 2) (conE (.int 48271))) (binE mulD (binE mulD (varE 1) (varE 1)) (conE (.int 69621)))) (conE (.int 2147483647))) (conE (.int 8))))))
noncomputable def F__law_next : List D → Store → R D := bodyF N__law_next.length m__law_next
noncomputable def b__law_text_0 : MS := seqS (setS 4 (orV (ofV (toV (cmpM eqD (varE 3) (conE (.int 0))))) (orV (ofV (toV (cmpM eqD (binE ixD (varE 0) (binE subD (varE 3) (conE (.int 1)))) (conE (.str (Str.ofString "(")))))) (toV (cmpM eqD (binE ixD (varE 0) (varE 3)) (conE (.str (Str.ofString ")")))))))) (ifS (cmpM isD (varE 1) (conE .non)) (setS 2 (binE addD (binE addD (varE 2) (binE ixD (allocE (lstN (consA (conE (.str (Str.ofString " "))) (consA (conE (.str (Str.ofString ""))) (nilA))))) (newL intV (consA (varE 4) (nilA))))) (binE ixD (varE 0) (varE 3)))) (seqS (setS 4 (orV (ofV (toV (cmpM eqD (varE 3) (conE (.int 0))))) (orV (ofV (toV (cmpM inTD (binE ixD (varE 0) (binE subD (varE 3) (conE (.int 1)))) (conE (.str (Str.ofString "()")))))) (toV (cmpM inTD (binE ixD (varE 0) (varE 3)) (conE (.str (Str.ofString "()")))))))) (seqS (setS 5 (allocE (lstN (consA (conE (.str (Str.ofString " "))) (consA (conE (.str (Str.ofString "\n"))) (consA (conE (.str (Str.ofString "  "))) (consA (conE (.str (Str.ofString " \n "))) (consA (binE ixD (allocE (lstN (consA (conE (.str (Str.ofString ""))) (consA (conE (.str (Str.ofString " "))) (nilA))))) (newL intV (consA (toV (notM (ofV (varE 4)))) (nilA)))) (consA (binE ixD (allocE (lstN (consA (conE (.str (Str.ofString ""))) (consA (conE (.str (Str.ofString "\n"))) (nilA))))) (newL intV (consA (toV (notM (ofV (varE 4)))) (nilA)))) (nilA)))))))))) (setS 2 (binE addD (binE addD (varE 2) (binE ixD (varE 5) (binE modD (callE 1 F__law_next (consA (varE 1) (nilA))) (conE (.int 6))))) (binE ixD (varE 0) (varE 3)))))))
noncomputable def m__law_text : MS := seqS (setS 2 (conE (.str (Str.ofString "")))) (seqS (forS (srcR1 (consA (newL lenV (consA (varE 0) (nilA))) (nilA))) (nameT 3) (b__law_text_0)) (retS (varE 2)))
noncomputable def F__law_text : List D → Store → R D := bodyF N__law_text.length m__law_text
noncomputable def m_names_in : MS := seqS (ifS (orM (notM (ofV (toV (isE "list" (varE 0))))) (notM (ofV (newL allL (compN (srcV (varE 0)) (.one 1) (yesM) (toV (isE "str" (varE 1)))))))) (raiseS 2) (nilS)) (retS (newL tupV (consA (varE 0) (nilA))))
noncomputable def F_names_in : List D → Store → R D := bodyF N_names_in.length m_names_in
noncomputable def m_need_row : MS := ifS (orM (notM (ofV (toV (isE "list" (varE 0))))) (orM (cmpM ltD (newL lenV (consA (varE 0) (nilA))) (varE 1)) (notM (ofV (toV (isE "str" (binE ixD (varE 0) (conE (.int 0))))))))) (raiseS 2) (nilS)
noncomputable def F_need_row : List D → Store → R D := bodyF N_need_row.length m_need_row
noncomputable def m_is_name : MS := seqS (ifS (orM (notM (ofV (toV (isE "str" (varE 0))))) (notM (chainM leD leD (conE (.int 1)) (newL lenV (consA (varE 0) (nilA))) (conE (.int 8))))) (retS (conE (.bl false))) (nilS)) (retS (newL allL (compN (srcV (varE 0)) (.one 1) (yesM) (toV (chainM leD leD (conE (.str (Str.ofString "a"))) (varE 1) (conE (.str (Str.ofString "z"))))))))
noncomputable def F_is_name : List D → Store → R D := bodyF N_is_name.length m_is_name
noncomputable def m_is_number : MS := retS (andV (ofV (toV (isE "int" (varE 0)))) (andV (ofV (toV (notM (ofV (toV (isE "bool" (varE 0))))))) (toV (chainM leD leD (binE subD (conE (.int 0)) (conE (.int 1000000000000))) (varE 0) (conE (.int 1000000000000))))))
noncomputable def F_is_number : List D → Store → R D := bodyF N_is_number.length m_is_number
noncomputable def m_number_of : MS := seqS (setS 1 (varE 0)) (seqS (ifS (cmpM eqD (sliceE (varE 0) (noO) (someO (conE (.int 1)))) (conE (.str (Str.ofString "-")))) (setS 1 (sliceE (varE 0) (someO (conE (.int 1))) (noO))) (nilS)) (seqS (ifS (orM (notM (chainM leD leD (conE (.int 1)) (newL lenV (consA (varE 1) (nilA))) (conE (.int 13)))) (notM (ofV (newL allL (compN (srcV (varE 1)) (.one 3) (yesM) (toV (chainM leD leD (conE (.str (Str.ofString "0"))) (varE 3) (conE (.str (Str.ofString "9")))))))))) (retS (conE .non)) (nilS)) (seqS (ifS (andM (cmpM eqD (binE ixD (varE 1) (conE (.int 0))) (conE (.str (Str.ofString "0")))) (cmpM neD (varE 0) (conE (.str (Str.ofString "0"))))) (retS (conE .non)) (nilS)) (seqS (setS 2 (newL intX (consA (varE 0) (nilA)))) (seqS (ifS (notM (ofV (callE 1 F_is_number (consA (varE 2) (nilA))))) (retS (conE .non)) (nilS)) (retS (varE 2)))))))
noncomputable def F_number_of : List D → Store → R D := bodyF N_number_of.length m_number_of
noncomputable def m_simple_term : MS := seqS (setS 1 (callE 1 F_number_of (consA (varE 0) (nilA)))) (seqS (ifS (cmpM isNotD (varE 1) (conE .non)) (retS (tupE (consA (conE (.str (Str.ofString "number"))) (consA (varE 1) (nilA))))) (nilS)) (seqS (ifS (notM (ofV (callE 1 F_is_name (consA (varE 0) (nilA))))) (raiseS 2) (nilS)) (retS (tupE (consA (conE (.str (Str.ofString "name"))) (consA (varE 0) (nilA)))))))
noncomputable def F_simple_term : List D → Store → R D := bodyF N_simple_term.length m_simple_term
noncomputable def m_term_in (r : Nat → List D → Store → R D) : MS := seqS (ifS (cmpM ltD (varE 1) (conE (.int 1))) (raiseS 2) (nilS)) (seqS (ifS (ofV (toV (isE "str" (varE 0)))) (retS (callE 1 F_simple_term (consA (varE 0) (nilA)))) (nilS)) (seqS (exprS (callE 2 F_need_row (consA (varE 0) (consA (conE (.int 2)) (nilA))))) (seqS (setS 2 (binE ixD (varE 0) (conE (.int 0)))) (seqS (ifS (andM (cmpM inD (varE 2) (conE (.tup [.str (Str.ofString "+"), .str (Str.ofString "-"), .str (Str.ofString "*"), .str (Str.ofString "<"), .str (Str.ofString "=")]))) (cmpM eqD (newL lenV (consA (varE 0) (nilA))) (conE (.int 3)))) (retS (tupE (consA (conE (.str (Str.ofString "two"))) (consA (varE 2) (consA (callE 2 (r 0) (consA (binE ixD (varE 0) (conE (.int 1))) (consA (binE subD (varE 1) (conE (.int 1))) (nilA)))) (consA (callE 2 (r 0) (consA (binE ixD (varE 0) (conE (.int 2))) (consA (binE subD (varE 1) (conE (.int 1))) (nilA)))) (nilA))))))) (nilS)) (seqS (ifS (orM (cmpM eqD (varE 2) (conE (.str (Str.ofString "fun")))) (cmpM eqD (varE 2) (conE (.str (Str.ofString "loop"))))) (retS (tupE (consA (varE 2) (consA (callE 1 F_names_in (consA (binE ixD (varE 0) (conE (.int 1))) (nilA))) (consA (callE 2 (r 1) (consA (sliceE (varE 0) (someO (conE (.int 2))) (noO)) (consA (binE subD (varE 1) (conE (.int 1))) (nilA)))) (nilA)))))) (nilS)) (seqS (ifS (cmpM eqD (varE 2) (conE (.str (Str.ofString "call")))) (retS (tupE (consA (conE (.str (Str.ofString "call"))) (consA (callE 2 (r 0) (consA (binE ixD (varE 0) (conE (.int 1))) (consA (binE subD (varE 1) (conE (.int 1))) (nilA)))) (consA (newL tupL (compN (srcV (sliceE (varE 0) (someO (conE (.int 2))) (noO))) (.one 3) (yesM) (callE 2 (r 0) (consA (varE 3) (consA (binE subD (varE 1) (conE (.int 1))) (nilA)))))) (nilA)))))) (nilS)) (seqS (ifS (andM (cmpM eqD (varE 2) (conE (.str (Str.ofString "step")))) (cmpM eqD (newL lenV (consA (varE 0) (nilA))) (conE (.int 3)))) (retS (tupE (consA (conE (.str (Str.ofString "step"))) (consA (callE 2 (r 0) (consA (binE ixD (varE 0) (conE (.int 1))) (consA (binE subD (varE 1) (conE (.int 1))) (nilA)))) (consA (callE 2 (r 0) (consA (binE ixD (varE 0) (conE (.int 2))) (consA (binE subD (varE 1) (conE (.int 1))) (nilA)))) (nilA)))))) (nilS)) (raiseS 2))))))))
noncomputable def m_body_in (r : Nat → List D → Store → R D) : MS := seqS (ifS (notM (ofV (toV (isE "list" (varE 0))))) (raiseS 2) (nilS)) (retS (newL tupL (compN (srcV (varE 0)) (.one 2) (yesM) (callE 2 (r 3) (consA (varE 2) (consA (varE 1) (nilA)))))))
noncomputable def m_long_statement (r : Nat → List D → Store → R D) : MS := seqS (setS 2 (binE ixD (varE 0) (conE (.int 0)))) (seqS (ifS (andM (cmpM eqD (varE 2) (conE (.str (Str.ofString "if")))) (cmpM eqD (newL lenV (consA (varE 0) (nilA))) (conE (.int 4)))) (retS (tupE (consA (conE (.str (Str.ofString "if"))) (consA (callE 2 (r 0) (consA (binE ixD (varE 0) (conE (.int 1))) (consA (binE subD (varE 1) (conE (.int 1))) (nilA)))) (consA (callE 2 (r 1) (consA (binE ixD (varE 0) (conE (.int 2))) (consA (binE subD (varE 1) (conE (.int 1))) (nilA)))) (consA (callE 2 (r 1) (consA (binE ixD (varE 0) (conE (.int 3))) (consA (binE subD (varE 1) (conE (.int 1))) (nilA)))) (nilA))))))) (nilS)) (seqS (ifS (andM (cmpM eqD (varE 2) (conE (.str (Str.ofString "while")))) (cmpM eqD (newL lenV (consA (varE 0) (nilA))) (conE (.int 3)))) (retS (tupE (consA (conE (.str (Str.ofString "while"))) (consA (callE 2 (r 0) (consA (binE ixD (varE 0) (conE (.int 1))) (consA (binE subD (varE 1) (conE (.int 1))) (nilA)))) (consA (callE 2 (r 1) (consA (binE ixD (varE 0) (conE (.int 2))) (consA (binE subD (varE 1) (conE (.int 1))) (nilA)))) (nilA)))))) (nilS)) (seqS (ifS (andM (cmpM eqD (varE 2) (conE (.str (Str.ofString "try")))) (andM (cmpM eqD (newL lenV (consA (varE 0) (nilA))) (conE (.int 6))) (andM (ofV (toV (isE "str" (binE ixD (varE 0) (conE (.int 2)))))) (ofV (toV (isE "str" (binE ixD (varE 0) (conE (.int 3))))))))) (seqS (setS 3 (allocE (compN (srcV (tupE (consA (conE (.int 1)) (consA (conE (.int 4)) (consA (conE (.int 5)) (nilA)))))) (.one 4) (yesM) (callE 2 (r 1) (consA (binE ixD (varE 0) (varE 4)) (consA (binE subD (varE 1) (conE (.int 1))) (nilA))))))) (retS (tupE (consA (conE (.str (Str.ofString "try"))) (consA (binE ixD (varE 3) (conE (.int 0))) (consA (binE ixD (varE 0) (conE (.int 2))) (consA (binE ixD (varE 0) (conE (.int 3))) (consA (binE ixD (varE 3) (conE (.int 1))) (consA (binE ixD (varE 3) (conE (.int 2))) (nilA)))))))))) (nilS)) (raiseS 2))))
noncomputable def m_statement_in (r : Nat → List D → Store → R D) : MS := seqS (ifS (cmpM ltD (varE 1) (conE (.int 1))) (raiseS 2) (nilS)) (seqS (exprS (callE 2 F_need_row (consA (varE 0) (consA (conE (.int 2)) (nilA))))) (seqS (setS 2 (binE ixD (varE 0) (conE (.int 0)))) (seqS (ifS (andM (cmpM inD (varE 2) (tupE (consA (conE (.str (Str.ofString "do"))) (consA (conE (.str (Str.ofString "hand"))) (consA (conE (.str (Str.ofString "back"))) (nilA)))))) (cmpM eqD (newL lenV (consA (varE 0) (nilA))) (conE (.int 2)))) (retS (tupE (consA (varE 2) (consA (callE 2 (r 0) (consA (binE ixD (varE 0) (conE (.int 1))) (consA (binE subD (varE 1) (conE (.int 1))) (nilA)))) (nilA))))) (nilS)) (seqS (ifS (andM (cmpM inD (varE 2) (tupE (consA (conE (.str (Str.ofString "let"))) (consA (conE (.str (Str.ofString "set"))) (consA (conE (.str (Str.ofString "fault"))) (nilA)))))) (andM (cmpM eqD (newL lenV (consA (varE 0) (nilA))) (conE (.int 3))) (ofV (toV (isE "str" (binE ixD (varE 0) (conE (.int 1)))))))) (retS (tupE (consA (varE 2) (consA (binE ixD (varE 0) (conE (.int 1))) (consA (callE 2 (r 0) (consA (binE ixD (varE 0) (conE (.int 2))) (consA (binE subD (varE 1) (conE (.int 1))) (nilA)))) (nilA)))))) (nilS)) (retS (callE 2 (r 2) (consA (varE 0) (consA (varE 1) (nilA)))))))))
noncomputable def G_term_in : Nat → Nat → List D → Store → R D
  | 0, _ => badF
  | n + 1, 0 => bodyF N_term_in.length (m_term_in (G_term_in n))
  | n + 1, 1 => bodyF N_body_in.length (m_body_in (G_term_in n))
  | n + 1, 2 => bodyF N_long_statement.length (m_long_statement (G_term_in n))
  | n + 1, 3 => bodyF N_statement_in.length (m_statement_in (G_term_in n))
  | _ + 1, _ => badF
noncomputable def F_term_in : List D → Store → R D := G_term_in 60 0
theorem G_term_in_0 (n : Nat) : G_term_in (n + 1) 0 = bodyF N_term_in.length (m_term_in (G_term_in n)) := (rfl)
noncomputable def F_body_in : List D → Store → R D := G_term_in 60 1
theorem G_term_in_1 (n : Nat) : G_term_in (n + 1) 1 = bodyF N_body_in.length (m_body_in (G_term_in n)) := (rfl)
noncomputable def F_long_statement : List D → Store → R D := G_term_in 60 2
theorem G_term_in_2 (n : Nat) : G_term_in (n + 1) 2 = bodyF N_long_statement.length (m_long_statement (G_term_in n)) := (rfl)
noncomputable def F_statement_in : List D → Store → R D := G_term_in 60 3
theorem G_term_in_3 (n : Nat) : G_term_in (n + 1) 3 = bodyF N_statement_in.length (m_statement_in (G_term_in n)) := (rfl)
noncomputable def m_has_word : MS := retS (andV (ofV (toV (isE "tuple" (varE 0)))) (andV (ofV (toV (cmpM eqD (newL lenV (consA (varE 0) (nilA))) (varE 2)))) (andV (ofV (toV (isE "str" (binE ixD (varE 0) (conE (.int 0)))))) (toV (cmpM eqD (binE ixD (varE 0) (conE (.int 0))) (varE 1))))))
noncomputable def F_has_word : List D → Store → R D := bodyF N_has_word.length m_has_word
noncomputable def m_is_names : MS := seqS (ifS (orM (notM (ofV (toV (isE "tuple" (varE 0))))) (orM (cmpM gtD (newL lenV (consA (varE 0) (nilA))) (conE (.int 4))) (notM (ofV (newL allL (compN (srcV (varE 0)) (.one 1) (yesM) (callE 1 F_is_name (consA (varE 1) (nilA))))))))) (retS (conE (.bl false))) (nilS)) (retS (toV (cmpM eqD (lenSetE (varE 0)) (newL lenV (consA (varE 0) (nilA))))))
noncomputable def F_is_names : List D → Store → R D := bodyF N_is_names.length m_is_names
noncomputable def m_is_simple : MS := seqS (ifS (ofV (callE 3 F_has_word (consA (varE 0) (consA (conE (.str (Str.ofString "number"))) (consA (conE (.int 2)) (nilA)))))) (retS (callE 1 F_is_number (consA (binE ixD (varE 0) (conE (.int 1))) (nilA)))) (nilS)) (retS (andV (ofV (callE 3 F_has_word (consA (varE 0) (consA (conE (.str (Str.ofString "name"))) (consA (conE (.int 2)) (nilA)))))) (callE 1 F_is_name (consA (binE ixD (varE 0) (conE (.int 1))) (nilA)))))
noncomputable def F_is_simple : List D → Store → R D := bodyF N_is_simple.length m_is_simple
noncomputable def m_is_function (r : Nat → List D → Store → R D) : MS := seqS (ifS (ofV (callE 3 F_has_word (consA (varE 0) (consA (conE (.str (Str.ofString "fun"))) (consA (conE (.int 3)) (nilA)))))) (retS (andV (ofV (callE 1 F_is_names (consA (binE ixD (varE 0) (conE (.int 1))) (nilA)))) (callE 3 (r 2) (consA (binE ixD (varE 0) (conE (.int 2))) (consA (binE subD (varE 1) (conE (.int 1))) (consA (conE (.bl false)) (nilA))))))) (nilS)) (retS (andV (ofV (callE 3 F_has_word (consA (varE 0) (consA (conE (.str (Str.ofString "loop"))) (consA (conE (.int 3)) (nilA)))))) (andV (ofV (callE 1 F_is_names (consA (binE ixD (varE 0) (conE (.int 1))) (nilA)))) (callE 3 (r 2) (consA (binE ixD (varE 0) (conE (.int 2))) (consA (binE subD (varE 1) (conE (.int 1))) (consA (conE (.bl true)) (nilA))))))))
noncomputable def m_is_term (r : Nat → List D → Store → R D) : MS := seqS (ifS (cmpM ltD (varE 1) (conE (.int 1))) (retS (conE (.bl false))) (nilS)) (seqS (ifS (ofV (callE 3 F_has_word (consA (varE 0) (consA (conE (.str (Str.ofString "two"))) (consA (conE (.int 4)) (nilA)))))) (seqS (setS 2 (andV (ofV (toV (isE "str" (binE ixD (varE 0) (conE (.int 1)))))) (toV (cmpM inD (binE ixD (varE 0) (conE (.int 1))) (conE (.tup [.str (Str.ofString "+"), .str (Str.ofString "-"), .str (Str.ofString "*"), .str (Str.ofString "<"), .str (Str.ofString "=")])))))) (retS (andV (ofV (varE 2)) (andV (ofV (callE 2 (r 1) (consA (binE ixD (varE 0) (conE (.int 2))) (consA (binE subD (varE 1) (conE (.int 1))) (nilA))))) (callE 2 (r 1) (consA (binE ixD (varE 0) (conE (.int 3))) (consA (binE subD (varE 1) (conE (.int 1))) (nilA)))))))) (nilS)) (seqS (ifS (ofV (callE 3 F_has_word (consA (varE 0) (consA (conE (.str (Str.ofString "call"))) (consA (conE (.int 3)) (nilA)))))) (seqS (ifS (orM (notM (ofV (toV (isE "tuple" (binE ixD (varE 0) (conE (.int 2))))))) (orM (cmpM gtD (newL lenV (consA (binE ixD (varE 0) (conE (.int 2))) (nilA))) (conE (.int 4))) (notM (ofV (callE 2 (r 1) (consA (binE ixD (varE 0) (conE (.int 1))) (consA (binE subD (varE 1) (conE (.int 1))) (nilA)))))))) (retS (conE (.bl false))) (nilS)) (retS (newL allL (compN (srcV (binE ixD (varE 0) (conE (.int 2)))) (.one 3) (yesM) (callE 2 (r 1) (consA (varE 3) (consA (binE subD (varE 1) (conE (.int 1))) (nilA)))))))) (nilS)) (seqS (ifS (ofV (callE 3 F_has_word (consA (varE 0) (consA (conE (.str (Str.ofString "step"))) (consA (conE (.int 3)) (nilA)))))) (retS (andV (ofV (callE 2 (r 1) (consA (binE ixD (varE 0) (conE (.int 1))) (consA (binE subD (varE 1) (conE (.int 1))) (nilA))))) (callE 2 (r 1) (consA (binE ixD (varE 0) (conE (.int 2))) (consA (binE subD (varE 1) (conE (.int 1))) (nilA)))))) (nilS)) (retS (orV (ofV (callE 1 F_is_simple (consA (varE 0) (nilA)))) (callE 2 (r 0) (consA (varE 0) (consA (varE 1) (nilA)))))))))
noncomputable def m_is_body (r : Nat → List D → Store → R D) : MS := seqS (ifS (orM (notM (ofV (toV (isE "tuple" (varE 0))))) (cmpM gtD (newL lenV (consA (varE 0) (nilA))) (conE (.int 12)))) (retS (conE (.bl false))) (nilS)) (retS (newL allL (compN (srcV (varE 0)) (.one 3) (yesM) (callE 3 (r 4) (consA (varE 3) (consA (varE 1) (consA (varE 2) (nilA))))))))
noncomputable def m_is_short (r : Nat → List D → Store → R D) : MS := seqS (ifS (orM (ofV (callE 3 F_has_word (consA (varE 0) (consA (conE (.str (Str.ofString "let"))) (consA (conE (.int 3)) (nilA)))))) (ofV (callE 3 F_has_word (consA (varE 0) (consA (conE (.str (Str.ofString "set"))) (consA (conE (.int 3)) (nilA))))))) (retS (andV (ofV (callE 1 F_is_name (consA (binE ixD (varE 0) (conE (.int 1))) (nilA)))) (callE 2 (r 1) (consA (binE ixD (varE 0) (conE (.int 2))) (consA (binE subD (varE 1) (conE (.int 1))) (nilA)))))) (nilS)) (seqS (ifS (ofV (callE 3 F_has_word (consA (varE 0) (consA (conE (.str (Str.ofString "fault"))) (consA (conE (.int 3)) (nilA)))))) (retS (andV (ofV (callE 1 F_is_name (consA (binE ixD (varE 0) (conE (.int 1))) (nilA)))) (andV (ofV (toV (cmpM neD (binE ixD (varE 0) (conE (.int 1))) (conE (.str (Str.ofString "any")))))) (callE 2 (r 1) (consA (binE ixD (varE 0) (conE (.int 2))) (consA (binE subD (varE 1) (conE (.int 1))) (nilA))))))) (nilS)) (seqS (ifS (ofV (callE 3 F_has_word (consA (varE 0) (consA (conE (.str (Str.ofString "hand"))) (consA (conE (.int 2)) (nilA)))))) (retS (andV (ofV (varE 2)) (callE 2 (r 1) (consA (binE ixD (varE 0) (conE (.int 1))) (consA (binE subD (varE 1) (conE (.int 1))) (nilA)))))) (nilS)) (retS (andV (ofV (orV (ofV (callE 3 F_has_word (consA (varE 0) (consA (conE (.str (Str.ofString "do"))) (consA (conE (.int 2)) (nilA)))))) (callE 3 F_has_word (consA (varE 0) (consA (conE (.str (Str.ofString "back"))) (consA (conE (.int 2)) (nilA))))))) (callE 2 (r 1) (consA (binE ixD (varE 0) (conE (.int 1))) (consA (binE subD (varE 1) (conE (.int 1))) (nilA))))))))
noncomputable def m_is_statement (r : Nat → List D → Store → R D) : MS := seqS (ifS (cmpM ltD (varE 1) (conE (.int 1))) (retS (conE (.bl false))) (nilS)) (seqS (ifS (ofV (callE 3 F_has_word (consA (varE 0) (consA (conE (.str (Str.ofString "if"))) (consA (conE (.int 4)) (nilA)))))) (seqS (setS 3 (allocE (lstN (consA (binE ixD (varE 0) (conE (.int 2))) (consA (binE ixD (varE 0) (conE (.int 3))) (nilA)))))) (retS (andV (ofV (callE 2 (r 1) (consA (binE ixD (varE 0) (conE (.int 1))) (consA (binE subD (varE 1) (conE (.int 1))) (nilA))))) (newL allL (compN (srcV (varE 3)) (.one 4) (yesM) (callE 3 (r 2) (consA (varE 4) (consA (binE subD (varE 1) (conE (.int 1))) (consA (varE 2) (nilA)))))))))) (nilS)) (seqS (ifS (ofV (callE 3 F_has_word (consA (varE 0) (consA (conE (.str (Str.ofString "while"))) (consA (conE (.int 3)) (nilA)))))) (retS (andV (ofV (callE 2 (r 1) (consA (binE ixD (varE 0) (conE (.int 1))) (consA (binE subD (varE 1) (conE (.int 1))) (nilA))))) (callE 3 (r 2) (consA (binE ixD (varE 0) (conE (.int 2))) (consA (binE subD (varE 1) (conE (.int 1))) (consA (varE 2) (nilA))))))) (nilS)) (seqS (ifS (ofV (callE 3 F_has_word (consA (varE 0) (consA (conE (.str (Str.ofString "try"))) (consA (conE (.int 6)) (nilA)))))) (seqS (setS 3 (allocE (lstN (consA (binE ixD (varE 0) (conE (.int 1))) (consA (binE ixD (varE 0) (conE (.int 4))) (consA (binE ixD (varE 0) (conE (.int 5))) (nilA))))))) (retS (andV (ofV (callE 1 F_is_name (consA (binE ixD (varE 0) (conE (.int 2))) (nilA)))) (andV (ofV (callE 1 F_is_name (consA (binE ixD (varE 0) (conE (.int 3))) (nilA)))) (newL allL (compN (srcV (varE 3)) (.one 4) (yesM) (callE 3 (r 2) (consA (varE 4) (consA (binE subD (varE 1) (conE (.int 1))) (consA (varE 2) (nilA))))))))))) (nilS)) (retS (callE 3 (r 3) (consA (varE 0) (consA (varE 1) (consA (varE 2) (nilA)))))))))
noncomputable def G_is_function : Nat → Nat → List D → Store → R D
  | 0, _ => badF
  | n + 1, 0 => bodyF N_is_function.length (m_is_function (G_is_function n))
  | n + 1, 1 => bodyF N_is_term.length (m_is_term (G_is_function n))
  | n + 1, 2 => bodyF N_is_body.length (m_is_body (G_is_function n))
  | n + 1, 3 => bodyF N_is_short.length (m_is_short (G_is_function n))
  | n + 1, 4 => bodyF N_is_statement.length (m_is_statement (G_is_function n))
  | _ + 1, _ => badF
noncomputable def F_is_function : List D → Store → R D := G_is_function 60 0
theorem G_is_function_0 (n : Nat) : G_is_function (n + 1) 0 = bodyF N_is_function.length (m_is_function (G_is_function n)) := (rfl)
noncomputable def F_is_term : List D → Store → R D := G_is_function 60 1
theorem G_is_function_1 (n : Nat) : G_is_function (n + 1) 1 = bodyF N_is_term.length (m_is_term (G_is_function n)) := (rfl)
noncomputable def F_is_body : List D → Store → R D := G_is_function 60 2
theorem G_is_function_2 (n : Nat) : G_is_function (n + 1) 2 = bodyF N_is_body.length (m_is_body (G_is_function n)) := (rfl)
noncomputable def F_is_short : List D → Store → R D := G_is_function 60 3
theorem G_is_function_3 (n : Nat) : G_is_function (n + 1) 3 = bodyF N_is_short.length (m_is_short (G_is_function n)) := (rfl)
noncomputable def F_is_statement : List D → Store → R D := G_is_function 60 4
theorem G_is_function_4 (n : Nat) : G_is_function (n + 1) 4 = bodyF N_is_statement.length (m_is_statement (G_is_function n)) := (rfl)
noncomputable def m_inner_of : MS := seqS (setS 1 (binE ixD (varE 0) (conE (.int 0)))) (seqS (ifS (cmpM inD (varE 1) (tupE (consA (conE (.str (Str.ofString "number"))) (consA (conE (.str (Str.ofString "name"))) (nilA))))) (retS (allocE (lstN (nilA)))) (nilS)) (seqS (ifS (cmpM inD (varE 1) (tupE (consA (conE (.str (Str.ofString "do"))) (consA (conE (.str (Str.ofString "hand"))) (consA (conE (.str (Str.ofString "back"))) (nilA)))))) (retS (allocE (lstN (consA (binE ixD (varE 0) (conE (.int 1))) (nilA))))) (nilS)) (seqS (ifS (cmpM inD (varE 1) (tupE (consA (conE (.str (Str.ofString "let"))) (consA (conE (.str (Str.ofString "set"))) (consA (conE (.str (Str.ofString "fault"))) (nilA)))))) (retS (allocE (lstN (consA (binE ixD (varE 0) (conE (.int 2))) (nilA))))) (nilS)) (seqS (ifS (cmpM inD (varE 1) (tupE (consA (conE (.str (Str.ofString "main"))) (consA (conE (.str (Str.ofString "fun"))) (consA (conE (.str (Str.ofString "loop"))) (nilA)))))) (retS (allocE (newL listV (consA (binE ixD (varE 0) (conE (.int 2))) (nilA))))) (nilS)) (seqS (ifS (cmpM inD (varE 1) (tupE (consA (conE (.str (Str.ofString "while"))) (consA (conE (.str (Str.ofString "call"))) (nilA))))) (retS (binE addD (allocE (lstN (consA (binE ixD (varE 0) (conE (.int 1))) (nilA)))) (allocE (newL listV (consA (binE ixD (varE 0) (conE (.int 2))) (nilA)))))) (nilS)) (seqS (ifS (cmpM eqD (varE 1) (conE (.str (Str.ofString "two")))) (retS (allocE (lstN (consA (binE ixD (varE 0) (conE (.int 2))) (consA (binE ixD (varE 0) (conE (.int 3))) (nilA)))))) (nilS)) (seqS (ifS (cmpM eqD (varE 1) (conE (.str (Str.ofString "step")))) (retS (allocE (lstN (consA (binE ixD (varE 0) (conE (.int 1))) (consA (binE ixD (varE 0) (conE (.int 2))) (nilA)))))) (nilS)) (seqS (ifS (cmpM eqD (varE 1) (conE (.str (Str.ofString "if")))) (retS (binE addD (binE addD (allocE (lstN (consA (binE ixD (varE 0) (conE (.int 1))) (nilA)))) (allocE (newL listV (consA (binE ixD (varE 0) (conE (.int 2))) (nilA))))) (allocE (newL listV (consA (binE ixD (varE 0) (conE (.int 3))) (nilA)))))) (nilS)) (retS (binE addD (binE addD (allocE (newL listV (consA (binE ixD (varE 0) (conE (.int 1))) (nilA)))) (allocE (newL listV (consA (binE ixD (varE 0) (conE (.int 4))) (nilA))))) (allocE (newL listV (consA (binE ixD (varE 0) (conE (.int 5))) (nilA))))))))))))))
noncomputable def F_inner_of : List D → Store → R D := bodyF N_inner_of.length m_inner_of
noncomputable def m_size_of (r : Nat → List D → Store → R D) : MS := retS (binE addD (conE (.int 1)) (newL sumL (compN (srcV (callE 1 F_inner_of (consA (varE 0) (nilA)))) (.one 1) (yesM) (callE 1 (r 0) (consA (varE 1) (nilA))))))
noncomputable def G_size_of : Nat → Nat → List D → Store → R D
  | 0, _ => badF
  | n + 1, 0 => bodyF N_size_of.length (m_size_of (G_size_of n))
  | _ + 1, _ => badF
noncomputable def F_size_of : List D → Store → R D := G_size_of 60 0
theorem G_size_of_0 (n : Nat) : G_size_of (n + 1) 0 = bodyF N_size_of.length (m_size_of (G_size_of n)) := (rfl)
noncomputable def m_is_program : MS := seqS (ifS (orM (notM (ofV (callE 3 F_has_word (consA (varE 0) (consA (conE (.str (Str.ofString "main"))) (consA (conE (.int 3)) (nilA))))))) (orM (notM (ofV (callE 1 F_is_names (consA (binE ixD (varE 0) (conE (.int 1))) (nilA))))) (notM (ofV (callE 3 F_is_body (consA (binE ixD (varE 0) (conE (.int 2))) (consA (binE subD (conE (.int 20)) (conE (.int 1))) (consA (conE (.bl true)) (nilA))))))))) (retS (conE (.bl false))) (nilS)) (retS (toV (cmpM leD (callE 1 F_size_of (consA (varE 0) (nilA))) (conE (.int 300)))))
noncomputable def F_is_program : List D → Store → R D := bodyF N_is_program.length m_is_program
noncomputable def b_nested_0 : MS := ifS (cmpM eqD (varE 2) (conE (.str (Str.ofString "(")))) (exprS (lmE appendM (varE 1) (consA (allocE (lstN (nilA))) (nilA)))) (ifS (cmpM eqD (varE 2) (conE (.str (Str.ofString ")")))) (seqS (setS 3 (lmE popM (varE 1) nilA)) (seqS (ifS (cmpM eqLD (varE 1) (allocE (lstN (nilA)))) (raiseS 2) (nilS)) (exprS (lmE appendM (binE ixD (varE 1) (unE negD (conE (.int 1)))) (consA (varE 3) (nilA)))))) (exprS (lmE appendM (binE ixD (varE 1) (unE negD (conE (.int 1)))) (consA (varE 2) (nilA)))))
noncomputable def m_nested : MS := seqS (setS 1 (allocE (lstN (consA (allocE (lstN (nilA))) (nilA))))) (seqS (forS (srcV (varE 0)) (nameT 2) (b_nested_0)) (seqS (ifS (orM (cmpM neD (newL lenV (consA (varE 1) (nilA))) (conE (.int 1))) (cmpM neD (newL lenV (consA (binE ixD (varE 1) (conE (.int 0))) (nilA))) (conE (.int 1)))) (raiseS 2) (nilS)) (retS (binE ixD (binE ixD (varE 1) (conE (.int 0))) (conE (.int 0))))))
noncomputable def F_nested : List D → Store → R D := bodyF N_nested.length m_nested
noncomputable def b_need_text_0 : MS := ifS (andM (cmpM neD (varE 1) (conE (.str (Str.ofString "\n")))) (orM (notM (chainM leD leD (conE (.str (Str.ofString " "))) (varE 1) (conE (.str (Str.ofString "~"))))) (cmpM eqD (newL ordV (consA (varE 1) (nilA))) (conE (.int 37))))) (raiseS 2) (nilS)
noncomputable def m_need_text : MS := seqS (ifS (orM (notM (ofV (toV (isE "str" (varE 0))))) (cmpM gtD (newL lenV (consA (varE 0) (nilA))) (conE (.int 6000)))) (raiseS 2) (nilS)) (forS (srcV (varE 0)) (nameT 1) (b_need_text_0))
noncomputable def F_need_text : List D → Store → R D := bodyF N_need_text.length m_need_text
noncomputable def b_words_of_0 : MS := ifS (cmpM inD (varE 3) (conE (.str (Str.ofString "() \n")))) (seqS (ifS (cmpM neD (varE 2) (conE (.str (Str.ofString "")))) (exprS (lmE appendM (varE 1) (consA (varE 2) (nilA)))) (nilS)) (seqS (setS 2 (conE (.str (Str.ofString "")))) (ifS (cmpM inD (varE 3) (conE (.str (Str.ofString "()")))) (exprS (lmE appendM (varE 1) (consA (varE 3) (nilA)))) (nilS)))) (setS 2 (binE addD (varE 2) (varE 3)))
noncomputable def m_words_of : MS := seqS (exprS (callE 1 F_need_text (consA (varE 0) (nilA)))) (seqS (setS 1 (allocE (lstN (nilA)))) (seqS (setS 2 (conE (.str (Str.ofString "")))) (seqS (forS (srcV (binE addD (varE 0) (conE (.str (Str.ofString " "))))) (nameT 3) (b_words_of_0)) (retS (varE 1)))))
noncomputable def F_words_of : List D → Store → R D := bodyF N_words_of.length m_words_of
noncomputable def m_read : MS := seqS (setS 1 (callE 1 F_nested (consA (callE 1 F_words_of (consA (varE 0) (nilA))) (nilA)))) (seqS (exprS (callE 2 F_need_row (consA (varE 1) (consA (conE (.int 2)) (nilA))))) (seqS (ifS (cmpM neD (binE ixD (varE 1) (conE (.int 0))) (conE (.str (Str.ofString "main")))) (raiseS 2) (nilS)) (seqS (setS 2 (tupE (consA (conE (.str (Str.ofString "main"))) (consA (callE 1 F_names_in (consA (binE ixD (varE 1) (conE (.int 1))) (nilA))) (consA (callE 2 F_body_in (consA (sliceE (varE 1) (someO (conE (.int 2))) (noO)) (consA (binE subD (conE (.int 20)) (conE (.int 1))) (nilA)))) (nilA)))))) (seqS (ifS (notM (ofV (callE 1 F_is_program (consA (varE 2) (nilA))))) (raiseS 2) (nilS)) (retS (varE 2))))))
noncomputable def F_read : List D → Store → R D := bodyF N_read.length m_read
noncomputable def m_in_brackets : MS := retS (binE addD (binE addD (conE (.str (Str.ofString "("))) (joinV (conE (.str (Str.ofString " "))) (varE 0))) (conE (.str (Str.ofString ")"))))
noncomputable def F_in_brackets : List D → Store → R D := bodyF N_in_brackets.length m_in_brackets
noncomputable def m_names_text : MS := retS (callE 1 F_in_brackets (consA (allocE (newL listV (consA (varE 0) (nilA)))) (nilA)))
noncomputable def F_names_text : List D → Store → R D := bodyF N_names_text.length m_names_text
noncomputable def m_body_text (r : Nat → List D → Store → R D) : MS := retS (callE 1 F_in_brackets (consA (allocE (compN (srcV (varE 0)) (.one 1) (yesM) (callE 1 (r 3) (consA (varE 1) (nilA))))) (nilA)))
noncomputable def m_function_text (r : Nat → List D → Store → R D) : MS := retS (callE 1 F_in_brackets (consA (binE addD (allocE (lstN (consA (binE ixD (varE 0) (conE (.int 0))) (consA (callE 1 F_names_text (consA (binE ixD (varE 0) (conE (.int 1))) (nilA))) (nilA))))) (allocE (compN (srcV (binE ixD (varE 0) (conE (.int 2)))) (.one 1) (yesM) (callE 1 (r 3) (consA (varE 1) (nilA)))))) (nilA)))
noncomputable def m_term_text (r : Nat → List D → Store → R D) : MS := seqS (ifS (cmpM eqD (binE ixD (varE 0) (conE (.int 0))) (conE (.str (Str.ofString "number")))) (retS (newL strV (consA (binE ixD (varE 0) (conE (.int 1))) (nilA)))) (nilS)) (seqS (ifS (cmpM eqD (binE ixD (varE 0) (conE (.int 0))) (conE (.str (Str.ofString "name")))) (retS (binE ixD (varE 0) (conE (.int 1)))) (nilS)) (seqS (ifS (cmpM eqD (binE ixD (varE 0) (conE (.int 0))) (conE (.str (Str.ofString "two")))) (retS (callE 1 F_in_brackets (consA (allocE (lstN (consA (binE ixD (varE 0) (conE (.int 1))) (consA (callE 1 (r 2) (consA (binE ixD (varE 0) (conE (.int 2))) (nilA))) (consA (callE 1 (r 2) (consA (binE ixD (varE 0) (conE (.int 3))) (nilA))) (nilA)))))) (nilA)))) (nilS)) (seqS (ifS (cmpM eqD (binE ixD (varE 0) (conE (.int 0))) (conE (.str (Str.ofString "call")))) (retS (callE 1 F_in_brackets (consA (binE addD (allocE (lstN (consA (conE (.str (Str.ofString "call"))) (consA (callE 1 (r 2) (consA (binE ixD (varE 0) (conE (.int 1))) (nilA))) (nilA))))) (allocE (compN (srcV (binE ixD (varE 0) (conE (.int 2)))) (.one 1) (yesM) (callE 1 (r 2) (consA (varE 1) (nilA)))))) (nilA)))) (nilS)) (seqS (ifS (cmpM eqD (binE ixD (varE 0) (conE (.int 0))) (conE (.str (Str.ofString "step")))) (retS (callE 1 F_in_brackets (consA (allocE (lstN (consA (conE (.str (Str.ofString "step"))) (consA (callE 1 (r 2) (consA (binE ixD (varE 0) (conE (.int 1))) (nilA))) (consA (callE 1 (r 2) (consA (binE ixD (varE 0) (conE (.int 2))) (nilA))) (nilA)))))) (nilA)))) (nilS)) (retS (callE 1 (r 1) (consA (varE 0) (nilA))))))))
noncomputable def m_statement_text (r : Nat → List D → Store → R D) : MS := seqS (setS 1 (binE ixD (varE 0) (conE (.int 0)))) (seqS (ifS (cmpM inD (varE 1) (tupE (consA (conE (.str (Str.ofString "do"))) (consA (conE (.str (Str.ofString "hand"))) (consA (conE (.str (Str.ofString "back"))) (nilA)))))) (retS (callE 1 F_in_brackets (consA (allocE (lstN (consA (varE 1) (consA (callE 1 (r 2) (consA (binE ixD (varE 0) (conE (.int 1))) (nilA))) (nilA))))) (nilA)))) (nilS)) (seqS (ifS (cmpM inD (varE 1) (tupE (consA (conE (.str (Str.ofString "let"))) (consA (conE (.str (Str.ofString "set"))) (consA (conE (.str (Str.ofString "fault"))) (nilA)))))) (retS (callE 1 F_in_brackets (consA (allocE (lstN (consA (varE 1) (consA (binE ixD (varE 0) (conE (.int 1))) (consA (callE 1 (r 2) (consA (binE ixD (varE 0) (conE (.int 2))) (nilA))) (nilA)))))) (nilA)))) (nilS)) (seqS (ifS (cmpM eqD (varE 1) (conE (.str (Str.ofString "if")))) (retS (callE 1 F_in_brackets (consA (allocE (lstN (consA (varE 1) (consA (callE 1 (r 2) (consA (binE ixD (varE 0) (conE (.int 1))) (nilA))) (consA (callE 1 (r 0) (consA (binE ixD (varE 0) (conE (.int 2))) (nilA))) (consA (callE 1 (r 0) (consA (binE ixD (varE 0) (conE (.int 3))) (nilA))) (nilA))))))) (nilA)))) (nilS)) (seqS (ifS (cmpM eqD (varE 1) (conE (.str (Str.ofString "while")))) (retS (callE 1 F_in_brackets (consA (allocE (lstN (consA (varE 1) (consA (callE 1 (r 2) (consA (binE ixD (varE 0) (conE (.int 1))) (nilA))) (consA (callE 1 (r 0) (consA (binE ixD (varE 0) (conE (.int 2))) (nilA))) (nilA)))))) (nilA)))) (nilS)) (retS (callE 1 F_in_brackets (consA (allocE (lstN (consA (varE 1) (consA (callE 1 (r 0) (consA (binE ixD (varE 0) (conE (.int 1))) (nilA))) (consA (binE ixD (varE 0) (conE (.int 2))) (consA (binE ixD (varE 0) (conE (.int 3))) (consA (callE 1 (r 0) (consA (binE ixD (varE 0) (conE (.int 4))) (nilA))) (consA (callE 1 (r 0) (consA (binE ixD (varE 0) (conE (.int 5))) (nilA))) (nilA))))))))) (nilA))))))))
noncomputable def G_body_text : Nat → Nat → List D → Store → R D
  | 0, _ => badF
  | n + 1, 0 => bodyF N_body_text.length (m_body_text (G_body_text n))
  | n + 1, 1 => bodyF N_function_text.length (m_function_text (G_body_text n))
  | n + 1, 2 => bodyF N_term_text.length (m_term_text (G_body_text n))
  | n + 1, 3 => bodyF N_statement_text.length (m_statement_text (G_body_text n))
  | _ + 1, _ => badF
noncomputable def F_body_text : List D → Store → R D := G_body_text 60 0
theorem G_body_text_0 (n : Nat) : G_body_text (n + 1) 0 = bodyF N_body_text.length (m_body_text (G_body_text n)) := (rfl)
noncomputable def F_function_text : List D → Store → R D := G_body_text 60 1
theorem G_body_text_1 (n : Nat) : G_body_text (n + 1) 1 = bodyF N_function_text.length (m_function_text (G_body_text n)) := (rfl)
noncomputable def F_term_text : List D → Store → R D := G_body_text 60 2
theorem G_body_text_2 (n : Nat) : G_body_text (n + 1) 2 = bodyF N_term_text.length (m_term_text (G_body_text n)) := (rfl)
noncomputable def F_statement_text : List D → Store → R D := G_body_text 60 3
theorem G_body_text_3 (n : Nat) : G_body_text (n + 1) 3 = bodyF N_statement_text.length (m_statement_text (G_body_text n)) := (rfl)
noncomputable def m_need_program : MS := ifS (notM (ofV (callE 1 F_is_program (consA (varE 0) (nilA))))) (raiseS 1) (nilS)
noncomputable def F_need_program : List D → Store → R D := bodyF N_need_program.length m_need_program
noncomputable def m_shown : MS := seqS (exprS (callE 1 F_need_program (consA (varE 0) (nilA)))) (retS (callE 1 F_function_text (consA (varE 0) (nilA))))
noncomputable def F_shown : List D → Store → R D := bodyF N_shown.length m_shown
noncomputable def b__law_deep_right_0 : MS := seqS (setS 3 (allocE (lstN (consA (tupE (consA (conE (.str (Str.ofString "while"))) (consA (tupE (consA (conE (.str (Str.ofString "number"))) (consA (conE (.int 0)) (nilA)))) (consA (tupE (consA (varE 1) (nilA))) (nilA))))) (consA (tupE (consA (conE (.str (Str.ofString "if"))) (consA (tupE (consA (conE (.str (Str.ofString "number"))) (consA (conE (.int 1)) (nilA)))) (consA (tupE (consA (varE 1) (nilA))) (consA (tupE (nilA)) (nilA)))))) (nilA)))))) (seqS (exprS (lmE appendM (varE 3) (consA (tupE (consA (conE (.str (Str.ofString "if"))) (consA (tupE (consA (conE (.str (Str.ofString "number"))) (consA (conE (.int 0)) (nilA)))) (consA (tupE (nilA)) (consA (tupE (consA (varE 1) (nilA))) (nilA)))))) (nilA)))) (setS 1 (binE ixD (varE 3) (binE modD (binE addD (binE fdivD (varE 0) (conE (.int 9000))) (varE 2)) (conE (.int 3))))))
noncomputable def m__law_deep_right : MS := seqS (setS 1 (tupE (consA (conE (.str (Str.ofString "do"))) (consA (tupE (consA (conE (.str (Str.ofString "number"))) (consA (binE modD (varE 0) (conE (.int 1000))) (nilA)))) (nilA))))) (seqS (forS (srcR1 (consA (binE addD (conE (.int 8)) (binE modD (binE fdivD (varE 0) (conE (.int 1000))) (conE (.int 9)))) (nilA))) (nameT 2) (b__law_deep_right_0)) (seqS (setS 4 (tupE (consA (conE (.str (Str.ofString "main"))) (consA (tupE (nilA)) (consA (tupE (consA (varE 1) (nilA))) (nilA)))))) (seqS (setS 5 (callE 2 F__law_text (consA (callE 1 F__law_function_words (consA (varE 4) (nilA))) (consA (conE .non) (nilA))))) (retS (andV (ofV (toV (cmpM eqD (callE 1 F_shown (consA (varE 4) (nilA))) (varE 5)))) (toV (cmpM eqD (callE 1 F_read (consA (varE 5) (nilA))) (varE 4))))))))
noncomputable def F__law_deep_right : List D → Store → R D := bodyF N__law_deep_right.length m__law_deep_right
noncomputable def m__law_long_right : MS := seqS (setS 1 (conE (.str (Str.ofString "abcdefghijklmnopqrstuvwxyz")))) (seqS (setS 2 (newL tupL (compN (srcR1 (consA (conE (.int 4)) (nilA))) (.one 6) (yesM) (binE addD (joinN (conE (.str (Str.ofString ""))) (compN (srcR1 (consA (conE (.int 7)) (nilA))) (.one 7) (yesM) (binE ixD (varE 1) (binE modD (binE addD (binE addD (varE 0) (binE mulD (conE (.int 3)) (varE 6))) (binE mulD (varE 7) (varE 7))) (conE (.int 26)))))) (binE ixD (varE 1) (varE 6)))))) (seqS (setS 3 (binE mulTD (tupE (consA (tupE (consA (conE (.str (Str.ofString "do"))) (consA (tupE (consA (conE (.str (Str.ofString "fun"))) (consA (varE 2) (consA (tupE (nilA)) (nilA))))) (nilA)))) (nilA))) (conE (.int 12)))) (seqS (setS 4 (tupE (consA (conE (.str (Str.ofString "main"))) (consA (tupE (nilA)) (consA (binE mulTD (tupE (consA (tupE (consA (conE (.str (Str.ofString "if"))) (consA (tupE (consA (conE (.str (Str.ofString "number"))) (consA (conE (.int 7)) (nilA)))) (consA (varE 3) (consA (tupE (nilA)) (nilA)))))) (nilA))) (conE (.int 11))) (nilA)))))) (seqS (setS 5 (callE 2 F__law_text (consA (callE 1 F__law_function_words (consA (varE 4) (nilA))) (consA (conE .non) (nilA))))) (seqS (ifS (orM (cmpM leD (newL lenV (consA (varE 5) (nilA))) (conE (.int 6000))) (cmpM neD (callE 1 F_shown (consA (varE 4) (nilA))) (varE 5))) (retS (conE (.bl false))) (nilS)) (seqS (catchO hit_BadText (exprS (callE 1 F_read (consA (varE 5) (nilA)))) (retS (conE (.bl true)))) (retS (conE (.bl false)))))))))
noncomputable def F__law_long_right : List D → Store → R D := bodyF N__law_long_right.length m__law_long_right
noncomputable def b__law_names_0 : MS := seqS (asgS (subT (varE 4) (binE modD (binE fdivD (varE 0) (conE (.int 8))) (varE 3))) (binE ixD (varE 2) (binE modD (binE addD (binE fdivD (varE 0) (conE (.int 2048))) (binE mulD (conE (.int 7)) (varE 6))) (conE (.int 26))))) (exprS (lmE appendM (varE 5) (consA (joinV (conE (.str (Str.ofString ""))) (sliceE (varE 4) (noO) (someO (varE 3)))) (nilA))))
noncomputable def m__law_names : MS := seqS (setS 2 (conE (.str (Str.ofString "abcdefghijklmnopqrstuvwxyz")))) (seqS (setS 3 (binE addD (conE (.int 1)) (binE modD (varE 0) (conE (.int 8))))) (seqS (setS 4 (allocE (compN (srcR1 (consA (conE (.int 8)) (nilA))) (.one 6) (yesM) (binE ixD (varE 2) (binE modD (binE addD (binE fdivD (varE 0) (conE (.int 64))) (binE mulD (conE (.int 5)) (varE 6))) (conE (.int 26))))))) (seqS (ifS (cmpM eqD (binE modD (binE fdivD (varE 0) (conE (.int 512))) (conE (.int 4))) (conE (.int 1))) (retS (allocE (compN (srcR1 (consA (varE 1) (nilA))) (.one 6) (yesM) (joinV (conE (.str (Str.ofString ""))) (sliceE (varE 4) (noO) (someO (binE addD (varE 6) (conE (.int 1))))))))) (nilS)) (seqS (setS 5 (allocE (lstN (nilA)))) (seqS (forS (srcR1 (consA (varE 1) (nilA))) (nameT 6) (b__law_names_0)) (retS (varE 5)))))))
noncomputable def F__law_names : List D → Store → R D := bodyF N__law_names.length m__law_names
noncomputable def m__law_number : MS := seqS (setS 1 (binE subD (binE modD (varE 0) (binE addD (binE mulD (conE (.int 2)) (binE powD (conE (.int 10)) (conE (.int 12)))) (conE (.int 1)))) (binE powD (conE (.int 10)) (conE (.int 12))))) (retS (binE ixD (allocE (lstN (consA (binE modD (binE fdivD (varE 0) (conE (.int 8))) (conE (.int 10))) (consA (binE subD (binE modD (binE fdivD (varE 0) (conE (.int 8))) (conE (.int 2000))) (conE (.int 1000))) (consA (varE 1) (consA (binE ixD (allocE (lstN (consA (binE powD (conE (.int 10)) (conE (.int 12))) (consA (binE subD (conE (.int 0)) (binE powD (conE (.int 10)) (conE (.int 12)))) (consA (conE (.int 0)) (nilA)))))) (binE modD (binE fdivD (varE 0) (conE (.int 8))) (conE (.int 3)))) (nilA))))))) (binE modD (varE 0) (conE (.int 4)))))
noncomputable def F__law_number : List D → Store → R D := bodyF N__law_number.length m__law_number
noncomputable def m__law_term (r : Nat → List D → Store → R D) : MS := seqS (setS 2 (callE 1 F__law_next (consA (varE 0) (nilA)))) (seqS (asgS (subT (varE 0) (conE (.str (Str.ofString "left")))) (binE subD (binE ixD (varE 0) (conE (.str (Str.ofString "left")))) (conE (.int 1)))) (seqS (setS 3 (binE modD (varE 2) (conE (.int 10)))) (seqS (setS 4 (binE fdivD (varE 2) (conE (.int 10)))) (seqS (setS 5 (binE ixD (varE 0) (conE (.str (Str.ofString "names"))))) (seqS (ifS (orM (cmpM ltD (varE 1) (conE (.int 1))) (cmpM ltD (binE ixD (varE 0) (conE (.str (Str.ofString "left")))) (conE (.int 0)))) (setS 3 (binE modD (varE 3) (conE (.int 2)))) (nilS)) (seqS (ifS (cmpM eqD (varE 3) (conE (.int 0))) (retS (tupE (consA (conE (.str (Str.ofString "number"))) (consA (callE 1 F__law_number (consA (varE 4) (nilA))) (nilA))))) (nilS)) (seqS (ifS (cmpM inD (varE 3) (tupE (consA (conE (.int 1)) (consA (conE (.int 8)) (consA (conE (.int 9)) (nilA)))))) (retS (tupE (consA (conE (.str (Str.ofString "name"))) (consA (binE ixD (varE 5) (binE modD (varE 4) (newL lenV (consA (varE 5) (nilA))))) (nilA))))) (nilS)) (seqS (ifS (cmpM ltD (varE 3) (conE (.int 4))) (retS (tupE (consA (conE (.str (Str.ofString "two"))) (consA (binE ixD (conE (.str (Str.ofString "+-*<="))) (binE modD (varE 4) (conE (.int 5)))) (consA (callE 2 (r 0) (consA (varE 0) (consA (binE subD (varE 1) (conE (.int 1))) (nilA)))) (consA (callE 2 (r 0) (consA (varE 0) (consA (binE subD (varE 1) (conE (.int 1))) (nilA)))) (nilA))))))) (nilS)) (seqS (ifS (cmpM ltD (varE 3) (conE (.int 6))) (seqS (setS 6 (newL tupV (consA (sliceE (varE 5) (someO (binE modD (varE 4) (conE (.int 5)))) (someO (binE addD (binE modD (varE 4) (conE (.int 5))) (binE modD (binE fdivD (varE 4) (conE (.int 5))) (conE (.int 4)))))) (nilA)))) (retS (tupE (consA (binE ixD (allocE (lstN (consA (conE (.str (Str.ofString "fun"))) (consA (conE (.str (Str.ofString "loop"))) (nilA))))) (binE subD (varE 3) (conE (.int 4)))) (consA (varE 6) (consA (callE 3 (r 1) (consA (varE 0) (consA (binE subD (varE 1) (conE (.int 1))) (consA (toV (cmpM eqD (varE 3) (conE (.int 5)))) (nilA))))) (nilA))))))) (nilS)) (seqS (ifS (cmpM eqD (varE 3) (conE (.int 6))) (seqS (setS 7 (callE 2 (r 0) (consA (varE 0) (consA (binE subD (varE 1) (conE (.int 1))) (nilA))))) (retS (tupE (consA (conE (.str (Str.ofString "call"))) (consA (varE 7) (consA (newL tupL (compN (srcR1 (consA (binE modD (varE 4) (conE (.int 5))) (nilA))) (.one 8) (yesM) (callE 2 (r 0) (consA (varE 0) (consA (binE subD (varE 1) (conE (.int 1))) (nilA)))))) (nilA))))))) (nilS)) (retS (tupE (consA (conE (.str (Str.ofString "step"))) (consA (callE 2 (r 0) (consA (varE 0) (consA (binE subD (varE 1) (conE (.int 1))) (nilA)))) (consA (callE 2 (r 0) (consA (varE 0) (consA (binE subD (varE 1) (conE (.int 1))) (nilA)))) (nilA))))))))))))))))
noncomputable def m__law_body (r : Nat → List D → Store → R D) : MS := retS (newL tupL (compN (srcR1 (consA (binE modD (callE 1 F__law_next (consA (varE 0) (nilA))) (conE (.int 4))) (nilA))) (.one 3) (yesM) (callE 3 (r 2) (consA (varE 0) (consA (varE 1) (consA (varE 2) (nilA)))))))
noncomputable def m__law_statement (r : Nat → List D → Store → R D) : MS := seqS (setS 3 (callE 1 F__law_next (consA (varE 0) (nilA)))) (seqS (asgS (subT (varE 0) (conE (.str (Str.ofString "left")))) (binE subD (binE ixD (varE 0) (conE (.str (Str.ofString "left")))) (conE (.int 1)))) (seqS (setS 4 (binE modD (varE 3) (conE (.int 10)))) (seqS (setS 5 (binE ixD (binE ixD (varE 0) (conE (.str (Str.ofString "names")))) (binE modD (binE fdivD (varE 3) (conE (.int 10))) (newL lenV (consA (binE ixD (varE 0) (conE (.str (Str.ofString "names")))) (nilA)))))) (seqS (setS 6 (binE ixD (allocE (lstN (consA (conE (.str (Str.ofString "great"))) (consA (conE (.str (Str.ofString "kind"))) (consA (conE (.str (Str.ofString "any"))) (consA (conE (.str (Str.ofString "unset"))) (consA (varE 5) (nilA)))))))) (binE modD (binE fdivD (varE 3) (conE (.int 100))) (conE (.int 5))))) (seqS (ifS (orM (cmpM ltD (varE 1) (conE (.int 2))) (cmpM ltD (binE ixD (varE 0) (conE (.str (Str.ofString "left")))) (conE (.int 0)))) (setS 4 (binE modD (varE 4) (conE (.int 5)))) (nilS)) (seqS (ifS (andM (cmpM eqD (varE 4) (conE (.int 2))) (notM (ofV (varE 2)))) (setS 4 (conE (.int 3))) (nilS)) (seqS (ifS (cmpM ltD (varE 4) (conE (.int 2))) (retS (tupE (consA (binE ixD (allocE (lstN (consA (conE (.str (Str.ofString "let"))) (consA (conE (.str (Str.ofString "set"))) (nilA))))) (varE 4)) (consA (varE 5) (consA (callE 2 (r 0) (consA (varE 0) (consA (binE subD (varE 1) (conE (.int 1))) (nilA)))) (nilA)))))) (nilS)) (seqS (ifS (cmpM ltD (varE 4) (conE (.int 5))) (retS (tupE (consA (binE ixD (allocE (lstN (consA (conE (.str (Str.ofString "hand"))) (consA (conE (.str (Str.ofString "do"))) (consA (conE (.str (Str.ofString "back"))) (nilA)))))) (binE subD (varE 4) (conE (.int 2)))) (consA (callE 2 (r 0) (consA (varE 0) (consA (binE subD (varE 1) (conE (.int 1))) (nilA)))) (nilA))))) (nilS)) (seqS (ifS (cmpM eqD (varE 4) (conE (.int 5))) (retS (tupE (consA (conE (.str (Str.ofString "fault"))) (consA (binE ixD (allocE (lstN (consA (varE 6) (consA (conE (.str (Str.ofString "anya"))) (nilA))))) (newL intV (consA (toV (cmpM eqD (varE 6) (conE (.str (Str.ofString "any"))))) (nilA)))) (consA (callE 2 (r 0) (consA (varE 0) (consA (binE subD (varE 1) (conE (.int 1))) (nilA)))) (nilA)))))) (nilS)) (seqS (ifS (cmpM eqD (varE 4) (conE (.int 6))) (retS (tupE (consA (conE (.str (Str.ofString "while"))) (consA (callE 2 (r 0) (consA (varE 0) (consA (binE subD (varE 1) (conE (.int 1))) (nilA)))) (consA (callE 3 (r 1) (consA (varE 0) (consA (binE subD (varE 1) (conE (.int 1))) (consA (varE 2) (nilA))))) (nilA)))))) (nilS)) (seqS (ifS (cmpM eqD (varE 4) (conE (.int 7))) (seqS (setS 7 (callE 2 (r 0) (consA (varE 0) (consA (binE subD (varE 1) (conE (.int 1))) (nilA))))) (retS (tupE (consA (conE (.str (Str.ofString "if"))) (consA (varE 7) (consA (callE 3 (r 1) (consA (varE 0) (consA (binE subD (varE 1) (conE (.int 1))) (consA (varE 2) (nilA))))) (consA (callE 3 (r 1) (consA (varE 0) (consA (binE subD (varE 1) (conE (.int 1))) (consA (varE 2) (nilA))))) (nilA)))))))) (nilS)) (seqS (setS 8 (allocE (compN (srcR1 (consA (conE (.int 3)) (nilA))) (.one 9) (yesM) (callE 3 (r 1) (consA (varE 0) (consA (binE subD (varE 1) (conE (.int 1))) (consA (varE 2) (nilA)))))))) (retS (tupE (consA (conE (.str (Str.ofString "try"))) (consA (binE ixD (varE 8) (conE (.int 0))) (consA (varE 6) (consA (varE 5) (consA (binE ixD (varE 8) (conE (.int 1))) (consA (binE ixD (varE 8) (conE (.int 2))) (nilA)))))))))))))))))))))
noncomputable def G__law_term : Nat → Nat → List D → Store → R D
  | 0, _ => badF
  | n + 1, 0 => bodyF N__law_term.length (m__law_term (G__law_term n))
  | n + 1, 1 => bodyF N__law_body.length (m__law_body (G__law_term n))
  | n + 1, 2 => bodyF N__law_statement.length (m__law_statement (G__law_term n))
  | _ + 1, _ => badF
noncomputable def F__law_term : List D → Store → R D := G__law_term 60 0
theorem G__law_term_0 (n : Nat) : G__law_term (n + 1) 0 = bodyF N__law_term.length (m__law_term (G__law_term n)) := (rfl)
noncomputable def F__law_body : List D → Store → R D := G__law_term 60 1
theorem G__law_term_1 (n : Nat) : G__law_term (n + 1) 1 = bodyF N__law_body.length (m__law_body (G__law_term n)) := (rfl)
noncomputable def F__law_statement : List D → Store → R D := G__law_term 60 2
theorem G__law_term_2 (n : Nat) : G__law_term (n + 1) 2 = bodyF N__law_statement.length (m__law_statement (G__law_term n)) := (rfl)
noncomputable def b__law_program_0 : MS := exprS (lmE appendM (varE 4) (consA (callE 3 F__law_statement (consA (varE 3) (consA (binE addD (conE (.int 2)) (binE modD (callE 1 F__law_next (consA (varE 3) (nilA))) (conE (.int 6)))) (consA (conE (.bl true)) (nilA))))) (nilA)))
noncomputable def m__law_program : MS := seqS (setS 2 (callE 2 F__law_names (consA (binE modD (binE mulD (callE 2 F__law_cell_at (consA (varE 0) (consA (conE (.int 0)) (nilA)))) (conE (.int 48271))) (conE (.int 2147483647))) (consA (conE (.int 8)) (nilA))))) (seqS (setS 3 (dictE (consP (conE (.str (Str.ofString "cells"))) (varE 0) (consP (conE (.str (Str.ofString "at"))) (conE (.int 0)) (consP (conE (.str (Str.ofString "left"))) (varE 1) (consP (conE (.str (Str.ofString "names"))) (varE 2) (nilP))))))) (seqS (setS 4 (allocE (lstN (nilA)))) (seqS (whileS (andM (cmpM gtD (binE ixD (varE 3) (conE (.str (Str.ofString "left")))) (conE (.int 0))) (cmpM ltD (newL lenV (consA (varE 4) (nilA))) (binE addD (conE (.int 1)) (binE modD (callE 2 F__law_cell_at (consA (varE 0) (consA (conE (.int 1)) (nilA)))) (conE (.int 6)))))) (b__law_program_0) FU) (retS (tupE (consA (conE (.str (Str.ofString "main"))) (consA (newL tupV (consA (sliceE (varE 2) (noO) (someO (binE modD (callE 2 F__law_cell_at (consA (varE 0) (consA (conE (.int 2)) (nilA)))) (conE (.int 5))))) (nilA))) (consA (newL tupV (consA (varE 4) (nilA))) (nilA)))))))))
noncomputable def F__law_program : List D → Store → R D := bodyF N__law_program.length m__law_program
noncomputable def b_law_0 : MS := ifS (orM (cmpM neD (callE 1 F_read (consA (varE 6) (nilA))) (varE 1)) (cmpM neD (callE 1 F_shown (consA (callE 1 F_read (consA (varE 6) (nilA))) (nilA))) (varE 3))) (retS (conE (.bl false))) (nilS)
noncomputable def m_law : MS := seqS (ifS (notM (ofV (callE 1 F__law_deep_right (consA (callE 2 F__law_cell_at (consA (varE 0) (consA (conE (.int 5)) (nilA)))) (nilA))))) (retS (conE (.bl false))) (nilS)) (seqS (ifS (andM (cmpM eqD (binE modD (callE 2 F__law_cell_at (consA (varE 0) (consA (conE (.int 4)) (nilA)))) (conE (.int 16))) (conE (.int 5))) (notM (ofV (callE 1 F__law_long_right (consA (callE 2 F__law_cell_at (consA (varE 0) (consA (conE (.int 5)) (nilA)))) (nilA)))))) (retS (conE (.bl false))) (nilS)) (seqS (setS 1 (callE 2 F__law_program (consA (varE 0) (consA (conE (.int 40)) (nilA))))) (seqS (setS 2 (callE 1 F__law_function_words (consA (varE 1) (nilA)))) (seqS (setS 3 (callE 2 F__law_text (consA (varE 2) (consA (conE .non) (nilA))))) (seqS (ifS (cmpM gtD (newL lenV (consA (varE 3) (nilA))) (conE (.int 2000))) (retS (conE (.bl true))) (nilS)) (seqS (setS 4 (callE 2 F__law_text (consA (varE 2) (consA (dictE (consP (conE (.str (Str.ofString "cells"))) (varE 0) (consP (conE (.str (Str.ofString "at"))) (conE (.int 7)) (nilP)))) (nilA))))) (seqS (setS 5 (callE 1 F_shown (consA (varE 1) (nilA)))) (seqS (ifS (orM (notM (ofV (toV (isE "str" (varE 5))))) (orM (cmpM neD (varE 5) (varE 3)) (cmpM neD (callE 1 F_shown (consA (varE 1) (nilA))) (varE 3)))) (retS (conE (.bl false))) (nilS)) (seqS (forS (srcV (tupE (consA (varE 3) (consA (varE 4) (consA (varE 3) (nilA)))))) (nameT 6) (b_law_0)) (retS (conE (.bl true))))))))))))
noncomputable def F_law : List D → Store → R D := bodyF N_law.length m_law
structure Txt (K : PySem.W.Frag) (mg : Str → Option Value) (cA : Nat → Addr) : Prop where
  e_BadTree : ExcK K mg "BadTree" (cA 1)
  e_BadText : ExcK K mg "BadText" (cA 2)
  n_BadText : mg "BadText" = some (.ref (cA 2))
  h_BadText : ∀ k b, hit_BadText k = some b → PySem.W.exmOne K (.ref (cA k)) (.ref (cA 2)) = some b
  b_all : mg "all" = none
  b_bool : mg "bool" = none
  b_int : mg "int" = none
  b_isinstance : mg "isinstance" = none
  b_len : mg "len" = none
  b_list : mg "list" = none
  b_max : mg "max" = none
  b_ord : mg "ord" = none
  b_range : mg "range" = none
  b_set : mg "set" = none
  b_str : mg "str" = none
  b_sum : mg "sum" = none
  b_tuple : mg "tuple" = none
  g_GREATEST : ∃ t, mg "GREATEST" = some (.int 1000000000000 t)
  g_MOST_DEPTH : ∃ t, mg "MOST_DEPTH" = some (.int 20 t)
  g_MOST_LETTERS : ∃ t, mg "MOST_LETTERS" = some (.int 8 t)
  g_MOST_NAMES : ∃ t, mg "MOST_NAMES" = some (.int 4 t)
  g_MOST_PARTS : ∃ t, mg "MOST_PARTS" = some (.int 300 t)
  g_MOST_SIGNS : ∃ t, mg "MOST_SIGNS" = some (.int 6000 t)
  g_MOST_STATEMENTS : ∃ t, mg "MOST_STATEMENTS" = some (.int 12 t)
  g_MOST_TERMS : ∃ t, mg "MOST_TERMS" = some (.int 4 t)
  g_MOST_WORD : ∃ t, mg "MOST_WORD" = some (.int 13 t)
  g_PERCENT : ∃ t, mg "PERCENT" = some (.int 37 t)
  g_SIGNS : ∃ a, mg "SIGNS" = some (.ref a) ∧ ∀ H, SqT K H a (([Str.ofString "+", Str.ofString "-", Str.ofString "*", Str.ofString "<", Str.ofString "="] : List Str).map V.str)
section
variable {P : Program} {w : World} {K : PySem.W.Frag} {mg : Str → Option Value} {base : Heap} {cA : Nat → Addr}
theorem ok__law_cell_at {f : Addr} {fd : FuncData} (F : Fun K "_law_cell_at" "_law_cell_at" s__law_cell_at f fd) (T : Txt K mg cA)  : FnOk P w K mg base (L2.CX P w) 1 f fd ["_law_script", "_law_k"] (spM K cA F__law_cell_at 2) :=
  defM F sc__law_cell_at fun cdv A outer s H E hr => by
    unfold m__law_cell_at
    exact (scons (sif (mcmpT op_ltM (mvar (i := 1) rfl (.inl rfl)) (mcallV st_V c_lenV rfl T.b_len bt_len (acons (mvar (i := 0) rfl (.inl rfl)) anil)) (nomark _)) (sone (sret (mix (hu_of hr) (mvar (i := 0) rfl (.inl rfl)) (mvar (i := 1) rfl (.inl rfl))))) snil) (sone (sret mint)))
theorem ok__law_bodies {r : Nat → List D → Store → R D} {dd : Nat} (hlev : 0 ≤ dd) {f : Addr} {fd : FuncData} (F : Fun K "_law_bodies" "_law_bodies" s__law_bodies f fd) (T : Txt K mg cA) (C__law_words : FnM P w K mg base cA dd "_law_words" 1 (r 3)) : FnOk P w K mg base (L2.CX P w) (dd + 1) f fd ["_law_body_here"] (spM K cA (bodyF N__law_bodies.length (m__law_bodies r)) 1) :=
  defM F sc__law_bodies fun cdv A outer s H E hr => by
    unfold m__law_bodies
    exact (scons (sset (i := 1) sc__law_bodies.nd rfl (.inl rfl) (malloc (mlst (acons mstr anil)))) (scons (sfor own_def rfl (isrc (mvar (i := 0) rfl (.inl rfl))) (gname (i := 2) sc__law_bodies.nd rfl (.inl rfl)) (sone (sset (i := 1) sc__law_bodies.nd rfl (.inl rfl) (mbin op_addM (mvar (i := 1) rfl (.inl rfl)) (mcall C__law_words (by omega) hr pass_def rfl (acons (mvar (i := 2) rfl (.inl rfl)) anil)))))) (sone (sret (mbin op_addM (mvar (i := 1) rfl (.inl rfl)) (malloc (mlst (acons mstr anil))))))))
theorem ok__law_function_words {r : Nat → List D → Store → R D} {dd : Nat} (hlev : 0 ≤ dd) {f : Addr} {fd : FuncData} (F : Fun K "_law_function_words" "_law_function_words" s__law_function_words f fd) (T : Txt K mg cA) (C__law_bodies : FnM P w K mg base cA dd "_law_bodies" 1 (r 0)) : FnOk P w K mg base (L2.CX P w) (dd + 1) f fd ["_law_part"] (spM K cA (bodyF N__law_function_words.length (m__law_function_words r)) 1) :=
  defM F sc__law_function_words fun cdv A outer s H E hr => by
    unfold m__law_function_words
    exact (sone (sret (mbin op_addM (mbin op_addM (mbin op_addM (malloc (mlst (acons mstr (acons (mix (hu_of hr) (mvar (i := 0) rfl (.inl rfl)) mint) (acons mstr anil))))) (malloc (mtyV st_New (c_list rfl) rfl T.b_list bt_list (acons (mix (hu_of hr) (mvar (i := 0) rfl (.inl rfl)) mint) anil)))) (malloc (mlst (acons mstr anil)))) (mslice (mcall C__law_bodies (by omega) hr pass_def rfl (acons (mix (hu_of hr) (mvar (i := 0) rfl (.inl rfl)) mint) anil)) (osome mint) ono))))
theorem ok__law_term_words {r : Nat → List D → Store → R D} {dd : Nat} (hlev : 0 ≤ dd) {f : Addr} {fd : FuncData} (F : Fun K "_law_term_words" "_law_term_words" s__law_term_words f fd) (T : Txt K mg cA) (C__law_function_words : FnM P w K mg base cA dd "_law_function_words" 1 (r 1)) (C__law_term_words : FnM P w K mg base cA dd "_law_term_words" 1 (r 2)) : FnOk P w K mg base (L2.CX P w) (dd + 1) f fd ["_law_term_here"] (spM K cA (bodyF N__law_term_words.length (m__law_term_words r)) 1) :=
  defM F sc__law_term_words fun cdv A outer s H E hr => by
    unfold m__law_term_words
    exact (scons (sif (mcmpT (op_eqM hr.units) (mix (hu_of hr) (mvar (i := 0) rfl (.inl rfl)) mint) mstr (nomark _)) (sone (sret (malloc (mlst (acons (mtyV st_V c_str rfl T.b_str bt_str (acons (mix (hu_of hr) (mvar (i := 0) rfl (.inl rfl)) mint) anil)) anil))))) snil) (scons (sif (mcmpT (op_eqM hr.units) (mix (hu_of hr) (mvar (i := 0) rfl (.inl rfl)) mint) mstr (nomark _)) (sone (sret (malloc (mlst (acons (mix (hu_of hr) (mvar (i := 0) rfl (.inl rfl)) mint) anil))))) snil) (scons (sif (mcmpT (op_eqM hr.units) (mix (hu_of hr) (mvar (i := 0) rfl (.inl rfl)) mint) mstr (nomark _)) (sone (sret (mbin op_addM (mbin op_addM (mbin op_addM (malloc (mlst (acons mstr (acons (mix (hu_of hr) (mvar (i := 0) rfl (.inl rfl)) mint) anil)))) (mcall C__law_term_words (by omega) hr pass_def rfl (acons (mix (hu_of hr) (mvar (i := 0) rfl (.inl rfl)) mint) anil))) (mcall C__law_term_words (by omega) hr pass_def rfl (acons (mix (hu_of hr) (mvar (i := 0) rfl (.inl rfl)) mint) anil))) (malloc (mlst (acons mstr anil)))))) snil) (scons (sif (mcmpT (op_inM (hu_of hr)) (mix (hu_of hr) (mvar (i := 0) rfl (.inl rfl)) mint) (mtup (acons mstr (acons mstr anil))) rfl) (sone (sret (mcall C__law_function_words (by omega) hr pass_def rfl (acons (mvar (i := 0) rfl (.inl rfl)) anil)))) snil) (scons (sset (i := 1) sc__law_term_words.nd rfl (.inl rfl) (mbin op_addM (malloc (mlst (acons mstr (acons (mix (hu_of hr) (mvar (i := 0) rfl (.inl rfl)) mint) anil)))) (mcall C__law_term_words (by omega) hr pass_def rfl (acons (mix (hu_of hr) (mvar (i := 0) rfl (.inl rfl)) mint) anil)))) (scons (sfor own_def rfl (isrc (mif (mcmpT (op_eqM hr.units) (mix (hu_of hr) (mvar (i := 0) rfl (.inl rfl)) mint) mstr (nomark _)) (malloc (mtyV st_New (c_list rfl) rfl T.b_list bt_list (acons (mix (hu_of hr) (mvar (i := 0) rfl (.inl rfl)) mint) anil))) (malloc (mlst (acons (mix (hu_of hr) (mvar (i := 0) rfl (.inl rfl)) mint) anil))))) (gname (i := 2) sc__law_term_words.nd rfl (.inl rfl)) (sone (sset (i := 1) sc__law_term_words.nd rfl (.inl rfl) (mbin op_addM (mvar (i := 1) rfl (.inl rfl)) (mcall C__law_term_words (by omega) hr pass_def rfl (acons (mvar (i := 2) rfl (.inl rfl)) anil)))))) (sone (sret (mbin op_addM (mvar (i := 1) rfl (.inl rfl)) (malloc (mlst (acons mstr anil))))))))))))
theorem ok__law_words {r : Nat → List D → Store → R D} {dd : Nat} (hlev : 0 ≤ dd) {f : Addr} {fd : FuncData} (F : Fun K "_law_words" "_law_words" s__law_words f fd) (T : Txt K mg cA) (C__law_bodies : FnM P w K mg base cA dd "_law_bodies" 1 (r 0)) (C__law_term_words : FnM P w K mg base cA dd "_law_term_words" 1 (r 2)) : FnOk P w K mg base (L2.CX P w) (dd + 1) f fd ["_law_one"] (spM K cA (bodyF N__law_words.length (m__law_words r)) 1) :=
  defM F sc__law_words fun cdv A outer s H E hr => by
    unfold m__law_words
    exact (scons (sset (i := 1) sc__law_words.nd rfl (.inl rfl) (mix (hu_of hr) (mvar (i := 0) rfl (.inl rfl)) mint)) (scons (sif (mcmpT (op_inM (hu_of hr)) (mvar (i := 1) rfl (.inl rfl)) (mtup (acons mstr (acons mstr (acons mstr anil)))) rfl) (sone (sret (mbin op_addM (mbin op_addM (malloc (mlst (acons mstr (acons (mvar (i := 1) rfl (.inl rfl)) anil)))) (mcall C__law_term_words (by omega) hr pass_def rfl (acons (mix (hu_of hr) (mvar (i := 0) rfl (.inl rfl)) mint) anil))) (malloc (mlst (acons mstr anil)))))) snil) (scons (sif (mcmpT (op_inM (hu_of hr)) (mvar (i := 1) rfl (.inl rfl)) (mtup (acons mstr (acons mstr (acons mstr anil)))) rfl) (sone (sret (mbin op_addM (mbin op_addM (malloc (mlst (acons mstr (acons (mvar (i := 1) rfl (.inl rfl)) (acons (mix (hu_of hr) (mvar (i := 0) rfl (.inl rfl)) mint) anil))))) (mcall C__law_term_words (by omega) hr pass_def rfl (acons (mix (hu_of hr) (mvar (i := 0) rfl (.inl rfl)) mint) anil))) (malloc (mlst (acons mstr anil)))))) snil) (scons (sif (mcmpT (op_eqM hr.units) (mvar (i := 1) rfl (.inl rfl)) mstr (nomark _)) (sone (sret (mbin op_addM (mbin op_addM (mbin op_addM (mbin op_addM (mbin op_addM (malloc (mlst (acons mstr (acons (mvar (i := 1) rfl (.inl rfl)) anil)))) (mcall C__law_bodies (by omega) hr pass_def rfl (acons (mix (hu_of hr) (mvar (i := 0) rfl (.inl rfl)) mint) anil))) (malloc (mlst (acons (mix (hu_of hr) (mvar (i := 0) rfl (.inl rfl)) mint) (acons (mix (hu_of hr) (mvar (i := 0) rfl (.inl rfl)) mint) anil))))) (mcall C__law_bodies (by omega) hr pass_def rfl (acons (mix (hu_of hr) (mvar (i := 0) rfl (.inl rfl)) mint) anil))) (mcall C__law_bodies (by omega) hr pass_def rfl (acons (mix (hu_of hr) (mvar (i := 0) rfl (.inl rfl)) mint) anil))) (malloc (mlst (acons mstr anil)))))) snil) (scons (sset (i := 2) sc__law_words.nd rfl (.inl rfl) (mbin op_addM (mbin op_addM (malloc (mlst (acons mstr (acons (mvar (i := 1) rfl (.inl rfl)) anil)))) (mcall C__law_term_words (by omega) hr pass_def rfl (acons (mix (hu_of hr) (mvar (i := 0) rfl (.inl rfl)) mint) anil))) (mcall C__law_bodies (by omega) hr pass_def rfl (acons (mix (hu_of hr) (mvar (i := 0) rfl (.inl rfl)) mint) anil)))) (scons (sif (mcmpT (op_eqM hr.units) (mvar (i := 1) rfl (.inl rfl)) mstr (nomark _)) (sone (sset (i := 2) sc__law_words.nd rfl (.inl rfl) (mbin op_addM (mvar (i := 2) rfl (.inl rfl)) (mcall C__law_bodies (by omega) hr pass_def rfl (acons (mix (hu_of hr) (mvar (i := 0) rfl (.inl rfl)) mint) anil))))) snil) (sone (sret (mbin op_addM (mvar (i := 2) rfl (.inl rfl)) (malloc (mlst (acons mstr anil))))))))))))
theorem rec__law_bodies {f__law_bodies : Addr} {fd__law_bodies : FuncData} (F__law_bodies : Fun K "_law_bodies" "_law_bodies" s__law_bodies f__law_bodies fd__law_bodies) (g__law_bodies : mg "_law_bodies" = some (.ref f__law_bodies)) (B__law_bodies : Binds K fd__law_bodies ["_law_body_here"] []) {f__law_function_words : Addr} {fd__law_function_words : FuncData} (F__law_function_words : Fun K "_law_function_words" "_law_function_words" s__law_function_words f__law_function_words fd__law_function_words) (g__law_function_words : mg "_law_function_words" = some (.ref f__law_function_words)) (B__law_function_words : Binds K fd__law_function_words ["_law_part"] []) {f__law_term_words : Addr} {fd__law_term_words : FuncData} (F__law_term_words : Fun K "_law_term_words" "_law_term_words" s__law_term_words f__law_term_words fd__law_term_words) (g__law_term_words : mg "_law_term_words" = some (.ref f__law_term_words)) (B__law_term_words : Binds K fd__law_term_words ["_law_term_here"] []) {f__law_words : Addr} {fd__law_words : FuncData} (F__law_words : Fun K "_law_words" "_law_words" s__law_words f__law_words fd__law_words) (g__law_words : mg "_law_words" = some (.ref f__law_words)) (B__law_words : Binds K fd__law_words ["_law_one"] []) (T : Txt K mg cA)  : ∀ n : Nat, FnM P w K mg base cA (0 + n) "_law_bodies" 1 (G__law_bodies n 0) ∧ FnM P w K mg base cA (0 + n) "_law_function_words" 1 (G__law_bodies n 1) ∧ FnM P w K mg base cA (0 + n) "_law_term_words" 1 (G__law_bodies n 2) ∧ FnM P w K mg base cA (0 + n) "_law_words" 1 (G__law_bodies n 3)
  | 0 => ⟨⟨⟨f__law_bodies, fd__law_bodies, _, g__law_bodies, F__law_bodies.kp, B__law_bodies, ok_bad rfl⟩⟩, ⟨⟨f__law_function_words, fd__law_function_words, _, g__law_function_words, F__law_function_words.kp, B__law_function_words, ok_bad rfl⟩⟩, ⟨⟨f__law_term_words, fd__law_term_words, _, g__law_term_words, F__law_term_words.kp, B__law_term_words, ok_bad rfl⟩⟩, ⟨⟨f__law_words, fd__law_words, _, g__law_words, F__law_words.kp, B__law_words, ok_bad rfl⟩⟩⟩
  | n + 1 => by
    have ih := rec__law_bodies F__law_bodies g__law_bodies B__law_bodies F__law_function_words g__law_function_words B__law_function_words F__law_term_words g__law_term_words B__law_term_words F__law_words g__law_words B__law_words T  n
    obtain ⟨C__law_bodies, C__law_function_words, C__law_term_words, C__law_words⟩ := ih
    exact ⟨.mk' F__law_bodies g__law_bodies B__law_bodies (ok__law_bodies (r := G__law_bodies n) (Nat.le_add_right 0 n) F__law_bodies T (C__law_words := C__law_words)), .mk' F__law_function_words g__law_function_words B__law_function_words (ok__law_function_words (r := G__law_bodies n) (Nat.le_add_right 0 n) F__law_function_words T (C__law_bodies := C__law_bodies)), .mk' F__law_term_words g__law_term_words B__law_term_words (ok__law_term_words (r := G__law_bodies n) (Nat.le_add_right 0 n) F__law_term_words T (C__law_function_words := C__law_function_words) (C__law_term_words := C__law_term_words)), .mk' F__law_words g__law_words B__law_words (ok__law_words (r := G__law_bodies n) (Nat.le_add_right 0 n) F__law_words T (C__law_bodies := C__law_bodies) (C__law_term_words := C__law_term_words))⟩
theorem ok__law_next {f : Addr} {fd : FuncData} (F : Fun K "_law_next" "_law_next" s__law_next f fd) (T : Txt K mg cA) (C__law_cell_at : FnM P w K mg base cA 1 "_law_cell_at" 2 F__law_cell_at) : FnOk P w K mg base (L2.CX P w) 2 f fd ["_law_state"] (spM K cA F__law_next 1) :=
  defM F sc__law_next fun cdv A outer s H E hr => by
    unfold m__law_next
    exact (scons (sasg (mbin op_addM (mix (hu_of hr) (mvar (i := 0) rfl (.inl rfl)) mstr) mint) (gsub (hu_of hr) (mvar (i := 0) rfl (.inl rfl)) mstr)) (scons (sset (i := 1) sc__law_next.nd rfl (.inl rfl) (mix (hu_of hr) (mvar (i := 0) rfl (.inl rfl)) mstr)) (scons (sset (i := 2) sc__law_next.nd rfl (.inl rfl) (mcall C__law_cell_at (by decide) hr pass_def rfl (acons (mix (hu_of hr) (mvar (i := 0) rfl (.inl rfl)) mstr) (acons (mbin op_modM (mvar (i := 1) rfl (.inl rfl)) (mcallV st_V (c_max rfl) rfl T.b_max bt_max (acons mint (acons (mcallV st_V c_lenV rfl T.b_len bt_len (acons (mix (hu_of hr) (mvar (i := 0) rfl (.inl rfl)) mstr) anil)) anil)))) anil)))) (sone (sret (mbin op_fdivM (mbin op_modM (mbin op_addM (mbin op_mulM (mvar (i := 2) rfl (.inl rfl)) mint) (mbin op_mulM (mbin op_mulM (mvar (i := 1) rfl (.inl rfl)) (mvar (i := 1) rfl (.inl rfl))) mint)) mint) mint))))))
theorem ok__law_text {f : Addr} {fd : FuncData} (F : Fun K "_law_text" "_law_text" s__law_text f fd) (T : Txt K mg cA) (C__law_next : FnM P w K mg base cA 2 "_law_next" 1 F__law_next) : FnOk P w K mg base (L2.CX P w) 3 f fd ["_law_words_here", "_law_state"] (spM K cA F__law_text 2) :=
  defM F sc__law_text fun cdv A outer s H E hr => by
    unfold m__law_text
    exact (scons (sset (i := 2) sc__law_text.nd rfl (.inl rfl) mstr) (scons (sfor own_def rfl (irng1 rfl T.b_range (acons (mcallV st_V c_lenV rfl T.b_len bt_len (acons (mvar (i := 0) rfl (.inl rfl)) anil)) anil)) (gname (i := 3) sc__law_text.nd rfl (.inl rfl)) (scons (sset (i := 4) sc__law_text.nd rfl (.inl rfl) (mor (mcmp (op_eqM hr.units) (mvar (i := 3) rfl (.inl rfl)) mint (nomark _)) (mor (mcmp (op_eqM hr.units) (mix (hu_of hr) (mvar (i := 0) rfl (.inl rfl)) (mbin op_subM (mvar (i := 3) rfl (.inl rfl)) mint)) mstr (nomark _)) (mone (mcmp (op_eqM hr.units) (mix (hu_of hr) (mvar (i := 0) rfl (.inl rfl)) (mvar (i := 3) rfl (.inl rfl))) mstr (nomark _)))))) (sone (sif (mcmpT op_isM (mvar (i := 1) rfl (.inl rfl)) mnon (nomark _)) (sone (sset (i := 2) sc__law_text.nd rfl (.inl rfl) (mbin op_addM (mbin op_addM (mvar (i := 2) rfl (.inl rfl)) (mix (hu_of hr) (malloc (mlst (acons mstr (acons mstr anil)))) (mtyV st_V c_int rfl T.b_int bt_int (acons (mvar (i := 4) rfl (.inl rfl)) anil)))) (mix (hu_of hr) (mvar (i := 0) rfl (.inl rfl)) (mvar (i := 3) rfl (.inl rfl)))))) (scons (sset (i := 4) sc__law_text.nd rfl (.inl rfl) (mor (mcmp (op_eqM hr.units) (mvar (i := 3) rfl (.inl rfl)) mint (nomark _)) (mor (mcmp (op_inTM (hu_of hr)) (mix (hu_of hr) (mvar (i := 0) rfl (.inl rfl)) (mbin op_subM (mvar (i := 3) rfl (.inl rfl)) mint)) mstr rfl) (mone (mcmp (op_inTM (hu_of hr)) (mix (hu_of hr) (mvar (i := 0) rfl (.inl rfl)) (mvar (i := 3) rfl (.inl rfl))) mstr rfl))))) (scons (sset (i := 5) sc__law_text.nd rfl (.inl rfl) (malloc (mlst (acons mstr (acons mstr (acons mstr (acons mstr (acons (mix (hu_of hr) (malloc (mlst (acons mstr (acons mstr anil)))) (mtyV st_V c_int rfl T.b_int bt_int (acons (mnot (mvar (i := 4) rfl (.inl rfl))) anil))) (acons (mix (hu_of hr) (malloc (mlst (acons mstr (acons mstr anil)))) (mtyV st_V c_int rfl T.b_int bt_int (acons (mnot (mvar (i := 4) rfl (.inl rfl))) anil))) anil))))))))) (sone (sset (i := 2) sc__law_text.nd rfl (.inl rfl) (mbin op_addM (mbin op_addM (mvar (i := 2) rfl (.inl rfl)) (mix (hu_of hr) (mvar (i := 5) rfl (.inl rfl)) (mbin op_modM (mcall C__law_next (by decide) hr pass_def rfl (acons (mvar (i := 1) rfl (.inl rfl)) anil)) mint))) (mix (hu_of hr) (mvar (i := 0) rfl (.inl rfl)) (mvar (i := 3) rfl (.inl rfl)))))))))))) (sone (sret (mvar (i := 2) rfl (.inl rfl))))))
theorem ok_names_in {f : Addr} {fd : FuncData} (F : Fun K "names_in" "names_in" s_names_in f fd) (T : Txt K mg cA)  : FnOk P w K mg base (L2.CX P w) 1 f fd ["row"] (spM K cA F_names_in 1) :=
  defM F sc_names_in fun cdv A outer s H E hr => by
    unfold m_names_in
    exact (scons (sif (PW.pt (morT (mnotT (mval (misi ok_list (mvar (i := 0) rfl (.inl rfl)) rfl T.b_isinstance rfl T.b_list bt_list bt_isinstance))) (mor1 (mnotT (mval (mcallN st_V (c_all rfl) rfl T.b_all bt_all (mcomp (t := .one 1) (own := [("name", 1)]) rfl rfl sc_names_in.nd (isrc (mvar (i := 0) rfl (.inl rfl))) (blkOk_by (N := N_names_in) (sc := defScope s_names_in) (by decide +kernel)) (fun _ _ _ _ _ => pg_name (i := 1) sc_names_in.nd rfl (Or.inl rfl)) (fun _ _ _ _ _ => tyes) (fun _ _ _ _ _ => (misi ok_str (mvar (i := 1) rfl (.inl rfl)) rfl T.b_isinstance rfl T.b_str bt_str bt_isinstance))))))))) (sone (sraise (k := 2) T.e_BadText (takes_of rfl rfl rfl rfl) rfl rfl)) snil) (sone (sret (mtyV st_V c_tupV rfl T.b_tuple bt_tuple (acons (mvar (i := 0) rfl (.inl rfl)) anil)))))
theorem ok_need_row {f : Addr} {fd : FuncData} (F : Fun K "need_row" "need_row" s_need_row f fd) (T : Txt K mg cA)  : FnOk P w K mg base (L2.CX P w) 1 f fd ["row", "least"] (spM K cA F_need_row 2) :=
  defM F sc_need_row fun cdv A outer s H E hr => by
    unfold m_need_row
    exact (sone (sif (PW.pt (morT (mnotT (mval (misi ok_list (mvar (i := 0) rfl (.inl rfl)) rfl T.b_isinstance rfl T.b_list bt_list bt_isinstance))) (morT (mcmpT op_ltM (mcallV st_V c_lenV rfl T.b_len bt_len (acons (mvar (i := 0) rfl (.inl rfl)) anil)) (mvar (i := 1) rfl (.inl rfl)) (nomark _)) (mor1 (mnotT (mval (misi ok_str (mix (hu_of hr) (mvar (i := 0) rfl (.inl rfl)) mint) rfl T.b_isinstance rfl T.b_str bt_str bt_isinstance))))))) (sone (sraise (k := 2) T.e_BadText (takes_of rfl rfl rfl rfl) rfl rfl)) snil))
theorem ok_is_name {f : Addr} {fd : FuncData} (F : Fun K "is_name" "is_name" s_is_name f fd) (T : Txt K mg cA)  : FnOk P w K mg base (L2.CX P w) 1 f fd ["thing"] (spM K cA F_is_name 1) :=
  defM F sc_is_name fun cdv A outer s H E hr => by
    unfold m_is_name
    exact (scons (sif (PW.pt (morT (mnotT (mval (misi ok_str (mvar (i := 0) rfl (.inl rfl)) rfl T.b_isinstance rfl T.b_str bt_str bt_isinstance))) (mor1 (mnotT (mchainT op_leM op_leM mint (mcallV st_V c_lenV rfl T.b_len bt_len (acons (mvar (i := 0) rfl (.inl rfl)) anil)) (mgint rfl T.g_MOST_LETTERS)))))) (sone (sret mbl)) snil) (sone (sret (mcallN st_V (c_all rfl) rfl T.b_all bt_all (mcomp (t := .one 1) (own := [("sign", 1)]) rfl rfl sc_is_name.nd (isrc (mvar (i := 0) rfl (.inl rfl))) (blkOk_by (N := N_is_name) (sc := defScope s_is_name) (by decide +kernel)) (fun _ _ _ _ _ => pg_name (i := 1) sc_is_name.nd rfl (Or.inl rfl)) (fun _ _ _ _ _ => tyes) (fun _ _ _ _ _ => (mchain op_leM op_leM mstr (mvar (i := 1) rfl (.inl rfl)) mstr)))))))
theorem ok_is_number {f : Addr} {fd : FuncData} (F : Fun K "is_number" "is_number" s_is_number f fd) (T : Txt K mg cA)  : FnOk P w K mg base (L2.CX P w) 1 f fd ["thing"] (spM K cA F_is_number 1) :=
  defM F sc_is_number fun cdv A outer s H E hr => by
    unfold m_is_number
    exact (sone (sret (mand (misi ok_int (mvar (i := 0) rfl (.inl rfl)) rfl T.b_isinstance rfl T.b_int bt_int bt_isinstance) (mand (mnot (misi ok_bool (mvar (i := 0) rfl (.inl rfl)) rfl T.b_isinstance rfl T.b_bool bt_bool bt_isinstance)) (mone (mchain op_leM op_leM (mbin op_subM mint (mgint rfl T.g_GREATEST)) (mvar (i := 0) rfl (.inl rfl)) (mgint rfl T.g_GREATEST)))))))
theorem ok_number_of {f : Addr} {fd : FuncData} (F : Fun K "number_of" "number_of" s_number_of f fd) (T : Txt K mg cA) (C_is_number : FnM P w K mg base cA 1 "is_number" 1 F_is_number) : FnOk P w K mg base (L2.CX P w) 2 f fd ["word"] (spM K cA F_number_of 1) :=
  defM F sc_number_of fun cdv A outer s H E hr => by
    unfold m_number_of
    exact (scons (sset (i := 1) sc_number_of.nd rfl (.inl rfl) (mvar (i := 0) rfl (.inl rfl))) (scons (sif (mcmpT (op_eqM hr.units) (mslice (mvar (i := 0) rfl (.inl rfl)) ono (osome mint)) mstr (nomark _)) (sone (sset (i := 1) sc_number_of.nd rfl (.inl rfl) (mslice (mvar (i := 0) rfl (.inl rfl)) (osome mint) ono))) snil) (scons (sif (PW.pt (morT (mnotT (mchainT op_leM op_leM mint (mcallV st_V c_lenV rfl T.b_len bt_len (acons (mvar (i := 1) rfl (.inl rfl)) anil)) (mgint rfl T.g_MOST_WORD))) (mor1 (mnotT (mval (mcallN st_V (c_all rfl) rfl T.b_all bt_all (mcomp (t := .one 3) (own := [("sign", 3)]) rfl rfl sc_number_of.nd (isrc (mvar (i := 1) rfl (.inl rfl))) (blkOk_by (N := N_number_of) (sc := defScope s_number_of) (by decide +kernel)) (fun _ _ _ _ _ => pg_name (i := 3) sc_number_of.nd rfl (Or.inl rfl)) (fun _ _ _ _ _ => tyes) (fun _ _ _ _ _ => (mchain op_leM op_leM mstr (mvar (i := 3) rfl (.inl rfl)) mstr))))))))) (sone (sret mnon)) snil) (scons (sif (PW.pt (mandT (mcmpT (op_eqM hr.units) (mix (hu_of hr) (mvar (i := 1) rfl (.inl rfl)) mint) mstr (nomark _)) (mand1 (mcmpT (op_neM hr.units) (mvar (i := 0) rfl (.inl rfl)) mstr (nomark _))))) (sone (sret mnon)) snil) (scons (sset (i := 2) sc_number_of.nd rfl (.inl rfl) (mtyV st_V c_intX rfl T.b_int bt_int (acons (mvar (i := 0) rfl (.inl rfl)) anil))) (scons (sif (mnotT (mval (mcall C_is_number (by decide) hr pass_def rfl (acons (mvar (i := 2) rfl (.inl rfl)) anil)))) (sone (sret mnon)) snil) (sone (sret (mvar (i := 2) rfl (.inl rfl))))))))))
theorem ok_simple_term {f : Addr} {fd : FuncData} (F : Fun K "simple_term" "simple_term" s_simple_term f fd) (T : Txt K mg cA) (C_is_name : FnM P w K mg base cA 1 "is_name" 1 F_is_name) (C_number_of : FnM P w K mg base cA 2 "number_of" 1 F_number_of) : FnOk P w K mg base (L2.CX P w) 3 f fd ["word"] (spM K cA F_simple_term 1) :=
  defM F sc_simple_term fun cdv A outer s H E hr => by
    unfold m_simple_term
    exact (scons (sset (i := 1) sc_simple_term.nd rfl (.inl rfl) (mcall C_number_of (by decide) hr pass_def rfl (acons (mvar (i := 0) rfl (.inl rfl)) anil))) (scons (sif (mcmpT op_isNotM (mvar (i := 1) rfl (.inl rfl)) mnon (nomark _)) (sone (sret (mtup (acons mstr (acons (mvar (i := 1) rfl (.inl rfl)) anil))))) snil) (scons (sif (mnotT (mval (mcall C_is_name (by decide) hr pass_def rfl (acons (mvar (i := 0) rfl (.inl rfl)) anil)))) (sone (sraise (k := 2) T.e_BadText (takes_of rfl rfl rfl rfl) rfl rfl)) snil) (sone (sret (mtup (acons mstr (acons (mvar (i := 0) rfl (.inl rfl)) anil))))))))
theorem ok_term_in {r : Nat → List D → Store → R D} {dd : Nat} (hlev : 3 ≤ dd) {f : Addr} {fd : FuncData} (F : Fun K "term_in" "term_in" s_term_in f fd) (T : Txt K mg cA) (C_names_in : FnM P w K mg base cA 1 "names_in" 1 F_names_in) (C_need_row : FnM P w K mg base cA 1 "need_row" 2 F_need_row) (C_simple_term : FnM P w K mg base cA 3 "simple_term" 1 F_simple_term) (C_body_in : FnM P w K mg base cA dd "body_in" 2 (r 1)) (C_term_in : FnM P w K mg base cA dd "term_in" 2 (r 0)) : FnOk P w K mg base (L2.CX P w) (dd + 1) f fd ["row", "left"] (spM K cA (bodyF N_term_in.length (m_term_in r)) 2) :=
  defM F sc_term_in fun cdv A outer s H E hr => by
    unfold m_term_in
    exact (scons (sif (mcmpT op_ltM (mvar (i := 1) rfl (.inr (.inl rfl))) mint (nomark _)) (sone (sraise (k := 2) T.e_BadText (takes_of rfl rfl rfl rfl) rfl rfl)) snil) (scons (sif (mval (misi ok_str (mvar (i := 0) rfl (.inl rfl)) rfl T.b_isinstance rfl T.b_str bt_str bt_isinstance)) (sone (sret (mcall C_simple_term (by omega) hr pass_def rfl (acons (mvar (i := 0) rfl (.inl rfl)) anil)))) snil) (scons (sexpr (mcall C_need_row (by omega) hr pass_def rfl (acons (mvar (i := 0) rfl (.inl rfl)) (acons mint anil)))) (scons (sset (i := 2) sc_term_in.nd rfl (.inl rfl) (mix (hu_of hr) (mvar (i := 0) rfl (.inl rfl)) mint)) (scons (sif (PW.pt (mandT (mcmpT (op_inM (hu_of hr)) (mvar (i := 2) rfl (.inl rfl)) (mgstrs [Str.ofString "+", Str.ofString "-", Str.ofString "*", Str.ofString "<", Str.ofString "="] rfl T.g_SIGNS) rfl) (mand1 (mcmpT (op_eqM hr.units) (mcallV st_V c_lenV rfl T.b_len bt_len (acons (mvar (i := 0) rfl (.inl rfl)) anil)) mint (nomark _))))) (sone (sret (mtup (acons mstr (acons (mvar (i := 2) rfl (.inl rfl)) (acons (mcall C_term_in (by omega) hr pass_def rfl (acons (mix (hu_of hr) (mvar (i := 0) rfl (.inl rfl)) mint) (acons (mbin op_subM (mvar (i := 1) rfl (.inr (.inl rfl))) mint) anil))) (acons (mcall C_term_in (by omega) hr pass_def rfl (acons (mix (hu_of hr) (mvar (i := 0) rfl (.inl rfl)) mint) (acons (mbin op_subM (mvar (i := 1) rfl (.inr (.inl rfl))) mint) anil))) anil))))))) snil) (scons (sif (PW.pt (morT (mcmpT (op_eqM hr.units) (mvar (i := 2) rfl (.inl rfl)) mstr (nomark _)) (mor1 (mcmpT (op_eqM hr.units) (mvar (i := 2) rfl (.inl rfl)) mstr (nomark _))))) (sone (sret (mtup (acons (mvar (i := 2) rfl (.inl rfl)) (acons (mcall C_names_in (by omega) hr pass_def rfl (acons (mix (hu_of hr) (mvar (i := 0) rfl (.inl rfl)) mint) anil)) (acons (mcall C_body_in (by omega) hr pass_def rfl (acons (mslice (mvar (i := 0) rfl (.inl rfl)) (osome mint) ono) (acons (mbin op_subM (mvar (i := 1) rfl (.inr (.inl rfl))) mint) anil))) anil)))))) snil) (scons (sif (mcmpT (op_eqM hr.units) (mvar (i := 2) rfl (.inl rfl)) mstr (nomark _)) (sone (sret (mtup (acons mstr (acons (mcall C_term_in (by omega) hr pass_def rfl (acons (mix (hu_of hr) (mvar (i := 0) rfl (.inl rfl)) mint) (acons (mbin op_subM (mvar (i := 1) rfl (.inr (.inl rfl))) mint) anil))) (acons (mtyN st_V c_tup rfl T.b_tuple bt_tuple (mcomp (t := .one 3) (own := [("one", 3)]) rfl rfl sc_term_in.nd (isrc (mslice (mvar (i := 0) rfl (.inl rfl)) (osome mint) ono)) (blkOk_by (N := N_term_in) (sc := defScope s_term_in) (by decide +kernel)) (fun _ _ _ _ _ => pg_name (i := 3) sc_term_in.nd rfl (Or.inl rfl)) (fun _ _ _ _ _ => tyes) (fun _ _ _ _ _ => (mcall C_term_in (by omega) hr passL rfl (acons (mvar (i := 3) rfl (.inl rfl)) (acons (mbin op_subM (mvar (i := 1) rfl (by first | exact .inr (.inr rfl) | exact .inr (.inl rfl) | exact .inl rfl)) mint) anil)))))) anil)))))) snil) (scons (sif (PW.pt (mandT (mcmpT (op_eqM hr.units) (mvar (i := 2) rfl (.inl rfl)) mstr (nomark _)) (mand1 (mcmpT (op_eqM hr.units) (mcallV st_V c_lenV rfl T.b_len bt_len (acons (mvar (i := 0) rfl (.inl rfl)) anil)) mint (nomark _))))) (sone (sret (mtup (acons mstr (acons (mcall C_term_in (by omega) hr pass_def rfl (acons (mix (hu_of hr) (mvar (i := 0) rfl (.inl rfl)) mint) (acons (mbin op_subM (mvar (i := 1) rfl (.inr (.inl rfl))) mint) anil))) (acons (mcall C_term_in (by omega) hr pass_def rfl (acons (mix (hu_of hr) (mvar (i := 0) rfl (.inl rfl)) mint) (acons (mbin op_subM (mvar (i := 1) rfl (.inr (.inl rfl))) mint) anil))) anil)))))) snil) (sone (sraise (k := 2) T.e_BadText (takes_of rfl rfl rfl rfl) rfl rfl))))))))))
theorem ok_body_in {r : Nat → List D → Store → R D} {dd : Nat} (hlev : 3 ≤ dd) {f : Addr} {fd : FuncData} (F : Fun K "body_in" "body_in" s_body_in f fd) (T : Txt K mg cA) (C_statement_in : FnM P w K mg base cA dd "statement_in" 2 (r 3)) : FnOk P w K mg base (L2.CX P w) (dd + 1) f fd ["rows", "left"] (spM K cA (bodyF N_body_in.length (m_body_in r)) 2) :=
  defM F sc_body_in fun cdv A outer s H E hr => by
    unfold m_body_in
    exact (scons (sif (mnotT (mval (misi ok_list (mvar (i := 0) rfl (.inl rfl)) rfl T.b_isinstance rfl T.b_list bt_list bt_isinstance))) (sone (sraise (k := 2) T.e_BadText (takes_of rfl rfl rfl rfl) rfl rfl)) snil) (sone (sret (mtyN st_V c_tup rfl T.b_tuple bt_tuple (mcomp (t := .one 2) (own := [("row", 2)]) rfl rfl sc_body_in.nd (isrc (mvar (i := 0) rfl (.inl rfl))) (blkOk_by (N := N_body_in) (sc := defScope s_body_in) (by decide +kernel)) (fun _ _ _ _ _ => pg_name (i := 2) sc_body_in.nd rfl (Or.inl rfl)) (fun _ _ _ _ _ => tyes) (fun _ _ _ _ _ => (mcall C_statement_in (by omega) hr passL rfl (acons (mvar (i := 2) rfl (.inl rfl)) (acons (mvar (i := 1) rfl (by first | exact .inr (.inr rfl) | exact .inr (.inl rfl) | exact .inl rfl)) anil)))))))))
theorem ok_long_statement {r : Nat → List D → Store → R D} {dd : Nat} (hlev : 3 ≤ dd) {f : Addr} {fd : FuncData} (F : Fun K "long_statement" "long_statement" s_long_statement f fd) (T : Txt K mg cA) (C_body_in : FnM P w K mg base cA dd "body_in" 2 (r 1)) (C_term_in : FnM P w K mg base cA dd "term_in" 2 (r 0)) : FnOk P w K mg base (L2.CX P w) (dd + 1) f fd ["row", "left"] (spM K cA (bodyF N_long_statement.length (m_long_statement r)) 2) :=
  defM F sc_long_statement fun cdv A outer s H E hr => by
    unfold m_long_statement
    exact (scons (sset (i := 2) sc_long_statement.nd rfl (.inl rfl) (mix (hu_of hr) (mvar (i := 0) rfl (.inr (.inl rfl))) mint)) (scons (sif (PW.pt (mandT (mcmpT (op_eqM hr.units) (mvar (i := 2) rfl (.inl rfl)) mstr (nomark _)) (mand1 (mcmpT (op_eqM hr.units) (mcallV st_V c_lenV rfl T.b_len bt_len (acons (mvar (i := 0) rfl (.inr (.inl rfl))) anil)) mint (nomark _))))) (sone (sret (mtup (acons mstr (acons (mcall C_term_in (by omega) hr pass_def rfl (acons (mix (hu_of hr) (mvar (i := 0) rfl (.inr (.inl rfl))) mint) (acons (mbin op_subM (mvar (i := 1) rfl (.inr (.inl rfl))) mint) anil))) (acons (mcall C_body_in (by omega) hr pass_def rfl (acons (mix (hu_of hr) (mvar (i := 0) rfl (.inr (.inl rfl))) mint) (acons (mbin op_subM (mvar (i := 1) rfl (.inr (.inl rfl))) mint) anil))) (acons (mcall C_body_in (by omega) hr pass_def rfl (acons (mix (hu_of hr) (mvar (i := 0) rfl (.inr (.inl rfl))) mint) (acons (mbin op_subM (mvar (i := 1) rfl (.inr (.inl rfl))) mint) anil))) anil))))))) snil) (scons (sif (PW.pt (mandT (mcmpT (op_eqM hr.units) (mvar (i := 2) rfl (.inl rfl)) mstr (nomark _)) (mand1 (mcmpT (op_eqM hr.units) (mcallV st_V c_lenV rfl T.b_len bt_len (acons (mvar (i := 0) rfl (.inr (.inl rfl))) anil)) mint (nomark _))))) (sone (sret (mtup (acons mstr (acons (mcall C_term_in (by omega) hr pass_def rfl (acons (mix (hu_of hr) (mvar (i := 0) rfl (.inr (.inl rfl))) mint) (acons (mbin op_subM (mvar (i := 1) rfl (.inr (.inl rfl))) mint) anil))) (acons (mcall C_body_in (by omega) hr pass_def rfl (acons (mix (hu_of hr) (mvar (i := 0) rfl (.inr (.inl rfl))) mint) (acons (mbin op_subM (mvar (i := 1) rfl (.inr (.inl rfl))) mint) anil))) anil)))))) snil) (scons (sif (PW.pt (mandT (mcmpT (op_eqM hr.units) (mvar (i := 2) rfl (.inl rfl)) mstr (nomark _)) (mandT (mcmpT (op_eqM hr.units) (mcallV st_V c_lenV rfl T.b_len bt_len (acons (mvar (i := 0) rfl (.inr (.inl rfl))) anil)) mint (nomark _)) (mandT (mval (misi ok_str (mix (hu_of hr) (mvar (i := 0) rfl (.inr (.inl rfl))) mint) rfl T.b_isinstance rfl T.b_str bt_str bt_isinstance)) (mand1 (mval (misi ok_str (mix (hu_of hr) (mvar (i := 0) rfl (.inr (.inl rfl))) mint) rfl T.b_isinstance rfl T.b_str bt_str bt_isinstance))))))) (scons (ssetC (i := 3) (t := .one 4) (own := [("at", 4)]) rfl rfl sc_long_statement.nd rfl rfl (sw_true rfl rfl rfl (by decide +kernel)) (isrc (mtup (acons mint (acons mint (acons mint anil))))) (blkOk_by (N := N_long_statement) (sc := defScope s_long_statement) (by decide +kernel)) (fun _ _ _ _ _ => pg_name (i := 4) sc_long_statement.nd rfl (Or.inl rfl)) (fun _ _ _ _ _ => tyes) (fun _ _ _ _ _ => (mcall C_body_in (by omega) hr passL rfl (acons (mix (hu_of hr) (mvar (i := 0) rfl (by first | exact .inr (.inr rfl) | exact .inr (.inl rfl) | exact .inl rfl)) (mvar (i := 4) rfl (.inl rfl))) (acons (mbin op_subM (mvar (i := 1) rfl (by first | exact .inr (.inr rfl) | exact .inr (.inl rfl) | exact .inl rfl)) mint) anil))))) (sone (sret (mtup (acons mstr (acons (mix (hu_of hr) (mvar (i := 3) rfl (.inl rfl)) mint) (acons (mix (hu_of hr) (mvar (i := 0) rfl (.inr (.inl rfl))) mint) (acons (mix (hu_of hr) (mvar (i := 0) rfl (.inr (.inl rfl))) mint) (acons (mix (hu_of hr) (mvar (i := 3) rfl (.inl rfl)) mint) (acons (mix (hu_of hr) (mvar (i := 3) rfl (.inl rfl)) mint) anil)))))))))) snil) (sone (sraise (k := 2) T.e_BadText (takes_of rfl rfl rfl rfl) rfl rfl))))))
theorem ok_statement_in {r : Nat → List D → Store → R D} {dd : Nat} (hlev : 3 ≤ dd) {f : Addr} {fd : FuncData} (F : Fun K "statement_in" "statement_in" s_statement_in f fd) (T : Txt K mg cA) (C_need_row : FnM P w K mg base cA 1 "need_row" 2 F_need_row) (C_long_statement : FnM P w K mg base cA dd "long_statement" 2 (r 2)) (C_term_in : FnM P w K mg base cA dd "term_in" 2 (r 0)) : FnOk P w K mg base (L2.CX P w) (dd + 1) f fd ["row", "left"] (spM K cA (bodyF N_statement_in.length (m_statement_in r)) 2) :=
  defM F sc_statement_in fun cdv A outer s H E hr => by
    unfold m_statement_in
    exact (scons (sif (mcmpT op_ltM (mvar (i := 1) rfl (.inl rfl)) mint (nomark _)) (sone (sraise (k := 2) T.e_BadText (takes_of rfl rfl rfl rfl) rfl rfl)) snil) (scons (sexpr (mcall C_need_row (by omega) hr pass_def rfl (acons (mvar (i := 0) rfl (.inl rfl)) (acons mint anil)))) (scons (sset (i := 2) sc_statement_in.nd rfl (.inl rfl) (mix (hu_of hr) (mvar (i := 0) rfl (.inl rfl)) mint)) (scons (sif (PW.pt (mandT (mcmpT (op_inM (hu_of hr)) (mvar (i := 2) rfl (.inl rfl)) (mtup (acons mstr (acons mstr (acons mstr anil)))) rfl) (mand1 (mcmpT (op_eqM hr.units) (mcallV st_V c_lenV rfl T.b_len bt_len (acons (mvar (i := 0) rfl (.inl rfl)) anil)) mint (nomark _))))) (sone (sret (mtup (acons (mvar (i := 2) rfl (.inl rfl)) (acons (mcall C_term_in (by omega) hr pass_def rfl (acons (mix (hu_of hr) (mvar (i := 0) rfl (.inl rfl)) mint) (acons (mbin op_subM (mvar (i := 1) rfl (.inl rfl)) mint) anil))) anil))))) snil) (scons (sif (PW.pt (mandT (mcmpT (op_inM (hu_of hr)) (mvar (i := 2) rfl (.inl rfl)) (mtup (acons mstr (acons mstr (acons mstr anil)))) rfl) (mandT (mcmpT (op_eqM hr.units) (mcallV st_V c_lenV rfl T.b_len bt_len (acons (mvar (i := 0) rfl (.inl rfl)) anil)) mint (nomark _)) (mand1 (mval (misi ok_str (mix (hu_of hr) (mvar (i := 0) rfl (.inl rfl)) mint) rfl T.b_isinstance rfl T.b_str bt_str bt_isinstance)))))) (sone (sret (mtup (acons (mvar (i := 2) rfl (.inl rfl)) (acons (mix (hu_of hr) (mvar (i := 0) rfl (.inl rfl)) mint) (acons (mcall C_term_in (by omega) hr pass_def rfl (acons (mix (hu_of hr) (mvar (i := 0) rfl (.inl rfl)) mint) (acons (mbin op_subM (mvar (i := 1) rfl (.inl rfl)) mint) anil))) anil)))))) snil) (sone (sret (mcall C_long_statement (by omega) hr pass_def rfl (acons (mvar (i := 0) rfl (.inl rfl)) (acons (mvar (i := 1) rfl (.inl rfl)) anil))))))))))
theorem rec_term_in {f_term_in : Addr} {fd_term_in : FuncData} (F_term_in : Fun K "term_in" "term_in" s_term_in f_term_in fd_term_in) (g_term_in : mg "term_in" = some (.ref f_term_in)) (B_term_in : Binds K fd_term_in ["row", "left"] []) {f_body_in : Addr} {fd_body_in : FuncData} (F_body_in : Fun K "body_in" "body_in" s_body_in f_body_in fd_body_in) (g_body_in : mg "body_in" = some (.ref f_body_in)) (B_body_in : Binds K fd_body_in ["rows", "left"] []) {f_long_statement : Addr} {fd_long_statement : FuncData} (F_long_statement : Fun K "long_statement" "long_statement" s_long_statement f_long_statement fd_long_statement) (g_long_statement : mg "long_statement" = some (.ref f_long_statement)) (B_long_statement : Binds K fd_long_statement ["row", "left"] []) {f_statement_in : Addr} {fd_statement_in : FuncData} (F_statement_in : Fun K "statement_in" "statement_in" s_statement_in f_statement_in fd_statement_in) (g_statement_in : mg "statement_in" = some (.ref f_statement_in)) (B_statement_in : Binds K fd_statement_in ["row", "left"] []) (T : Txt K mg cA) (C_names_in : FnM P w K mg base cA 1 "names_in" 1 F_names_in) (C_need_row : FnM P w K mg base cA 1 "need_row" 2 F_need_row) (C_simple_term : FnM P w K mg base cA 3 "simple_term" 1 F_simple_term) : ∀ n : Nat, FnM P w K mg base cA (3 + n) "term_in" 2 (G_term_in n 0) ∧ FnM P w K mg base cA (3 + n) "body_in" 2 (G_term_in n 1) ∧ FnM P w K mg base cA (3 + n) "long_statement" 2 (G_term_in n 2) ∧ FnM P w K mg base cA (3 + n) "statement_in" 2 (G_term_in n 3)
  | 0 => ⟨⟨⟨f_term_in, fd_term_in, _, g_term_in, F_term_in.kp, B_term_in, ok_bad rfl⟩⟩, ⟨⟨f_body_in, fd_body_in, _, g_body_in, F_body_in.kp, B_body_in, ok_bad rfl⟩⟩, ⟨⟨f_long_statement, fd_long_statement, _, g_long_statement, F_long_statement.kp, B_long_statement, ok_bad rfl⟩⟩, ⟨⟨f_statement_in, fd_statement_in, _, g_statement_in, F_statement_in.kp, B_statement_in, ok_bad rfl⟩⟩⟩
  | n + 1 => by
    have ih := rec_term_in F_term_in g_term_in B_term_in F_body_in g_body_in B_body_in F_long_statement g_long_statement B_long_statement F_statement_in g_statement_in B_statement_in T C_names_in C_need_row C_simple_term n
    obtain ⟨C_term_in, C_body_in, C_long_statement, C_statement_in⟩ := ih
    exact ⟨.mk' F_term_in g_term_in B_term_in (ok_term_in (r := G_term_in n) (Nat.le_add_right 3 n) F_term_in T (C_body_in := C_body_in) (C_names_in := C_names_in) (C_need_row := C_need_row) (C_simple_term := C_simple_term) (C_term_in := C_term_in)), .mk' F_body_in g_body_in B_body_in (ok_body_in (r := G_term_in n) (Nat.le_add_right 3 n) F_body_in T (C_statement_in := C_statement_in)), .mk' F_long_statement g_long_statement B_long_statement (ok_long_statement (r := G_term_in n) (Nat.le_add_right 3 n) F_long_statement T (C_body_in := C_body_in) (C_term_in := C_term_in)), .mk' F_statement_in g_statement_in B_statement_in (ok_statement_in (r := G_term_in n) (Nat.le_add_right 3 n) F_statement_in T (C_long_statement := C_long_statement) (C_need_row := C_need_row) (C_term_in := C_term_in))⟩
theorem ok_has_word {f : Addr} {fd : FuncData} (F : Fun K "has_word" "has_word" s_has_word f fd) (T : Txt K mg cA)  : FnOk P w K mg base (L2.CX P w) 1 f fd ["thing", "word", "size"] (spM K cA F_has_word 3) :=
  defM F sc_has_word fun cdv A outer s H E hr => by
    unfold m_has_word
    exact (sone (sret (mand (misi ok_tuple (mvar (i := 0) rfl (.inl rfl)) rfl T.b_isinstance rfl T.b_tuple bt_tuple bt_isinstance) (mand (mcmp (op_eqM hr.units) (mcallV st_V c_lenV rfl T.b_len bt_len (acons (mvar (i := 0) rfl (.inl rfl)) anil)) (mvar (i := 2) rfl (.inl rfl)) (nomark _)) (mand (misi ok_str (mix (hu_of hr) (mvar (i := 0) rfl (.inl rfl)) mint) rfl T.b_isinstance rfl T.b_str bt_str bt_isinstance) (mone (mcmp (op_eqM hr.units) (mix (hu_of hr) (mvar (i := 0) rfl (.inl rfl)) mint) (mvar (i := 1) rfl (.inl rfl)) (nomark _))))))))
theorem ok_is_names {f : Addr} {fd : FuncData} (F : Fun K "is_names" "is_names" s_is_names f fd) (T : Txt K mg cA) (C_is_name : FnM P w K mg base cA 1 "is_name" 1 F_is_name) : FnOk P w K mg base (L2.CX P w) 2 f fd ["thing"] (spM K cA F_is_names 1) :=
  defM F sc_is_names fun cdv A outer s H E hr => by
    unfold m_is_names
    exact (scons (sif (PW.pt (morT (mnotT (mval (misi ok_tuple (mvar (i := 0) rfl (.inl rfl)) rfl T.b_isinstance rfl T.b_tuple bt_tuple bt_isinstance))) (morT (mcmpT op_gtM (mcallV st_V c_lenV rfl T.b_len bt_len (acons (mvar (i := 0) rfl (.inl rfl)) anil)) (mgint rfl T.g_MOST_NAMES) (nomark _)) (mor1 (mnotT (mval (mcallN st_V (c_all rfl) rfl T.b_all bt_all (mcomp (t := .one 1) (own := [("name", 1)]) rfl rfl sc_is_names.nd (isrc (mvar (i := 0) rfl (.inl rfl))) (blkOk_by (N := N_is_names) (sc := defScope s_is_names) (by decide +kernel)) (fun _ _ _ _ _ => pg_name (i := 1) sc_is_names.nd rfl (Or.inl rfl)) (fun _ _ _ _ _ => tyes) (fun _ _ _ _ _ => (mcall C_is_name (by decide) hr passL rfl (acons (mvar (i := 1) rfl (.inl rfl)) anil))))))))))) (sone (sret mbl)) snil) (sone (sret (mcmp (op_eqM hr.units) (mlenset rfl rfl T.b_len rfl T.b_set (mvar (i := 0) rfl (.inl rfl))) (mcallV st_V c_lenV rfl T.b_len bt_len (acons (mvar (i := 0) rfl (.inl rfl)) anil)) (nomark _)))))
theorem ok_is_simple {f : Addr} {fd : FuncData} (F : Fun K "is_simple" "is_simple" s_is_simple f fd) (T : Txt K mg cA) (C_has_word : FnM P w K mg base cA 1 "has_word" 3 F_has_word) (C_is_name : FnM P w K mg base cA 1 "is_name" 1 F_is_name) (C_is_number : FnM P w K mg base cA 1 "is_number" 1 F_is_number) : FnOk P w K mg base (L2.CX P w) 2 f fd ["thing"] (spM K cA F_is_simple 1) :=
  defM F sc_is_simple fun cdv A outer s H E hr => by
    unfold m_is_simple
    exact (scons (sif (mval (mcall C_has_word (by decide) hr pass_def rfl (acons (mvar (i := 0) rfl (.inl rfl)) (acons mstr (acons mint anil))))) (sone (sret (mcall C_is_number (by decide) hr pass_def rfl (acons (mix (hu_of hr) (mvar (i := 0) rfl (.inl rfl)) mint) anil)))) snil) (sone (sret (mand (mcall C_has_word (by decide) hr pass_def rfl (acons (mvar (i := 0) rfl (.inl rfl)) (acons mstr (acons mint anil)))) (mone (mcall C_is_name (by decide) hr pass_def rfl (acons (mix (hu_of hr) (mvar (i := 0) rfl (.inl rfl)) mint) anil)))))))
theorem ok_is_function {r : Nat → List D → Store → R D} {dd : Nat} (hlev : 2 ≤ dd) {f : Addr} {fd : FuncData} (F : Fun K "is_function" "is_function" s_is_function f fd) (T : Txt K mg cA) (C_has_word : FnM P w K mg base cA 1 "has_word" 3 F_has_word) (C_is_names : FnM P w K mg base cA 2 "is_names" 1 F_is_names) (C_is_body : FnM P w K mg base cA dd "is_body" 3 (r 2)) : FnOk P w K mg base (L2.CX P w) (dd + 1) f fd ["thing", "left"] (spM K cA (bodyF N_is_function.length (m_is_function r)) 2) :=
  defM F sc_is_function fun cdv A outer s H E hr => by
    unfold m_is_function
    exact (scons (sif (mval (mcall C_has_word (by omega) hr pass_def rfl (acons (mvar (i := 0) rfl (.inl rfl)) (acons mstr (acons mint anil))))) (sone (sret (mand (mcall C_is_names (by omega) hr pass_def rfl (acons (mix (hu_of hr) (mvar (i := 0) rfl (.inl rfl)) mint) anil)) (mone (mcall C_is_body (by omega) hr pass_def rfl (acons (mix (hu_of hr) (mvar (i := 0) rfl (.inl rfl)) mint) (acons (mbin op_subM (mvar (i := 1) rfl (.inl rfl)) mint) (acons mbl anil)))))))) snil) (sone (sret (mand (mcall C_has_word (by omega) hr pass_def rfl (acons (mvar (i := 0) rfl (.inl rfl)) (acons mstr (acons mint anil)))) (mand (mcall C_is_names (by omega) hr pass_def rfl (acons (mix (hu_of hr) (mvar (i := 0) rfl (.inl rfl)) mint) anil)) (mone (mcall C_is_body (by omega) hr pass_def rfl (acons (mix (hu_of hr) (mvar (i := 0) rfl (.inl rfl)) mint) (acons (mbin op_subM (mvar (i := 1) rfl (.inl rfl)) mint) (acons mbl anil))))))))))
theorem ok_is_term {r : Nat → List D → Store → R D} {dd : Nat} (hlev : 2 ≤ dd) {f : Addr} {fd : FuncData} (F : Fun K "is_term" "is_term" s_is_term f fd) (T : Txt K mg cA) (C_has_word : FnM P w K mg base cA 1 "has_word" 3 F_has_word) (C_is_simple : FnM P w K mg base cA 2 "is_simple" 1 F_is_simple) (C_is_function : FnM P w K mg base cA dd "is_function" 2 (r 0)) (C_is_term : FnM P w K mg base cA dd "is_term" 2 (r 1)) : FnOk P w K mg base (L2.CX P w) (dd + 1) f fd ["thing", "left"] (spM K cA (bodyF N_is_term.length (m_is_term r)) 2) :=
  defM F sc_is_term fun cdv A outer s H E hr => by
    unfold m_is_term
    exact (scons (sif (mcmpT op_ltM (mvar (i := 1) rfl (.inr (.inl rfl))) mint (nomark _)) (sone (sret mbl)) snil) (scons (sif (mval (mcall C_has_word (by omega) hr pass_def rfl (acons (mvar (i := 0) rfl (.inl rfl)) (acons mstr (acons mint anil))))) (scons (sset (i := 2) sc_is_term.nd rfl (.inl rfl) (mand (misi ok_str (mix (hu_of hr) (mvar (i := 0) rfl (.inl rfl)) mint) rfl T.b_isinstance rfl T.b_str bt_str bt_isinstance) (mone (mcmp (op_inM (hu_of hr)) (mix (hu_of hr) (mvar (i := 0) rfl (.inl rfl)) mint) (mgstrs [Str.ofString "+", Str.ofString "-", Str.ofString "*", Str.ofString "<", Str.ofString "="] rfl T.g_SIGNS) rfl)))) (sone (sret (mand (mvar (i := 2) rfl (.inl rfl)) (mand (mcall C_is_term (by omega) hr pass_def rfl (acons (mix (hu_of hr) (mvar (i := 0) rfl (.inl rfl)) mint) (acons (mbin op_subM (mvar (i := 1) rfl (.inr (.inl rfl))) mint) anil))) (mone (mcall C_is_term (by omega) hr pass_def rfl (acons (mix (hu_of hr) (mvar (i := 0) rfl (.inl rfl)) mint) (acons (mbin op_subM (mvar (i := 1) rfl (.inr (.inl rfl))) mint) anil))))))))) snil) (scons (sif (mval (mcall C_has_word (by omega) hr pass_def rfl (acons (mvar (i := 0) rfl (.inl rfl)) (acons mstr (acons mint anil))))) (scons (sif (PW.pt (morT (mnotT (mval (misi ok_tuple (mix (hu_of hr) (mvar (i := 0) rfl (.inl rfl)) mint) rfl T.b_isinstance rfl T.b_tuple bt_tuple bt_isinstance))) (morT (mcmpT op_gtM (mcallV st_V c_lenV rfl T.b_len bt_len (acons (mix (hu_of hr) (mvar (i := 0) rfl (.inl rfl)) mint) anil)) (mgint rfl T.g_MOST_TERMS) (nomark _)) (mor1 (mnotT (mval (mcall C_is_term (by omega) hr pass_def rfl (acons (mix (hu_of hr) (mvar (i := 0) rfl (.inl rfl)) mint) (acons (mbin op_subM (mvar (i := 1) rfl (.inr (.inl rfl))) mint) anil))))))))) (sone (sret mbl)) snil) (sone (sret (mcallN st_V (c_all rfl) rfl T.b_all bt_all (mcomp (t := .one 3) (own := [("term", 3)]) rfl rfl sc_is_term.nd (isrc (mix (hu_of hr) (mvar (i := 0) rfl (.inl rfl)) mint)) (blkOk_by (N := N_is_term) (sc := defScope s_is_term) (by decide +kernel)) (fun _ _ _ _ _ => pg_name (i := 3) sc_is_term.nd rfl (Or.inl rfl)) (fun _ _ _ _ _ => tyes) (fun _ _ _ _ _ => (mcall C_is_term (by omega) hr passL rfl (acons (mvar (i := 3) rfl (.inl rfl)) (acons (mbin op_subM (mvar (i := 1) rfl (by first | exact .inr (.inr rfl) | exact .inr (.inl rfl) | exact .inl rfl)) mint) anil))))))))) snil) (scons (sif (mval (mcall C_has_word (by omega) hr pass_def rfl (acons (mvar (i := 0) rfl (.inl rfl)) (acons mstr (acons mint anil))))) (sone (sret (mand (mcall C_is_term (by omega) hr pass_def rfl (acons (mix (hu_of hr) (mvar (i := 0) rfl (.inl rfl)) mint) (acons (mbin op_subM (mvar (i := 1) rfl (.inr (.inl rfl))) mint) anil))) (mone (mcall C_is_term (by omega) hr pass_def rfl (acons (mix (hu_of hr) (mvar (i := 0) rfl (.inl rfl)) mint) (acons (mbin op_subM (mvar (i := 1) rfl (.inr (.inl rfl))) mint) anil))))))) snil) (sone (sret (mor (mcall C_is_simple (by omega) hr pass_def rfl (acons (mvar (i := 0) rfl (.inl rfl)) anil)) (mone (mcall C_is_function (by omega) hr pass_def rfl (acons (mvar (i := 0) rfl (.inl rfl)) (acons (mvar (i := 1) rfl (.inr (.inl rfl))) anil)))))))))))
theorem ok_is_body {r : Nat → List D → Store → R D} {dd : Nat} (hlev : 2 ≤ dd) {f : Addr} {fd : FuncData} (F : Fun K "is_body" "is_body" s_is_body f fd) (T : Txt K mg cA) (C_is_statement : FnM P w K mg base cA dd "is_statement" 3 (r 4)) : FnOk P w K mg base (L2.CX P w) (dd + 1) f fd ["thing", "left", "may_hand"] (spM K cA (bodyF N_is_body.length (m_is_body r)) 3) :=
  defM F sc_is_body fun cdv A outer s H E hr => by
    unfold m_is_body
    exact (scons (sif (PW.pt (morT (mnotT (mval (misi ok_tuple (mvar (i := 0) rfl (.inl rfl)) rfl T.b_isinstance rfl T.b_tuple bt_tuple bt_isinstance))) (mor1 (mcmpT op_gtM (mcallV st_V c_lenV rfl T.b_len bt_len (acons (mvar (i := 0) rfl (.inl rfl)) anil)) (mgint rfl T.g_MOST_STATEMENTS) (nomark _))))) (sone (sret mbl)) snil) (sone (sret (mcallN st_V (c_all rfl) rfl T.b_all bt_all (mcomp (t := .one 3) (own := [("one", 3)]) rfl rfl sc_is_body.nd (isrc (mvar (i := 0) rfl (.inl rfl))) (blkOk_by (N := N_is_body) (sc := defScope s_is_body) (by decide +kernel)) (fun _ _ _ _ _ => pg_name (i := 3) sc_is_body.nd rfl (Or.inl rfl)) (fun _ _ _ _ _ => tyes) (fun _ _ _ _ _ => (mcall C_is_statement (by omega) hr passL rfl (acons (mvar (i := 3) rfl (.inl rfl)) (acons (mvar (i := 1) rfl (by first | exact .inr (.inr rfl) | exact .inr (.inl rfl) | exact .inl rfl)) (acons (mvar (i := 2) rfl (by first | exact .inr (.inr rfl) | exact .inr (.inl rfl) | exact .inl rfl)) anil))))))))))
theorem ok_is_short {r : Nat → List D → Store → R D} {dd : Nat} (hlev : 2 ≤ dd) {f : Addr} {fd : FuncData} (F : Fun K "is_short" "is_short" s_is_short f fd) (T : Txt K mg cA) (C_has_word : FnM P w K mg base cA 1 "has_word" 3 F_has_word) (C_is_name : FnM P w K mg base cA 1 "is_name" 1 F_is_name) (C_is_term : FnM P w K mg base cA dd "is_term" 2 (r 1)) : FnOk P w K mg base (L2.CX P w) (dd + 1) f fd ["thing", "left", "may_hand"] (spM K cA (bodyF N_is_short.length (m_is_short r)) 3) :=
  defM F sc_is_short fun cdv A outer s H E hr => by
    unfold m_is_short
    exact (scons (sif (PW.pt (morT (mval (mcall C_has_word (by omega) hr pass_def rfl (acons (mvar (i := 0) rfl (.inl rfl)) (acons mstr (acons mint anil))))) (mor1 (mval (mcall C_has_word (by omega) hr pass_def rfl (acons (mvar (i := 0) rfl (.inl rfl)) (acons mstr (acons mint anil)))))))) (sone (sret (mand (mcall C_is_name (by omega) hr pass_def rfl (acons (mix (hu_of hr) (mvar (i := 0) rfl (.inl rfl)) mint) anil)) (mone (mcall C_is_term (by omega) hr pass_def rfl (acons (mix (hu_of hr) (mvar (i := 0) rfl (.inl rfl)) mint) (acons (mbin op_subM (mvar (i := 1) rfl (.inl rfl)) mint) anil))))))) snil) (scons (sif (mval (mcall C_has_word (by omega) hr pass_def rfl (acons (mvar (i := 0) rfl (.inl rfl)) (acons mstr (acons mint anil))))) (sone (sret (mand (mcall C_is_name (by omega) hr pass_def rfl (acons (mix (hu_of hr) (mvar (i := 0) rfl (.inl rfl)) mint) anil)) (mand (mcmp (op_neM hr.units) (mix (hu_of hr) (mvar (i := 0) rfl (.inl rfl)) mint) mstr (nomark _)) (mone (mcall C_is_term (by omega) hr pass_def rfl (acons (mix (hu_of hr) (mvar (i := 0) rfl (.inl rfl)) mint) (acons (mbin op_subM (mvar (i := 1) rfl (.inl rfl)) mint) anil)))))))) snil) (scons (sif (mval (mcall C_has_word (by omega) hr pass_def rfl (acons (mvar (i := 0) rfl (.inl rfl)) (acons mstr (acons mint anil))))) (sone (sret (mand (mvar (i := 2) rfl (.inl rfl)) (mone (mcall C_is_term (by omega) hr pass_def rfl (acons (mix (hu_of hr) (mvar (i := 0) rfl (.inl rfl)) mint) (acons (mbin op_subM (mvar (i := 1) rfl (.inl rfl)) mint) anil))))))) snil) (sone (sret (mand (mor (mcall C_has_word (by omega) hr pass_def rfl (acons (mvar (i := 0) rfl (.inl rfl)) (acons mstr (acons mint anil)))) (mone (mcall C_has_word (by omega) hr pass_def rfl (acons (mvar (i := 0) rfl (.inl rfl)) (acons mstr (acons mint anil)))))) (mone (mcall C_is_term (by omega) hr pass_def rfl (acons (mix (hu_of hr) (mvar (i := 0) rfl (.inl rfl)) mint) (acons (mbin op_subM (mvar (i := 1) rfl (.inl rfl)) mint) anil))))))))))
theorem ok_is_statement {r : Nat → List D → Store → R D} {dd : Nat} (hlev : 2 ≤ dd) {f : Addr} {fd : FuncData} (F : Fun K "is_statement" "is_statement" s_is_statement f fd) (T : Txt K mg cA) (C_has_word : FnM P w K mg base cA 1 "has_word" 3 F_has_word) (C_is_name : FnM P w K mg base cA 1 "is_name" 1 F_is_name) (C_is_body : FnM P w K mg base cA dd "is_body" 3 (r 2)) (C_is_short : FnM P w K mg base cA dd "is_short" 3 (r 3)) (C_is_term : FnM P w K mg base cA dd "is_term" 2 (r 1)) : FnOk P w K mg base (L2.CX P w) (dd + 1) f fd ["thing", "left", "may_hand"] (spM K cA (bodyF N_is_statement.length (m_is_statement r)) 3) :=
  defM F sc_is_statement fun cdv A outer s H E hr => by
    unfold m_is_statement
    exact (scons (sif (mcmpT op_ltM (mvar (i := 1) rfl (.inr (.inl rfl))) mint (nomark _)) (sone (sret mbl)) snil) (scons (sif (mval (mcall C_has_word (by omega) hr pass_def rfl (acons (mvar (i := 0) rfl (.inl rfl)) (acons mstr (acons mint anil))))) (scons (sset (i := 3) sc_is_statement.nd rfl (.inl rfl) (malloc (mlst (acons (mix (hu_of hr) (mvar (i := 0) rfl (.inl rfl)) mint) (acons (mix (hu_of hr) (mvar (i := 0) rfl (.inl rfl)) mint) anil))))) (sone (sret (mand (mcall C_is_term (by omega) hr pass_def rfl (acons (mix (hu_of hr) (mvar (i := 0) rfl (.inl rfl)) mint) (acons (mbin op_subM (mvar (i := 1) rfl (.inr (.inl rfl))) mint) anil))) (mone (mcallN st_V (c_all rfl) rfl T.b_all bt_all (mcomp (t := .one 4) (own := [("body", 4)]) rfl rfl sc_is_statement.nd (isrc (mvar (i := 3) rfl (.inl rfl))) (blkOk_by (N := N_is_statement) (sc := defScope s_is_statement) (by decide +kernel)) (fun _ _ _ _ _ => pg_name (i := 4) sc_is_statement.nd rfl (Or.inl rfl)) (fun _ _ _ _ _ => tyes) (fun _ _ _ _ _ => (mcall C_is_body (by omega) hr passL rfl (acons (mvar (i := 4) rfl (.inl rfl)) (acons (mbin op_subM (mvar (i := 1) rfl (by first | exact .inr (.inr rfl) | exact .inr (.inl rfl) | exact .inl rfl)) mint) (acons (mvar (i := 2) rfl (by first | exact .inr (.inr rfl) | exact .inr (.inl rfl) | exact .inl rfl)) anil)))))))))))) snil) (scons (sif (mval (mcall C_has_word (by omega) hr pass_def rfl (acons (mvar (i := 0) rfl (.inl rfl)) (acons mstr (acons mint anil))))) (sone (sret (mand (mcall C_is_term (by omega) hr pass_def rfl (acons (mix (hu_of hr) (mvar (i := 0) rfl (.inl rfl)) mint) (acons (mbin op_subM (mvar (i := 1) rfl (.inr (.inl rfl))) mint) anil))) (mone (mcall C_is_body (by omega) hr pass_def rfl (acons (mix (hu_of hr) (mvar (i := 0) rfl (.inl rfl)) mint) (acons (mbin op_subM (mvar (i := 1) rfl (.inr (.inl rfl))) mint) (acons (mvar (i := 2) rfl (.inr (.inl rfl))) anil)))))))) snil) (scons (sif (mval (mcall C_has_word (by omega) hr pass_def rfl (acons (mvar (i := 0) rfl (.inl rfl)) (acons mstr (acons mint anil))))) (scons (sset (i := 3) sc_is_statement.nd rfl (.inl rfl) (malloc (mlst (acons (mix (hu_of hr) (mvar (i := 0) rfl (.inl rfl)) mint) (acons (mix (hu_of hr) (mvar (i := 0) rfl (.inl rfl)) mint) (acons (mix (hu_of hr) (mvar (i := 0) rfl (.inl rfl)) mint) anil)))))) (sone (sret (mand (mcall C_is_name (by omega) hr pass_def rfl (acons (mix (hu_of hr) (mvar (i := 0) rfl (.inl rfl)) mint) anil)) (mand (mcall C_is_name (by omega) hr pass_def rfl (acons (mix (hu_of hr) (mvar (i := 0) rfl (.inl rfl)) mint) anil)) (mone (mcallN st_V (c_all rfl) rfl T.b_all bt_all (mcomp (t := .one 4) (own := [("body", 4)]) rfl rfl sc_is_statement.nd (isrc (mvar (i := 3) rfl (.inl rfl))) (blkOk_by (N := N_is_statement) (sc := defScope s_is_statement) (by decide +kernel)) (fun _ _ _ _ _ => pg_name (i := 4) sc_is_statement.nd rfl (Or.inl rfl)) (fun _ _ _ _ _ => tyes) (fun _ _ _ _ _ => (mcall C_is_body (by omega) hr passL rfl (acons (mvar (i := 4) rfl (.inl rfl)) (acons (mbin op_subM (mvar (i := 1) rfl (by first | exact .inr (.inr rfl) | exact .inr (.inl rfl) | exact .inl rfl)) mint) (acons (mvar (i := 2) rfl (by first | exact .inr (.inr rfl) | exact .inr (.inl rfl) | exact .inl rfl)) anil))))))))))))) snil) (sone (sret (mcall C_is_short (by omega) hr pass_def rfl (acons (mvar (i := 0) rfl (.inl rfl)) (acons (mvar (i := 1) rfl (.inr (.inl rfl))) (acons (mvar (i := 2) rfl (.inr (.inl rfl))) anil))))))))))
theorem rec_is_function {f_is_function : Addr} {fd_is_function : FuncData} (F_is_function : Fun K "is_function" "is_function" s_is_function f_is_function fd_is_function) (g_is_function : mg "is_function" = some (.ref f_is_function)) (B_is_function : Binds K fd_is_function ["thing", "left"] []) {f_is_term : Addr} {fd_is_term : FuncData} (F_is_term : Fun K "is_term" "is_term" s_is_term f_is_term fd_is_term) (g_is_term : mg "is_term" = some (.ref f_is_term)) (B_is_term : Binds K fd_is_term ["thing", "left"] []) {f_is_body : Addr} {fd_is_body : FuncData} (F_is_body : Fun K "is_body" "is_body" s_is_body f_is_body fd_is_body) (g_is_body : mg "is_body" = some (.ref f_is_body)) (B_is_body : Binds K fd_is_body ["thing", "left", "may_hand"] []) {f_is_short : Addr} {fd_is_short : FuncData} (F_is_short : Fun K "is_short" "is_short" s_is_short f_is_short fd_is_short) (g_is_short : mg "is_short" = some (.ref f_is_short)) (B_is_short : Binds K fd_is_short ["thing", "left", "may_hand"] []) {f_is_statement : Addr} {fd_is_statement : FuncData} (F_is_statement : Fun K "is_statement" "is_statement" s_is_statement f_is_statement fd_is_statement) (g_is_statement : mg "is_statement" = some (.ref f_is_statement)) (B_is_statement : Binds K fd_is_statement ["thing", "left", "may_hand"] []) (T : Txt K mg cA) (C_has_word : FnM P w K mg base cA 1 "has_word" 3 F_has_word) (C_is_name : FnM P w K mg base cA 1 "is_name" 1 F_is_name) (C_is_names : FnM P w K mg base cA 2 "is_names" 1 F_is_names) (C_is_simple : FnM P w K mg base cA 2 "is_simple" 1 F_is_simple) : ∀ n : Nat, FnM P w K mg base cA (2 + n) "is_function" 2 (G_is_function n 0) ∧ FnM P w K mg base cA (2 + n) "is_term" 2 (G_is_function n 1) ∧ FnM P w K mg base cA (2 + n) "is_body" 3 (G_is_function n 2) ∧ FnM P w K mg base cA (2 + n) "is_short" 3 (G_is_function n 3) ∧ FnM P w K mg base cA (2 + n) "is_statement" 3 (G_is_function n 4)
  | 0 => ⟨⟨⟨f_is_function, fd_is_function, _, g_is_function, F_is_function.kp, B_is_function, ok_bad rfl⟩⟩, ⟨⟨f_is_term, fd_is_term, _, g_is_term, F_is_term.kp, B_is_term, ok_bad rfl⟩⟩, ⟨⟨f_is_body, fd_is_body, _, g_is_body, F_is_body.kp, B_is_body, ok_bad rfl⟩⟩, ⟨⟨f_is_short, fd_is_short, _, g_is_short, F_is_short.kp, B_is_short, ok_bad rfl⟩⟩, ⟨⟨f_is_statement, fd_is_statement, _, g_is_statement, F_is_statement.kp, B_is_statement, ok_bad rfl⟩⟩⟩
  | n + 1 => by
    have ih := rec_is_function F_is_function g_is_function B_is_function F_is_term g_is_term B_is_term F_is_body g_is_body B_is_body F_is_short g_is_short B_is_short F_is_statement g_is_statement B_is_statement T C_has_word C_is_name C_is_names C_is_simple n
    obtain ⟨C_is_function, C_is_term, C_is_body, C_is_short, C_is_statement⟩ := ih
    exact ⟨.mk' F_is_function g_is_function B_is_function (ok_is_function (r := G_is_function n) (Nat.le_add_right 2 n) F_is_function T (C_has_word := C_has_word) (C_is_body := C_is_body) (C_is_names := C_is_names)), .mk' F_is_term g_is_term B_is_term (ok_is_term (r := G_is_function n) (Nat.le_add_right 2 n) F_is_term T (C_has_word := C_has_word) (C_is_function := C_is_function) (C_is_simple := C_is_simple) (C_is_term := C_is_term)), .mk' F_is_body g_is_body B_is_body (ok_is_body (r := G_is_function n) (Nat.le_add_right 2 n) F_is_body T (C_is_statement := C_is_statement)), .mk' F_is_short g_is_short B_is_short (ok_is_short (r := G_is_function n) (Nat.le_add_right 2 n) F_is_short T (C_has_word := C_has_word) (C_is_name := C_is_name) (C_is_term := C_is_term)), .mk' F_is_statement g_is_statement B_is_statement (ok_is_statement (r := G_is_function n) (Nat.le_add_right 2 n) F_is_statement T (C_has_word := C_has_word) (C_is_body := C_is_body) (C_is_name := C_is_name) (C_is_short := C_is_short) (C_is_term := C_is_term))⟩
theorem ok_inner_of {f : Addr} {fd : FuncData} (F : Fun K "inner_of" "inner_of" s_inner_of f fd) (T : Txt K mg cA)  : FnOk P w K mg base (L2.CX P w) 1 f fd ["part"] (spM K cA F_inner_of 1) :=
  defM F sc_inner_of fun cdv A outer s H E hr => by
    unfold m_inner_of
    exact (scons (sset (i := 1) sc_inner_of.nd rfl (.inl rfl) (mix (hu_of hr) (mvar (i := 0) rfl (.inl rfl)) mint)) (scons (sif (mcmpT (op_inM (hu_of hr)) (mvar (i := 1) rfl (.inl rfl)) (mtup (acons mstr (acons mstr anil))) rfl) (sone (sret (malloc (mlst anil)))) snil) (scons (sif (mcmpT (op_inM (hu_of hr)) (mvar (i := 1) rfl (.inl rfl)) (mtup (acons mstr (acons mstr (acons mstr anil)))) rfl) (sone (sret (malloc (mlst (acons (mix (hu_of hr) (mvar (i := 0) rfl (.inl rfl)) mint) anil))))) snil) (scons (sif (mcmpT (op_inM (hu_of hr)) (mvar (i := 1) rfl (.inl rfl)) (mtup (acons mstr (acons mstr (acons mstr anil)))) rfl) (sone (sret (malloc (mlst (acons (mix (hu_of hr) (mvar (i := 0) rfl (.inl rfl)) mint) anil))))) snil) (scons (sif (mcmpT (op_inM (hu_of hr)) (mvar (i := 1) rfl (.inl rfl)) (mtup (acons mstr (acons mstr (acons mstr anil)))) rfl) (sone (sret (malloc (mtyV st_New (c_list rfl) rfl T.b_list bt_list (acons (mix (hu_of hr) (mvar (i := 0) rfl (.inl rfl)) mint) anil))))) snil) (scons (sif (mcmpT (op_inM (hu_of hr)) (mvar (i := 1) rfl (.inl rfl)) (mtup (acons mstr (acons mstr anil))) rfl) (sone (sret (mbin op_addM (malloc (mlst (acons (mix (hu_of hr) (mvar (i := 0) rfl (.inl rfl)) mint) anil))) (malloc (mtyV st_New (c_list rfl) rfl T.b_list bt_list (acons (mix (hu_of hr) (mvar (i := 0) rfl (.inl rfl)) mint) anil)))))) snil) (scons (sif (mcmpT (op_eqM hr.units) (mvar (i := 1) rfl (.inl rfl)) mstr (nomark _)) (sone (sret (malloc (mlst (acons (mix (hu_of hr) (mvar (i := 0) rfl (.inl rfl)) mint) (acons (mix (hu_of hr) (mvar (i := 0) rfl (.inl rfl)) mint) anil)))))) snil) (scons (sif (mcmpT (op_eqM hr.units) (mvar (i := 1) rfl (.inl rfl)) mstr (nomark _)) (sone (sret (malloc (mlst (acons (mix (hu_of hr) (mvar (i := 0) rfl (.inl rfl)) mint) (acons (mix (hu_of hr) (mvar (i := 0) rfl (.inl rfl)) mint) anil)))))) snil) (scons (sif (mcmpT (op_eqM hr.units) (mvar (i := 1) rfl (.inl rfl)) mstr (nomark _)) (sone (sret (mbin op_addM (mbin op_addM (malloc (mlst (acons (mix (hu_of hr) (mvar (i := 0) rfl (.inl rfl)) mint) anil))) (malloc (mtyV st_New (c_list rfl) rfl T.b_list bt_list (acons (mix (hu_of hr) (mvar (i := 0) rfl (.inl rfl)) mint) anil)))) (malloc (mtyV st_New (c_list rfl) rfl T.b_list bt_list (acons (mix (hu_of hr) (mvar (i := 0) rfl (.inl rfl)) mint) anil)))))) snil) (sone (sret (mbin op_addM (mbin op_addM (malloc (mtyV st_New (c_list rfl) rfl T.b_list bt_list (acons (mix (hu_of hr) (mvar (i := 0) rfl (.inl rfl)) mint) anil))) (malloc (mtyV st_New (c_list rfl) rfl T.b_list bt_list (acons (mix (hu_of hr) (mvar (i := 0) rfl (.inl rfl)) mint) anil)))) (malloc (mtyV st_New (c_list rfl) rfl T.b_list bt_list (acons (mix (hu_of hr) (mvar (i := 0) rfl (.inl rfl)) mint) anil)))))))))))))))
theorem ok_size_of {r : Nat → List D → Store → R D} {dd : Nat} (hlev : 1 ≤ dd) {f : Addr} {fd : FuncData} (F : Fun K "size_of" "size_of" s_size_of f fd) (T : Txt K mg cA) (C_inner_of : FnM P w K mg base cA 1 "inner_of" 1 F_inner_of) (C_size_of : FnM P w K mg base cA dd "size_of" 1 (r 0)) : FnOk P w K mg base (L2.CX P w) (dd + 1) f fd ["part"] (spM K cA (bodyF N_size_of.length (m_size_of r)) 1) :=
  defM F sc_size_of fun cdv A outer s H E hr => by
    unfold m_size_of
    exact (sone (sret (mbin op_addM mint (mcallN st_V (c_sum rfl) rfl T.b_sum bt_sum (mcomp (t := .one 1) (own := [("inner", 1)]) rfl rfl sc_size_of.nd (isrc (mcall C_inner_of (by omega) hr pass_def rfl (acons (mvar (i := 0) rfl (.inl rfl)) anil))) (blkOk_by (N := N_size_of) (sc := defScope s_size_of) (by decide +kernel)) (fun _ _ _ _ _ => pg_name (i := 1) sc_size_of.nd rfl (Or.inl rfl)) (fun _ _ _ _ _ => tyes) (fun _ _ _ _ _ => (mcall C_size_of (by omega) hr passL rfl (acons (mvar (i := 1) rfl (.inl rfl)) anil))))))))
theorem rec_size_of {f_size_of : Addr} {fd_size_of : FuncData} (F_size_of : Fun K "size_of" "size_of" s_size_of f_size_of fd_size_of) (g_size_of : mg "size_of" = some (.ref f_size_of)) (B_size_of : Binds K fd_size_of ["part"] []) (T : Txt K mg cA) (C_inner_of : FnM P w K mg base cA 1 "inner_of" 1 F_inner_of) : ∀ n : Nat, FnM P w K mg base cA (1 + n) "size_of" 1 (G_size_of n 0)
  | 0 => ⟨⟨f_size_of, fd_size_of, _, g_size_of, F_size_of.kp, B_size_of, ok_bad rfl⟩⟩
  | n + 1 => by
    have ih := rec_size_of F_size_of g_size_of B_size_of T C_inner_of n
    have C_size_of := ih
    exact .mk' F_size_of g_size_of B_size_of (ok_size_of (r := G_size_of n) (Nat.le_add_right 1 n) F_size_of T (C_inner_of := C_inner_of) (C_size_of := C_size_of))
theorem ok_is_program {f : Addr} {fd : FuncData} (F : Fun K "is_program" "is_program" s_is_program f fd) (T : Txt K mg cA) (C_has_word : FnM P w K mg base cA 1 "has_word" 3 F_has_word) (C_is_body : FnM P w K mg base cA 62 "is_body" 3 F_is_body) (C_is_names : FnM P w K mg base cA 2 "is_names" 1 F_is_names) (C_size_of : FnM P w K mg base cA 61 "size_of" 1 F_size_of) : FnOk P w K mg base (L2.CX P w) 63 f fd ["thing"] (spM K cA F_is_program 1) :=
  defM F sc_is_program fun cdv A outer s H E hr => by
    unfold m_is_program
    exact (scons (sif (PW.pt (morT (mnotT (mval (mcall C_has_word (by decide) hr pass_def rfl (acons (mvar (i := 0) rfl (.inl rfl)) (acons mstr (acons mint anil)))))) (morT (mnotT (mval (mcall C_is_names (by decide) hr pass_def rfl (acons (mix (hu_of hr) (mvar (i := 0) rfl (.inl rfl)) mint) anil)))) (mor1 (mnotT (mval (mcall C_is_body (by decide) hr pass_def rfl (acons (mix (hu_of hr) (mvar (i := 0) rfl (.inl rfl)) mint) (acons (mbin op_subM (mgint rfl T.g_MOST_DEPTH) mint) (acons mbl anil)))))))))) (sone (sret mbl)) snil) (sone (sret (mcmp op_leM (mcall C_size_of (by decide) hr pass_def rfl (acons (mvar (i := 0) rfl (.inl rfl)) anil)) (mgint rfl T.g_MOST_PARTS) (nomark _)))))
theorem ok_nested {f : Addr} {fd : FuncData} (F : Fun K "nested" "nested" s_nested f fd) (T : Txt K mg cA)  : FnOk P w K mg base (L2.CX P w) 1 f fd ["words"] (spM K cA F_nested 1) :=
  defM F sc_nested fun cdv A outer s H E hr => by
    unfold m_nested
    exact (scons (sset (i := 1) sc_nested.nd rfl (.inl rfl) (malloc (mlst (acons (malloc (mlst anil)) anil)))) (scons (sfor own_def rfl (isrc (mvar (i := 0) rfl (.inl rfl))) (gname (i := 2) sc_nested.nd rfl (.inl rfl)) (sone (sif (mcmpT (op_eqM hr.units) (mvar (i := 2) rfl (.inl rfl)) mstr (nomark _)) (sone (sexpr (mlm PySem.F.slot_list_append PySem.F.type_list_append mt_appendM (mvar (i := 1) rfl (.inl rfl)) (acons (malloc (mlst anil)) anil)))) (sone (sif (mcmpT (op_eqM hr.units) (mvar (i := 2) rfl (.inl rfl)) mstr (nomark _)) (scons (sset (i := 3) sc_nested.nd rfl (.inl rfl) (mlm0 PySem.F.slot_list_pop PySem.F.type_list_pop mt_popM (mvar (i := 1) rfl (.inl rfl)))) (scons (sif (mcmpT (op_eqLM hr.units) (mvar (i := 1) rfl (.inl rfl)) (malloc (mlst anil)) (nomark _)) (sone (sraise (k := 2) T.e_BadText (takes_of rfl rfl rfl rfl) rfl rfl)) snil) (sone (sexpr (mlm PySem.F.slot_list_append PySem.F.type_list_append mt_appendM (mix (hu_of hr) (mvar (i := 1) rfl (.inl rfl)) (mun un_negM mint)) (acons (mvar (i := 3) rfl (.inl rfl)) anil)))))) (sone (sexpr (mlm PySem.F.slot_list_append PySem.F.type_list_append mt_appendM (mix (hu_of hr) (mvar (i := 1) rfl (.inl rfl)) (mun un_negM mint)) (acons (mvar (i := 2) rfl (.inl rfl)) anil))))))))) (scons (sif (PW.pt (morT (mcmpT (op_neM hr.units) (mcallV st_V c_lenV rfl T.b_len bt_len (acons (mvar (i := 1) rfl (.inl rfl)) anil)) mint (nomark _)) (mor1 (mcmpT (op_neM hr.units) (mcallV st_V c_lenV rfl T.b_len bt_len (acons (mix (hu_of hr) (mvar (i := 1) rfl (.inl rfl)) mint) anil)) mint (nomark _))))) (sone (sraise (k := 2) T.e_BadText (takes_of rfl rfl rfl rfl) rfl rfl)) snil) (sone (sret (mix (hu_of hr) (mix (hu_of hr) (mvar (i := 1) rfl (.inl rfl)) mint) mint))))))
theorem ok_need_text {f : Addr} {fd : FuncData} (F : Fun K "need_text" "need_text" s_need_text f fd) (T : Txt K mg cA)  : FnOk P w K mg base (L2.CX P w) 1 f fd ["text"] (spM K cA F_need_text 1) :=
  defM F sc_need_text fun cdv A outer s H E hr => by
    unfold m_need_text
    exact (scons (sif (PW.pt (morT (mnotT (mval (misi ok_str (mvar (i := 0) rfl (.inl rfl)) rfl T.b_isinstance rfl T.b_str bt_str bt_isinstance))) (mor1 (mcmpT op_gtM (mcallV st_V c_lenV rfl T.b_len bt_len (acons (mvar (i := 0) rfl (.inl rfl)) anil)) (mgint rfl T.g_MOST_SIGNS) (nomark _))))) (sone (sraise (k := 2) T.e_BadText (takes_of rfl rfl rfl rfl) rfl rfl)) snil) (sone (sfor own_def rfl (isrc (mvar (i := 0) rfl (.inl rfl))) (gname (i := 1) sc_need_text.nd rfl (.inl rfl)) (sone (sif (PW.pt (mandT (mcmpT (op_neM hr.units) (mvar (i := 1) rfl (.inl rfl)) mstr (nomark _)) (mand1 (PW.pt (morT (mnotT (mchainT op_leM op_leM mstr (mvar (i := 1) rfl (.inl rfl)) mstr)) (mor1 (mcmpT (op_eqM hr.units) (mcallV st_V c_ord rfl T.b_ord bt_ord (acons (mvar (i := 1) rfl (.inl rfl)) anil)) (mgint rfl T.g_PERCENT) (nomark _)))))))) (sone (sraise (k := 2) T.e_BadText (takes_of rfl rfl rfl rfl) rfl rfl)) snil)))))
theorem ok_words_of {f : Addr} {fd : FuncData} (F : Fun K "words_of" "words_of" s_words_of f fd) (T : Txt K mg cA) (C_need_text : FnM P w K mg base cA 1 "need_text" 1 F_need_text) : FnOk P w K mg base (L2.CX P w) 2 f fd ["text"] (spM K cA F_words_of 1) :=
  defM F sc_words_of fun cdv A outer s H E hr => by
    unfold m_words_of
    exact (scons (sexpr (mcall C_need_text (by decide) hr pass_def rfl (acons (mvar (i := 0) rfl (.inl rfl)) anil))) (scons (sset (i := 1) sc_words_of.nd rfl (.inl rfl) (malloc (mlst anil))) (scons (sset (i := 2) sc_words_of.nd rfl (.inl rfl) mstr) (scons (sfor own_def rfl (isrc (mbin op_addM (mvar (i := 0) rfl (.inl rfl)) mstr)) (gname (i := 3) sc_words_of.nd rfl (.inl rfl)) (sone (sif (mcmpT (op_inM (hu_of hr)) (mvar (i := 3) rfl (.inl rfl)) mstr rfl) (scons (sif (mcmpT (op_neM hr.units) (mvar (i := 2) rfl (.inl rfl)) mstr (nomark _)) (sone (sexpr (mlm PySem.F.slot_list_append PySem.F.type_list_append mt_appendM (mvar (i := 1) rfl (.inl rfl)) (acons (mvar (i := 2) rfl (.inl rfl)) anil)))) snil) (scons (sset (i := 2) sc_words_of.nd rfl (.inl rfl) mstr) (sone (sif (mcmpT (op_inM (hu_of hr)) (mvar (i := 3) rfl (.inl rfl)) mstr rfl) (sone (sexpr (mlm PySem.F.slot_list_append PySem.F.type_list_append mt_appendM (mvar (i := 1) rfl (.inl rfl)) (acons (mvar (i := 3) rfl (.inl rfl)) anil)))) snil)))) (sone (sset (i := 2) sc_words_of.nd rfl (.inl rfl) (mbin op_addM (mvar (i := 2) rfl (.inl rfl)) (mvar (i := 3) rfl (.inl rfl)))))))) (sone (sret (mvar (i := 1) rfl (.inl rfl))))))))
theorem ok_read {f : Addr} {fd : FuncData} (F : Fun K "read" "read" s_read f fd) (T : Txt K mg cA) (C_body_in : FnM P w K mg base cA 63 "body_in" 2 F_body_in) (C_is_program : FnM P w K mg base cA 63 "is_program" 1 F_is_program) (C_names_in : FnM P w K mg base cA 1 "names_in" 1 F_names_in) (C_need_row : FnM P w K mg base cA 1 "need_row" 2 F_need_row) (C_nested : FnM P w K mg base cA 1 "nested" 1 F_nested) (C_words_of : FnM P w K mg base cA 2 "words_of" 1 F_words_of) : FnOk P w K mg base (L2.CX P w) 64 f fd ["text"] (spM K cA F_read 1) :=
  defM F sc_read fun cdv A outer s H E hr => by
    unfold m_read
    exact (scons (sset (i := 1) sc_read.nd rfl (.inl rfl) (mcall C_nested (by decide) hr pass_def rfl (acons (mcall C_words_of (by decide) hr pass_def rfl (acons (mvar (i := 0) rfl (.inl rfl)) anil)) anil))) (scons (sexpr (mcall C_need_row (by decide) hr pass_def rfl (acons (mvar (i := 1) rfl (.inl rfl)) (acons mint anil)))) (scons (sif (mcmpT (op_neM hr.units) (mix (hu_of hr) (mvar (i := 1) rfl (.inl rfl)) mint) mstr (nomark _)) (sone (sraise (k := 2) T.e_BadText (takes_of rfl rfl rfl rfl) rfl rfl)) snil) (scons (sset (i := 2) sc_read.nd rfl (.inl rfl) (mtup (acons mstr (acons (mcall C_names_in (by decide) hr pass_def rfl (acons (mix (hu_of hr) (mvar (i := 1) rfl (.inl rfl)) mint) anil)) (acons (mcall C_body_in (by decide) hr pass_def rfl (acons (mslice (mvar (i := 1) rfl (.inl rfl)) (osome mint) ono) (acons (mbin op_subM (mgint rfl T.g_MOST_DEPTH) mint) anil))) anil))))) (scons (sif (mnotT (mval (mcall C_is_program (by decide) hr pass_def rfl (acons (mvar (i := 2) rfl (.inl rfl)) anil)))) (sone (sraise (k := 2) T.e_BadText (takes_of rfl rfl rfl rfl) rfl rfl)) snil) (sone (sret (mvar (i := 2) rfl (.inl rfl)))))))))
theorem ok_in_brackets {f : Addr} {fd : FuncData} (F : Fun K "in_brackets" "in_brackets" s_in_brackets f fd) (T : Txt K mg cA)  : FnOk P w K mg base (L2.CX P w) 1 f fd ["words"] (spM K cA F_in_brackets 1) :=
  defM F sc_in_brackets fun cdv A outer s H E hr => by
    unfold m_in_brackets
    exact (sone (sret (mbin op_addM (mbin op_addM mstr (mjoinV mstr (mvar (i := 0) rfl (.inl rfl)))) mstr)))
theorem ok_names_text {f : Addr} {fd : FuncData} (F : Fun K "names_text" "names_text" s_names_text f fd) (T : Txt K mg cA) (C_in_brackets : FnM P w K mg base cA 1 "in_brackets" 1 F_in_brackets) : FnOk P w K mg base (L2.CX P w) 2 f fd ["names"] (spM K cA F_names_text 1) :=
  defM F sc_names_text fun cdv A outer s H E hr => by
    unfold m_names_text
    exact (sone (sret (mcall C_in_brackets (by decide) hr pass_def rfl (acons (malloc (mtyV st_New (c_list rfl) rfl T.b_list bt_list (acons (mvar (i := 0) rfl (.inl rfl)) anil))) anil))))
theorem ok_body_text {r : Nat → List D → Store → R D} {dd : Nat} (hlev : 2 ≤ dd) {f : Addr} {fd : FuncData} (F : Fun K "body_text" "body_text" s_body_text f fd) (T : Txt K mg cA) (C_in_brackets : FnM P w K mg base cA 1 "in_brackets" 1 F_in_brackets) (C_statement_text : FnM P w K mg base cA dd "statement_text" 1 (r 3)) : FnOk P w K mg base (L2.CX P w) (dd + 1) f fd ["body"] (spM K cA (bodyF N_body_text.length (m_body_text r)) 1) :=
  defM F sc_body_text fun cdv A outer s H E hr => by
    unfold m_body_text
    exact (sone (sret (mcall C_in_brackets (by omega) hr pass_def rfl (acons (malloc (mcomp (t := .one 1) (own := [("one", 1)]) rfl rfl sc_body_text.nd (isrc (mvar (i := 0) rfl (.inl rfl))) (blkOk_by (N := N_body_text) (sc := defScope s_body_text) (by decide +kernel)) (fun _ _ _ _ _ => pg_name (i := 1) sc_body_text.nd rfl (Or.inl rfl)) (fun _ _ _ _ _ => tyes) (fun _ _ _ _ _ => (mcall C_statement_text (by omega) hr passL rfl (acons (mvar (i := 1) rfl (.inl rfl)) anil))))) anil))))
theorem ok_function_text {r : Nat → List D → Store → R D} {dd : Nat} (hlev : 2 ≤ dd) {f : Addr} {fd : FuncData} (F : Fun K "function_text" "function_text" s_function_text f fd) (T : Txt K mg cA) (C_in_brackets : FnM P w K mg base cA 1 "in_brackets" 1 F_in_brackets) (C_names_text : FnM P w K mg base cA 2 "names_text" 1 F_names_text) (C_statement_text : FnM P w K mg base cA dd "statement_text" 1 (r 3)) : FnOk P w K mg base (L2.CX P w) (dd + 1) f fd ["part"] (spM K cA (bodyF N_function_text.length (m_function_text r)) 1) :=
  defM F sc_function_text fun cdv A outer s H E hr => by
    unfold m_function_text
    exact (sone (sret (mcall C_in_brackets (by omega) hr pass_def rfl (acons (mbin op_addM (malloc (mlst (acons (mix (hu_of hr) (mvar (i := 0) rfl (.inl rfl)) mint) (acons (mcall C_names_text (by omega) hr pass_def rfl (acons (mix (hu_of hr) (mvar (i := 0) rfl (.inl rfl)) mint) anil)) anil)))) (malloc (mcomp (t := .one 1) (own := [("one", 1)]) rfl rfl sc_function_text.nd (isrc (mix (hu_of hr) (mvar (i := 0) rfl (.inl rfl)) mint)) (blkOk_by (N := N_function_text) (sc := defScope s_function_text) (by decide +kernel)) (fun _ _ _ _ _ => pg_name (i := 1) sc_function_text.nd rfl (Or.inl rfl)) (fun _ _ _ _ _ => tyes) (fun _ _ _ _ _ => (mcall C_statement_text (by omega) hr passL rfl (acons (mvar (i := 1) rfl (.inl rfl)) anil)))))) anil))))
theorem ok_term_text {r : Nat → List D → Store → R D} {dd : Nat} (hlev : 2 ≤ dd) {f : Addr} {fd : FuncData} (F : Fun K "term_text" "term_text" s_term_text f fd) (T : Txt K mg cA) (C_in_brackets : FnM P w K mg base cA 1 "in_brackets" 1 F_in_brackets) (C_function_text : FnM P w K mg base cA dd "function_text" 1 (r 1)) (C_term_text : FnM P w K mg base cA dd "term_text" 1 (r 2)) : FnOk P w K mg base (L2.CX P w) (dd + 1) f fd ["term"] (spM K cA (bodyF N_term_text.length (m_term_text r)) 1) :=
  defM F sc_term_text fun cdv A outer s H E hr => by
    unfold m_term_text
    exact (scons (sif (mcmpT (op_eqM hr.units) (mix (hu_of hr) (mvar (i := 0) rfl (.inl rfl)) mint) mstr (nomark _)) (sone (sret (mtyV st_V c_str rfl T.b_str bt_str (acons (mix (hu_of hr) (mvar (i := 0) rfl (.inl rfl)) mint) anil)))) snil) (scons (sif (mcmpT (op_eqM hr.units) (mix (hu_of hr) (mvar (i := 0) rfl (.inl rfl)) mint) mstr (nomark _)) (sone (sret (mix (hu_of hr) (mvar (i := 0) rfl (.inl rfl)) mint))) snil) (scons (sif (mcmpT (op_eqM hr.units) (mix (hu_of hr) (mvar (i := 0) rfl (.inl rfl)) mint) mstr (nomark _)) (sone (sret (mcall C_in_brackets (by omega) hr pass_def rfl (acons (malloc (mlst (acons (mix (hu_of hr) (mvar (i := 0) rfl (.inl rfl)) mint) (acons (mcall C_term_text (by omega) hr pass_def rfl (acons (mix (hu_of hr) (mvar (i := 0) rfl (.inl rfl)) mint) anil)) (acons (mcall C_term_text (by omega) hr pass_def rfl (acons (mix (hu_of hr) (mvar (i := 0) rfl (.inl rfl)) mint) anil)) anil))))) anil)))) snil) (scons (sif (mcmpT (op_eqM hr.units) (mix (hu_of hr) (mvar (i := 0) rfl (.inl rfl)) mint) mstr (nomark _)) (sone (sret (mcall C_in_brackets (by omega) hr pass_def rfl (acons (mbin op_addM (malloc (mlst (acons mstr (acons (mcall C_term_text (by omega) hr pass_def rfl (acons (mix (hu_of hr) (mvar (i := 0) rfl (.inl rfl)) mint) anil)) anil)))) (malloc (mcomp (t := .one 1) (own := [("one", 1)]) rfl rfl sc_term_text.nd (isrc (mix (hu_of hr) (mvar (i := 0) rfl (.inl rfl)) mint)) (blkOk_by (N := N_term_text) (sc := defScope s_term_text) (by decide +kernel)) (fun _ _ _ _ _ => pg_name (i := 1) sc_term_text.nd rfl (Or.inl rfl)) (fun _ _ _ _ _ => tyes) (fun _ _ _ _ _ => (mcall C_term_text (by omega) hr passL rfl (acons (mvar (i := 1) rfl (.inl rfl)) anil)))))) anil)))) snil) (scons (sif (mcmpT (op_eqM hr.units) (mix (hu_of hr) (mvar (i := 0) rfl (.inl rfl)) mint) mstr (nomark _)) (sone (sret (mcall C_in_brackets (by omega) hr pass_def rfl (acons (malloc (mlst (acons mstr (acons (mcall C_term_text (by omega) hr pass_def rfl (acons (mix (hu_of hr) (mvar (i := 0) rfl (.inl rfl)) mint) anil)) (acons (mcall C_term_text (by omega) hr pass_def rfl (acons (mix (hu_of hr) (mvar (i := 0) rfl (.inl rfl)) mint) anil)) anil))))) anil)))) snil) (sone (sret (mcall C_function_text (by omega) hr pass_def rfl (acons (mvar (i := 0) rfl (.inl rfl)) anil)))))))))
theorem ok_statement_text {r : Nat → List D → Store → R D} {dd : Nat} (hlev : 2 ≤ dd) {f : Addr} {fd : FuncData} (F : Fun K "statement_text" "statement_text" s_statement_text f fd) (T : Txt K mg cA) (C_in_brackets : FnM P w K mg base cA 1 "in_brackets" 1 F_in_brackets) (C_body_text : FnM P w K mg base cA dd "body_text" 1 (r 0)) (C_term_text : FnM P w K mg base cA dd "term_text" 1 (r 2)) : FnOk P w K mg base (L2.CX P w) (dd + 1) f fd ["one"] (spM K cA (bodyF N_statement_text.length (m_statement_text r)) 1) :=
  defM F sc_statement_text fun cdv A outer s H E hr => by
    unfold m_statement_text
    exact (scons (sset (i := 1) sc_statement_text.nd rfl (.inl rfl) (mix (hu_of hr) (mvar (i := 0) rfl (.inl rfl)) mint)) (scons (sif (mcmpT (op_inM (hu_of hr)) (mvar (i := 1) rfl (.inl rfl)) (mtup (acons mstr (acons mstr (acons mstr anil)))) rfl) (sone (sret (mcall C_in_brackets (by omega) hr pass_def rfl (acons (malloc (mlst (acons (mvar (i := 1) rfl (.inl rfl)) (acons (mcall C_term_text (by omega) hr pass_def rfl (acons (mix (hu_of hr) (mvar (i := 0) rfl (.inl rfl)) mint) anil)) anil)))) anil)))) snil) (scons (sif (mcmpT (op_inM (hu_of hr)) (mvar (i := 1) rfl (.inl rfl)) (mtup (acons mstr (acons mstr (acons mstr anil)))) rfl) (sone (sret (mcall C_in_brackets (by omega) hr pass_def rfl (acons (malloc (mlst (acons (mvar (i := 1) rfl (.inl rfl)) (acons (mix (hu_of hr) (mvar (i := 0) rfl (.inl rfl)) mint) (acons (mcall C_term_text (by omega) hr pass_def rfl (acons (mix (hu_of hr) (mvar (i := 0) rfl (.inl rfl)) mint) anil)) anil))))) anil)))) snil) (scons (sif (mcmpT (op_eqM hr.units) (mvar (i := 1) rfl (.inl rfl)) mstr (nomark _)) (sone (sret (mcall C_in_brackets (by omega) hr pass_def rfl (acons (malloc (mlst (acons (mvar (i := 1) rfl (.inl rfl)) (acons (mcall C_term_text (by omega) hr pass_def rfl (acons (mix (hu_of hr) (mvar (i := 0) rfl (.inl rfl)) mint) anil)) (acons (mcall C_body_text (by omega) hr pass_def rfl (acons (mix (hu_of hr) (mvar (i := 0) rfl (.inl rfl)) mint) anil)) (acons (mcall C_body_text (by omega) hr pass_def rfl (acons (mix (hu_of hr) (mvar (i := 0) rfl (.inl rfl)) mint) anil)) anil)))))) anil)))) snil) (scons (sif (mcmpT (op_eqM hr.units) (mvar (i := 1) rfl (.inl rfl)) mstr (nomark _)) (sone (sret (mcall C_in_brackets (by omega) hr pass_def rfl (acons (malloc (mlst (acons (mvar (i := 1) rfl (.inl rfl)) (acons (mcall C_term_text (by omega) hr pass_def rfl (acons (mix (hu_of hr) (mvar (i := 0) rfl (.inl rfl)) mint) anil)) (acons (mcall C_body_text (by omega) hr pass_def rfl (acons (mix (hu_of hr) (mvar (i := 0) rfl (.inl rfl)) mint) anil)) anil))))) anil)))) snil) (sone (sret (mcall C_in_brackets (by omega) hr pass_def rfl (acons (malloc (mlst (acons (mvar (i := 1) rfl (.inl rfl)) (acons (mcall C_body_text (by omega) hr pass_def rfl (acons (mix (hu_of hr) (mvar (i := 0) rfl (.inl rfl)) mint) anil)) (acons (mix (hu_of hr) (mvar (i := 0) rfl (.inl rfl)) mint) (acons (mix (hu_of hr) (mvar (i := 0) rfl (.inl rfl)) mint) (acons (mcall C_body_text (by omega) hr pass_def rfl (acons (mix (hu_of hr) (mvar (i := 0) rfl (.inl rfl)) mint) anil)) (acons (mcall C_body_text (by omega) hr pass_def rfl (acons (mix (hu_of hr) (mvar (i := 0) rfl (.inl rfl)) mint) anil)) anil)))))))) anil)))))))))
theorem rec_body_text {f_body_text : Addr} {fd_body_text : FuncData} (F_body_text : Fun K "body_text" "body_text" s_body_text f_body_text fd_body_text) (g_body_text : mg "body_text" = some (.ref f_body_text)) (B_body_text : Binds K fd_body_text ["body"] []) {f_function_text : Addr} {fd_function_text : FuncData} (F_function_text : Fun K "function_text" "function_text" s_function_text f_function_text fd_function_text) (g_function_text : mg "function_text" = some (.ref f_function_text)) (B_function_text : Binds K fd_function_text ["part"] []) {f_term_text : Addr} {fd_term_text : FuncData} (F_term_text : Fun K "term_text" "term_text" s_term_text f_term_text fd_term_text) (g_term_text : mg "term_text" = some (.ref f_term_text)) (B_term_text : Binds K fd_term_text ["term"] []) {f_statement_text : Addr} {fd_statement_text : FuncData} (F_statement_text : Fun K "statement_text" "statement_text" s_statement_text f_statement_text fd_statement_text) (g_statement_text : mg "statement_text" = some (.ref f_statement_text)) (B_statement_text : Binds K fd_statement_text ["one"] []) (T : Txt K mg cA) (C_in_brackets : FnM P w K mg base cA 1 "in_brackets" 1 F_in_brackets) (C_names_text : FnM P w K mg base cA 2 "names_text" 1 F_names_text) : ∀ n : Nat, FnM P w K mg base cA (2 + n) "body_text" 1 (G_body_text n 0) ∧ FnM P w K mg base cA (2 + n) "function_text" 1 (G_body_text n 1) ∧ FnM P w K mg base cA (2 + n) "term_text" 1 (G_body_text n 2) ∧ FnM P w K mg base cA (2 + n) "statement_text" 1 (G_body_text n 3)
  | 0 => ⟨⟨⟨f_body_text, fd_body_text, _, g_body_text, F_body_text.kp, B_body_text, ok_bad rfl⟩⟩, ⟨⟨f_function_text, fd_function_text, _, g_function_text, F_function_text.kp, B_function_text, ok_bad rfl⟩⟩, ⟨⟨f_term_text, fd_term_text, _, g_term_text, F_term_text.kp, B_term_text, ok_bad rfl⟩⟩, ⟨⟨f_statement_text, fd_statement_text, _, g_statement_text, F_statement_text.kp, B_statement_text, ok_bad rfl⟩⟩⟩
  | n + 1 => by
    have ih := rec_body_text F_body_text g_body_text B_body_text F_function_text g_function_text B_function_text F_term_text g_term_text B_term_text F_statement_text g_statement_text B_statement_text T C_in_brackets C_names_text n
    obtain ⟨C_body_text, C_function_text, C_term_text, C_statement_text⟩ := ih
    exact ⟨.mk' F_body_text g_body_text B_body_text (ok_body_text (r := G_body_text n) (Nat.le_add_right 2 n) F_body_text T (C_in_brackets := C_in_brackets) (C_statement_text := C_statement_text)), .mk' F_function_text g_function_text B_function_text (ok_function_text (r := G_body_text n) (Nat.le_add_right 2 n) F_function_text T (C_in_brackets := C_in_brackets) (C_names_text := C_names_text) (C_statement_text := C_statement_text)), .mk' F_term_text g_term_text B_term_text (ok_term_text (r := G_body_text n) (Nat.le_add_right 2 n) F_term_text T (C_function_text := C_function_text) (C_in_brackets := C_in_brackets) (C_term_text := C_term_text)), .mk' F_statement_text g_statement_text B_statement_text (ok_statement_text (r := G_body_text n) (Nat.le_add_right 2 n) F_statement_text T (C_body_text := C_body_text) (C_in_brackets := C_in_brackets) (C_term_text := C_term_text))⟩
theorem ok_need_program {f : Addr} {fd : FuncData} (F : Fun K "need_program" "need_program" s_need_program f fd) (T : Txt K mg cA) (C_is_program : FnM P w K mg base cA 63 "is_program" 1 F_is_program) : FnOk P w K mg base (L2.CX P w) 64 f fd ["thing"] (spM K cA F_need_program 1) :=
  defM F sc_need_program fun cdv A outer s H E hr => by
    unfold m_need_program
    exact (sone (sif (mnotT (mval (mcall C_is_program (by decide) hr pass_def rfl (acons (mvar (i := 0) rfl (.inl rfl)) anil)))) (sone (sraise (k := 1) T.e_BadTree (takes_of rfl rfl rfl rfl) rfl rfl)) snil))
theorem ok_shown {f : Addr} {fd : FuncData} (F : Fun K "shown" "shown" s_shown f fd) (T : Txt K mg cA) (C_function_text : FnM P w K mg base cA 62 "function_text" 1 F_function_text) (C_need_program : FnM P w K mg base cA 64 "need_program" 1 F_need_program) : FnOk P w K mg base (L2.CX P w) 65 f fd ["program"] (spM K cA F_shown 1) :=
  defM F sc_shown fun cdv A outer s H E hr => by
    unfold m_shown
    exact (scons (sexpr (mcall C_need_program (by decide) hr pass_def rfl (acons (mvar (i := 0) rfl (.inl rfl)) anil))) (sone (sret (mcall C_function_text (by decide) hr pass_def rfl (acons (mvar (i := 0) rfl (.inl rfl)) anil)))))
theorem ok__law_deep_right {f : Addr} {fd : FuncData} (F : Fun K "_law_deep_right" "_law_deep_right" s__law_deep_right f fd) (T : Txt K mg cA) (C__law_function_words : FnM P w K mg base cA 60 "_law_function_words" 1 F__law_function_words) (C__law_text : FnM P w K mg base cA 3 "_law_text" 2 F__law_text) (C_read : FnM P w K mg base cA 64 "read" 1 F_read) (C_shown : FnM P w K mg base cA 65 "shown" 1 F_shown) : FnOk P w K mg base (L2.CX P w) 66 f fd ["_law_cell"] (spM K cA F__law_deep_right 1) :=
  defM F sc__law_deep_right fun cdv A outer s H E hr => by
    unfold m__law_deep_right
    exact (scons (sset (i := 1) sc__law_deep_right.nd rfl (.inl rfl) (mtup (acons mstr (acons (mtup (acons mstr (acons (mbin op_modM (mvar (i := 0) rfl (.inl rfl)) mint) anil))) anil)))) (scons (sfor own_def rfl (irng1 rfl T.b_range (acons (mbin op_addM mint (mbin op_modM (mbin op_fdivM (mvar (i := 0) rfl (.inl rfl)) mint) mint)) anil)) (gname (i := 2) sc__law_deep_right.nd rfl (.inl rfl)) (scons (sset (i := 3) sc__law_deep_right.nd rfl (.inl rfl) (malloc (mlst (acons (mtup (acons mstr (acons (mtup (acons mstr (acons mint anil))) (acons (mtup (acons (mvar (i := 1) rfl (.inl rfl)) anil)) anil)))) (acons (mtup (acons mstr (acons (mtup (acons mstr (acons mint anil))) (acons (mtup (acons (mvar (i := 1) rfl (.inl rfl)) anil)) (acons (mtup anil) anil))))) anil))))) (scons (sexpr (mlm PySem.F.slot_list_append PySem.F.type_list_append mt_appendM (mvar (i := 3) rfl (.inl rfl)) (acons (mtup (acons mstr (acons (mtup (acons mstr (acons mint anil))) (acons (mtup anil) (acons (mtup (acons (mvar (i := 1) rfl (.inl rfl)) anil)) anil))))) anil))) (sone (sset (i := 1) sc__law_deep_right.nd rfl (.inl rfl) (mix (hu_of hr) (mvar (i := 3) rfl (.inl rfl)) (mbin op_modM (mbin op_addM (mbin op_fdivM (mvar (i := 0) rfl (.inl rfl)) mint) (mvar (i := 2) rfl (.inl rfl))) mint))))))) (scons (sset (i := 4) sc__law_deep_right.nd rfl (.inl rfl) (mtup (acons mstr (acons (mtup anil) (acons (mtup (acons (mvar (i := 1) rfl (.inl rfl)) anil)) anil))))) (scons (sset (i := 5) sc__law_deep_right.nd rfl (.inl rfl) (mcall C__law_text (by decide) hr pass_def rfl (acons (mcall C__law_function_words (by decide) hr pass_def rfl (acons (mvar (i := 4) rfl (.inl rfl)) anil)) (acons mnon anil)))) (sone (sret (mand (mcmp (op_eqM hr.units) (mcall C_shown (by decide) hr pass_def rfl (acons (mvar (i := 4) rfl (.inl rfl)) anil)) (mvar (i := 5) rfl (.inl rfl)) (nomark _)) (mone (mcmp (op_eqM hr.units) (mcall C_read (by decide) hr pass_def rfl (acons (mvar (i := 5) rfl (.inl rfl)) anil)) (mvar (i := 4) rfl (.inl rfl)) (nomark _))))))))))
theorem ok__law_long_right {f : Addr} {fd : FuncData} (F : Fun K "_law_long_right" "_law_long_right" s__law_long_right f fd) (T : Txt K mg cA) (C__law_function_words : FnM P w K mg base cA 60 "_law_function_words" 1 F__law_function_words) (C__law_text : FnM P w K mg base cA 3 "_law_text" 2 F__law_text) (C_read : FnM P w K mg base cA 64 "read" 1 F_read) (C_shown : FnM P w K mg base cA 65 "shown" 1 F_shown) : FnOk P w K mg base (L2.CX P w) 66 f fd ["_law_cell"] (spM K cA F__law_long_right 1) :=
  defM F sc__law_long_right fun cdv A outer s H E hr => by
    unfold m__law_long_right
    exact (scons (sset (i := 1) sc__law_long_right.nd rfl (.inr rfl) mstr) (scons (sset (i := 2) sc__law_long_right.nd rfl (.inl rfl) (mtyN st_V c_tup rfl T.b_tuple bt_tuple (mcomp (t := .one 6) (own := [("_law_k", 6)]) rfl rfl sc__law_long_right.nd (irng1 rfl T.b_range (acons mint anil)) (blkOk_by (N := N__law_long_right) (sc := defScope s__law_long_right) (by decide +kernel)) (fun _ _ _ _ _ => pg_name (i := 6) sc__law_long_right.nd rfl (Or.inr rfl)) (fun _ _ _ _ _ => tyes) (fun _ _ _ _ _ => (mbin op_addM (mjoin mstr (mcomp (t := .one 7) (own := [("_law_j", 7)]) rfl rfl sc__law_long_right.nd (irng1 rfl T.b_range (acons mint anil)) (blkOk_by (N := N__law_long_right) (by kernel_rfl)) (fun _ _ _ _ _ => pg_name (i := 7) sc__law_long_right.nd rfl (Or.inl rfl)) (fun _ _ _ _ _ => tyes) (fun _ _ _ _ _ => (mix (hu_of hr) (mvar (i := 1) rfl (by first | exact .inr (.inr rfl) | exact .inr (.inl rfl) | exact .inl rfl)) (mbin op_modM (mbin op_addM (mbin op_addM (mvar (i := 0) rfl (by first | exact .inr (.inr rfl) | exact .inr (.inl rfl) | exact .inl rfl)) (mbin op_mulM mint (mvar (i := 6) rfl (by first | exact .inr (.inr rfl) | exact .inr (.inl rfl) | exact .inl rfl)))) (mbin op_mulM (mvar (i := 7) rfl (.inl rfl)) (mvar (i := 7) rfl (.inl rfl)))) mint))))) (mix (hu_of hr) (mvar (i := 1) rfl (by first | exact .inr (.inr rfl) | exact .inr (.inl rfl) | exact .inl rfl)) (mvar (i := 6) rfl (.inr (.inl rfl))))))))) (scons (sset (i := 3) sc__law_long_right.nd rfl (.inl rfl) (mbin op_mulTM (mtup (acons (mtup (acons mstr (acons (mtup (acons mstr (acons (mvar (i := 2) rfl (.inl rfl)) (acons (mtup anil) anil)))) anil))) anil)) mint)) (scons (sset (i := 4) sc__law_long_right.nd rfl (.inl rfl) (mtup (acons mstr (acons (mtup anil) (acons (mbin op_mulTM (mtup (acons (mtup (acons mstr (acons (mtup (acons mstr (acons mint anil))) (acons (mvar (i := 3) rfl (.inl rfl)) (acons (mtup anil) anil))))) anil)) mint) anil))))) (scons (sset (i := 5) sc__law_long_right.nd rfl (.inl rfl) (mcall C__law_text (by decide) hr pass_def rfl (acons (mcall C__law_function_words (by decide) hr pass_def rfl (acons (mvar (i := 4) rfl (.inl rfl)) anil)) (acons mnon anil)))) (scons (sif (PW.pt (morT (mcmpT op_leM (mcallV st_V c_lenV rfl T.b_len bt_len (acons (mvar (i := 5) rfl (.inl rfl)) anil)) mint (nomark _)) (mor1 (mcmpT (op_neM hr.units) (mcall C_shown (by decide) hr pass_def rfl (acons (mvar (i := 4) rfl (.inl rfl)) anil)) (mvar (i := 5) rfl (.inl rfl)) (nomark _))))) (sone (sret mbl)) snil) (scons (stryO T.h_BadText ⟨rfl, by decide, .inl T.n_BadText⟩ (takes_of rfl rfl rfl rfl) (fun W1 pn xe tk hp => (xone (xexpr (xcall C_read (by decide) hr tk rfl (fun _ => (acons (mvar (i := 5) rfl (.inl rfl)) anil)))))) (fun a oe pn => (sone (sret mbl)))) (sone (sret mbl)))))))))
theorem ok__law_names {f : Addr} {fd : FuncData} (F : Fun K "_law_names" "_law_names" s__law_names f fd) (T : Txt K mg cA)  : FnOk P w K mg base (L2.CX P w) 1 f fd ["_law_cell", "_law_many"] (spM K cA F__law_names 2) :=
  defM F sc__law_names fun cdv A outer s H E hr => by
    unfold m__law_names
    exact (scons (sset (i := 2) sc__law_names.nd rfl (.inr rfl) mstr) (scons (sset (i := 3) sc__law_names.nd rfl (.inl rfl) (mbin op_addM mint (mbin op_modM (mvar (i := 0) rfl (.inr (.inl rfl))) mint))) (scons (sset (i := 4) sc__law_names.nd rfl (.inr rfl) (malloc (mcomp (t := .one 6) (own := [("_law_k", 6)]) rfl rfl sc__law_names.nd (irng1 rfl T.b_range (acons mint anil)) (blkOk_by (N := N__law_names) (sc := defScope s__law_names) (by decide +kernel)) (fun _ _ _ _ _ => pg_name (i := 6) sc__law_names.nd rfl (Or.inl rfl)) (fun _ _ _ _ _ => tyes) (fun _ _ _ _ _ => (mix (hu_of hr) (mvar (i := 2) rfl (by first | exact .inr (.inr rfl) | exact .inr (.inl rfl) | exact .inl rfl)) (mbin op_modM (mbin op_addM (mbin op_fdivM (mvar (i := 0) rfl (by first | exact .inr (.inr rfl) | exact .inr (.inl rfl) | exact .inl rfl)) mint) (mbin op_mulM mint (mvar (i := 6) rfl (.inl rfl)))) mint)))))) (scons (sif (mcmpT (op_eqM hr.units) (mbin op_modM (mbin op_fdivM (mvar (i := 0) rfl (.inr (.inl rfl))) mint) mint) mint (nomark _)) (sone (sret (malloc (mcomp (t := .one 6) (own := [("_law_k", 6)]) rfl rfl sc__law_names.nd (irng1 rfl T.b_range (acons (mvar (i := 1) rfl (.inl rfl)) anil)) (blkOk_by (N := N__law_names) (sc := defScope s__law_names) (by decide +kernel)) (fun _ _ _ _ _ => pg_name (i := 6) sc__law_names.nd rfl (Or.inl rfl)) (fun _ _ _ _ _ => tyes) (fun _ _ _ _ _ => (mjoinV mstr (mslice (mvar (i := 4) rfl (by first | exact .inr (.inr rfl) | exact .inr (.inl rfl) | exact .inl rfl)) ono (osome (mbin op_addM (mvar (i := 6) rfl (.inl rfl)) mint))))))))) snil) (scons (sset (i := 5) sc__law_names.nd rfl (.inl rfl) (malloc (mlst anil))) (scons (sfor own_def rfl (irng1 rfl T.b_range (acons (mvar (i := 1) rfl (.inl rfl)) anil)) (gname (i := 6) sc__law_names.nd rfl (.inl rfl)) (scons (sasg (mix (hu_of hr) (mvar (i := 2) rfl (.inr (.inl rfl))) (mbin op_modM (mbin op_addM (mbin op_fdivM (mvar (i := 0) rfl (.inr (.inl rfl))) mint) (mbin op_mulM mint (mvar (i := 6) rfl (.inl rfl)))) mint)) (gsub (hu_of hr) (mvar (i := 4) rfl (.inr (.inl rfl))) (mbin op_modM (mbin op_fdivM (mvar (i := 0) rfl (.inr (.inl rfl))) mint) (mvar (i := 3) rfl (.inl rfl))))) (sone (sexpr (mlm PySem.F.slot_list_append PySem.F.type_list_append mt_appendM (mvar (i := 5) rfl (.inl rfl)) (acons (mjoinV mstr (mslice (mvar (i := 4) rfl (.inr (.inl rfl))) ono (osome (mvar (i := 3) rfl (.inl rfl))))) anil)))))) (sone (sret (mvar (i := 5) rfl (.inl rfl))))))))))
theorem ok__law_number {f : Addr} {fd : FuncData} (F : Fun K "_law_number" "_law_number" s__law_number f fd) (T : Txt K mg cA)  : FnOk P w K mg base (L2.CX P w) 1 f fd ["_law_more"] (spM K cA F__law_number 1) :=
  defM F sc__law_number fun cdv A outer s H E hr => by
    unfold m__law_number
    exact (scons (sset (i := 1) sc__law_number.nd rfl (.inl rfl) (mbin op_subM (mbin op_modM (mvar (i := 0) rfl (.inl rfl)) (mbin op_addM (mbin op_mulM mint (mbin op_powM mint mint)) mint)) (mbin op_powM mint mint))) (sone (sret (mix (hu_of hr) (malloc (mlst (acons (mbin op_modM (mbin op_fdivM (mvar (i := 0) rfl (.inl rfl)) mint) mint) (acons (mbin op_subM (mbin op_modM (mbin op_fdivM (mvar (i := 0) rfl (.inl rfl)) mint) mint) mint) (acons (mvar (i := 1) rfl (.inl rfl)) (acons (mix (hu_of hr) (malloc (mlst (acons (mbin op_powM mint mint) (acons (mbin op_subM mint (mbin op_powM mint mint)) (acons mint anil))))) (mbin op_modM (mbin op_fdivM (mvar (i := 0) rfl (.inl rfl)) mint) mint)) anil)))))) (mbin op_modM (mvar (i := 0) rfl (.inl rfl)) mint)))))
theorem ok__law_term {r : Nat → List D → Store → R D} {dd : Nat} (hlev : 2 ≤ dd) {f : Addr} {fd : FuncData} (F : Fun K "_law_term" "_law_term" s__law_term f fd) (T : Txt K mg cA) (C__law_next : FnM P w K mg base cA 2 "_law_next" 1 F__law_next) (C__law_number : FnM P w K mg base cA 1 "_law_number" 1 F__law_number) (C__law_body : FnM P w K mg base cA dd "_law_body" 3 (r 1)) (C__law_term : FnM P w K mg base cA dd "_law_term" 2 (r 0)) : FnOk P w K mg base (L2.CX P w) (dd + 1) f fd ["_law_state", "_law_deep"] (spM K cA (bodyF N__law_term.length (m__law_term r)) 2) :=
  defM F sc__law_term fun cdv A outer s H E hr => by
    unfold m__law_term
    exact (scons (sset (i := 2) sc__law_term.nd rfl (.inl rfl) (mcall C__law_next (by omega) hr pass_def rfl (acons (mvar (i := 0) rfl (.inr (.inl rfl))) anil))) (scons (sasg (mbin op_subM (mix (hu_of hr) (mvar (i := 0) rfl (.inr (.inl rfl))) mstr) mint) (gsub (hu_of hr) (mvar (i := 0) rfl (.inr (.inl rfl))) mstr)) (scons (sset (i := 3) sc__law_term.nd rfl (.inl rfl) (mbin op_modM (mvar (i := 2) rfl (.inl rfl)) mint)) (scons (sset (i := 4) sc__law_term.nd rfl (.inl rfl) (mbin op_fdivM (mvar (i := 2) rfl (.inl rfl)) mint)) (scons (sset (i := 5) sc__law_term.nd rfl (.inl rfl) (mix (hu_of hr) (mvar (i := 0) rfl (.inr (.inl rfl))) mstr)) (scons (sif (PW.pt (morT (mcmpT op_ltM (mvar (i := 1) rfl (.inr (.inl rfl))) mint (nomark _)) (mor1 (mcmpT op_ltM (mix (hu_of hr) (mvar (i := 0) rfl (.inr (.inl rfl))) mstr) mint (nomark _))))) (sone (sset (i := 3) sc__law_term.nd rfl (.inl rfl) (mbin op_modM (mvar (i := 3) rfl (.inl rfl)) mint))) snil) (scons (sif (mcmpT (op_eqM hr.units) (mvar (i := 3) rfl (.inl rfl)) mint (nomark _)) (sone (sret (mtup (acons mstr (acons (mcall C__law_number (by omega) hr pass_def rfl (acons (mvar (i := 4) rfl (.inl rfl)) anil)) anil))))) snil) (scons (sif (mcmpT (op_inM (hu_of hr)) (mvar (i := 3) rfl (.inl rfl)) (mtup (acons mint (acons mint (acons mint anil)))) rfl) (sone (sret (mtup (acons mstr (acons (mix (hu_of hr) (mvar (i := 5) rfl (.inl rfl)) (mbin op_modM (mvar (i := 4) rfl (.inl rfl)) (mcallV st_V c_lenV rfl T.b_len bt_len (acons (mvar (i := 5) rfl (.inl rfl)) anil)))) anil))))) snil) (scons (sif (mcmpT op_ltM (mvar (i := 3) rfl (.inl rfl)) mint (nomark _)) (sone (sret (mtup (acons mstr (acons (mix (hu_of hr) mstr (mbin op_modM (mvar (i := 4) rfl (.inl rfl)) mint)) (acons (mcall C__law_term (by omega) hr pass_def rfl (acons (mvar (i := 0) rfl (.inr (.inl rfl))) (acons (mbin op_subM (mvar (i := 1) rfl (.inr (.inl rfl))) mint) anil))) (acons (mcall C__law_term (by omega) hr pass_def rfl (acons (mvar (i := 0) rfl (.inr (.inl rfl))) (acons (mbin op_subM (mvar (i := 1) rfl (.inr (.inl rfl))) mint) anil))) anil))))))) snil) (scons (sif (mcmpT op_ltM (mvar (i := 3) rfl (.inl rfl)) mint (nomark _)) (scons (sset (i := 6) sc__law_term.nd rfl (.inl rfl) (mtyV st_V c_tupV rfl T.b_tuple bt_tuple (acons (mslice (mvar (i := 5) rfl (.inl rfl)) (osome (mbin op_modM (mvar (i := 4) rfl (.inl rfl)) mint)) (osome (mbin op_addM (mbin op_modM (mvar (i := 4) rfl (.inl rfl)) mint) (mbin op_modM (mbin op_fdivM (mvar (i := 4) rfl (.inl rfl)) mint) mint)))) anil))) (sone (sret (mtup (acons (mix (hu_of hr) (malloc (mlst (acons mstr (acons mstr anil)))) (mbin op_subM (mvar (i := 3) rfl (.inl rfl)) mint)) (acons (mvar (i := 6) rfl (.inl rfl)) (acons (mcall C__law_body (by omega) hr pass_def rfl (acons (mvar (i := 0) rfl (.inr (.inl rfl))) (acons (mbin op_subM (mvar (i := 1) rfl (.inr (.inl rfl))) mint) (acons (mcmp (op_eqM hr.units) (mvar (i := 3) rfl (.inl rfl)) mint (nomark _)) anil)))) anil))))))) snil) (scons (sif (mcmpT (op_eqM hr.units) (mvar (i := 3) rfl (.inl rfl)) mint (nomark _)) (scons (sset (i := 7) sc__law_term.nd rfl (.inl rfl) (mcall C__law_term (by omega) hr pass_def rfl (acons (mvar (i := 0) rfl (.inr (.inl rfl))) (acons (mbin op_subM (mvar (i := 1) rfl (.inr (.inl rfl))) mint) anil)))) (sone (sret (mtup (acons mstr (acons (mvar (i := 7) rfl (.inl rfl)) (acons (mtyN st_V c_tup rfl T.b_tuple bt_tuple (mcomp (t := .one 8) (own := [("_law_turn", 8)]) rfl rfl sc__law_term.nd (irng1 rfl T.b_range (acons (mbin op_modM (mvar (i := 4) rfl (.inl rfl)) mint) anil)) (blkOk_by (N := N__law_term) (sc := defScope s__law_term) (by decide +kernel)) (fun _ _ _ _ _ => pg_name (i := 8) sc__law_term.nd rfl (Or.inl rfl)) (fun _ _ _ _ _ => tyes) (fun _ _ _ _ _ => (mcall C__law_term (by omega) hr passL rfl (acons (mvar (i := 0) rfl (by first | exact .inr (.inr rfl) | exact .inr (.inl rfl) | exact .inl rfl)) (acons (mbin op_subM (mvar (i := 1) rfl (by first | exact .inr (.inr rfl) | exact .inr (.inl rfl) | exact .inl rfl)) mint) anil)))))) anil))))))) snil) (sone (sret (mtup (acons mstr (acons (mcall C__law_term (by omega) hr pass_def rfl (acons (mvar (i := 0) rfl (.inr (.inl rfl))) (acons (mbin op_subM (mvar (i := 1) rfl (.inr (.inl rfl))) mint) anil))) (acons (mcall C__law_term (by omega) hr pass_def rfl (acons (mvar (i := 0) rfl (.inr (.inl rfl))) (acons (mbin op_subM (mvar (i := 1) rfl (.inr (.inl rfl))) mint) anil))) anil)))))))))))))))))
theorem ok__law_body {r : Nat → List D → Store → R D} {dd : Nat} (hlev : 2 ≤ dd) {f : Addr} {fd : FuncData} (F : Fun K "_law_body" "_law_body" s__law_body f fd) (T : Txt K mg cA) (C__law_next : FnM P w K mg base cA 2 "_law_next" 1 F__law_next) (C__law_statement : FnM P w K mg base cA dd "_law_statement" 3 (r 2)) : FnOk P w K mg base (L2.CX P w) (dd + 1) f fd ["_law_state", "_law_deep", "_law_may_hand"] (spM K cA (bodyF N__law_body.length (m__law_body r)) 3) :=
  defM F sc__law_body fun cdv A outer s H E hr => by
    unfold m__law_body
    exact (sone (sret (mtyN st_V c_tup rfl T.b_tuple bt_tuple (mcomp (t := .one 3) (own := [("_law_turn", 3)]) rfl rfl sc__law_body.nd (irng1 rfl T.b_range (acons (mbin op_modM (mcall C__law_next (by omega) hr pass_def rfl (acons (mvar (i := 0) rfl (.inr (.inl rfl))) anil)) mint) anil)) (blkOk_by (N := N__law_body) (sc := defScope s__law_body) (by decide +kernel)) (fun _ _ _ _ _ => pg_name (i := 3) sc__law_body.nd rfl (Or.inl rfl)) (fun _ _ _ _ _ => tyes) (fun _ _ _ _ _ => (mcall C__law_statement (by omega) hr passL rfl (acons (mvar (i := 0) rfl (by first | exact .inr (.inr rfl) | exact .inr (.inl rfl) | exact .inl rfl)) (acons (mvar (i := 1) rfl (by first | exact .inr (.inr rfl) | exact .inr (.inl rfl) | exact .inl rfl)) (acons (mvar (i := 2) rfl (by first | exact .inr (.inr rfl) | exact .inr (.inl rfl) | exact .inl rfl)) anil)))))))))
theorem ok__law_statement {r : Nat → List D → Store → R D} {dd : Nat} (hlev : 2 ≤ dd) {f : Addr} {fd : FuncData} (F : Fun K "_law_statement" "_law_statement" s__law_statement f fd) (T : Txt K mg cA) (C__law_next : FnM P w K mg base cA 2 "_law_next" 1 F__law_next) (C__law_body : FnM P w K mg base cA dd "_law_body" 3 (r 1)) (C__law_term : FnM P w K mg base cA dd "_law_term" 2 (r 0)) : FnOk P w K mg base (L2.CX P w) (dd + 1) f fd ["_law_state", "_law_deep", "_law_may_hand"] (spM K cA (bodyF N__law_statement.length (m__law_statement r)) 3) :=
  defM F sc__law_statement fun cdv A outer s H E hr => by
    unfold m__law_statement
    exact (scons (sset (i := 3) sc__law_statement.nd rfl (.inl rfl) (mcall C__law_next (by omega) hr pass_def rfl (acons (mvar (i := 0) rfl (.inr (.inl rfl))) anil))) (scons (sasg (mbin op_subM (mix (hu_of hr) (mvar (i := 0) rfl (.inr (.inl rfl))) mstr) mint) (gsub (hu_of hr) (mvar (i := 0) rfl (.inr (.inl rfl))) mstr)) (scons (sset (i := 4) sc__law_statement.nd rfl (.inl rfl) (mbin op_modM (mvar (i := 3) rfl (.inl rfl)) mint)) (scons (sset (i := 5) sc__law_statement.nd rfl (.inl rfl) (mix (hu_of hr) (mix (hu_of hr) (mvar (i := 0) rfl (.inr (.inl rfl))) mstr) (mbin op_modM (mbin op_fdivM (mvar (i := 3) rfl (.inl rfl)) mint) (mcallV st_V c_lenV rfl T.b_len bt_len (acons (mix (hu_of hr) (mvar (i := 0) rfl (.inr (.inl rfl))) mstr) anil))))) (scons (sset (i := 6) sc__law_statement.nd rfl (.inl rfl) (mix (hu_of hr) (malloc (mlst (acons mstr (acons mstr (acons mstr (acons mstr (acons (mvar (i := 5) rfl (.inl rfl)) anil))))))) (mbin op_modM (mbin op_fdivM (mvar (i := 3) rfl (.inl rfl)) mint) mint))) (scons (sif (PW.pt (morT (mcmpT op_ltM (mvar (i := 1) rfl (.inr (.inl rfl))) mint (nomark _)) (mor1 (mcmpT op_ltM (mix (hu_of hr) (mvar (i := 0) rfl (.inr (.inl rfl))) mstr) mint (nomark _))))) (sone (sset (i := 4) sc__law_statement.nd rfl (.inl rfl) (mbin op_modM (mvar (i := 4) rfl (.inl rfl)) mint))) snil) (scons (sif (PW.pt (mandT (mcmpT (op_eqM hr.units) (mvar (i := 4) rfl (.inl rfl)) mint (nomark _)) (mand1 (mnotT (mval (mvar (i := 2) rfl (.inr (.inl rfl)))))))) (sone (sset (i := 4) sc__law_statement.nd rfl (.inl rfl) mint)) snil) (scons (sif (mcmpT op_ltM (mvar (i := 4) rfl (.inl rfl)) mint (nomark _)) (sone (sret (mtup (acons (mix (hu_of hr) (malloc (mlst (acons mstr (acons mstr anil)))) (mvar (i := 4) rfl (.inl rfl))) (acons (mvar (i := 5) rfl (.inl rfl)) (acons (mcall C__law_term (by omega) hr pass_def rfl (acons (mvar (i := 0) rfl (.inr (.inl rfl))) (acons (mbin op_subM (mvar (i := 1) rfl (.inr (.inl rfl))) mint) anil))) anil)))))) snil) (scons (sif (mcmpT op_ltM (mvar (i := 4) rfl (.inl rfl)) mint (nomark _)) (sone (sret (mtup (acons (mix (hu_of hr) (malloc (mlst (acons mstr (acons mstr (acons mstr anil))))) (mbin op_subM (mvar (i := 4) rfl (.inl rfl)) mint)) (acons (mcall C__law_term (by omega) hr pass_def rfl (acons (mvar (i := 0) rfl (.inr (.inl rfl))) (acons (mbin op_subM (mvar (i := 1) rfl (.inr (.inl rfl))) mint) anil))) anil))))) snil) (scons (sif (mcmpT (op_eqM hr.units) (mvar (i := 4) rfl (.inl rfl)) mint (nomark _)) (sone (sret (mtup (acons mstr (acons (mix (hu_of hr) (malloc (mlst (acons (mvar (i := 6) rfl (.inl rfl)) (acons mstr anil)))) (mtyV st_V c_int rfl T.b_int bt_int (acons (mcmp (op_eqM hr.units) (mvar (i := 6) rfl (.inl rfl)) mstr (nomark _)) anil))) (acons (mcall C__law_term (by omega) hr pass_def rfl (acons (mvar (i := 0) rfl (.inr (.inl rfl))) (acons (mbin op_subM (mvar (i := 1) rfl (.inr (.inl rfl))) mint) anil))) anil)))))) snil) (scons (sif (mcmpT (op_eqM hr.units) (mvar (i := 4) rfl (.inl rfl)) mint (nomark _)) (sone (sret (mtup (acons mstr (acons (mcall C__law_term (by omega) hr pass_def rfl (acons (mvar (i := 0) rfl (.inr (.inl rfl))) (acons (mbin op_subM (mvar (i := 1) rfl (.inr (.inl rfl))) mint) anil))) (acons (mcall C__law_body (by omega) hr pass_def rfl (acons (mvar (i := 0) rfl (.inr (.inl rfl))) (acons (mbin op_subM (mvar (i := 1) rfl (.inr (.inl rfl))) mint) (acons (mvar (i := 2) rfl (.inr (.inl rfl))) anil)))) anil)))))) snil) (scons (sif (mcmpT (op_eqM hr.units) (mvar (i := 4) rfl (.inl rfl)) mint (nomark _)) (scons (sset (i := 7) sc__law_statement.nd rfl (.inl rfl) (mcall C__law_term (by omega) hr pass_def rfl (acons (mvar (i := 0) rfl (.inr (.inl rfl))) (acons (mbin op_subM (mvar (i := 1) rfl (.inr (.inl rfl))) mint) anil)))) (sone (sret (mtup (acons mstr (acons (mvar (i := 7) rfl (.inl rfl)) (acons (mcall C__law_body (by omega) hr pass_def rfl (acons (mvar (i := 0) rfl (.inr (.inl rfl))) (acons (mbin op_subM (mvar (i := 1) rfl (.inr (.inl rfl))) mint) (acons (mvar (i := 2) rfl (.inr (.inl rfl))) anil)))) (acons (mcall C__law_body (by omega) hr pass_def rfl (acons (mvar (i := 0) rfl (.inr (.inl rfl))) (acons (mbin op_subM (mvar (i := 1) rfl (.inr (.inl rfl))) mint) (acons (mvar (i := 2) rfl (.inr (.inl rfl))) anil)))) anil)))))))) snil) (scons (ssetC (i := 8) (t := .one 9) (own := [("_law_turn", 9)]) rfl rfl sc__law_statement.nd rfl rfl (sw_true rfl rfl rfl (by decide +kernel)) (irng1 rfl T.b_range (acons mint anil)) (blkOk_by (N := N__law_statement) (sc := defScope s__law_statement) (by decide +kernel)) (fun _ _ _ _ _ => pg_name (i := 9) sc__law_statement.nd rfl (Or.inl rfl)) (fun _ _ _ _ _ => tyes) (fun _ _ _ _ _ => (mcall C__law_body (by omega) hr passL rfl (acons (mvar (i := 0) rfl (by first | exact .inr (.inr rfl) | exact .inr (.inl rfl) | exact .inl rfl)) (acons (mbin op_subM (mvar (i := 1) rfl (by first | exact .inr (.inr rfl) | exact .inr (.inl rfl) | exact .inl rfl)) mint) (acons (mvar (i := 2) rfl (by first | exact .inr (.inr rfl) | exact .inr (.inl rfl) | exact .inl rfl)) anil)))))) (sone (sret (mtup (acons mstr (acons (mix (hu_of hr) (mvar (i := 8) rfl (.inl rfl)) mint) (acons (mvar (i := 6) rfl (.inl rfl)) (acons (mvar (i := 5) rfl (.inl rfl)) (acons (mix (hu_of hr) (mvar (i := 8) rfl (.inl rfl)) mint) (acons (mix (hu_of hr) (mvar (i := 8) rfl (.inl rfl)) mint) anil))))))))))))))))))))))
theorem rec__law_term {f__law_term : Addr} {fd__law_term : FuncData} (F__law_term : Fun K "_law_term" "_law_term" s__law_term f__law_term fd__law_term) (g__law_term : mg "_law_term" = some (.ref f__law_term)) (B__law_term : Binds K fd__law_term ["_law_state", "_law_deep"] []) {f__law_body : Addr} {fd__law_body : FuncData} (F__law_body : Fun K "_law_body" "_law_body" s__law_body f__law_body fd__law_body) (g__law_body : mg "_law_body" = some (.ref f__law_body)) (B__law_body : Binds K fd__law_body ["_law_state", "_law_deep", "_law_may_hand"] []) {f__law_statement : Addr} {fd__law_statement : FuncData} (F__law_statement : Fun K "_law_statement" "_law_statement" s__law_statement f__law_statement fd__law_statement) (g__law_statement : mg "_law_statement" = some (.ref f__law_statement)) (B__law_statement : Binds K fd__law_statement ["_law_state", "_law_deep", "_law_may_hand"] []) (T : Txt K mg cA) (C__law_next : FnM P w K mg base cA 2 "_law_next" 1 F__law_next) (C__law_number : FnM P w K mg base cA 1 "_law_number" 1 F__law_number) : ∀ n : Nat, FnM P w K mg base cA (2 + n) "_law_term" 2 (G__law_term n 0) ∧ FnM P w K mg base cA (2 + n) "_law_body" 3 (G__law_term n 1) ∧ FnM P w K mg base cA (2 + n) "_law_statement" 3 (G__law_term n 2)
  | 0 => ⟨⟨⟨f__law_term, fd__law_term, _, g__law_term, F__law_term.kp, B__law_term, ok_bad rfl⟩⟩, ⟨⟨f__law_body, fd__law_body, _, g__law_body, F__law_body.kp, B__law_body, ok_bad rfl⟩⟩, ⟨⟨f__law_statement, fd__law_statement, _, g__law_statement, F__law_statement.kp, B__law_statement, ok_bad rfl⟩⟩⟩
  | n + 1 => by
    have ih := rec__law_term F__law_term g__law_term B__law_term F__law_body g__law_body B__law_body F__law_statement g__law_statement B__law_statement T C__law_next C__law_number n
    obtain ⟨C__law_term, C__law_body, C__law_statement⟩ := ih
    exact ⟨.mk' F__law_term g__law_term B__law_term (ok__law_term (r := G__law_term n) (Nat.le_add_right 2 n) F__law_term T (C__law_body := C__law_body) (C__law_next := C__law_next) (C__law_number := C__law_number) (C__law_term := C__law_term)), .mk' F__law_body g__law_body B__law_body (ok__law_body (r := G__law_term n) (Nat.le_add_right 2 n) F__law_body T (C__law_next := C__law_next) (C__law_statement := C__law_statement)), .mk' F__law_statement g__law_statement B__law_statement (ok__law_statement (r := G__law_term n) (Nat.le_add_right 2 n) F__law_statement T (C__law_body := C__law_body) (C__law_next := C__law_next) (C__law_term := C__law_term))⟩
theorem ok__law_program {f : Addr} {fd : FuncData} (F : Fun K "_law_program" "_law_program" s__law_program f fd) (T : Txt K mg cA) (C__law_cell_at : FnM P w K mg base cA 1 "_law_cell_at" 2 F__law_cell_at) (C__law_names : FnM P w K mg base cA 1 "_law_names" 2 F__law_names) (C__law_next : FnM P w K mg base cA 2 "_law_next" 1 F__law_next) (C__law_statement : FnM P w K mg base cA 62 "_law_statement" 3 F__law_statement) : FnOk P w K mg base (L2.CX P w) 63 f fd ["_law_script", "_law_most"] (spM K cA F__law_program 2) :=
  defM F sc__law_program fun cdv A outer s H E hr => by
    unfold m__law_program
    exact (scons (sset (i := 2) sc__law_program.nd rfl (.inl rfl) (mcall C__law_names (by decide) hr pass_def rfl (acons (mbin op_modM (mbin op_mulM (mcall C__law_cell_at (by decide) hr pass_def rfl (acons (mvar (i := 0) rfl (.inl rfl)) (acons mint anil))) mint) mint) (acons mint anil)))) (scons (sset (i := 3) sc__law_program.nd rfl (.inl rfl) (mdict (pcons mstr (mvar (i := 0) rfl (.inl rfl)) (pcons mstr mint (pcons mstr (mvar (i := 1) rfl (.inl rfl)) (pcons mstr (mvar (i := 2) rfl (.inl rfl)) pnil)))))) (scons (sset (i := 4) sc__law_program.nd rfl (.inl rfl) (malloc (mlst anil))) (scons (swhile FU own_def (PW.pt (mandT (mcmpT op_gtM (mix (hu_of hr) (mvar (i := 3) rfl (.inl rfl)) mstr) mint (nomark _)) (mand1 (mcmpT op_ltM (mcallV st_V c_lenV rfl T.b_len bt_len (acons (mvar (i := 4) rfl (.inl rfl)) anil)) (mbin op_addM mint (mbin op_modM (mcall C__law_cell_at (by decide) hr pass_def rfl (acons (mvar (i := 0) rfl (.inl rfl)) (acons mint anil))) mint)) (nomark _))))) (sone (sexpr (mlm PySem.F.slot_list_append PySem.F.type_list_append mt_appendM (mvar (i := 4) rfl (.inl rfl)) (acons (mcall C__law_statement (by decide) hr pass_def rfl (acons (mvar (i := 3) rfl (.inl rfl)) (acons (mbin op_addM mint (mbin op_modM (mcall C__law_next (by decide) hr pass_def rfl (acons (mvar (i := 3) rfl (.inl rfl)) anil)) mint)) (acons mbl anil)))) anil))))) (sone (sret (mtup (acons mstr (acons (mtyV st_V c_tupV rfl T.b_tuple bt_tuple (acons (mslice (mvar (i := 2) rfl (.inl rfl)) ono (osome (mbin op_modM (mcall C__law_cell_at (by decide) hr pass_def rfl (acons (mvar (i := 0) rfl (.inl rfl)) (acons mint anil))) mint))) anil)) (acons (mtyV st_V c_tupV rfl T.b_tuple bt_tuple (acons (mvar (i := 4) rfl (.inl rfl)) anil)) anil))))))))))
theorem ok_law {f : Addr} {fd : FuncData} (F : Fun K "law" "law" s_law f fd) (T : Txt K mg cA) (C__law_cell_at : FnM P w K mg base cA 1 "_law_cell_at" 2 F__law_cell_at) (C__law_deep_right : FnM P w K mg base cA 66 "_law_deep_right" 1 F__law_deep_right) (C__law_function_words : FnM P w K mg base cA 60 "_law_function_words" 1 F__law_function_words) (C__law_long_right : FnM P w K mg base cA 66 "_law_long_right" 1 F__law_long_right) (C__law_program : FnM P w K mg base cA 63 "_law_program" 2 F__law_program) (C__law_text : FnM P w K mg base cA 3 "_law_text" 2 F__law_text) (C_read : FnM P w K mg base cA 64 "read" 1 F_read) (C_shown : FnM P w K mg base cA 65 "shown" 1 F_shown) : FnOk P w K mg base (L2.CX P w) 67 f fd ["_law_script"] (spM K cA F_law 1) :=
  defM F sc_law fun cdv A outer s H E hr => by
    unfold m_law
    exact (scons (sif (mnotT (mval (mcall C__law_deep_right (by decide) hr pass_def rfl (acons (mcall C__law_cell_at (by decide) hr pass_def rfl (acons (mvar (i := 0) rfl (.inl rfl)) (acons mint anil))) anil)))) (sone (sret mbl)) snil) (scons (sif (PW.pt (mandT (mcmpT (op_eqM hr.units) (mbin op_modM (mcall C__law_cell_at (by decide) hr pass_def rfl (acons (mvar (i := 0) rfl (.inl rfl)) (acons mint anil))) mint) mint (nomark _)) (mand1 (mnotT (mval (mcall C__law_long_right (by decide) hr pass_def rfl (acons (mcall C__law_cell_at (by decide) hr pass_def rfl (acons (mvar (i := 0) rfl (.inl rfl)) (acons mint anil))) anil))))))) (sone (sret mbl)) snil) (scons (sset (i := 1) sc_law.nd rfl (.inl rfl) (mcall C__law_program (by decide) hr pass_def rfl (acons (mvar (i := 0) rfl (.inl rfl)) (acons mint anil)))) (scons (sset (i := 2) sc_law.nd rfl (.inl rfl) (mcall C__law_function_words (by decide) hr pass_def rfl (acons (mvar (i := 1) rfl (.inl rfl)) anil))) (scons (sset (i := 3) sc_law.nd rfl (.inl rfl) (mcall C__law_text (by decide) hr pass_def rfl (acons (mvar (i := 2) rfl (.inl rfl)) (acons mnon anil)))) (scons (sif (mcmpT op_gtM (mcallV st_V c_lenV rfl T.b_len bt_len (acons (mvar (i := 3) rfl (.inl rfl)) anil)) mint (nomark _)) (sone (sret mbl)) snil) (scons (sset (i := 4) sc_law.nd rfl (.inl rfl) (mcall C__law_text (by decide) hr pass_def rfl (acons (mvar (i := 2) rfl (.inl rfl)) (acons (mdict (pcons mstr (mvar (i := 0) rfl (.inl rfl)) (pcons mstr mint pnil))) anil)))) (scons (sset (i := 5) sc_law.nd rfl (.inl rfl) (mcall C_shown (by decide) hr pass_def rfl (acons (mvar (i := 1) rfl (.inl rfl)) anil))) (scons (sif (PW.pt (morT (mnotT (mval (misi ok_str (mvar (i := 5) rfl (.inl rfl)) rfl T.b_isinstance rfl T.b_str bt_str bt_isinstance))) (morT (mcmpT (op_neM hr.units) (mvar (i := 5) rfl (.inl rfl)) (mvar (i := 3) rfl (.inl rfl)) (nomark _)) (mor1 (mcmpT (op_neM hr.units) (mcall C_shown (by decide) hr pass_def rfl (acons (mvar (i := 1) rfl (.inl rfl)) anil)) (mvar (i := 3) rfl (.inl rfl)) (nomark _)))))) (sone (sret mbl)) snil) (scons (sfor own_def rfl (isrc (mtup (acons (mvar (i := 3) rfl (.inl rfl)) (acons (mvar (i := 4) rfl (.inl rfl)) (acons (mvar (i := 3) rfl (.inl rfl)) anil))))) (gname (i := 6) sc_law.nd rfl (.inl rfl)) (sone (sif (PW.pt (morT (mcmpT (op_neM hr.units) (mcall C_read (by decide) hr pass_def rfl (acons (mvar (i := 6) rfl (.inl rfl)) anil)) (mvar (i := 1) rfl (.inl rfl)) (nomark _)) (mor1 (mcmpT (op_neM hr.units) (mcall C_shown (by decide) hr pass_def rfl (acons (mcall C_read (by decide) hr pass_def rfl (acons (mvar (i := 6) rfl (.inl rfl)) anil)) anil)) (mvar (i := 3) rfl (.inl rfl)) (nomark _))))) (sone (sret mbl)) snil))) (sone (sret mbl))))))))))))
end
end K05

set_option Elab.async false
set_option linter.all false
set_option maxRecDepth 100000
set_option autoImplicit false
namespace K05
open PySem PySem.Spec L2 ML
/-! ### what a program is -/
def NmOk (z : Str) : Prop := 1 ≤ (cs z).length ∧ (cs z).length ≤ 8 ∧ ∀ c ∈ cs z, 97 ≤ c ∧ c ≤ 122
abbrev w (s : String) : D := .str (Str.ofString s)
def signs : List String := ["+", "-", "*", "<", "="]
def kw (k : Bool) : String := if k then "loop" else "fun"
mutual
/-- a term: at most n deep, of p parts -/
inductive Tm : Nat → Nat → D → Prop
  | num {n : Nat} (i : Int) : -1000000000000 ≤ i → i ≤ 1000000000000 → Tm (n + 1) 1 (.tup [w "number", .int i])
  | nam {n : Nat} (z : Str) : NmOk z → Tm (n + 1) 1 (.tup [w "name", .str z])
  | two {n p q : Nat} {a b : D} (s : String) : s ∈ signs → Tm n p a → Tm n q b → Tm (n + 1) (1 + p + q) (.tup [w "two", w s, a, b])
  | fn {n p : Nat} {bs : List D} (k : Bool) (ps : List Str) : ps.length ≤ 4 → (∀ z ∈ ps, NmOk z) → ps.Nodup → bs.length ≤ 12 → Bd n k p bs → Tm (n + 1) (1 + p) (.tup [w (kw k), .tup (ps.map .str), .tup bs])
  | call {n p q : Nat} {f : D} {as : List D} : Tm n p f → as.length ≤ 4 → Ts n q as → Tm (n + 1) (1 + p + q) (.tup [w "call", f, .tup as])
  | step {n p q : Nat} {a b : D} : Tm n p a → Tm n q b → Tm (n + 1) (1 + p + q) (.tup [w "step", a, b])
inductive Ts : Nat → Nat → List D → Prop
  | nil {n : Nat} : Ts n 0 []
  | cons {n p q : Nat} {a : D} {as : List D} : Tm n p a → Ts n q as → Ts n (p + q) (a :: as)
/-- a statement -/
inductive St : Nat → Bool → Nat → D → Prop
  | lets {n p : Nat} {h : Bool} {t : D} (b : Bool) (z : Str) : NmOk z → Tm n p t → St (n + 1) h (1 + p) (.tup [w (if b then "set" else "let"), .str z, t])
  | fault {n p : Nat} {h : Bool} {t : D} (z : Str) : NmOk z → z ≠ Str.ofString "any" → Tm n p t → St (n + 1) h (1 + p) (.tup [w "fault", .str z, t])
  | hand {n p : Nat} {t : D} : Tm n p t → St (n + 1) true (1 + p) (.tup [w "hand", t])
  | does {n p : Nat} {h : Bool} {t : D} (b : Bool) : Tm n p t → St (n + 1) h (1 + p) (.tup [w (if b then "back" else "do"), t])
  | whl {n p q : Nat} {h : Bool} {t : D} {bs : List D} : Tm n p t → bs.length ≤ 12 → Bd n h q bs → St (n + 1) h (1 + p + q) (.tup [w "while", t, .tup bs])
  | ifs {n p q r : Nat} {h : Bool} {t : D} {bs es : List D} : Tm n p t → bs.length ≤ 12 → Bd n h q bs → es.length ≤ 12 → Bd n h r es → St (n + 1) h (1 + p + q + r) (.tup [w "if", t, .tup bs, .tup es])
  | trys {n p q r : Nat} {h : Bool} {bs es gs : List D} (y z : Str) : NmOk y → NmOk z → bs.length ≤ 12 → Bd n h p bs → es.length ≤ 12 → Bd n h q es → gs.length ≤ 12 → Bd n h r gs → St (n + 1) h (1 + p + q + r) (.tup [w "try", .tup bs, .str y, .str z, .tup es, .tup gs])
inductive Bd : Nat → Bool → Nat → List D → Prop
  | nil {n : Nat} {h : Bool} : Bd n h 0 []
  | cons {n p q : Nat} {h : Bool} {a : D} {as : List D} : St n h p a → Bd n h q as → Bd n h (p + q) (a :: as)
end
theorem Ts.all {n : Nat} : ∀ {q : Nat} {as : List D}, Ts n q as → ∀ a ∈ as, ∃ p, Tm n p a
  | _, [], _, a, h => by simp at h
  | _, b :: as, hs, a, h => by
    cases hs with
    | cons h1 h2 =>
      rcases List.mem_cons.mp h with e | e
      · subst e; exact ⟨_, h1⟩
      · exact h2.all a e
theorem Bd.all {n : Nat} {hd : Bool} : ∀ {q : Nat} {as : List D}, Bd n hd q as → ∀ a ∈ as, ∃ p, St n hd p a
  | _, [], _, a, h => by simp at h
  | _, b :: as, hs, a, h => by
    cases hs with
    | cons h1 h2 =>
      rcases List.mem_cons.mp h with e | e
      · subst e; exact ⟨_, h1⟩
      · exact h2.all a e
theorem Ts.snoc {n p : Nat} {a : D} : ∀ {as : List D} {q : Nat}, Ts n q as → Tm n p a → Ts n (q + p) (as ++ [a])
  | [], _, h, h2 => by cases h; rw [Nat.zero_add]; exact (Nat.add_zero p) ▸ Ts.cons h2 .nil
  | b :: as, _, h, h2 => by
    cases h with
    | cons h3 h4 => rw [Nat.add_assoc]; exact .cons h3 (h4.snoc h2)
theorem Bd.snoc {n p : Nat} {h : Bool} {a : D} : ∀ {as : List D} {q : Nat}, Bd n h q as → St n h p a → Bd n h (q + p) (as ++ [a])
  | [], _, h, h2 => by cases h; rw [Nat.zero_add]; exact (Nat.add_zero p) ▸ Bd.cons h2 .nil
  | b :: as, _, h, h2 => by
    cases h with
    | cons h3 h4 => rw [Nat.add_assoc]; exact .cons h3 (h4.snoc h2)
mutual
theorem Tm.mono {n m p : Nat} {d : D} (h : Tm n p d) (le : n ≤ m) : Tm m p d := by
  obtain ⟨k, rfl⟩ : ∃ k, m = k + 1 := ⟨m - 1, by cases h <;> omega⟩
  cases h with
  | num i a b => exact .num i a b
  | nam z a => exact .nam z a
  | two s a b c => exact .two s a (b.mono (by omega)) (c.mono (by omega))
  | fn kk ps a b c d e => exact .fn kk ps a b c d (e.mono (by omega))
  | call a b c => exact .call (a.mono (by omega)) b (c.mono (by omega))
  | step a b => exact .step (a.mono (by omega)) (b.mono (by omega))
theorem Ts.mono {n m p : Nat} {d : List D} (h : Ts n p d) (le : n ≤ m) : Ts m p d := by
  cases h with
  | nil => exact .nil
  | cons a b => exact .cons (a.mono le) (b.mono le)
theorem St.mono {n m p : Nat} {hd : Bool} {d : D} (h : St n hd p d) (le : n ≤ m) : St m hd p d := by
  obtain ⟨k, rfl⟩ : ∃ k, m = k + 1 := ⟨m - 1, by cases h <;> omega⟩
  cases h with
  | lets b z a c => exact .lets b z a (c.mono (by omega))
  | fault z a b c => exact .fault z a b (c.mono (by omega))
  | hand a => exact .hand (a.mono (by omega))
  | does b a => exact .does b (a.mono (by omega))
  | whl a b c => exact .whl (a.mono (by omega)) b (c.mono (by omega))
  | ifs a b c d e => exact .ifs (a.mono (by omega)) b (c.mono (by omega)) d (e.mono (by omega))
  | trys y z a b c d e f g i => exact .trys y z a b c (d.mono (by omega)) e (f.mono (by omega)) g (i.mono (by omega))
theorem Bd.mono {n m p : Nat} {hd : Bool} {d : List D} (h : Bd n hd p d) (le : n ≤ m) : Bd m hd p d := by
  cases h with
  | nil => exact .nil
  | cons a b => exact .cons (a.mono le) (b.mono le)
end
end K05

set_option Elab.async false
set_option linter.all false
set_option maxRecDepth 100000
set_option autoImplicit false
namespace K05
open PySem PySem.Spec L2 ML
/-! ### as data: told and laid -/
def PyOk (d : D) (n p : Nat) : Prop := ∃ py, (∀ S k, n ≤ k → toPy S k d = some py) ∧ py.canLay0 = true ∧ PyData.showable py = true ∧ (PyData.shown py).length + 2 ≤ p
def PysOk (as : List D) (n p : Nat) : Prop := ∃ pys, (∀ S k, n ≤ k → mapO (toPy S k) as = some pys) ∧ PyData.canLayAll0 pys = true ∧ PyData.showableAll pys = true ∧ piled (PyData.shownAll pys) ≤ p
theorem PyOk.le {d : D} {n m p q : Nat} (h : PyOk d n p) (h1 : n ≤ m) (h2 : p ≤ q) : PyOk d m q := by
  obtain ⟨py, a, b, c, e⟩ := h
  exact ⟨py, fun S k hk => a S k (by omega), b, c, by omega⟩
theorem PysOk.le {d : List D} {n m p q : Nat} (h : PysOk d n p) (h1 : n ≤ m) (h2 : p ≤ q) : PysOk d m q := by
  obtain ⟨py, a, b, c, e⟩ := h
  exact ⟨py, fun S k hk => a S k (by omega), b, c, by omega⟩
theorem PysOk.nil {n : Nat} : PysOk [] n 0 := ⟨[], fun S k _ => rfl, rfl, rfl, Nat.le_refl _⟩
theorem PysOk.cons {a : D} {as : List D} {n p q : Nat} (h1 : PyOk a n p) (h2 : PysOk as n q) : PysOk (a :: as) n (p + q) := by
  obtain ⟨py, a1, b1, c1, e1⟩ := h1
  obtain ⟨pys, a2, b2, c2, e2⟩ := h2
  refine ⟨py :: pys, fun S k hk => by rw [mapO_cons, a1 S k hk, a2 S k hk], ?_, ?_, ?_⟩
  · rw [PyData.canLayAll0, b1, b2]; rfl
  · rw [PyData.showableAll, c1, c2]; rfl
  · rw [PyData.shownAll, piled_cons]; omega
theorem PyOk.cons {a : D} {as : List D} {n p q : Nat} (h1 : PyOk a n p) (h2 : PysOk as n q) : PysOk (a :: as) n (p + q) := PysOk.cons h1 h2
theorem PyOk.tup {as : List D} {n p : Nat} (h : PysOk as n p) : PyOk (.tup as) (n + 1) (p + 4) := by
  obtain ⟨pys, a, b, c, e⟩ := h
  refine ⟨.tuple pys, fun S k hk => ?_, b, c, ?_⟩
  · obtain ⟨j, rfl⟩ : ∃ j, k = j + 1 := ⟨k - 1, by omega⟩
    rw [toPy_tup, a S j (by omega)]
    rfl
  · have := fmt_text (PyData.shownAll pys)
    show (tupleText (PyData.shownAll pys)).length + 2 ≤ p + 4
    omega
theorem PysOk.tup {as : List D} {n p : Nat} (h : PysOk as n p) : PyOk (.tup as) (n + 1) (p + 4) := PyOk.tup h
theorem PyOk.str {z : Str} (hz : ∀ c ∈ cs z, c < 55296) (n : Nat) : PyOk (.str z) n (10 * (cs z).length + 4) := by
  refine ⟨.str z, fun S k _ => toPy_str S k z, ?_, rfl, ?_⟩
  · rw [← mkS_cs z]
    exact lay_str fun c hc => by have := hz c hc; omega
  · have := StrLaws.reprText_len z fun c hc => by
      have := hz c (by simpa [cs, TL.tl] using hc)
      have : (55296 : Nat) < 16 ^ 8 := by decide
      omega
    show (reprText z).length + 2 ≤ _
    rw [cs_len]
    omega
theorem PyOk.w (s : String) (h : s.toList.all (fun c => decide (c.toNat < 55296)) = true) (n : Nat) : PyOk (w s) n (10 * s.toList.length + 4) := by
  have e : (cs (Str.ofString s)).length = s.toList.length := by rw [cs_of, List.length_map]
  have := PyOk.str (z := Str.ofString s) (fun c hc => by
    rw [cs_of] at hc
    obtain ⟨x, hx, rfl⟩ := List.mem_map.mp hc
    exact of_decide_eq_true (List.all_eq_true.mp h x hx)) n
  rw [e] at this
  exact this
theorem PyOk.int {i : Int} (h1 : -1000000000000 ≤ i) (h2 : i ≤ 1000000000000) (n : Nat) : PyOk (.int i) n 20 := by
  have hn : i.natAbs < 10 ^ 13 := by omega
  have hl := int_text_length_le10 (a := i) (k := 13) (by decide) hn
  refine ⟨.int i, fun S k _ => toPy_int S k i, rfl, ?_, ?_⟩
  · show decide (i.natAbs.log2 < 1920) = true
    refine decide_eq_true ?_
    have : i.natAbs.log2 < 50 := by
      by_cases q : i.natAbs = 0
      · rw [q]; decide
      · rw [Nat.log2_lt q]
        have : (10 : Nat) ^ 13 < 2 ^ 50 := by decide
        omega
    omega
  · show (Str.ofString (toString i)).length + 2 ≤ 20
    have e : (Str.ofString (toString i)).length = (toString i).length := by rw [← cs_len, cs_of, List.length_map]; rfl
    omega
theorem PyOk.nm {z : Str} (h : NmOk z) (n : Nat) : PyOk (.str z) n 84 :=
  (PyOk.str (z := z) (fun c hc => by have := h.2.2 c hc; omega) n).le (Nat.le_refl _) (by have := h.2.1; omega)
theorem PysOk.nms : ∀ {ps : List Str}, (∀ z ∈ ps, NmOk z) → ∀ n, PysOk (ps.map .str) n (84 * ps.length)
  | [], _, n => PysOk.nil
  | z :: ps, h, n => ((PyOk.nm (h z List.mem_cons_self) n).cons (PysOk.nms (fun y hy => h y (List.mem_cons_of_mem _ hy)) n)).le (Nat.le_refl _) (by rw [List.length_cons]; omega)
theorem sign_py {s : String} (h : s ∈ signs) (n : Nat) : PyOk (w s) n 14 := by
  simp [signs] at h
  rcases h with rfl | rfl | rfl | rfl | rfl <;> exact PyOk.w _ (by decide) n
mutual
theorem Tm.py {n p : Nat} {d : D} (h : Tm n p d) : PyOk d (2 * n) (1000 * p) := by
  cases h with
  | @num n i a b => exact (PyOk.tup (((PyOk.w "number" (by decide) (2 * n)).cons ((PyOk.int a b _).cons .nil)))).le (by omega) (by simp)
  | @nam n z a => exact (PyOk.tup (((PyOk.w "name" (by decide) (2 * n)).cons ((PyOk.nm a _).cons .nil)))).le (by omega) (by simp)
  | @two n p q a b s hs h1 h2 => exact (PyOk.tup ((PyOk.w "two" (by decide) (2 * n)).cons ((sign_py hs _).cons (h1.py.cons (h2.py.cons .nil))))).le (by omega) (by simp; omega)
  | @fn n p bs k ps a b c d e =>
    have hk : PyOk (w (kw k)) (2 * n + 1) 44 := by cases k <;> exact (PyOk.w _ (by decide) _).le (Nat.le_refl _) (by decide)
    exact (PyOk.tup (hk.cons (((PysOk.nms b (2 * n)).tup).cons ((e.py.tup).cons .nil)))).le (by omega) (by omega)
  | @call n p q f as h1 h2 h3 => exact (PyOk.tup ((PyOk.w "call" (by decide) (2 * n + 1)).cons ((h1.py.le (by omega) (Nat.le_refl _)).cons ((h3.py.tup).cons .nil)))).le (by omega) (by simp; omega)
  | @step n p q a b h1 h2 => exact (PyOk.tup ((PyOk.w "step" (by decide) (2 * n)).cons (h1.py.cons (h2.py.cons .nil)))).le (by omega) (by simp; omega)
theorem Ts.py {n p : Nat} {d : List D} (h : Ts n p d) : PysOk d (2 * n) (1000 * p) := by
  cases h with
  | nil => exact PysOk.nil
  | cons a b => exact (a.py.cons b.py).le (Nat.le_refl _) (by omega)
theorem St.py {n p : Nat} {hd : Bool} {d : D} (h : St n hd p d) : PyOk d (2 * n) (1000 * p) := by
  cases h with
  | @lets n p h t b z a c =>
    have hk : ∀ m, PyOk (w (if b then "set" else "let")) m 44 := fun m => by cases b <;> exact (PyOk.w _ (by decide) _).le (Nat.le_refl _) (by decide)
    exact (PyOk.tup ((hk (2 * n)).cons ((PyOk.nm a _).cons (c.py.cons .nil)))).le (by omega) (by omega)
  | @fault n p h t z a b c => exact (PyOk.tup ((PyOk.w "fault" (by decide) (2 * n)).cons ((PyOk.nm a _).cons (c.py.cons .nil)))).le (by omega) (by simp; omega)
  | @hand n p t a => exact (PyOk.tup ((PyOk.w "hand" (by decide) (2 * n)).cons (a.py.cons .nil))).le (by omega) (by simp; omega)
  | @does n p h t b a =>
    have hk : ∀ m, PyOk (w (if b then "back" else "do")) m 44 := fun m => by cases b <;> exact (PyOk.w _ (by decide) _).le (Nat.le_refl _) (by decide)
    exact (PyOk.tup ((hk (2 * n)).cons (a.py.cons .nil))).le (by omega) (by omega)
  | @whl n p q h t bs a b c => exact (PyOk.tup ((PyOk.w "while" (by decide) (2 * n + 1)).cons ((a.py.le (by omega) (Nat.le_refl _)).cons ((c.py.tup).cons .nil)))).le (by omega) (by simp; omega)
  | @ifs n p q r h t bs es a b c d e => exact (PyOk.tup ((PyOk.w "if" (by decide) (2 * n + 1)).cons ((a.py.le (by omega) (Nat.le_refl _)).cons ((c.py.tup).cons ((e.py.tup).cons .nil))))).le (by omega) (by simp; omega)
  | @trys n p q r h bs es gs y z a b c d e f g i =>
    exact (PyOk.tup ((PyOk.w "try" (by decide) (2 * n + 1)).cons ((d.py.tup).cons ((PyOk.nm a _).cons ((PyOk.nm b _).cons ((f.py.tup).cons ((i.py.tup).cons .nil))))))).le (by omega) (by simp; omega)
theorem Bd.py {n p : Nat} {hd : Bool} {d : List D} (h : Bd n hd p d) : PysOk d (2 * n) (1000 * p) := by
  cases h with
  | nil => exact PysOk.nil
  | cons a b => exact (a.py.cons b.py).le (Nat.le_refl _) (by omega)
end
end K05

set_option Elab.async false
set_option linter.all false
set_option maxRecDepth 100000
set_option autoImplicit false
namespace K05
open PySem PySem.Spec L2 ML
theorem w_eq (a b : String) (S : Store) : eqD (w a) (w b) S = .ok (decide (a = b)) S := by
  rw [x_eqT]
  simp [ofS_eq]
theorem tlA : cs (Str.ofString "a") = [97] := by rw [cs_of]; rfl
theorem tlZ : cs (Str.ofString "z") = [122] := by rw [cs_of]; rfl
theorem has_word_eq {a b : String} {xs : List D} {n : Int} {S : Store} : F_has_word [.tup (w a :: xs), w b, .int n] S = .ok (.bl (decide ((xs.length : Int) + 1 = n) && decide (a = b))) S := by
  have e := w_eq a b S
  by_cases c : (xs.length : Int) + 1 = n
  · simp [F_has_word, m_has_word, N_has_word, startL, isKind, c, x_ix, at0, ofS_eq]
  · simp [F_has_word, m_has_word, N_has_word, startL, isKind, c]
theorem is_name_eq {z : Str} (h : NmOk z) (S : Store) : F_is_name [.str z] S = .ok (.bl true) S := by
  have h1 : 1 ≤ z.length := by rw [← cs_len]; exact h.1
  have h2 : z.length ≤ 8 := by rw [← cs_len]; exact h.2.1
  have h3 : z.length ≤ sizeLine := by rw [sz]; omega
  simp [F_is_name, m_is_name, N_is_name, startL, isKind, h3, show (1 : Int) ≤ z.length by omega, show (z.length : Int) ≤ 8 by omega]
  rw [compL_mapG sgn (fun _ => .bl true) (cs z)]
  · simp [allL_map (fun _ : Nat => true)]
  · intro c hc
    obtain ⟨a, b⟩ := h.2.2 c hc
    simp [Tgt.own, wipeL, tlA, tlZ, lt1, show ¬ c < 97 by omega, show ¬ 122 < c by omega]
  · rw [cs_len]; exact h3
theorem strO_all (ps : List Str) : mapO strO (ps.map D.str) = some ps := by
  have := mapO_some (f := strO) (g := D.str) (h := fun z : Str => z) (xs := ps) fun i => rfl
  simpa using this
theorem is_names_eq {ps : List Str} (h1 : ps.length ≤ 4) (h2 : ∀ z ∈ ps, NmOk z) (h3 : ps.Nodup) (S : Store) : F_is_names [.tup (ps.map D.str)] S = .ok (.bl true) S := by
  have e : compL still (.one 1) yesM (callE 1 F_is_name (consA (varE 1) nilA)) (wipeL [some (.tup (ps.map D.str)), none] [1]) (ps.map D.str) [] S = .ok (ps.map fun _ => .bl true) S := by
    rw [compL_mapG D.str (fun _ => .bl true) ps]
    · intro z hz
      simp [wipeL, is_name_eq (h2 z hz)]
    · rw [sz]; omega
  have e2 : lenSetD (.tup (ps.map D.str)) S = .ok (.int ps.length) S := by
    unfold lenSetD
    simp only [strO_all]
    rw [if_pos (by omega), uqs_nodup h3]
  simp [F_is_names, m_is_names, N_is_names, startL, isKind, show ¬ (4 : Int) < ps.length by omega, Tgt.own, e, allL_map (fun _ : Str => true), lenSetE, e2]
theorem is_number_eq {i : Int} (h1 : -1000000000000 ≤ i) (h2 : i ≤ 1000000000000) (S : Store) : F_is_number [.int i] S = .ok (.bl true) S := by
  simp [F_is_number, m_is_number, N_is_number, startL, isKind, h1, h2]
end K05

set_option Elab.async false
set_option linter.all false
set_option maxRecDepth 100000
set_option autoImplicit false
namespace K05
open PySem PySem.Spec L2 ML
/-- told True, the store may grow -/
def Tr (F : List D → Store → R D) (ds : List D) : Prop := ∀ S, ∃ X, F ds S = .ok (.bl true) (S ++ X)
theorem allL_yes (ds : List D) (S : Store) : allL (ds.map fun _ => .bl true) S = .ok (.bl true) S := by
  rw [allL_map (fun _ : D => true)]
  simp
theorem body_ok {m : Nat} {bs : List D} {left : Int} {h : Bool} (hl : bs.length ≤ 12) (hs : ∀ b ∈ bs, Tr (G_is_function m 4) [b, .int left, .bl h]) : Tr (G_is_function (m + 1) 2) [.tup bs, .int left, .bl h] := fun S => by
  obtain ⟨X, e⟩ := compT (i := 3) (m := callE 3 (G_is_function m 4) (consA (varE 3) (consA (varE 1) (consA (varE 2) (nilA))))) (l := [some (.tup bs), some (.int left), some (.bl h), none]) still_mono bs (fun d hd S => by
    obtain ⟨X, e⟩ := hs d hd S
    exact ⟨X, by simp [e]⟩) S trivial (by omega)
  refine ⟨X, ?_⟩
  rw [G_is_function_2]
  simp [m_is_body, N_is_body, startL, isKind, show ¬ (12 : Int) < bs.length by omega, Tgt.own, wipeL, e, allL_yes]
theorem bodies_ok {m : Nat} {bb : List (List D)} {left : Int} {h : Bool} {l : ML.Loc} {q : Nat} {S : Store} (h1 : l[1]? = some (some (.int left))) (h2 : l[2]? = some (some (.bl h))) (h4 : 4 < l.length) (hq : lstAt S q = some (bb.map .tup)) (hb : ∀ bs ∈ bb, Tr (G_is_function m 2) [.tup bs, .int (left - 1), .bl h]) (hl : bb.length ≤ 3) :
    ∃ X, compL (fun S' => lstAt S' q = some (bb.map .tup)) (.one 4) yesM (callE 3 (G_is_function m 2) (consA (varE 4) (consA (binE subD (varE 1) (conE (.int 1))) (consA (varE 2) (nilA))))) l (bb.map .tup) [] S = .ok ((bb.map D.tup).map fun _ => .bl true) (S ++ X) := by
  refine compT (lst_mono q _) (bb.map .tup) (fun d hd S => ?_) S hq (by simp; omega)
  obtain ⟨bs, hbs, rfl⟩ := List.mem_map.mp hd
  obtain ⟨X, e⟩ := hb bs hbs S
  refine ⟨X, ?_⟩
  have v1 : varE 1 (l.set 4 (some (.tup bs))) S = .ok (.int left) S := by unfold varE; rw [List.getElem?_set_ne (by omega), h1]
  have v2 : varE 2 (l.set 4 (some (.tup bs))) S = .ok (.bl h) S := by unfold varE; rw [List.getElem?_set_ne (by omega), h2]
  have v4 : varE 4 (l.set 4 (some (.tup bs))) S = .ok (.tup bs) S := by unfold varE; rw [List.getElem?_set_self h4]
  simp [v1, v2, v4, e]
mutual
theorem Tm.is {n p : Nat} {d : D} (h : Tm n p d) : ∀ (m : Nat) (left : Int), 3 * n ≤ m → (n : Int) ≤ left → Tr (G_is_function m 1) [d, .int left] := by
  intro m left hm hlf S
  obtain ⟨k, rfl⟩ : ∃ k, m = k + 1 := ⟨m - 1, by cases h <;> omega⟩
  rw [G_is_function_1]
  cases h with
  | num i a b =>
    have hf : F_is_simple [.tup [w "number", .int i]] S = .ok (.bl true) S := by
      simp [F_is_simple, m_is_simple, N_is_simple, startL, has_word_eq, x_ix, at1, is_number_eq a b]
    refine ⟨[], ?_⟩
    simp [m_is_term, N_is_term, startL, show ¬ left < 1 by omega, has_word_eq, hf]
  | nam z a =>
    have hf : F_is_simple [.tup [w "name", .str z]] S = .ok (.bl true) S := by
      simp [F_is_simple, m_is_simple, N_is_simple, startL, has_word_eq, x_ix, at1, is_name_eq a]
    refine ⟨[], ?_⟩
    simp [m_is_term, N_is_term, startL, show ¬ left < 1 by omega, has_word_eq, hf]
  | @two n p q a b s hs h1 h2 =>
    obtain ⟨X, e1⟩ := h1.is k (left - 1) (by omega) (by omega) S
    obtain ⟨Y, e2⟩ := h2.is k (left - 1) (by omega) (by omega) (S ++ X)
    have es : ∀ S, inD (w s) (.tup [w "+", w "-", w "*", w "<", w "="]) S = .ok true S := fun S => by
      simp [signs] at hs
      rcases hs with rfl | rfl | rfl | rfl | rfl <;> rfl
    refine ⟨X ++ Y, ?_⟩
    simp [m_is_term, N_is_term, startL, show ¬ left < 1 by omega, has_word_eq, x_ix, at1, at2, at3, isKind, es, e1, e2]
  | @fn n p bs kk ps a b c d e =>
    obtain ⟨j, rfl⟩ : ∃ j, k = j + 1 := ⟨k - 1, by omega⟩
    obtain ⟨i, rfl⟩ : ∃ i, j = i + 1 := ⟨j - 1, by omega⟩
    have hs : F_is_simple [.tup [w (kw kk), .tup (ps.map .str), .tup bs]] S = .ok (.bl false) S := by
      cases kk <;> simp [kw, F_is_simple, m_is_simple, N_is_simple, startL, has_word_eq]
    obtain ⟨X, e1⟩ := body_ok (m := i) (left := left - 1) d (fun x hx => e.is i (left - 1) (by omega) (by omega) x hx) S
    have hf : G_is_function (i + 1 + 1) 0 [.tup [w (kw kk), .tup (ps.map .str), .tup bs], .int left] S = .ok (.bl true) (S ++ X) := by
      rw [G_is_function_0]
      cases kk <;> simp [kw, m_is_function, N_is_function, startL, has_word_eq, x_ix, at1, at2, is_names_eq a b c, e1]
    refine ⟨X, ?_⟩
    cases kk <;> (simp only [kw, Bool.false_eq_true, if_false, if_true] at hs hf; simp [kw, m_is_term, N_is_term, startL, show ¬ left < 1 by omega, has_word_eq, hs, hf])
  | @call n p q f as h1 h2 h3 =>
    obtain ⟨X, e1⟩ := h1.is k (left - 1) (by omega) (by omega) S
    obtain ⟨Y, e2⟩ := compT (i := 3) (m := callE 2 (G_is_function k 1) (consA (varE 3) (consA (binE subD (varE 1) (conE (.int 1))) (nilA)))) (l := [some (.tup [w "call", f, .tup as]), some (.int left), none, none]) still_mono as (fun d hd S => by
      obtain ⟨X, e⟩ := h3.is k (left - 1) (by omega) (by omega) d hd S
      exact ⟨X, by simp [e]⟩) (S ++ X) trivial (by omega)
    refine ⟨X ++ Y, ?_⟩
    simp [m_is_term, N_is_term, startL, show ¬ left < 1 by omega, has_word_eq, x_ix, at1, at2, isKind, show ¬ (4 : Int) < as.length by omega, e1, Tgt.own, wipeL, e2, allL_yes]
  | @step n p q a b h1 h2 =>
    obtain ⟨X, e1⟩ := h1.is k (left - 1) (by omega) (by omega) S
    obtain ⟨Y, e2⟩ := h2.is k (left - 1) (by omega) (by omega) (S ++ X)
    refine ⟨X ++ Y, ?_⟩
    simp [m_is_term, N_is_term, startL, show ¬ left < 1 by omega, has_word_eq, x_ix, at1, at2, e1, e2]
theorem Ts.is {n p : Nat} {as : List D} (h : Ts n p as) : ∀ (m : Nat) (left : Int), 3 * n ≤ m → (n : Int) ≤ left → ∀ d ∈ as, Tr (G_is_function m 1) [d, .int left] := by
  intro m left hm hl d hd
  cases h with
  | nil => simp at hd
  | cons a b =>
    rcases List.mem_cons.mp hd with q | q
    · subst q; exact a.is m left hm hl
    · exact b.is m left hm hl d q
theorem St.is {n p : Nat} {hd : Bool} {d : D} (h : St n hd p d) : ∀ (m : Nat) (left : Int), 3 * n ≤ m → (n : Int) ≤ left → Tr (G_is_function m 4) [d, .int left, .bl hd] := by
  intro m left hm hlf S
  obtain ⟨k, rfl⟩ : ∃ k, m = k + 1 := ⟨m - 1, by cases h <;> omega⟩
  obtain ⟨j, rfl⟩ : ∃ j, k = j + 1 := ⟨k - 1, by cases h <;> omega⟩
  rw [G_is_function_4]
  cases h with
  | @lets n p h t b z a c =>
    obtain ⟨X, e1⟩ := c.is j (left - 1) (by omega) (by omega) S
    have hf : G_is_function (j + 1) 3 [.tup [w (if b then "set" else "let"), .str z, t], .int left, .bl hd] S = .ok (.bl true) (S ++ X) := by
      rw [G_is_function_3]
      cases b <;> simp [m_is_short, N_is_short, startL, has_word_eq, x_ix, at1, at2, is_name_eq a, e1]
    refine ⟨X, ?_⟩
    cases b <;> (simp at hf; simp [m_is_statement, N_is_statement, startL, show ¬ left < 1 by omega, has_word_eq, hf])
  | @fault n p h t z a b c =>
    obtain ⟨X, e1⟩ := c.is j (left - 1) (by omega) (by omega) S
    have hf : G_is_function (j + 1) 3 [.tup [w "fault", .str z, t], .int left, .bl hd] S = .ok (.bl true) (S ++ X) := by
      rw [G_is_function_3]
      simp [m_is_short, N_is_short, startL, has_word_eq, x_ix, at1, at2, is_name_eq a, e1, b]
    refine ⟨X, ?_⟩
    simp [m_is_statement, N_is_statement, startL, show ¬ left < 1 by omega, has_word_eq, hf]
  | @hand n p t a =>
    obtain ⟨X, e1⟩ := a.is j (left - 1) (by omega) (by omega) S
    have hf : G_is_function (j + 1) 3 [.tup [w "hand", t], .int left, .bl true] S = .ok (.bl true) (S ++ X) := by
      rw [G_is_function_3]
      simp [m_is_short, N_is_short, startL, has_word_eq, x_ix, at1, at2, e1]
    refine ⟨X, ?_⟩
    simp [m_is_statement, N_is_statement, startL, show ¬ left < 1 by omega, has_word_eq, hf]
  | @does n p h t b a =>
    obtain ⟨X, e1⟩ := a.is j (left - 1) (by omega) (by omega) S
    have hf : G_is_function (j + 1) 3 [.tup [w (if b then "back" else "do"), t], .int left, .bl hd] S = .ok (.bl true) (S ++ X) := by
      rw [G_is_function_3]
      cases b <;> simp [m_is_short, N_is_short, startL, has_word_eq, x_ix, at1, at2, e1]
    refine ⟨X, ?_⟩
    cases b <;> (simp at hf; simp [m_is_statement, N_is_statement, startL, show ¬ left < 1 by omega, has_word_eq, hf])
  | @whl n p q h t bs a b c =>
    obtain ⟨X, e1⟩ := a.is (j + 1) (left - 1) (by omega) (by omega) S
    obtain ⟨Y, e2⟩ := body_ok (m := j) (left := left - 1) b (fun x hx => c.is j (left - 1) (by omega) (by omega) x hx) (S ++ X)
    refine ⟨X ++ Y, ?_⟩
    simp [m_is_statement, N_is_statement, startL, show ¬ left < 1 by omega, has_word_eq, x_ix, at1, at2, e1, e2]
  | @ifs n p q r h t bs es a b c d e =>
    obtain ⟨S1, hS1⟩ : ∃ S1, S ++ [Cell.lst [.tup bs, .tup es]] = S1 := ⟨_, rfl⟩
    have k1 : lstAt S1 S.length = some ([bs, es].map .tup) := by rw [← hS1]; simp
    obtain ⟨X, e1⟩ := a.is (j + 1) (left - 1) (by omega) (by omega) S1
    obtain ⟨Y, e2⟩ := bodies_ok (m := j + 1) (bb := [bs, es]) (left := left) (h := hd) (l := [some (.tup [w "if", t, .tup bs, .tup es]), some (.int left), some (.bl hd), some (.ref S.length), none]) (q := S.length) (S := S1 ++ X) rfl rfl (by simp) (lst_mono _ _ S1 X k1) (fun x hx => by
      simp at hx
      rcases hx with rfl | rfl
      · exact body_ok (m := j) b (fun y hy => c.is j (left - 1) (by omega) (by omega) y hy)
      · exact body_ok (m := j) d (fun y hy => e.is j (left - 1) (by omega) (by omega) y hy)) (by simp)
    have e3 := x_srcR (lstAt_some (lst_mono _ _ S1 X k1))
    simp only [List.map_cons, List.map_nil] at e2 e3
    refine ⟨[Cell.lst [.tup bs, .tup es]] ++ X ++ Y, ?_⟩
    have e4 : S ++ ([Cell.lst [.tup bs, .tup es]] ++ X ++ Y) = S1 ++ X ++ Y := by rw [← hS1]; simp
    rw [e4]
    have e5 := allL_yes [.tup bs, .tup es] (S1 ++ (X ++ Y))
    simp only [List.map_cons, List.map_nil] at e5
    simp [m_is_statement, N_is_statement, startL, show ¬ left < 1 by omega, has_word_eq, x_ix, at1, at2, at3, sz, hS1, e1, e3, Tgt.own, wipeL, e2, e5]
  | @trys n p q r h bs es gs y z a b c d e f g i =>
    obtain ⟨S1, hS1⟩ : ∃ S1, S ++ [Cell.lst [.tup bs, .tup es, .tup gs]] = S1 := ⟨_, rfl⟩
    have k1 : lstAt S1 S.length = some ([bs, es, gs].map .tup) := by rw [← hS1]; simp
    obtain ⟨Y, e2⟩ := bodies_ok (m := j + 1) (bb := [bs, es, gs]) (left := left) (h := hd) (l := [some (.tup [w "try", .tup bs, .str y, .str z, .tup es, .tup gs]), some (.int left), some (.bl hd), some (.ref S.length), none]) (q := S.length) (S := S1) rfl rfl (by simp) k1 (fun x hx => by
      simp at hx
      rcases hx with rfl | rfl | rfl
      · exact body_ok (m := j) c (fun y hy => d.is j (left - 1) (by omega) (by omega) y hy)
      · exact body_ok (m := j) e (fun y hy => f.is j (left - 1) (by omega) (by omega) y hy)
      · exact body_ok (m := j) g (fun y hy => i.is j (left - 1) (by omega) (by omega) y hy)) (by simp)
    have e3 := x_srcR (lstAt_some k1)
    simp only [List.map_cons, List.map_nil] at e2 e3
    refine ⟨[Cell.lst [.tup bs, .tup es, .tup gs]] ++ Y, ?_⟩
    have e4 : S ++ ([Cell.lst [.tup bs, .tup es, .tup gs]] ++ Y) = S1 ++ Y := by rw [← hS1]; simp
    rw [e4]
    have e5 := allL_yes [.tup bs, .tup es, .tup gs] (S1 ++ Y)
    simp only [List.map_cons, List.map_nil] at e5
    simp [m_is_statement, N_is_statement, startL, show ¬ left < 1 by omega, has_word_eq, x_ix, at1, at2, at3, at4, at5, sz, hS1, is_name_eq a, is_name_eq b, e3, Tgt.own, wipeL, e2, e5]
theorem Bd.is {n p : Nat} {hd : Bool} {as : List D} (h : Bd n hd p as) : ∀ (m : Nat) (left : Int), 3 * n ≤ m → (n : Int) ≤ left → ∀ d ∈ as, Tr (G_is_function m 4) [d, .int left, .bl hd] := by
  intro m left hm hl d hdm
  cases h with
  | nil => simp at hdm
  | cons a b =>
    rcases List.mem_cons.mp hdm with q | q
    · subst q; exact a.is m left hm hl
    · exact b.is m left hm hl d q
end
end K05

set_option Elab.async false
set_option linter.all false
set_option maxRecDepth 100000
set_option autoImplicit false
namespace K05
open PySem PySem.Spec L2 ML
/-! ### the parts right in one -/
def isT : D → Bool
  | .tup _ => true
  | _ => false
def fnw (z : Str) : Bool := decide (z = Str.ofString "main") || (decide (z = Str.ofString "fun") || decide (z = Str.ofString "loop"))
def innF (b : Bool) : D → List D
  | .tup (.str z :: r) => if b then (D.str z :: r).filter isT else [.tup (.str z :: r)]
  | .tup ys => ys.filter isT
  | _ => []
def inn : D → List D
  | .tup (.str z :: xs) => xs.flatMap (innF (fnw z))
  | _ => []
def Atom (y : D) : Prop := (∃ z, y = .str z) ∨ (∃ i, y = .int i) ∨ ∃ q, y = .tup q
def FdOk (x : D) : Prop := (∃ z, x = .str z) ∨ (∃ i, x = .int i) ∨ ∃ ys, x = .tup ys ∧ ys.length ≤ 20 ∧ (∃ n p, n ≤ 64 ∧ PyOk x n p) ∧ ∀ y ∈ ys, Atom y
theorem ne_empty {ys : List D} {n p : Nat} (h : PyOk (.tup ys) n p) (hn : n ≤ 64) (S : Store) : neD (.tup ys) (.tup []) S = .ok (!decide (ys = [])) S := by
  obtain ⟨py, a, b, _, _⟩ := h
  have e := a S 64 hn
  have e2 : toPy S 64 (.tup []) = some (.tuple []) := rfl
  rw [neD_of e e2 b rfl]
  rw [toPy_tup] at e
  obtain ⟨pys, e3, rfl⟩ := Option.map_eq_some_iff.mp e
  cases ys with
  | nil => cases e3; rfl
  | cons y ys =>
    rw [mapO_cons] at e3
    split at e3
    · cases e3
      simp [PyData.eqv, PyData.eqvAll]
    · cases e3
theorem isE_tup {y : D} (h : Atom y) {m : ME} {l : ML.Loc} {S : Store} (hm : m l S = .ok y S) : isE "tuple" m l S = .ok (isT y) S := by
  rcases h with ⟨z, rfl⟩ | ⟨i, rfl⟩ | ⟨q, rfl⟩ <;> simp [hm, isKind, isT]
theorem fil_comp {ys : List D} (h : ∀ y ∈ ys, Atom y) (hl : ys.length ≤ 20) {l : ML.Loc} (h4 : 4 < l.length) (S : Store) : compL still (.one 4) (ofV (toV (isE "tuple" (varE 4)))) (varE 4) l ys [] S = .ok (ys.filter isT) S := by
  have := compL_filG (chk := still) (i := 4) (c := ofV (toV (isE "tuple" (varE 4)))) (m := varE 4) (l := l) (S := S) (fun d : D => d) isT (fun d : D => d) ys (fun y hy => by
    have v : varE 4 (l.set 4 (some y)) S = .ok y S := by unfold varE; rw [List.getElem?_set_self h4]
    have := isE_tup (h y hy) v
    simp only [x_ofV, x_toV, this, R.bind_ok, x_isBl]) (fun y hy _ => by
    unfold varE; rw [List.getElem?_set_self h4]) (by rw [sz]; omega)
  simpa using this
theorem set_right {S Z : Store} {f : Nat} {c : Cell} (h : S.length ≤ f) : (S ++ Z).set f c = S ++ Z.set (f - S.length) c := List.set_append_right _ _ h
theorem innF_len {x : D} (hx : FdOk x) (b : Bool) : (innF b x).length ≤ 20 := by
  rcases hx with ⟨y, rfl⟩ | ⟨y, rfl⟩ | ⟨ys, rfl, h1, _, _⟩
  · simp [innF]
  · simp [innF]
  · unfold innF
    split
    · rename_i e
      cases e
      split
      · exact Nat.le_trans (List.length_filter_le _ _) h1
      · simp
    · rename_i e
      cases e
      exact Nat.le_trans (List.length_filter_le _ _) h1
    · simp
def Told (F : List D → Store → R D) (d : D) (ks : List D) : Prop := ∀ S, ∃ X r, F [d] S = .ok (.ref r) (S ++ X) ∧ (S ++ X)[r]? = some (.lst ks) ∧ S.length ≤ r
end K05

set_option Elab.async false
set_option linter.all false
set_option maxRecDepth 100000
set_option autoImplicit false
namespace K05
open PySem PySem.Spec L2 ML
theorem x_listU (xs : List D) (S : Store) : listV [.tup xs] S = .ok xs S := rfl
theorem Tm.form {n p : Nat} {d : D} (h : Tm n p d) : ∃ z r, d = .tup (.str z :: r) := by
  cases h <;> exact ⟨_, _, rfl⟩
theorem St.form {n p : Nat} {hd : Bool} {d : D} (h : St n hd p d) : ∃ z r, d = .tup (.str z :: r) := by
  cases h <;> exact ⟨_, _, rfl⟩
theorem atom_s (z : Str) : Atom (.str z) := .inl ⟨z, rfl⟩
theorem Tm.atom {n p : Nat} {d : D} (h : Tm n p d) : Atom d := by obtain ⟨z, r, rfl⟩ := h.form; exact .inr (.inr ⟨_, rfl⟩)
theorem St.atom {n p : Nat} {hd : Bool} {d : D} (h : St n hd p d) : Atom d := by obtain ⟨z, r, rfl⟩ := h.form; exact .inr (.inr ⟨_, rfl⟩)
theorem Bd.atom {n p : Nat} {hd : Bool} {bs : List D} (h : Bd n hd p bs) : ∀ b ∈ bs, Atom b := fun b hb => by obtain ⟨_, q⟩ := h.all b hb; exact q.atom
theorem Bd.isT {n p : Nat} {hd : Bool} {bs : List D} (h : Bd n hd p bs) : bs.filter isT = bs := List.filter_eq_self.mpr fun b hb => by
  obtain ⟨_, q⟩ := h.all b hb
  obtain ⟨z, r, rfl⟩ := q.form
  rfl
theorem Bd.innF {n p : Nat} {hd : Bool} {bs : List D} (h : Bd n hd p bs) (b : Bool) : innF b (.tup bs) = bs := by
  have e := h.isT
  cases bs with
  | nil => rfl
  | cons x xs =>
    obtain ⟨_, q⟩ := h.all x List.mem_cons_self
    obtain ⟨z, r, rfl⟩ := q.form
    exact e
theorem Ts.innF {n p : Nat} {bs : List D} (h : Ts n p bs) (b : Bool) : K05.innF b (.tup bs) = bs := by
  cases bs with
  | nil => rfl
  | cons x xs =>
    have e : (x :: xs).filter isT = x :: xs := List.filter_eq_self.mpr fun y hy => by
      obtain ⟨_, q⟩ := h.all y hy
      obtain ⟨z, r, rfl⟩ := q.form
      rfl
    obtain ⟨_, q⟩ := h.all x List.mem_cons_self
    obtain ⟨z, r, rfl⟩ := q.form
    exact e
theorem Tm.innF {n p : Nat} {d : D} (h : Tm n p d) : K05.innF false d = [d] := by
  obtain ⟨z, r, rfl⟩ := h.form
  rfl
theorem Tm.fd {n p : Nat} {d : D} (h : Tm n p d) (hn : n ≤ 30) : FdOk d := by
  have hp := h.py
  have len : ∀ ys, d = .tup ys → ys.length ≤ 20 ∧ ∀ y ∈ ys, Atom y := by
    cases h with
    | num i a b => rintro ys ⟨⟩; exact ⟨by simp, by simp [atom_s]; exact .inr (.inl ⟨i, rfl⟩)⟩
    | nam z a => rintro ys ⟨⟩; exact ⟨by simp, by simp [atom_s]⟩
    | two s a b c => rintro ys ⟨⟩; exact ⟨by simp, by simp [atom_s, b.atom, c.atom]⟩
    | fn k ps a b c d e => rintro ys ⟨⟩; exact ⟨by simp, by simp [atom_s]; exact ⟨.inr (.inr ⟨_, rfl⟩), .inr (.inr ⟨_, rfl⟩)⟩⟩
    | call a b c => rintro ys ⟨⟩; exact ⟨by simp, by simp [atom_s, a.atom]; exact .inr (.inr ⟨_, rfl⟩)⟩
    | step a b => rintro ys ⟨⟩; exact ⟨by simp, by simp [atom_s, a.atom, b.atom]⟩
  obtain ⟨z, r, rfl⟩ := h.form
  exact .inr (.inr ⟨_, rfl, (len _ rfl).1, ⟨_, _, by omega, hp⟩, (len _ rfl).2⟩)
theorem Bd.fd {n p : Nat} {hd : Bool} {bs : List D} (h : Bd n hd p bs) (hn : n ≤ 30) (hl : bs.length ≤ 12) : FdOk (.tup bs) := .inr (.inr ⟨_, rfl, by omega, ⟨_, _, by omega, h.py.tup⟩, h.atom⟩)
theorem Ts.fd {n p : Nat} {bs : List D} (h : Ts n p bs) (hn : n ≤ 30) (hl : bs.length ≤ 4) : FdOk (.tup bs) := .inr (.inr ⟨_, rfl, by omega, ⟨_, _, by omega, h.py.tup⟩, fun b hb => by obtain ⟨_, q⟩ := h.all b hb; exact q.atom⟩)
theorem nms_fd {ps : List Str} (h : ∀ z ∈ ps, NmOk z) (hl : ps.length ≤ 4) : FdOk (.tup (ps.map .str)) := .inr (.inr ⟨_, rfl, by rw [List.length_map]; omega, ⟨1, _, by omega, (PysOk.nms h 0).tup⟩, fun b hb => by obtain ⟨z, _, rfl⟩ := List.mem_map.mp hb; exact atom_s z⟩)
theorem nms_innF (ps : List Str) : innF true (.tup (ps.map .str)) = [] := by
  cases ps with
  | nil => rfl
  | cons z ps =>
    show (D.str z :: ps.map .str).filter isT = []
    rw [List.filter_eq_nil_iff]
    intro a ha
    have : ∃ q, a = .str q := by
      rcases List.mem_cons.mp ha with e | e
      · exact ⟨z, e⟩
      · obtain ⟨q, _, rfl⟩ := List.mem_map.mp e; exact ⟨q, rfl⟩
    obtain ⟨q, rfl⟩ := this
    simp [isT]
/-! ### parts of a part -/
def Pt (n p : Nat) (d : D) : Prop := Tm n p d ∨ ∃ h, St n h p d
inductive Ps (n : Nat) : Nat → List D → Prop
  | nil : Ps n 0 []
  | cons {p q : Nat} {a : D} {as : List D} : Pt n p a → Ps n q as → Ps n (p + q) (a :: as)
theorem Ps.app {n p q : Nat} {as bs : List D} (h1 : Ps n p as) (h2 : Ps n q bs) : Ps n (p + q) (as ++ bs) := by
  induction h1 with
  | nil => rw [Nat.zero_add]; exact h2
  | cons a _ ih => rw [Nat.add_assoc]; exact .cons a ih
theorem Ts.ps {n : Nat} : ∀ {q : Nat} {as : List D}, Ts n q as → Ps n q as
  | _, [], h => by cases h; exact .nil
  | _, a :: as, h => by
    cases h with
    | cons a b => exact .cons (.inl a) b.ps
theorem Bd.ps {n : Nat} {hd : Bool} : ∀ {q : Nat} {as : List D}, Bd n hd q as → Ps n q as
  | _, [], h => by cases h; exact .nil
  | _, a :: as, h => by
    cases h with
    | cons a b => exact .cons (.inr ⟨_, a⟩) b.ps
theorem Ps.one {n p : Nat} {a : D} (h : Pt n p a) : Ps n p [a] := (Nat.add_zero p) ▸ Ps.cons h .nil
structure Part (n p : Nat) (d : D) : Prop where
  form : ∃ z xs, d = .tup (.str z :: xs) ∧ xs.length ≤ 20 ∧ ∀ x ∈ xs, FdOk x
  kids : ∃ q, Ps n q (inn d) ∧ p = 1 + q
  told : Told F_inner_of d (inn d)
theorem fnw_of (s : String) : fnw (Str.ofString s) = (decide (s = "main") || (decide (s = "fun") || decide (s = "loop"))) := by
  unfold fnw
  simp [ofS_eq]
theorem told_of {d : D} {ks : List D} (h : ∀ S, F_inner_of [d] S = .ok (.ref S.length) (S ++ [.lst ks])) : Told F_inner_of d ks := fun S => ⟨_, _, h S, at_end, Nat.le_refl _⟩
theorem told_two {d : D} {xs ys : List D} (h : ∀ S, F_inner_of [d] S = .ok (.ref (S.length + 2)) (S ++ [.lst xs, .lst ys, .lst (xs ++ ys)])) : Told F_inner_of d (xs ++ ys) := fun S => ⟨_, _, h S, by simp, by omega⟩
theorem told_three {d : D} {xs ys zs : List D} (h : ∀ S, F_inner_of [d] S = .ok (.ref (S.length + 4)) (S ++ [.lst xs, .lst ys, .lst (xs ++ ys), .lst zs, .lst (xs ++ ys ++ zs)])) : Told F_inner_of d (xs ++ ys ++ zs) := fun S => ⟨_, _, h S, by simp, by omega⟩
theorem add2 {xs ys : List D} {S : Store} (h : xs.length + ys.length ≤ 1000) : addD (.ref S.length) (.ref (S.length + 1)) (S ++ [.lst xs, .lst ys]) = .ok (.ref (S.length + 2)) (S ++ [.lst xs, .lst ys, .lst (xs ++ ys)]) := by
  have := x_addR (S := S ++ [.lst xs, .lst ys]) (n := S.length) (m := S.length + 1) (xs := xs) (ys := ys) (by simp) (by simp) (by omega)
  simpa using this
theorem add4 {xs ys zs : List D} {S : Store} (h : xs.length + ys.length + zs.length ≤ 1000) : addD (.ref (S.length + 2)) (.ref (S.length + 3)) (S ++ [.lst xs, .lst ys, .lst (xs ++ ys), .lst zs]) = .ok (.ref (S.length + 4)) (S ++ [.lst xs, .lst ys, .lst (xs ++ ys), .lst zs, .lst (xs ++ ys ++ zs)]) := by
  have := x_addR (S := S ++ [.lst xs, .lst ys, .lst (xs ++ ys), .lst zs]) (n := S.length + 2) (m := S.length + 3) (xs := xs ++ ys) (ys := zs) (by simp) (by simp) (by simp; omega)
  simpa using this
theorem Tm.part {n p : Nat} {d : D} (h : Tm (n + 1) p d) (hn : n ≤ 30) : Part n p d := by
  cases h with
  | num i a b =>
    have e : inn (.tup [w "number", .int i]) = [] := by simp [inn]; rfl
    refine ⟨⟨_, _, rfl, by simp, by simp; exact .inr (.inl ⟨i, rfl⟩)⟩, ⟨0, by rw [e]; exact .nil, rfl⟩, ?_⟩
    rw [e]
    exact told_of fun S => by simp [F_inner_of, m_inner_of, N_inner_of, startL, x_ix, at0, sz, x_inConsS, x_inNilS, ofS_eq]
  | nam z a =>
    have e : inn (.tup [w "name", .str z]) = [] := by simp [inn]; rfl
    refine ⟨⟨_, _, rfl, by simp, by simp; exact .inl ⟨z, rfl⟩⟩, ⟨0, by rw [e]; exact .nil, rfl⟩, ?_⟩
    rw [e]
    exact told_of fun S => by simp [F_inner_of, m_inner_of, N_inner_of, startL, x_ix, at0, sz, x_inConsS, x_inNilS, ofS_eq]
  | @two n p q a b s hs h1 h2 =>
    have e : inn (.tup [w "two", w s, a, b]) = [a, b] := by simp [inn, fnw_of, h1.innF, h2.innF]; rfl
    refine ⟨⟨_, _, rfl, by simp, by simp; exact ⟨.inl ⟨_, rfl⟩, h1.fd hn, h2.fd hn⟩⟩, ⟨p + q, by rw [e]; exact .cons (.inl h1) (.one (.inl h2)), by omega⟩, ?_⟩
    rw [e]
    exact told_of fun S => by simp [F_inner_of, m_inner_of, N_inner_of, startL, x_ix, at0, at2, at3, sz, x_inConsS, x_inNilS, ofS_eq]
  | @fn n p bs k ps a b c d e =>
    have e1 : inn (.tup [w (kw k), .tup (ps.map .str), .tup bs]) = bs := by cases k <;> simp [inn, kw, fnw_of, nms_innF, e.innF]
    refine ⟨⟨_, _, rfl, by simp, by simp; exact ⟨nms_fd b a, e.fd hn d⟩⟩, ⟨p, by rw [e1]; exact e.ps, rfl⟩, ?_⟩
    rw [e1]
    exact told_of fun S => by cases k <;> simp [kw, F_inner_of, m_inner_of, N_inner_of, startL, x_ix, at0, at2, sz, x_inConsS, x_inNilS, ofS_eq, x_listU]
  | @call n p q f as h1 h2 h3 =>
    have e : inn (.tup [w "call", f, .tup as]) = [f] ++ as := by simp [inn, fnw_of, h1.innF, h3.innF]
    refine ⟨⟨_, _, rfl, by simp, by simp; exact ⟨h1.fd hn, h3.fd hn h2⟩⟩, ⟨p + q, by rw [e]; exact (Ps.one (.inl h1)).app h3.ps, by omega⟩, ?_⟩
    rw [e]
    exact told_two fun S => by
      have := add2 (S := S) (xs := [f]) (ys := as) (by simp; omega)
      simp at this
      simp [F_inner_of, m_inner_of, N_inner_of, startL, x_ix, at0, at1, at2, sz, x_inConsS, x_inNilS, ofS_eq, x_listU, this]
  | @step n p q a b h1 h2 =>
    have e : inn (.tup [w "step", a, b]) = [a, b] := by simp [inn, fnw_of, h1.innF, h2.innF]
    refine ⟨⟨_, _, rfl, by simp, by simp; exact ⟨h1.fd hn, h2.fd hn⟩⟩, ⟨p + q, by rw [e]; exact .cons (.inl h1) (.one (.inl h2)), by omega⟩, ?_⟩
    rw [e]
    exact told_of fun S => by simp [F_inner_of, m_inner_of, N_inner_of, startL, x_ix, at0, at1, at2, sz, x_inConsS, x_inNilS, ofS_eq]
theorem St.part {n p : Nat} {hd : Bool} {d : D} (h : St (n + 1) hd p d) (hn : n ≤ 30) : Part n p d := by
  cases h with
  | @lets n p h t b z a c =>
    have e : inn (.tup [w (if b then "set" else "let"), .str z, t]) = [t] := by cases b <;> (simp [inn, fnw_of, c.innF]; rfl)
    refine ⟨⟨_, _, rfl, by simp, by simp; exact ⟨.inl ⟨_, rfl⟩, c.fd hn⟩⟩, ⟨p, by rw [e]; exact .one (.inl c), rfl⟩, ?_⟩
    rw [e]
    exact told_of fun S => by cases b <;> simp [F_inner_of, m_inner_of, N_inner_of, startL, x_ix, at0, at2, sz, x_inConsS, x_inNilS, ofS_eq]
  | @fault n p h t z a b c =>
    have e : inn (.tup [w "fault", .str z, t]) = [t] := by simp [inn, fnw_of, c.innF]; rfl
    refine ⟨⟨_, _, rfl, by simp, by simp; exact ⟨.inl ⟨_, rfl⟩, c.fd hn⟩⟩, ⟨p, by rw [e]; exact .one (.inl c), rfl⟩, ?_⟩
    rw [e]
    exact told_of fun S => by simp [F_inner_of, m_inner_of, N_inner_of, startL, x_ix, at0, at2, sz, x_inConsS, x_inNilS, ofS_eq]
  | @hand n p t a =>
    have e : inn (.tup [w "hand", t]) = [t] := by simp [inn, fnw_of, a.innF]
    refine ⟨⟨_, _, rfl, by simp, by simp; exact a.fd hn⟩, ⟨p, by rw [e]; exact .one (.inl a), rfl⟩, ?_⟩
    rw [e]
    exact told_of fun S => by simp [F_inner_of, m_inner_of, N_inner_of, startL, x_ix, at0, at1, sz, x_inConsS, x_inNilS, ofS_eq]
  | @does n p h t b a =>
    have e : inn (.tup [w (if b then "back" else "do"), t]) = [t] := by cases b <;> simp [inn, fnw_of, a.innF]
    refine ⟨⟨_, _, rfl, by simp, by simp; exact a.fd hn⟩, ⟨p, by rw [e]; exact .one (.inl a), rfl⟩, ?_⟩
    rw [e]
    exact told_of fun S => by cases b <;> simp [F_inner_of, m_inner_of, N_inner_of, startL, x_ix, at0, at1, sz, x_inConsS, x_inNilS, ofS_eq]
  | @whl n p q h t bs a b c =>
    have e : inn (.tup [w "while", t, .tup bs]) = [t] ++ bs := by simp [inn, fnw_of, a.innF, c.innF]
    refine ⟨⟨_, _, rfl, by simp, by simp; exact ⟨a.fd hn, c.fd hn b⟩⟩, ⟨p + q, by rw [e]; exact (Ps.one (.inl a)).app c.ps, by omega⟩, ?_⟩
    rw [e]
    exact told_two fun S => by
      have := add2 (S := S) (xs := [t]) (ys := bs) (by simp; omega)
      simp at this
      simp [F_inner_of, m_inner_of, N_inner_of, startL, x_ix, at0, at1, at2, sz, x_inConsS, x_inNilS, ofS_eq, x_listU, this]
  | @ifs n p q r h t bs es a b c d e =>
    have e1 : inn (.tup [w "if", t, .tup bs, .tup es]) = [t] ++ bs ++ es := by simp [inn, fnw_of, a.innF, c.innF, e.innF]
    refine ⟨⟨_, _, rfl, by simp, by simp; exact ⟨a.fd hn, c.fd hn b, e.fd hn d⟩⟩, ⟨p + q + r, by rw [e1]; exact ((Ps.one (.inl a)).app c.ps).app e.ps, by omega⟩, ?_⟩
    rw [e1]
    exact told_three fun S => by
      have h2 := add2 (S := S) (xs := [t]) (ys := bs) (by simp; omega)
      have h4 := add4 (S := S) (xs := [t]) (ys := bs) (zs := es) (by simp; omega)
      simp at h2 h4
      simp [F_inner_of, m_inner_of, N_inner_of, startL, x_ix, at0, at1, at2, at3, sz, x_inConsS, x_inNilS, ofS_eq, x_listU, h2, h4]
  | @trys n p q r h bs es gs y z a b c d e f g i =>
    have e1 : inn (.tup [w "try", .tup bs, .str y, .str z, .tup es, .tup gs]) = bs ++ es ++ gs := by simp [inn, fnw_of, d.innF, f.innF, i.innF]; rfl
    refine ⟨⟨_, _, rfl, by simp, by simp; exact ⟨d.fd hn c, .inl ⟨_, rfl⟩, .inl ⟨_, rfl⟩, f.fd hn e, i.fd hn g⟩⟩, ⟨p + q + r, by rw [e1]; exact (d.ps.app f.ps).app i.ps, by omega⟩, ?_⟩
    rw [e1]
    exact told_three fun S => by
      have h2 := add2 (S := S) (xs := bs) (ys := es) (by omega)
      have h4 := add4 (S := S) (xs := bs) (ys := es) (zs := gs) (by omega)
      simp at h2 h4
      simp [F_inner_of, m_inner_of, N_inner_of, startL, x_ix, at0, at1, at4, at5, sz, x_inConsS, x_inNilS, ofS_eq, x_listU, h2, h4]
theorem Pt.part {n p : Nat} {d : D} (h : Pt (n + 1) p d) (hn : n ≤ 30) : Part n p d := by
  rcases h with h | ⟨_, h⟩
  · exact h.part hn
  · exact h.part hn
end K05

set_option Elab.async false
set_option linter.all false
set_option maxRecDepth 100000
set_option autoImplicit false
namespace K05
open PySem PySem.Spec L2 ML
theorem inn_len {z : Str} {xs : List D} (hl : xs.length ≤ 20) (hx : ∀ x ∈ xs, FdOk x) : (inn (.tup (.str z :: xs))).length ≤ 400 := by
  have gen : ∀ xs : List D, (∀ x ∈ xs, FdOk x) → (xs.flatMap (innF (fnw z))).length ≤ 20 * xs.length := by
    intro xs
    induction xs with
    | nil => intro _; simp
    | cons x xs ih =>
      intro hx
      have := ih fun y hy => hx y (List.mem_cons_of_mem _ hy)
      have h1 := innF_len (hx x List.mem_cons_self) (fnw z)
      rw [List.flatMap_cons, List.length_append, List.length_cons]
      omega
  have := gen xs hx
  show (xs.flatMap (innF (fnw z))).length ≤ 400
  omega
theorem Part.len {n p : Nat} {d : D} (h : Part n p d) : (inn d).length ≤ 400 := by
  obtain ⟨z, xs, rfl, a, b⟩ := h.form
  exact inn_len a b
theorem Pt.zero {p : Nat} {d : D} (h : Pt 0 p d) : False := by
  rcases h with h | ⟨_, h⟩ <;> cases h
/-! ### size_of -/
theorem sum_ints (ns : List Nat) (S : Store) : sumL (ns.map fun n : Nat => D.int (n : Int)) S = .ok (.int (ns.sum : Nat)) S := by
  unfold sumL
  have e : mapO intO (ns.map fun n : Nat => D.int (n : Int)) = some (ns.map fun n : Nat => (n : Int)) := mapO_some (f := intO) (g := fun n : Nat => D.int (n : Int)) (h := fun n : Nat => (n : Int)) (fun _ => rfl) ns
  rw [e]
  clear e
  have g : ∀ ns : List Nat, (ns.map fun n : Nat => (n : Int)).sum = ((ns.sum : Nat) : Int) := fun ns => by
    induction ns with
    | nil => rfl
    | cons a ns ih => rw [List.map_cons, List.sum_cons, ih, List.sum_cons]; omega
  show R.ok (D.int (ns.map fun n : Nat => (n : Int)).sum) S = _
  rw [g]
theorem size_row {n m r : Nat} {all : List D} {l : ML.Loc} (h1 : 1 < l.length) (ih : ∀ p d, Pt n p d → ∀ S, ∃ X, G_size_of m 0 [d] S = .ok (.int p) (S ++ X)) {q : Nat} {ks : List D} (h : Ps n q ks) :
    ∀ (acc : List D) (S : Store), lstAt S r = some all → acc.length + ks.length ≤ 16000000 → ∃ (X : Store) (ns : List Nat), compL (fun S' => lstAt S' r = some all) (.one 1) yesM (callE 1 (G_size_of m 0) (consA (varE 1) nilA)) l ks acc S = .ok (acc ++ (ns.map fun n : Nat => D.int (n : Int))) (S ++ X) ∧ ns.sum = q := by
  induction h with
  | nil => intro acc S hk _; exact ⟨[], [], by rw [compL_nil hk]; simp, rfl⟩
  | @cons p q a as hp _ ihs =>
    intro acc S hk hl
    rw [List.length_cons] at hl
    obtain ⟨X, e1⟩ := ih p a hp S
    obtain ⟨Y, ns, e2, e3⟩ := ihs (acc ++ [.int p]) (S ++ X) (lst_mono r all S X hk) (by simp; omega)
    refine ⟨X ++ Y, p :: ns, ?_, by simp [e3]⟩
    have v : varE 1 (l.set 1 (some a)) S = .ok a S := by unfold varE; rw [List.getElem?_set_self h1]
    have c : callE 1 (G_size_of m 0) (consA (varE 1) nilA) (l.set 1 (some a)) S = .ok (.int p) (S ++ X) := by simp [v, e1]
    rw [compL_cons hk]
    simp only [Tgt.put, x_yes, R.bind_ok, if_true, c]
    rw [if_pos (show _ < sizeLine by rw [sz]; omega), e2]
    simp
theorem Part.size {n m p : Nat} {d : D} (h : Part n p d) (ih : ∀ p d, Pt n p d → ∀ S, ∃ X, G_size_of m 0 [d] S = .ok (.int p) (S ++ X)) (S : Store) : ∃ X, G_size_of (m + 1) 0 [d] S = .ok (.int p) (S ++ X) := by
  obtain ⟨X, r, e1, k1, _⟩ := h.told S
  obtain ⟨q, hq, rfl⟩ := h.kids
  have hl := h.len
  obtain ⟨Y, ns, e2, e3⟩ := size_row (r := r) (all := inn d) (l := [some d, none]) (by simp) ih hq [] (S ++ X) (lstAt_of k1) (by simp; omega)
  have e4 := x_srcR k1
  have e5 := sum_ints ns (S ++ X ++ Y)
  rw [e3] at e5
  refine ⟨X ++ Y, ?_⟩
  rw [G_size_of_0, ← List.append_assoc]
  simp only [List.append_assoc] at e1 e2 e4 e5 ⊢
  simp [m_size_of, N_size_of, startL, e1, e4, Tgt.own, wipeL, e2, e5]
theorem size_eq : ∀ (n m p : Nat) (d : D), Pt n p d → n ≤ 31 → n ≤ m → ∀ S, ∃ X, G_size_of m 0 [d] S = .ok (.int p) (S ++ X)
  | 0, m, p, d, h, _, _ => h.zero.elim
  | n + 1, m, p, d, h, hn, hm => by
    obtain ⟨k, rfl⟩ : ∃ k, m = k + 1 := ⟨m - 1, by omega⟩
    exact (h.part (by omega)).size fun p d h => size_eq n k p d h (by omega) (by omega)
/-- the rest stays -/
def Fr (f : Nat) (S S' : Store) : Prop := S.length ≤ S'.length ∧ ∀ i c, S[i]? = some c → i ≠ f → S'[i]? = some c
theorem Fr.trans {f : Nat} {S T U : Store} (a : Fr f S T) (b : Fr f T U) : Fr f S U := ⟨Nat.le_trans a.1 b.1, fun i c h hi => b.2 i c (a.2 i c h hi) hi⟩
theorem Fr.app (f : Nat) (S X : Store) : Fr f S (S ++ X) := ⟨by simp, fun i c h _ => at_app h⟩
theorem Fr.set {f : Nat} (S : Store) (c : Cell) : Fr f S (S.set f c) := ⟨by simp, fun i c h hi => by rw [get_set_ne (Ne.symm hi)]; exact h⟩
end K05

set_option Elab.async false
set_option linter.all false
set_option maxRecDepth 100000
set_option autoImplicit false
namespace K05
open PySem PySem.Spec L2 ML
/-! ### what is drawn -/
def cellAt (ns : List Int) (k : Nat) : Int := (ns[k]?).getD 0
theorem cell_at_eq (ns : List Int) (k : Nat) (S : Store) : F__law_cell_at [.lis (ns.map .int), .int k] S = .ok (.int (cellAt ns k)) S := by
  simp [F__law_cell_at, m__law_cell_at, N__law_cell_at, startL]
  by_cases h : k < ns.length
  · simp [h, cellAt, x_ixD (S := S) (show ixO S (.lis (ns.map D.int)) (.int (k : Nat)) = some (.int ns[k]) from atI_nat (by simp [h]))]
  · simp [h, cellAt]
theorem cell_int (ns : List Int) (i : Int) (hi : 0 ≤ i) : ∃ z : Int, ∀ S, F__law_cell_at [.lis (ns.map .int), .int i] S = .ok (.int z) S :=
  ⟨cellAt ns i.toNat, fun S => by
    have := cell_at_eq ns i.toNat S
    rwa [show ((i.toNat : Nat) : Int) = i by omega] at this⟩
def stL (ns : List Int) (a L : Int) (nr : Nat) : List (Key × D) := [(.inr (Str.ofString "cells"), .lis (ns.map .int)), (.inr (Str.ofString "at"), .int a), (.inr (Str.ofString "left"), .int L), (.inr (Str.ofString "names"), .ref nr)]
def stC (ns : List Int) (a L : Int) (nr : Nat) : Cell := .dct (stL ns a L nr)
section
variable {ns : List Int} {a L : Int} {nr s : Nat} {S : Store}
theorem st_cells (h : S[s]? = some (stC ns a L nr)) : ixO S (.ref s) (.str (Str.ofString "cells")) = some (.lis (ns.map .int)) := by rw [x_ixK (kvAt_of h)]; rfl
theorem st_at (h : S[s]? = some (stC ns a L nr)) : ixO S (.ref s) (.str (Str.ofString "at")) = some (.int a) := by rw [x_ixK (kvAt_of h)]; rfl
theorem st_left (h : S[s]? = some (stC ns a L nr)) : ixO S (.ref s) (.str (Str.ofString "left")) = some (.int L) := by rw [x_ixK (kvAt_of h)]; rfl
theorem st_names (h : S[s]? = some (stC ns a L nr)) : ixO S (.ref s) (.str (Str.ofString "names")) = some (.ref nr) := by rw [x_ixK (kvAt_of h)]; rfl
theorem set_dS {n : Nat} {z : Str} {kvs : List (Key × D)} {v : D} (h : S[n]? = some (.dct kvs)) (hz : kvs.length < 16777216) : setO S (.ref n) (.str z) v = some (S.set n (.dct (dPut kvs (.inr z) v))) := by
  unfold setO
  simp only [h, keyO]
  rw [if_pos (by rw [sz]; exact hz)]
theorem put_at (h : S[s]? = some (stC ns a L nr)) (b : Int) : setO S (.ref s) (.str (Str.ofString "at")) (.int b) = some (S.set s (stC ns b L nr)) := by
  rw [set_dS h (show (4 : Nat) < 16777216 by decide)]
  rfl
theorem put_left (h : S[s]? = some (stC ns a L nr)) (M : Int) : setO S (.ref s) (.str (Str.ofString "left")) (.int M) = some (S.set s (stC ns a M nr)) := by
  rw [set_dS h (show (4 : Nat) < 16777216 by decide)]
  rfl
theorem next_eq (h : S[s]? = some (stC ns a L nr)) (h0 : 0 ≤ a) (h1 : a ≤ 100000) : ∃ y : Int, 0 ≤ y ∧ F__law_next [.ref s] S = .ok (.int y) (S.set s (stC ns (a + 1) L nr)) := by
  obtain ⟨m, e1, hm⟩ : ∃ m : Int, max 1 (ns.length : Int) = m ∧ 0 < m := ⟨_, rfl, by omega⟩
  obtain ⟨b, eb, hb⟩ : ∃ b : Int, a + 1 = b ∧ 0 ≤ b ∧ b ≤ 100001 := ⟨_, rfl, by omega, by omega⟩
  obtain ⟨k, e2⟩ : ∃ k : Nat, b % m = (k : Int) := ⟨(b % m).toNat, by have := Int.emod_nonneg b (show m ≠ 0 by omega); omega⟩
  have e3 : b.natAbs < 18446744073709551616 := by omega
  have p := put_at h b
  have h' : (S.set s (stC ns b L nr))[s]? = some (stC ns b L nr) := get_set_at h
  have q1 := st_at h'
  have q2 := st_cells h'
  have q3 := st_at h
  rw [eb]
  obtain ⟨S1, hS1⟩ : ∃ S1, S.set s (stC ns b L nr) = S1 := ⟨_, rfl⟩
  rw [hS1] at p q1 q2 ⊢
  refine ⟨(cellAt ns k * 48271 + b * b * 69621) % 2147483647 / 8, by have := Int.emod_nonneg (cellAt ns k * 48271 + b * b * 69621) (show (2147483647 : Int) ≠ 0 by decide); omega, ?_⟩
  simp [F__law_next, m__law_next, N__law_next, startL, x_ix, q3, eb, p, q1, q2, e1, hm, e2, cell_at_eq]
  generalize cellAt ns k = c
  simp [e3]
end
theorem four_at (a b c d : D) (i : Int) (h0 : 0 ≤ i) (h1 : i < 4) : atI [a, b, c, d] i = some a ∨ atI [a, b, c, d] i = some b ∨ atI [a, b, c, d] i = some c ∨ atI [a, b, c, d] i = some d := by
  have : i = 0 ∨ i = 1 ∨ i = 2 ∨ i = 3 := by omega
  rcases this with rfl | rfl | rfl | rfl
  · exact .inl (at0 _ _)
  · exact .inr (.inl (at1 _ _ _))
  · exact .inr (.inr (.inl (at2 _ _ _ _)))
  · exact .inr (.inr (.inr (at3 _ _ _ _ _)))
theorem number_eq (y : Int) (hy : 0 ≤ y) : ∃ i : Int, -1000000000000 ≤ i ∧ i ≤ 1000000000000 ∧ ∀ S, ∃ X, F__law_number [.int y] S = .ok (.int i) (S ++ X) := by
  obtain ⟨b, hb, e1⟩ : ∃ b : Int, (b = 1000000000000 ∨ b = -1000000000000 ∨ b = 0) ∧ atI [D.int 1000000000000, .int (-1000000000000), .int 0] (y / 8 % 3) = some (.int b) := by
    have : y / 8 % 3 = 0 ∨ y / 8 % 3 = 1 ∨ y / 8 % 3 = 2 := by omega
    rcases this with e | e | e <;> rw [e]
    · exact ⟨_, .inl rfl, at0 _ _⟩
    · exact ⟨_, .inr (.inl rfl), at1 _ _ _⟩
    · exact ⟨_, .inr (.inr rfl), at2 _ _ _ _⟩
  obtain ⟨i, hi, e2⟩ : ∃ i : Int, (-1000000000000 ≤ i ∧ i ≤ 1000000000000) ∧ atI [D.int (y / 8 % 10), .int (y / 8 % 2000 - 1000), .int (y % 2000000000001 - 1000000000000), .int b] (y % 4) = some (.int i) := by
    rcases four_at (D.int (y / 8 % 10)) (.int (y / 8 % 2000 - 1000)) (.int (y % 2000000000001 - 1000000000000)) (.int b) (y % 4) (by omega) (by omega) with e | e | e | e
    · exact ⟨_, ⟨by omega, by omega⟩, e⟩
    · exact ⟨_, ⟨by omega, by omega⟩, e⟩
    · exact ⟨_, ⟨by omega, by omega⟩, e⟩
    · exact ⟨_, by rcases hb with q | q | q <;> subst q <;> omega, e⟩
  refine ⟨i, hi.1, hi.2, fun S => ⟨[.lst [.int 1000000000000, .int (-1000000000000), .int 0], .lst [.int (y / 8 % 10), .int (y / 8 % 2000 - 1000), .int (y % 2000000000001 - 1000000000000), .int b]], ?_⟩⟩
  obtain ⟨S1, hS1⟩ : ∃ S1, S ++ [Cell.lst [.int 1000000000000, .int (-1000000000000), .int 0]] = S1 := ⟨_, rfl⟩
  have k1 : ixO S1 (.ref S.length) (.int (y / 8 % 3)) = some (.int b) := by
    rw [x_ixR (lstAt_of (by rw [← hS1]; exact at_end))]
    exact e1
  obtain ⟨S2, hS2⟩ : ∃ S2, S1 ++ [Cell.lst [.int (y / 8 % 10), .int (y / 8 % 2000 - 1000), .int (y % 2000000000001 - 1000000000000), .int b]] = S2 := ⟨_, rfl⟩
  have k2 : ixO S2 (.ref S1.length) (.int (y % 4)) = some (.int i) := by
    rw [x_ixR (lstAt_of (by rw [← hS2]; exact at_end))]
    exact e2
  have e3 : S ++ [Cell.lst [.int 1000000000000, .int (-1000000000000), .int 0], .lst [.int (y / 8 % 10), .int (y / 8 % 2000 - 1000), .int (y % 2000000000001 - 1000000000000), .int b]] = S2 := by rw [← hS2, ← hS1]; simp
  rw [e3]
  simp [F__law_number, m__law_number, N__law_number, startL, sz, hS1, hS2, x_ix, k1, k2]
end K05

set_option Elab.async false
set_option linter.all false
set_option maxRecDepth 100000
set_option autoImplicit false
namespace K05
open PySem PySem.Spec L2 ML
/-! ### the names -/
def ltr (i : Int) : Nat := 97 + (i % 26).toNat
theorem ltr_ok (i : Int) : 97 ≤ ltr i ∧ ltr i ≤ 122 := by
  have := Int.emod_nonneg i (show (26 : Int) ≠ 0 by decide)
  have := Int.emod_lt_of_pos i (show (0 : Int) < 26 by decide)
  unfold ltr
  omega
theorem letters_at (i : Int) (S : Store) : ixO S (.str (Str.ofString "abcdefghijklmnopqrstuvwxyz")) (.int (i % 26)) = some (sgn (ltr i)) := by
  have h0 := Int.emod_nonneg i (show (26 : Int) ≠ 0 by decide)
  have h1 := Int.emod_lt_of_pos i (show (0 : Int) < 26 by decide)
  have e : cs (Str.ofString "abcdefghijklmnopqrstuvwxyz") = (List.range 26).map (97 + ·) := by rw [cs_of]; rfl
  have el : (Str.ofString "abcdefghijklmnopqrstuvwxyz").length = 26 := by rw [← cs_len, e]; rfl
  rw [x_ixT, el, if_pos (by rw [sz]; omega), e]
  obtain ⟨k, hk⟩ : ∃ k : Nat, i % 26 = (k : Int) := ⟨(i % 26).toNat, by omega⟩
  have hk2 : k < 26 := by omega
  rw [hk, L2.atI_nat (v := 97 + k)]
  · unfold ltr
    rw [hk]
    rfl
  · rw [List.getElem?_map, List.getElem?_range hk2]
    rfl
def wordB (c : Int) : List Nat := (List.range 8).map fun k : Nat => ltr (c / 64 + 5 * (k : Int))
theorem wordB_len (c : Int) : (wordB c).length = 8 := by simp [wordB]
theorem wordB_ok (c : Int) : ∀ x ∈ wordB c, 97 ≤ x ∧ x ≤ 122 := fun x hx => by
  unfold wordB at hx
  obtain ⟨k, _, rfl⟩ := List.mem_map.mp hx
  exact ltr_ok _
theorem nm_mk {w : List Nat} (h1 : 1 ≤ w.length) (h2 : w.length ≤ 8) (h3 : ∀ x ∈ w, 97 ≤ x ∧ x ≤ 122) : NmOk (mkS w) := by
  unfold NmOk
  rw [cs_mkS]
  exact ⟨h1, h2, h3⟩
structure Names (zs : List Str) : Prop where
  len : zs.length = 8
  ok : ∀ z ∈ zs, NmOk z
  nd : zs.Nodup
theorem names_of {f : Nat → List Nat} (h1 : ∀ k, k < 8 → 1 ≤ (f k).length ∧ (f k).length ≤ 8 ∧ ∀ x ∈ f k, 97 ≤ x ∧ x ≤ 122) (h2 : ∀ i j, i < j → j < 8 → f i ≠ f j) : Names ((List.range 8).map fun k => mkS (f k)) := by
  refine ⟨by simp, fun z hz => ?_, ?_⟩
  · obtain ⟨k, hk, rfl⟩ := List.mem_map.mp hz
    have := h1 k (List.mem_range.mp hk)
    exact nm_mk this.1 this.2.1 this.2.2
  · unfold List.Nodup
    rw [List.pairwise_map]
    refine List.Pairwise.imp_of_mem (R := (· < ·)) (fun {a b} ha hb hab => ?_) List.pairwise_lt_range
    rw [Ne, mkS_inj]
    exact h2 a b hab (List.mem_range.mp hb)
/-- the beginnings of one -/
theorem names_one (c : Int) : Names ((List.range 8).map fun k => mkS ((wordB c).take (k + 1))) := by
  refine names_of (fun k hk => ⟨by rw [List.length_take, wordB_len]; omega, by rw [List.length_take, wordB_len]; omega, fun x hx => wordB_ok c x (List.mem_of_mem_take hx)⟩) fun i j hij hj e => ?_
  have := congrArg List.length e
  rw [List.length_take, List.length_take, wordB_len] at this
  omega
/-- alike but for one letter -/
theorem names_two (c : Int) {p n : Nat} (hp : p < n) (hn : n ≤ 8) : Names ((List.range 8).map fun k : Nat => mkS (((wordB c).set p (ltr (c / 2048 + 7 * (k : Int)))).take n)) := by
  have hl : ∀ k : Nat, ((wordB c).set p (ltr (c / 2048 + 7 * (k : Int)))).length = 8 := fun k => by rw [List.length_set, wordB_len]
  refine names_of (f := fun k : Nat => ((wordB c).set p (ltr (c / 2048 + 7 * (k : Int)))).take n) (fun k hk => ⟨by rw [List.length_take, hl]; omega, by rw [List.length_take, hl]; omega, fun x hx => ?_⟩) fun i j hij hj e => ?_
  · rcases List.mem_or_eq_of_mem_set (List.mem_of_mem_take hx) with q | q
    · exact wordB_ok c x q
    · subst q; exact ltr_ok _
  · have e1 : ∀ k : Nat, (((wordB c).set p (ltr (c / 2048 + 7 * (k : Int)))).take n)[p]? = some (ltr (c / 2048 + 7 * (k : Int))) := fun k => by
      rw [List.getElem?_take_of_lt hp, List.getElem?_set_self (by rw [wordB_len]; omega)]
    have e2 := e1 i
    rw [e, e1 j] at e2
    have e3 : ltr (c / 2048 + 7 * (j : Int)) = ltr (c / 2048 + 7 * (i : Int)) := Option.some.inj e2
    unfold ltr at e3
    generalize c / 2048 = x at e3
    omega
theorem cut_take1 {S : Store} {n k : Nat} {xs : List D} (h : lstAt S n = some xs) : sliceD (.ref n) none (some ((k : Int) + 1)) S = .ok (.ref S.length) (S ++ [.lst (xs.take (k + 1))]) := by
  have := x_slR (S := S) (n := n) (k := k + 1) h
  simpa using this
theorem names_eq (c : Int) (hc : 0 ≤ c) (S : Store) : ∃ X r zs, F__law_names [.int c, .int 8] S = .ok (.ref r) (S ++ X) ∧ S.length ≤ r ∧ (S ++ X)[r]? = some (.lst (zs.map .str)) ∧ Names zs := by
  have hr : ∀ S, rng1 [.int 8] S = .ok (intsD (List.range 8), still) S := fun S => by
    have := x_rng1 (S := S) (j := 8) (by omega) (by omega)
    rw [this, ← rng_ints]
    rfl
  -- the word
  have e1 : compL still (.one 6) yesM (binE ixD (varE 2) (binE modD (binE addD (binE fdivD (varE 0) (conE (.int 64))) (binE mulD (conE (.int 5)) (varE 6))) (conE (.int 26)))) [some (.int c), some (.int 8), some (.str (Str.ofString "abcdefghijklmnopqrstuvwxyz")), some (.int (1 + c % 8)), none, none, none] (intsD (List.range 8)) [] S = .ok ((wordB c).map sgn) S := by
    unfold intsD wordB
    rw [compL_mapG (fun k : Nat => D.int (k : Int)) (fun k : Nat => sgn (ltr (c / 64 + 5 * (k : Int)))) (List.range 8)]
    · rw [List.map_map]; rfl
    · intro k hk
      have h5 : (5 * (k : Int)) = 5 * (k : Int) := rfl
      simp [-x_ixT, x_ix, letters_at]
    · rw [sz]; simp
  obtain ⟨S1, hS1⟩ : ∃ S1, S ++ [Cell.lst ((wordB c).map sgn)] = S1 := ⟨_, rfl⟩
  have k1 : S1[S.length]? = some (.lst ((wordB c).map sgn)) := by rw [← hS1]; exact at_end
  by_cases w1 : c / 512 % 4 = 1
  · obtain ⟨X, e2⟩ := compXI (chk := still) (Inv := fun T => lstAt T S.length = some ((wordB c).map sgn)) still_mono (lst_mono _ _) (i := 6) (m := joinV (conE (.str (Str.ofString ""))) (sliceE (varE 4) noO (someO (binE addD (varE 6) (conE (.int 1)))))) (l := [some (.int c), some (.int 8), some (.str (Str.ofString "abcdefghijklmnopqrstuvwxyz")), some (.int (1 + c % 8)), some (.ref S.length), none, none])
      (fun d => match d with | .int i => strD ((wordB c).take (i.toNat + 1)) | d => d) (intsD (List.range 8)) (fun d hd T hT => by
        unfold intsD at hd
        obtain ⟨k, hk, rfl⟩ := List.mem_map.mp hd
        have hk := List.mem_range.mp hk
        refine ⟨[.lst ((wordB c).take (k + 1) |>.map sgn)], ?_⟩
        refine joinV_eq (q := T.length) (by simp) ?_ (lstAt_of at_end) (by rw [List.length_take]; omega)
        have := cut_take1 (k := k) hT
        rw [← List.map_take] at this
        simp [this]) [] S1 trivial (lstAt_of k1) (by simp [intsD])
    have e3 : (intsD (List.range 8)).map (fun d => match d with | .int i => strD ((wordB c).take (i.toNat + 1)) | d => d) = ((List.range 8).map fun k => mkS ((wordB c).take (k + 1))).map D.str := by
      unfold intsD
      rw [List.map_map, List.map_map]
      exact List.map_congr_left fun k _ => by simp [strD]
    rw [e3, List.nil_append] at e2
    refine ⟨[.lst ((wordB c).map sgn)] ++ X ++ [.lst (((List.range 8).map fun k => mkS ((wordB c).take (k + 1))).map D.str)], (S1 ++ X).length, _, ?_, by rw [← hS1]; simp, ?_, names_one c⟩
    · have e4 : S ++ ([Cell.lst ((wordB c).map sgn)] ++ X ++ [.lst (((List.range 8).map fun k => mkS ((wordB c).take (k + 1))).map D.str)]) = S1 ++ X ++ [.lst (((List.range 8).map fun k => mkS ((wordB c).take (k + 1))).map D.str)] := by rw [← hS1]; simp
      rw [e4]
      simp [F__law_names, m__law_names, N__law_names, startL, hr, Tgt.own, wipeL, e1, hS1, w1, e2]
    · have e4 : S ++ ([Cell.lst ((wordB c).map sgn)] ++ X ++ [.lst (((List.range 8).map fun k => mkS ((wordB c).take (k + 1))).map D.str)]) = S1 ++ X ++ [.lst (((List.range 8).map fun k => mkS ((wordB c).take (k + 1))).map D.str)] := by rw [← hS1]; simp
      rw [e4]
      exact at_end
  · obtain ⟨n, hn⟩ : ∃ n : Nat, 1 + c % 8 = (n : Int) := ⟨(1 + c % 8).toNat, by omega⟩
    have hn0 : 0 < n := by omega
    rw [hn] at e1
    have hn8 : n ≤ 8 := by omega
    obtain ⟨p, hp⟩ : ∃ p : Nat, c / 8 % (n : Int) = (p : Int) := ⟨(c / 8 % (n : Int)).toNat, by have := Int.emod_nonneg (c / 8) (show (n : Int) ≠ 0 by omega); omega⟩
    have hpn : p < n := by have := Int.emod_lt_of_pos (c / 8) (show (0 : Int) < (n : Int) by omega); omega
    obtain ⟨S2, hS2⟩ : ∃ S2, S1 ++ [Cell.lst []] = S2 := ⟨_, rfl⟩
    have l1 : S1.length = S.length + 1 := by rw [← hS1]; simp
    -- the turns
    have turn : ∀ (Z : Store) (ws : List Nat) (made : List D) (k : Nat) (x6 : Option D), ws.length = 8 → made.length ≤ 8 → (S ++ Z)[S.length]? = some (.lst (ws.map sgn)) → (S ++ Z)[S.length + 1]? = some (.lst made) →
        ∃ Z', b__law_names_0 [some (.int c), some (.int 8), some (.str (Str.ofString "abcdefghijklmnopqrstuvwxyz")), some (.int (n : Int)), some (.ref S.length), some (.ref (S.length + 1)), some (.int (k : Int))] (S ++ Z) = .ok (.nx, [some (.int c), some (.int 8), some (.str (Str.ofString "abcdefghijklmnopqrstuvwxyz")), some (.int (n : Int)), some (.ref S.length), some (.ref (S.length + 1)), some (.int (k : Int))]) (S ++ Z') ∧ (S ++ Z')[S.length]? = some (.lst ((ws.set p (ltr (c / 2048 + 7 * (k : Int)))).map sgn)) ∧ (S ++ Z')[S.length + 1]? = some (.lst (made ++ [.str (mkS ((ws.set p (ltr (c / 2048 + 7 * (k : Int)))).take n))])) := by
      intro Z ws made k x6 hw hm hk1 hk2
      have f1 := x_setLst (k := p) (v := sgn (ltr (c / 2048 + 7 * (k : Int)))) hk1 (by simp [hw]; omega)
      rw [← List.map_set] at f1
      obtain ⟨T, hT⟩ : ∃ T, (S ++ Z).set S.length (.lst ((ws.set p (ltr (c / 2048 + 7 * (k : Int)))).map sgn)) = T := ⟨_, rfl⟩
      rw [hT] at f1
      have t1 : T[S.length]? = some (.lst ((ws.set p (ltr (c / 2048 + 7 * (k : Int)))).map sgn)) := by rw [← hT]; exact get_set_at hk1
      have t2 : T[S.length + 1]? = some (.lst made) := by rw [← hT, get_set_ne (by omega)]; exact hk2
      have f2 := x_slR (S := T) (n := S.length) (k := n) (lstAt_of t1)
      rw [← List.map_take] at f2
      obtain ⟨U, hU⟩ : ∃ U, T ++ [Cell.lst (((ws.set p (ltr (c / 2048 + 7 * (k : Int)))).take n).map sgn)] = U := ⟨_, rfl⟩
      rw [hU] at f2
      have u1 : U[S.length]? = some (.lst ((ws.set p (ltr (c / 2048 + 7 * (k : Int)))).map sgn)) := by rw [← hU]; exact at_app t1
      have u2 : U[S.length + 1]? = some (.lst made) := by rw [← hU]; exact at_app t2
      have u3 : U[T.length]? = some (.lst (((ws.set p (ltr (c / 2048 + 7 * (k : Int)))).take n).map sgn)) := by rw [← hU]; exact at_end
      have f3 : ∀ l : ML.Loc, varE 4 l T = .ok (.ref S.length) T → varE 3 l T = .ok (.int (n : Int)) T → joinV (conE (.str (Str.ofString ""))) (sliceE (varE 4) noO (someO (varE 3))) l T = .ok (strD ((ws.set p (ltr (c / 2048 + 7 * (k : Int)))).take n)) U := fun l v4 v3 => joinV_eq (q := T.length) (by simp) (by simp [v4, v3, f2]) (lstAt_of u3) (by rw [List.length_take]; omega)
      have f3 := f3 [some (.int c), some (.int 8), some (.str (Str.ofString "abcdefghijklmnopqrstuvwxyz")), some (.int (n : Int)), some (.ref S.length), some (.ref (S.length + 1)), some (.int (k : Int))] (by simp) (by simp)
      have f4 := x_append (d := strD ((ws.set p (ltr (c / 2048 + 7 * (k : Int)))).take n)) (lstAt_of u2) (by omega)
      have t2' := lstAt_of t2
      obtain ⟨V, hV⟩ : ∃ V, U.set (S.length + 1) (.lst (made ++ [strD ((ws.set p (ltr (c / 2048 + 7 * (k : Int)))).take n)])) = V := ⟨_, rfl⟩
      rw [hV] at f4
      obtain ⟨Z', hZ⟩ : ∃ Z', V = S ++ Z' := by
        rw [← hV, ← hU, ← hT, set_right (Nat.le_refl _), List.append_assoc, set_right (by omega)]
        exact ⟨_, rfl⟩
      refine ⟨Z', ?_, ?_, ?_⟩
      · rw [← hZ]
        simp [b__law_names_0, -x_ixT, x_ix, letters_at, hn0, hp, f1, t2', f3, f4]
      · rw [← hZ, ← hV, get_set_ne (by omega)]; exact u1
      · rw [← hZ, ← hV]; exact get_set_at u2
    have := forS_inv (chk := still) (t := nameT 6) (b := b__law_names_0) (ds := intsD (List.range 8)) (l := [some (.int c), some (.int 8), some (.str (Str.ofString "abcdefghijklmnopqrstuvwxyz")), some (.int (n : Int)), some (.ref S.length), some (.ref (S.length + 1)), none]) (S := S2)
      (Q := fun q T => q.1 = .nx ∧ ∃ Z y6, q.2 = [some (.int c), some (.int 8), some (.str (Str.ofString "abcdefghijklmnopqrstuvwxyz")), some (.int (n : Int)), some (.ref S.length), some (.ref (S.length + 1)), y6] ∧ T = S ++ Z ∧ T[S.length + 1]? = some (.lst (((List.range 8).map fun k : Nat => mkS (((wordB c).set p (ltr (c / 2048 + 7 * (k : Int)))).take n)).map .str)))
      (fun k l T => k ≤ 8 ∧ ∃ Z y6 ws, l = [some (.int c), some (.int 8), some (.str (Str.ofString "abcdefghijklmnopqrstuvwxyz")), some (.int (n : Int)), some (.ref S.length), some (.ref (S.length + 1)), y6] ∧ T = S ++ Z ∧ ws.length = 8 ∧ (∀ x, ws.set p x = (wordB c).set p x) ∧ T[S.length]? = some (.lst (ws.map sgn)) ∧ T[S.length + 1]? = some (.lst (((List.range k).map fun k : Nat => mkS (((wordB c).set p (ltr (c / 2048 + 7 * (k : Int)))).take n)).map .str)))
      ⟨by omega, [.lst ((wordB c).map sgn), .lst []], none, wordB c, rfl, by rw [← hS2, ← hS1]; simp, wordB_len c, fun _ => rfl, by rw [← hS2]; exact at_app k1, by rw [← hS2, ← l1]; exact at_end⟩ (fun _ _ _ _ => trivial) (by
        rintro k d l T ⟨hk, Z, y6, ws, rfl, rfl, hw, hws, hk1, hk2⟩ hd
        unfold intsD at hd
        rw [List.getElem?_map] at hd
        obtain ⟨j, ej, rfl⟩ := Option.map_eq_some_iff.mp hd
        have hj : k < 8 := by have := (List.getElem?_eq_some_iff.mp ej).1; simpa using this
        rw [List.getElem?_range hj] at ej
        cases ej
        obtain ⟨Z', e, g1, g2⟩ := turn Z ws _ k y6 hw (by simp; omega) hk1 hk2
        simp
        rw [e]
        refine ⟨by omega, ⟨_, rfl⟩, ⟨Z', rfl⟩, ws.set p (ltr (c / 2048 + 7 * (k : Int))), by simpa using hw, fun x => by rw [List.set_set]; exact hws x, g1, ?_⟩
        rw [g2, hws, List.range_succ]
        simp) (by
        rintro l T ⟨_, Z, y6, ws, rfl, rfl, _, _, _, h2⟩
        have : (intsD (List.range 8)).length = 8 := by simp [intsD]
        rw [this] at h2
        exact ⟨rfl, Z, y6, rfl, rfl, h2⟩)
    obtain ⟨⟨fl, l'⟩, T, e, e5, Z, y6, e6, e7, e8⟩ := this.of
    subst e5
    simp only at e6
    subst e6
    refine ⟨Z, S.length + 1, _, ?_, by omega, by rw [← e7]; exact e8, names_two c hpn hn8⟩
    rw [← e7]
    simp [F__law_names, m__law_names, N__law_names, startL, hr, Tgt.own, wipeL, e1, hS1, w1, sz, hS2, hn, l1, e]
end K05

set_option Elab.async false
set_option linter.all false
set_option maxRecDepth 100000
set_option autoImplicit false
namespace K05
open PySem PySem.Spec L2 ML
noncomputable def tT (r : Nat → List D → Store → R D) : MS := seqS (ifS (cmpM eqD (varE 3) (conE (.int 0))) (retS (tupE (consA (conE (.str (Str.ofString "number"))) (consA (callE 1 F__law_number (consA (varE 4) (nilA))) (nilA))))) (nilS)) (seqS (ifS (cmpM inD (varE 3) (tupE (consA (conE (.int 1)) (consA (conE (.int 8)) (consA (conE (.int 9)) (nilA)))))) (retS (tupE (consA (conE (.str (Str.ofString "name"))) (consA (binE ixD (varE 5) (binE modD (varE 4) (newL lenV (consA (varE 5) (nilA))))) (nilA))))) (nilS)) (seqS (ifS (cmpM ltD (varE 3) (conE (.int 4))) (retS (tupE (consA (conE (.str (Str.ofString "two"))) (consA (binE ixD (conE (.str (Str.ofString "+-*<="))) (binE modD (varE 4) (conE (.int 5)))) (consA (callE 2 (r 0) (consA (varE 0) (consA (binE subD (varE 1) (conE (.int 1))) (nilA)))) (consA (callE 2 (r 0) (consA (varE 0) (consA (binE subD (varE 1) (conE (.int 1))) (nilA)))) (nilA))))))) (nilS)) (seqS (ifS (cmpM ltD (varE 3) (conE (.int 6))) (seqS (setS 6 (newL tupV (consA (sliceE (varE 5) (someO (binE modD (varE 4) (conE (.int 5)))) (someO (binE addD (binE modD (varE 4) (conE (.int 5))) (binE modD (binE fdivD (varE 4) (conE (.int 5))) (conE (.int 4)))))) (nilA)))) (retS (tupE (consA (binE ixD (allocE (lstN (consA (conE (.str (Str.ofString "fun"))) (consA (conE (.str (Str.ofString "loop"))) (nilA))))) (binE subD (varE 3) (conE (.int 4)))) (consA (varE 6) (consA (callE 3 (r 1) (consA (varE 0) (consA (binE subD (varE 1) (conE (.int 1))) (consA (toV (cmpM eqD (varE 3) (conE (.int 5)))) (nilA))))) (nilA))))))) (nilS)) (seqS (ifS (cmpM eqD (varE 3) (conE (.int 6))) (seqS (setS 7 (callE 2 (r 0) (consA (varE 0) (consA (binE subD (varE 1) (conE (.int 1))) (nilA))))) (retS (tupE (consA (conE (.str (Str.ofString "call"))) (consA (varE 7) (consA (newL tupL (compN (srcR1 (consA (binE modD (varE 4) (conE (.int 5))) (nilA))) (.one 8) (yesM) (callE 2 (r 0) (consA (varE 0) (consA (binE subD (varE 1) (conE (.int 1))) (nilA)))))) (nilA))))))) (nilS)) (retS (tupE (consA (conE (.str (Str.ofString "step"))) (consA (callE 2 (r 0) (consA (varE 0) (consA (binE subD (varE 1) (conE (.int 1))) (nilA)))) (consA (callE 2 (r 0) (consA (varE 0) (consA (binE subD (varE 1) (conE (.int 1))) (nilA)))) (nilA))))))))))
theorem tT_eq (r : Nat → List D → Store → R D) : m__law_term r = seqS (setS 2 (callE 1 F__law_next (consA (varE 0) (nilA)))) (seqS (asgS (subT (varE 0) (conE (.str (Str.ofString "left")))) (binE subD (binE ixD (varE 0) (conE (.str (Str.ofString "left")))) (conE (.int 1)))) (seqS (setS 3 (binE modD (varE 2) (conE (.int 10)))) (seqS (setS 4 (binE fdivD (varE 2) (conE (.int 10)))) (seqS (setS 5 (binE ixD (varE 0) (conE (.str (Str.ofString "names"))))) (seqS (ifS (orM (cmpM ltD (varE 1) (conE (.int 1))) (cmpM ltD (binE ixD (varE 0) (conE (.str (Str.ofString "left")))) (conE (.int 0)))) (setS 3 (binE modD (varE 3) (conE (.int 2)))) (nilS)) (tT r)))))) := rfl
noncomputable def tS (r : Nat → List D → Store → R D) : MS := seqS (ifS (cmpM ltD (varE 4) (conE (.int 2))) (retS (tupE (consA (binE ixD (allocE (lstN (consA (conE (.str (Str.ofString "let"))) (consA (conE (.str (Str.ofString "set"))) (nilA))))) (varE 4)) (consA (varE 5) (consA (callE 2 (r 0) (consA (varE 0) (consA (binE subD (varE 1) (conE (.int 1))) (nilA)))) (nilA)))))) (nilS)) (seqS (ifS (cmpM ltD (varE 4) (conE (.int 5))) (retS (tupE (consA (binE ixD (allocE (lstN (consA (conE (.str (Str.ofString "hand"))) (consA (conE (.str (Str.ofString "do"))) (consA (conE (.str (Str.ofString "back"))) (nilA)))))) (binE subD (varE 4) (conE (.int 2)))) (consA (callE 2 (r 0) (consA (varE 0) (consA (binE subD (varE 1) (conE (.int 1))) (nilA)))) (nilA))))) (nilS)) (seqS (ifS (cmpM eqD (varE 4) (conE (.int 5))) (retS (tupE (consA (conE (.str (Str.ofString "fault"))) (consA (binE ixD (allocE (lstN (consA (varE 6) (consA (conE (.str (Str.ofString "anya"))) (nilA))))) (newL intV (consA (toV (cmpM eqD (varE 6) (conE (.str (Str.ofString "any"))))) (nilA)))) (consA (callE 2 (r 0) (consA (varE 0) (consA (binE subD (varE 1) (conE (.int 1))) (nilA)))) (nilA)))))) (nilS)) (seqS (ifS (cmpM eqD (varE 4) (conE (.int 6))) (retS (tupE (consA (conE (.str (Str.ofString "while"))) (consA (callE 2 (r 0) (consA (varE 0) (consA (binE subD (varE 1) (conE (.int 1))) (nilA)))) (consA (callE 3 (r 1) (consA (varE 0) (consA (binE subD (varE 1) (conE (.int 1))) (consA (varE 2) (nilA))))) (nilA)))))) (nilS)) (seqS (ifS (cmpM eqD (varE 4) (conE (.int 7))) (seqS (setS 7 (callE 2 (r 0) (consA (varE 0) (consA (binE subD (varE 1) (conE (.int 1))) (nilA))))) (retS (tupE (consA (conE (.str (Str.ofString "if"))) (consA (varE 7) (consA (callE 3 (r 1) (consA (varE 0) (consA (binE subD (varE 1) (conE (.int 1))) (consA (varE 2) (nilA))))) (consA (callE 3 (r 1) (consA (varE 0) (consA (binE subD (varE 1) (conE (.int 1))) (consA (varE 2) (nilA))))) (nilA)))))))) (nilS)) (seqS (setS 8 (allocE (compN (srcR1 (consA (conE (.int 3)) (nilA))) (.one 9) (yesM) (callE 3 (r 1) (consA (varE 0) (consA (binE subD (varE 1) (conE (.int 1))) (consA (varE 2) (nilA)))))))) (retS (tupE (consA (conE (.str (Str.ofString "try"))) (consA (binE ixD (varE 8) (conE (.int 0))) (consA (varE 6) (consA (varE 5) (consA (binE ixD (varE 8) (conE (.int 1))) (consA (binE ixD (varE 8) (conE (.int 2))) (nilA))))))))))))))
theorem tS_eq (r : Nat → List D → Store → R D) : m__law_statement r = seqS (setS 3 (callE 1 F__law_next (consA (varE 0) (nilA)))) (seqS (asgS (subT (varE 0) (conE (.str (Str.ofString "left")))) (binE subD (binE ixD (varE 0) (conE (.str (Str.ofString "left")))) (conE (.int 1)))) (seqS (setS 4 (binE modD (varE 3) (conE (.int 10)))) (seqS (setS 5 (binE ixD (binE ixD (varE 0) (conE (.str (Str.ofString "names")))) (binE modD (binE fdivD (varE 3) (conE (.int 10))) (newL lenV (consA (binE ixD (varE 0) (conE (.str (Str.ofString "names")))) (nilA)))))) (seqS (setS 6 (binE ixD (allocE (lstN (consA (conE (.str (Str.ofString "great"))) (consA (conE (.str (Str.ofString "kind"))) (consA (conE (.str (Str.ofString "any"))) (consA (conE (.str (Str.ofString "unset"))) (consA (varE 5) (nilA)))))))) (binE modD (binE fdivD (varE 3) (conE (.int 100))) (conE (.int 5))))) (seqS (ifS (orM (cmpM ltD (varE 1) (conE (.int 2))) (cmpM ltD (binE ixD (varE 0) (conE (.str (Str.ofString "left")))) (conE (.int 0)))) (setS 4 (binE modD (varE 4) (conE (.int 5)))) (nilS)) (seqS (ifS (andM (cmpM eqD (varE 4) (conE (.int 2))) (notM (ofV (varE 2)))) (setS 4 (conE (.int 3))) (nilS)) (tS r))))))) := rfl
/-! ### one state to the next -/
structure Pre (ns : List Int) (nr s : Nat) (zs : List Str) (a L : Int) (S : Store) : Prop where
  st : S[s]? = some (stC ns a L nr)
  nm : S[nr]? = some (.lst (zs.map .str))
  a0 : 0 ≤ a
  pot : a + 4 * L ≤ 80000
  low : -1000 ≤ L
structure Out (ns : List Int) (nr s : Nat) (o j e : Int) (a L : Int) (S : Store) (p : Nat) (a' : Int) (S' : Store) : Prop where
  st : S'[s]? = some (stC ns a' (L - p) nr)
  a0 : 0 ≤ a'
  pot : a' + 4 * (L - p) ≤ a + 4 * L + e
  fr : Fr s S S'
  b1 : L ≤ 0 → (p : Int) ≤ 2 * j
  b2 : 0 < L → -(o + 2 * j) ≤ L - p
section
variable {ns : List Int} {nr s : Nat} {zs : List Str} {o i j e f a b c L : Int} {S T U : Store} {p q : Nat}
theorem Out.seq (hi : 0 ≤ i) (h1 : Out ns nr s o i e a L S p b T) (h2 : Out ns nr s o j f b (L - p) T q c U) : Out ns nr s o (i + j) (e + f) a L S (p + q) c U := by
  have e1 : L - ((p + q : Nat) : Int) = L - p - q := by omega
  have a1 := h1.pot; have a2 := h2.pot; have a3 := h1.b1; have a4 := h2.b1; have a5 := h1.b2; have a6 := h2.b2
  refine ⟨by rw [e1]; exact h2.st, h2.a0, by rw [e1]; omega, h1.fr.trans h2.fr, fun h => ?_, fun h => ?_⟩
  · have := a3 h
    have := a4 (by omega)
    omega
  · have := a5 h
    by_cases q1 : 0 < L - p
    · have := a6 q1
      omega
    · have := a4 (by omega)
      omega
theorem Pre.next (h : Pre ns nr s zs a L S) (hne : nr ≠ s) (o' : Out ns nr s o j e a L S p b T) (h1 : b + 4 * (L - p) ≤ 80000) (h2 : -1000 ≤ L - p) : Pre ns nr s zs b (L - p) T :=
  ⟨o'.st, o'.fr.2 nr _ h.nm hne, o'.a0, h1, h2⟩
theorem Out.nil (h : Pre ns nr s zs a L S) (ho : 0 ≤ o) : Out ns nr s o 0 0 a L S 0 a S := ⟨by have := h.st; simpa using this, h.a0, by simp, ⟨Nat.le_refl _, fun i c h _ => h⟩, fun h => by simp, fun h => by omega⟩
end
end K05

set_option Elab.async false
set_option linter.all false
set_option maxRecDepth 100000
set_option autoImplicit false
namespace K05
open PySem PySem.Spec L2 ML
section
variable {ns : List Int} {nr s : Nat} {zs : List Str} {o i j e f a b c L : Int} {S T U : Store} {p q : Nat}
theorem Out.app (h : Out ns nr s o j e a L S p b T) (X : Store) : Out ns nr s o j e a L S p b (T ++ X) := ⟨at_app h.st, h.a0, h.pot, h.fr.trans (Fr.app s T X), h.b1, h.b2⟩
theorem Out.le {o' j' e' : Int} (h : Out ns nr s o j e a L S p b T) (h1 : o + 2 * j ≤ o' + 2 * j') (h2 : j ≤ j') (h3 : e ≤ e') : Out ns nr s o' j' e' a L S p b T :=
  ⟨h.st, h.a0, by have := h.pot; omega, h.fr, fun q => by have := h.b1 q; omega, fun q => by have := h.b2 q; omega⟩
theorem own (h : Pre ns nr s zs a L S) (ho : 0 ≤ o) : ∃ y : Int, 0 ≤ y ∧ F__law_next [.ref s] S = .ok (.int y) (S.set s (stC ns (a + 1) L nr)) ∧ Out ns nr s o 1 (-3) a L S 1 (a + 1) ((S.set s (stC ns (a + 1) L nr)).set s (stC ns (a + 1) (L - 1) nr)) := by
  have hp := h.pot
  have hl := h.low
  have h0 := h.a0
  obtain ⟨y, hy, e⟩ := next_eq h.st h.a0 (by omega)
  refine ⟨y, hy, e, ?_, by omega, by omega, (Fr.set S _).trans (Fr.set _ _), fun q => by omega, fun q => by omega⟩
  have e2 : L - ((1 : Nat) : Int) = L - 1 := by omega
  rw [e2]
  exact get_set_at (get_set_at h.st)
theorem term_pre (h : Pre ns nr s zs a L S) (ho : 0 ≤ o) (hne : nr ≠ s) (d : Int) : ∃ y T, 0 ≤ y ∧ Out ns nr s o 1 (-3) a L S 1 (a + 1) T ∧ ∀ r, m__law_term r [some (.ref s), some (.int d), none, none, none, none, none, none, none] S = tT r [some (.ref s), some (.int d), some (.int y), some (.int (if d < 1 ∨ L - 1 < 0 then y % 10 % 2 else y % 10)), some (.int (y / 10)), some (.ref nr), none, none, none] T := by
  obtain ⟨y, hy, e1, out⟩ := own (o := o) h ho
  have h1 : (S.set s (stC ns (a + 1) L nr))[s]? = some (stC ns (a + 1) L nr) := get_set_at h.st
  have q1 := st_left h1
  have q2 := put_left h1 (L - 1)
  have h2 := out.st
  have e2 : L - ((1 : Nat) : Int) = L - 1 := by omega
  rw [e2] at h2
  have q3 := st_left h2
  have q4 := st_names h2
  obtain ⟨S1, hS1⟩ : ∃ S1, S.set s (stC ns (a + 1) L nr) = S1 := ⟨_, rfl⟩
  rw [hS1] at e1 out q1 q2 q3 q4
  obtain ⟨S2, hS2⟩ : ∃ S2, S1.set s (stC ns (a + 1) (L - 1) nr) = S2 := ⟨_, rfl⟩
  rw [hS2] at out q2 q3 q4
  refine ⟨y, S2, hy, out, fun r => ?_⟩
  rw [tT_eq]
  by_cases c1 : d < 1
  · simp [e1, x_ix, q1, q2, q3, q4, c1]
  · by_cases c2 : L - 1 < 0
    · simp [e1, x_ix, q1, q2, q3, q4, c1, c2]
    · simp [e1, x_ix, q1, q2, q3, q4, c1, c2]
theorem stmt_pre (h : Pre ns nr s zs a L S) (hz : Names zs) (ho : 0 ≤ o) (hne : nr ≠ s) (d : Int) (hd : Bool) : ∃ y k T z wd q8, 0 ≤ y ∧ NmOk z ∧ NmOk wd ∧ Out ns nr s o 1 (-3) a L S 1 (a + 1) T ∧ (0 ≤ k ∧ k < 10) ∧ ((d < 2 ∨ L - 1 < 0) → k < 5) ∧ (k = 2 → hd = true) ∧ ∀ r, m__law_statement r [some (.ref s), some (.int d), some (.bl hd), none, none, none, none, none, none, none] S = tS r [some (.ref s), some (.int d), some (.bl hd), some (.int y), some (.int k), some (.str z), some (.str wd), none, q8, none] T := by
  obtain ⟨y, hy, e1, out⟩ := own (o := o) h ho
  have h1 : (S.set s (stC ns (a + 1) L nr))[s]? = some (stC ns (a + 1) L nr) := get_set_at h.st
  have q1 := st_left h1
  have q2 := put_left h1 (L - 1)
  have h2 := out.st
  have e2 : L - ((1 : Nat) : Int) = L - 1 := by omega
  rw [e2] at h2
  have q3 := st_left h2
  have q4 := st_names h2
  have n2 := out.fr.2 nr _ h.nm hne
  obtain ⟨S1, hS1⟩ : ∃ S1, S.set s (stC ns (a + 1) L nr) = S1 := ⟨_, rfl⟩
  rw [hS1] at e1 out q1 q2 q3 q4 n2 h2
  obtain ⟨S2, hS2⟩ : ∃ S2, S1.set s (stC ns (a + 1) (L - 1) nr) = S2 := ⟨_, rfl⟩
  rw [hS2] at out q2 q3 q4 n2 h2
  have ln : lenV [.ref nr] S2 = .ok (.int 8) S2 := by
    rw [x_lenR (lstAt_of n2), List.length_map, hz.len]
    rfl
  obtain ⟨z, hzm, ez⟩ : ∃ z, z ∈ zs ∧ ixO S2 (.ref nr) (.int (y / 10 % 8)) = some (.str z) := by
    obtain ⟨u, hu, eu⟩ := atI_mem (xs := zs.map D.str) (i := y / 10 % 8) (by omega) (by rw [List.length_map, hz.len]; omega)
    obtain ⟨z, hz', rfl⟩ := List.mem_map.mp hu
    exact ⟨z, hz', by rw [x_ixR (lstAt_of n2)]; exact eu⟩
  obtain ⟨S3, hS3⟩ : ∃ S3, S2 ++ [Cell.lst [w "great", w "kind", w "any", w "unset", .str z]] = S3 := ⟨_, rfl⟩
  have k3 : S3[S2.length]? = some (.lst [w "great", w "kind", w "any", w "unset", .str z]) := by rw [← hS3]; exact at_end
  have h3 : S3[s]? = some (stC ns (a + 1) (L - 1) nr) := by rw [← hS3]; exact at_app h2
  have q5 := st_left h3
  have nm_w : ∀ t : String, t.toList.all (fun c => decide (97 ≤ c.toNat) && decide (c.toNat ≤ 122)) = true → 1 ≤ t.toList.length → t.toList.length ≤ 8 → NmOk (Str.ofString t) := fun t a b c => by
    unfold NmOk
    rw [cs_of, List.length_map]
    refine ⟨b, c, fun x hx => ?_⟩
    obtain ⟨y, hy, rfl⟩ := List.mem_map.mp hx
    have := List.all_eq_true.mp a y hy
    simp at this
    exact this
  obtain ⟨wd, hwd, ew⟩ : ∃ wd, NmOk wd ∧ ixO S3 (.ref S2.length) (.int (y / 100 % 5)) = some (.str wd) := by
    rw [x_ixR (lstAt_of k3)]
    have : y / 100 % 5 = 0 ∨ y / 100 % 5 = 1 ∨ y / 100 % 5 = 2 ∨ y / 100 % 5 = 3 ∨ y / 100 % 5 = 4 := by omega
    rcases this with e | e | e | e | e <;> rw [e]
    · exact ⟨_, nm_w "great" (by decide) (by decide) (by decide), at0 _ _⟩
    · exact ⟨_, nm_w "kind" (by decide) (by decide) (by decide), at1 _ _ _⟩
    · exact ⟨_, nm_w "any" (by decide) (by decide) (by decide), at2 _ _ _ _⟩
    · exact ⟨_, nm_w "unset" (by decide) (by decide) (by decide), at3 _ _ _ _ _⟩
    · exact ⟨_, hz.ok z hzm, at4 _ _ _ _ _ _⟩
  have out3 : Out ns nr s o 1 (-3) a L S 1 (a + 1) S3 := by rw [← hS3]; exact out.app _
  obtain ⟨k1, hk1⟩ : ∃ k1, (if d < 2 ∨ L - 1 < 0 then y % 10 % 5 else y % 10) = k1 := ⟨_, rfl⟩
  obtain ⟨k2, hk2⟩ : ∃ k2, (if k1 = 2 ∧ hd = false then 3 else k1) = k2 := ⟨_, rfl⟩
  refine ⟨y, k2, S3, z, wd, none, hy, hz.ok z hzm, hwd, out3, ?_, ?_, ?_, fun r => ?_⟩
  · rw [← hk2]
    split
    · omega
    · rw [← hk1]; split <;> omega
  · intro q
    rw [if_pos q] at hk1
    rw [← hk2]
    split <;> omega
  · intro q
    cases hd with
    | true => rfl
    | false =>
      rw [← hk2] at q
      split at q
      · omega
      · rename_i x; exact absurd ⟨q, rfl⟩ x
  · rw [tS_eq]
    have pre : ∀ k0 : Int, (ifS (andM (cmpM eqD (varE 4) (conE (.int 2))) (notM (ofV (varE 2)))) (setS 4 (conE (.int 3))) nilS) [some (.ref s), some (.int d), some (.bl hd), some (.int y), some (.int k0), some (.str z), some (.str wd), none, none, none] S3 = .ok (.nx, [some (.ref s), some (.int d), some (.bl hd), some (.int y), some (.int (if k0 = 2 ∧ hd = false then 3 else k0)), some (.str z), some (.str wd), none, none, none]) S3 := fun k0 => by
      by_cases c : k0 = 2
      · cases hd <;> simp [c]
      · simp [c]
    by_cases c1 : d < 2
    · rw [if_pos (.inl c1)] at hk1
      simp [-x_ifS, e1, x_ix, q1, q2, q3, q4, ln, ez, sz, hS3, ew]
      simp [x_ifS (orM _ _), q5, x_ix, c1, -x_ifS, hk1, pre, hk2]
    · by_cases c2 : L - 1 < 0
      · rw [if_pos (.inr c2)] at hk1
        simp [-x_ifS, e1, x_ix, q1, q2, q3, q4, ln, ez, sz, hS3, ew]
        simp [x_ifS (orM _ _), q5, x_ix, c1, c2, -x_ifS, hk1, pre, hk2]
      · rw [if_neg (by omega)] at hk1
        simp [-x_ifS, e1, x_ix, q1, q2, q3, q4, ln, ez, sz, hS3, ew]
        simp [x_ifS (orM _ _), q5, x_ix, c1, c2, -x_ifS, hk1, pre, hk2]
end
end K05

set_option Elab.async false
set_option linter.all false
set_option maxRecDepth 100000
set_option autoImplicit false
namespace K05
open PySem PySem.Spec L2 ML
section
variable {ns : List Int} {nr s : Nat} {zs : List Str}
def TGen (ns : List Int) (nr s : Nat) (zs : List Str) (n : Nat) : Prop := ∀ (m : Nat) (a L : Int) (S : Store), 2 * n ≤ m → Pre ns nr s zs a L S → ∃ S' d p a', G__law_term m 0 [.ref s, .int ((n : Int) - 2)] S = .ok d S' ∧ Tm n p d ∧ Out ns nr s (20 * n) 1 0 a L S p a' S' ∧ (L ≤ 0 → p ≤ 1)
def SGen (ns : List Int) (nr s : Nat) (zs : List Str) (n : Nat) : Prop := ∀ (m : Nat) (h : Bool) (a L : Int) (S : Store), 2 * n ≤ m → -900 ≤ L → Pre ns nr s zs a L S → ∃ S' d p a', G__law_term m 2 [.ref s, .int ((n : Int) - 2), .bl h] S = .ok d S' ∧ St n h p d ∧ Out ns nr s (20 * n) 1 0 a L S p a' S'
/-- statements in a row -/
theorem st_row {n m : Nat} {h : Bool} (hne : nr ≠ s) (hn : n ≤ 12) (hm : 2 * n ≤ m) (g : SGen ns nr s zs n) {l : ML.Loc} (l0 : l[0]? = some (some (.ref s))) (l1 : l[1]? = some (some (.int ((n : Int) - 2)))) (l2 : l[2]? = some (some (.bl h))) (l3 : 3 < l.length) :
    ∀ (ks : List D) (acc : List D) (a L : Int) (S : Store), Pre ns nr s zs a L S → ks.length ≤ 20 → -500 ≤ L - 2 * ks.length → acc.length + ks.length ≤ 100 → ∃ S' bs p a', compL still (.one 3) yesM (callE 3 (G__law_term m 2) (consA (varE 0) (consA (varE 1) (consA (varE 2) nilA)))) l ks acc S = .ok (acc ++ bs) S' ∧ bs.length = ks.length ∧ Bd n h p bs ∧ Out ns nr s (20 * n) ks.length 0 a L S p a' S'
  | [], acc, a, L, S, hp, _, _, _ => ⟨S, [], 0, a, by rw [compL_nil trivial]; simp, rfl, .nil, Out.nil hp (by omega)⟩
  | k :: ks, acc, a, L, S, hp, hk, hl, ha => by
    rw [List.length_cons] at hk hl ha
    obtain ⟨S1, d, p, a1, e1, h1, o1⟩ := g m h a L S hm (by omega) hp
    have b1 := o1.b1
    have b2 := o1.b2
    have pp := hp.pot
    have p1 := o1.pot
    have hp1 := hp.next hne o1 (by omega) (by by_cases q : 0 < L <;> omega)
    obtain ⟨S2, bs, q, a2, e2, h2, h3, o2⟩ := st_row hne hn hm g l0 l1 l2 l3 ks (acc ++ [d]) a1 (L - p) S1 hp1 (by omega) (by by_cases q : 0 < L <;> omega) (by simp; omega)
    refine ⟨S2, d :: bs, p + q, a2, ?_, by simp [h2], .cons h1 h3, (Out.seq (by omega) o1 o2).le (by simp; omega) (by simp; omega) (by omega)⟩
    have v0 : varE 0 (l.set 3 (some k)) S = .ok (.ref s) S := by unfold varE; rw [List.getElem?_set_ne (by omega), l0]
    have v1 : varE 1 (l.set 3 (some k)) S = .ok (.int ((n : Int) - 2)) S := by unfold varE; rw [List.getElem?_set_ne (by omega), l1]
    have v2 : varE 2 (l.set 3 (some k)) S = .ok (.bl h) S := by unfold varE; rw [List.getElem?_set_ne (by omega), l2]
    have c : callE 3 (G__law_term m 2) (consA (varE 0) (consA (varE 1) (consA (varE 2) nilA))) (l.set 3 (some k)) S = .ok d S1 := by simp [v0, v1, v2, e1]
    rw [compL_cons trivial]
    simp only [Tgt.put, x_yes, R.bind_ok, if_true, c]
    rw [if_pos (show _ < sizeLine by rw [sz]; omega), e2]
    simp
/-- a body -/
theorem bd_gen {n m : Nat} {h : Bool} (hne : nr ≠ s) (hn : n ≤ 12) (hm : 2 * n + 1 ≤ m) (g : SGen ns nr s zs n) {a L : Int} {S : Store} (hp : Pre ns nr s zs a L S) (h1 : a + 4 * L ≤ 79999) (h2 : -400 ≤ L) :
    ∃ S' bs p a', G__law_term m 1 [.ref s, .int ((n : Int) - 2), .bl h] S = .ok (.tup bs) S' ∧ bs.length ≤ 3 ∧ Bd n h p bs ∧ Out ns nr s (20 * n) 3 1 a L S p a' S' := by
  obtain ⟨k, rfl⟩ : ∃ k, m = k + 1 := ⟨m - 1, by omega⟩
  have h0 := hp.a0
  obtain ⟨y, hy, e⟩ := next_eq hp.st hp.a0 (by omega)
  obtain ⟨S1, hS1⟩ : ∃ S1, S.set s (stC ns (a + 1) L nr) = S1 := ⟨_, rfl⟩
  rw [hS1] at e
  have f1 : Fr s S S1 := by rw [← hS1]; exact Fr.set S _
  have hp1 : Pre ns nr s zs (a + 1) L S1 := ⟨by rw [← hS1]; exact get_set_at hp.st, f1.2 nr _ hp.nm hne, by omega, by omega, hp.low⟩
  obtain ⟨j, ej, hj⟩ : ∃ j : Nat, y % 4 = (j : Int) ∧ j ≤ 3 := ⟨(y % 4).toNat, by omega, by omega⟩
  have hr : rng1 [.int (j : Int)] S1 = .ok (ML.intsFrom 0 j, still) S1 := by rw [x_rng1 (by omega) (by omega), Int.toNat_natCast]
  have hl : (ML.intsFrom 0 j).length = j := by simp [ML.intsFrom]
  obtain ⟨S2, bs, p, a2, e2, b1, b2, o2⟩ := st_row (l := [some (.ref s), some (.int ((n : Int) - 2)), some (.bl h), none]) hne hn (by omega : 2 * n ≤ k) g rfl rfl rfl (by simp) (ML.intsFrom 0 j) [] (a + 1) L S1 hp1 (by omega) (by omega) (by simp; omega)
  rw [hl] at b1 o2
  refine ⟨S2, bs, p, a2, ?_, by omega, b2, o2.st, o2.a0, by have := o2.pot; omega, f1.trans o2.fr, fun q => by have := o2.b1 q; omega, fun q => by have := o2.b2 q; omega⟩
  rw [G__law_term_1]
  rw [List.nil_append] at e2
  simp [m__law_body, N__law_body, startL, e, ej, hr, Tgt.own, wipeL, e2, tupL]
/-- terms in a row -/
theorem tm_row {n m : Nat} {c : Int} (hne : nr ≠ s) (hn : n ≤ 12) (hm : 2 * n ≤ m) (g : TGen ns nr s zs n) {l : ML.Loc} (l0 : l[0]? = some (some (.ref s))) (l1 : l[1]? = some (some (.int c))) (hc : c - 1 = (n : Int) - 2) (l3 : 8 < l.length) :
    ∀ (ks : List D) (acc : List D) (a L : Int) (S : Store), Pre ns nr s zs a L S → ks.length ≤ 20 → -500 ≤ L - 2 * ks.length → acc.length + ks.length ≤ 100 → ∃ S' bs p a', compL still (.one 8) yesM (callE 2 (G__law_term m 0) (consA (varE 0) (consA (binE subD (varE 1) (conE (.int 1))) nilA))) l ks acc S = .ok (acc ++ bs) S' ∧ bs.length = ks.length ∧ Ts n p bs ∧ Out ns nr s (20 * n) ks.length 0 a L S p a' S'
  | [], acc, a, L, S, hp, _, _, _ => ⟨S, [], 0, a, by rw [compL_nil trivial]; simp, rfl, .nil, Out.nil hp (by omega)⟩
  | k :: ks, acc, a, L, S, hp, hk, hl, ha => by
    rw [List.length_cons] at hk hl ha
    obtain ⟨S1, d, p, a1, e1, h1, o1, _⟩ := g m a L S hm hp
    have b1 := o1.b1
    have b2 := o1.b2
    have pp := hp.pot
    have p1 := o1.pot
    have hp1 := hp.next hne o1 (by omega) (by by_cases q : 0 < L <;> omega)
    obtain ⟨S2, bs, q, a2, e2, h2, h3, o2⟩ := tm_row hne hn hm g l0 l1 hc l3 ks (acc ++ [d]) a1 (L - p) S1 hp1 (by omega) (by by_cases q : 0 < L <;> omega) (by simp; omega)
    refine ⟨S2, d :: bs, p + q, a2, ?_, by simp [h2], .cons h1 h3, (Out.seq (by omega) o1 o2).le (by simp; omega) (by simp; omega) (by omega)⟩
    have v0 : varE 0 (l.set 8 (some k)) S = .ok (.ref s) S := by unfold varE; rw [List.getElem?_set_ne (by omega), l0]
    have v1 : varE 1 (l.set 8 (some k)) S = .ok (.int c) S := by unfold varE; rw [List.getElem?_set_ne (by omega), l1]
    have cc : callE 2 (G__law_term m 0) (consA (varE 0) (consA (binE subD (varE 1) (conE (.int 1))) nilA)) (l.set 8 (some k)) S = .ok d S1 := by simp [v0, v1, hc, e1]
    rw [compL_cons trivial]
    simp only [Tgt.put, x_yes, R.bind_ok, if_true, cc]
    rw [if_pos (show _ < sizeLine by rw [sz]; omega), e2]
    simp
/-- three bodies -/
theorem bd_three {n m : Nat} {h : Bool} {c : Int} (hne : nr ≠ s) (hn : n ≤ 12) (hm : 2 * n + 1 ≤ m) (g : SGen ns nr s zs n) {l : ML.Loc} (l0 : l[0]? = some (some (.ref s))) (l1 : l[1]? = some (some (.int c))) (hc : c - 1 = (n : Int) - 2) (l2 : l[2]? = some (some (.bl h))) (l3 : 9 < l.length) {a L : Int} {S : Store} (hp : Pre ns nr s zs a L S) (h1 : a + 4 * L ≤ 79997) (h2 : -300 ≤ L) (k0 k1 k2 : D) :
    ∃ S' bs es gs p q r a', compL still (.one 9) yesM (callE 3 (G__law_term m 1) (consA (varE 0) (consA (binE subD (varE 1) (conE (.int 1))) (consA (varE 2) nilA)))) l [k0, k1, k2] [] S = .ok [.tup bs, .tup es, .tup gs] S' ∧ bs.length ≤ 3 ∧ es.length ≤ 3 ∧ gs.length ≤ 3 ∧ Bd n h p bs ∧ Bd n h q es ∧ Bd n h r gs ∧ Out ns nr s (20 * n) 9 3 a L S (p + q + r) a' S' := by
  have st : ∀ (k : D) (l : ML.Loc), l[0]? = some (some (.ref s)) → l[1]? = some (some (.int c)) → l[2]? = some (some (.bl h)) → ∀ (S : Store) (R : R D), G__law_term m 1 [.ref s, .int ((n : Int) - 2), .bl h] S = R → callE 3 (G__law_term m 1) (consA (varE 0) (consA (binE subD (varE 1) (conE (.int 1))) (consA (varE 2) nilA))) (l.set 9 (some k)) S = R := fun k l l0 l1 l2 S R hR => by
    have v0 : varE 0 (l.set 9 (some k)) S = .ok (.ref s) S := by unfold varE; rw [List.getElem?_set_ne (by omega), l0]
    have v1 : varE 1 (l.set 9 (some k)) S = .ok (.int c) S := by unfold varE; rw [List.getElem?_set_ne (by omega), l1]
    have v2 : varE 2 (l.set 9 (some k)) S = .ok (.bl h) S := by unfold varE; rw [List.getElem?_set_ne (by omega), l2]
    simp [v0, v1, v2, hc, hR]
  obtain ⟨S1, bs, p, a1, e1, b1, g1, o1⟩ := bd_gen (h := h) hne hn hm g hp (by omega) (by omega)
  have q1 := o1.pot; have q2 := o1.b1; have q3 := o1.b2; have q0 := hp.pot
  have hp1 := hp.next hne o1 (by omega) (by by_cases q : 0 < L <;> omega)
  obtain ⟨S2, es, q, a2, e2, b2, g2, o2⟩ := bd_gen (h := h) hne hn hm g hp1 (by omega) (by by_cases q : 0 < L <;> omega)
  have r1 := o2.pot; have r2 := o2.b1; have r3 := o2.b2
  have hp2 := hp1.next hne o2 (by omega) (by by_cases q : 0 < L <;> by_cases q' : 0 < L - (p : Int) <;> omega)
  obtain ⟨S3, gs, r, a3, e3, b3, g3, o3⟩ := bd_gen (h := h) hne hn hm g hp2 (by omega) (by by_cases q : 0 < L <;> by_cases q' : 0 < L - (p : Int) <;> omega)
  refine ⟨S3, bs, es, gs, p, q, r, a3, ?_, b1, b2, b3, g1, g2, g3, ?_⟩
  · rw [compL_cons trivial]
    simp only [Tgt.put, x_yes, R.bind_ok, if_true, st k0 l l0 l1 l2 _ _ e1]
    rw [if_pos (show _ < sizeLine by rw [sz]; simp)]
    have l0' : (l.set 9 (some k0))[0]? = some (some (.ref s)) := by rw [List.getElem?_set_ne (by omega), l0]
    have l1' : (l.set 9 (some k0))[1]? = some (some (.int c)) := by rw [List.getElem?_set_ne (by omega), l1]
    have l2' : (l.set 9 (some k0))[2]? = some (some (.bl h)) := by rw [List.getElem?_set_ne (by omega), l2]
    rw [compL_cons trivial]
    simp only [Tgt.put, x_yes, R.bind_ok, if_true, st k1 _ l0 l1 l2 _ _ e2, st k1 _ l0' l1' l2' _ _ e2]
    rw [if_pos (show _ < sizeLine by rw [sz]; simp)]
    have l0'' : ((l.set 9 (some k0)).set 9 (some k1))[0]? = some (some (.ref s)) := by rw [List.getElem?_set_ne (by omega), l0']
    have l1'' : ((l.set 9 (some k0)).set 9 (some k1))[1]? = some (some (.int c)) := by rw [List.getElem?_set_ne (by omega), l1']
    have l2'' : ((l.set 9 (some k0)).set 9 (some k1))[2]? = some (some (.bl h)) := by rw [List.getElem?_set_ne (by omega), l2']
    rw [compL_cons trivial]
    simp only [Tgt.put, x_yes, R.bind_ok, if_true, st k2 _ l0 l1 l2 _ _ e3, st k2 _ l0'' l1'' l2'' _ _ e3]
    rw [if_pos (show _ < sizeLine by rw [sz]; simp), compL_nil trivial]
    rfl
  · have oo := (o1.seq (by omega) (o2.seq (by omega) o3)).le (o' := 20 * n) (j' := 9) (e' := 3) (by omega) (by omega) (by omega)
    rw [← Nat.add_assoc] at oo
    exact oo
theorem sign_at (i : Int) (h0 : 0 ≤ i) (h1 : i < 5) : ∃ t, t ∈ signs ∧ ∀ S, ixO S (.str (Str.ofString "+-*<=")) (.int i) = some (w t) := by
  have : i = 0 ∨ i = 1 ∨ i = 2 ∨ i = 3 ∨ i = 4 := by omega
  rcases this with rfl | rfl | rfl | rfl | rfl
  · exact ⟨"+", by simp [signs], fun S => rfl⟩
  · exact ⟨"-", by simp [signs], fun S => rfl⟩
  · exact ⟨"*", by simp [signs], fun S => rfl⟩
  · exact ⟨"<", by simp [signs], fun S => rfl⟩
  · exact ⟨"=", by simp [signs], fun S => rfl⟩
theorem cut_names (hz : Names zs) {x : Int} (hx : 0 ≤ x) : ∃ ps : List Str, cutD (zs.map D.str) (some (x % 5)) (some (x % 5 + x / 5 % 4)) = ps.map D.str ∧ ps.length ≤ 4 ∧ (∀ z ∈ ps, NmOk z) ∧ ps.Nodup := by
  obtain ⟨i, ei, hi⟩ : ∃ i : Nat, x % 5 = (i : Int) ∧ i < 5 := ⟨(x % 5).toNat, by omega, by omega⟩
  obtain ⟨j, ej, hj⟩ : ∃ j : Nat, x / 5 % 4 = (j : Int) ∧ j < 4 := ⟨(x / 5 % 4).toNat, by omega, by omega⟩
  refine ⟨(zs.drop i).take j, ?_, by rw [List.length_take]; omega, fun z h => hz.ok z (List.mem_of_mem_drop (List.mem_of_mem_take h)), (hz.nd.sublist (List.drop_sublist i zs)).sublist (List.take_sublist j _)⟩
  unfold cutD
  rw [ei, ej, show ((i : Int) + (j : Int)) = ((i + j : Nat) : Int) by omega, sIx_of, sIx_of, List.length_map, hz.len, Nat.min_eq_left (by omega), Nat.min_eq_left (by omega), show i + j - i = j by omega, List.map_take, List.map_drop]
end
end K05

set_option Elab.async false
set_option linter.all false
set_option maxRecDepth 100000
set_option autoImplicit false
namespace K05
open PySem PySem.Spec L2 ML
section
variable {ns : List Int} {nr s : Nat} {zs : List Str}
theorem Out.pos {o j e o' j' e' a L a' : Int} {S S' : Store} {p : Nat} (h : Out ns nr s o j e a L S p a' S') (hL : 0 < L) (h1 : o + 2 * j ≤ o' + 2 * j') (h3 : e ≤ e') : Out ns nr s o' j' e' a L S p a' S' :=
  ⟨h.st, h.a0, by have := h.pot; omega, h.fr, fun q => by omega, fun q => by have := h.b2 q; omega⟩
theorem name_at (hz : Names zs) {S : Store} (h : S[nr]? = some (.lst (zs.map .str))) {x : Int} (hx : 0 ≤ x) : ∃ z, NmOk z ∧ ixO S (.ref nr) (.int (x % 8)) = some (.str z) := by
  obtain ⟨u, hu, eu⟩ := atI_mem (xs := zs.map D.str) (i := x % 8) (by omega) (by rw [List.length_map, hz.len]; omega)
  obtain ⟨z, hz', rfl⟩ := List.mem_map.mp hu
  exact ⟨z, hz.ok z hz', by rw [x_ixR (lstAt_of h)]; exact eu⟩
theorem len_names (hz : Names zs) {S : Store} (h : S[nr]? = some (.lst (zs.map .str))) : lenV [.ref nr] S = .ok (.int 8) S := by
  rw [x_lenR (lstAt_of h), List.length_map, hz.len]
  rfl
theorem nm_word (t : String) (a : t.toList.all (fun c => decide (97 ≤ c.toNat) && decide (c.toNat ≤ 122)) = true) (b : 1 ≤ t.toList.length) (c : t.toList.length ≤ 8) : NmOk (Str.ofString t) := by
  unfold NmOk
  rw [cs_of, List.length_map]
  refine ⟨b, c, fun x hx => ?_⟩
  obtain ⟨y, hy, rfl⟩ := List.mem_map.mp hx
  have := List.all_eq_true.mp a y hy
  simp at this
  exact this
/-- a term without inner ones -/
theorem t_leaf (hz : Names zs) {r : Nat → List D → Store → R D} {a L : Int} {S T : Store} {o : Int} {d y k b : Int} {q5 q6 q7 q8 : Option D} (hn : T[nr]? = some (.lst (zs.map .str))) (o1 : Out ns nr s o 1 (-3) a L S 1 b T) (hy : 0 ≤ y) (hk : k = 0 ∨ k = 1 ∨ k = 8 ∨ k = 9) :
    ∃ S' dd, bodyF 9 (fun _ S => tT r [some (.ref s), some (.int d), some (.int y), some (.int k), some (.int (y / 10)), some (.ref nr), q6, q7, q8] T) [] S = .ok dd S' ∧ (∀ n, Tm (n + 1) 1 dd) ∧ Out ns nr s o 1 (-3) a L S 1 b S' := by
  by_cases c : k = 0
  · obtain ⟨i, h1, h2, e⟩ := number_eq (y / 10) (by omega)
    obtain ⟨X, e⟩ := e T
    refine ⟨T ++ X, _, ?_, fun n => .num i h1 h2, o1.app X⟩
    simp [bodyF, tT, c, sz, e]
  · obtain ⟨z, h1, e1⟩ := name_at hz hn (x := y / 10) (by omega)
    have e2 := len_names hz hn
    refine ⟨T, _, ?_, fun n => .nam z h1, o1⟩
    have hk : k = 1 ∨ k = 8 ∨ k = 9 := by omega
    rcases hk with rfl | rfl | rfl <;> simp [bodyF, tT, sz, x_inConsI, x_inNilI, e2, x_ix, e1]
theorem gen (hz : Names zs) (hne : nr ≠ s) : ∀ n : Nat, n ≤ 12 → (1 ≤ n → TGen ns nr s zs n) ∧ (2 ≤ n → SGen ns nr s zs n)
  | 0, _ => ⟨fun h => by omega, fun h => by omega⟩
  | n + 1, hn => by
    obtain ⟨it, is⟩ := gen hz hne n (by omega)
    have dn : (((n + 1 : Nat) : Int) - 2) - 1 = (n : Int) - 2 := by omega
    have dn2 : (n : Int) + 1 - 2 - 1 = (n : Int) - 2 := by omega
    refine ⟨fun _ m a L S hm hp => ?_, fun hn2 m h a L S hm hlow hp => ?_⟩
    · -- a term
      obtain ⟨k, rfl⟩ : ∃ k, m = k + 1 := ⟨m - 1, by omega⟩
      obtain ⟨y, T, hy, o1, e1⟩ := term_pre (o := 20 * (n : Int)) hp (by omega) hne (((n + 1 : Nat) : Int) - 2)
      have e1 := e1 (G__law_term k)
      have hnT := o1.fr.2 nr _ hp.nm hne
      have pp := hp.pot
      have pl := hp.low
      have p1 := o1.pot
      rw [G__law_term_0]
      have bf : ∀ kk : Int, (if ((n + 1 : Nat) : Int) - 2 < 1 ∨ L - 1 < 0 then y % 10 % 2 else y % 10) = kk → ∀ (Z : R D), bodyF 9 (fun _ S => tT (G__law_term k) [some (.ref s), some (.int (((n + 1 : Nat) : Int) - 2)), some (.int y), some (.int kk), some (.int (y / 10)), some (.ref nr), none, none, none] T) [] S = Z → bodyF N__law_term.length (m__law_term (G__law_term k)) [.ref s, .int (((n + 1 : Nat) : Int) - 2)] S = Z := fun kk hkk Z hR => by
        rw [← hR, ← hkk]
        unfold bodyF
        show ((m__law_term (G__law_term k) [some (.ref s), some (.int (((n + 1 : Nat) : Int) - 2)), none, none, none, none, none, none, none] S).bind _) = _
        rw [e1]
      by_cases cl : ((n + 1 : Nat) : Int) - 2 < 1 ∨ L - 1 < 0
      · obtain ⟨S', dd, e2, h2, o2⟩ := t_leaf (r := G__law_term k) (d := (((n + 1 : Nat) : Int) - 2)) (k := y % 10 % 2) (q5 := none) (q6 := none) (q7 := none) (q8 := none) hz hnT o1 hy (by omega)
        exact ⟨S', dd, 1, _, bf _ (if_pos cl) _ e2, h2 n, o2.le (by omega) (by omega) (by omega), fun _ => Nat.le_refl 1⟩
      · have bf := bf _ (if_neg cl)
        have hL : 0 < L := by omega
        have hn1 : 1 ≤ n := by omega
        have hn2 : 2 ≤ n := by omega
        have tg := it hn1
        have hpT : Pre ns nr s zs _ _ T := hp.next hne o1 (by omega) (by omega)
        by_cases c1 : y % 10 = 0 ∨ y % 10 = 1 ∨ y % 10 = 8 ∨ y % 10 = 9
        · obtain ⟨S', dd, e2, h2, o2⟩ := t_leaf (r := G__law_term k) (d := (((n + 1 : Nat) : Int) - 2)) (k := y % 10) (q5 := none) (q6 := none) (q7 := none) (q8 := none) hz hnT o1 hy c1
          exact ⟨S', dd, 1, _, bf _ e2, h2 n, o2.le (by omega) (by omega) (by omega), fun _ => Nat.le_refl 1⟩
        · by_cases c2 : y % 10 < 4
          · obtain ⟨t, ht, et⟩ := sign_at (y / 10 % 5) (by omega) (by omega)
            obtain ⟨S1, d1, p1', a1, f1, g1, w1, _⟩ := tg k _ _ T (by omega) hpT
            have q1 := w1.pot; have q2 := w1.b1; have q3 := w1.b2
            have hp1 := hpT.next hne w1 (by omega) (by by_cases q : 0 < L - ((1 : Nat) : Int) <;> omega)
            obtain ⟨S2, d2, p2', a2, f2, g2, w2, _⟩ := tg k _ _ S1 (by omega) hp1
            refine ⟨S2, _, 1 + p1' + p2', a2, bf (.ok (.tup [w "two", w t, d1, d2]) S2) ?_, .two t ht g1 g2, ?_, fun q => by omega⟩
            · have c3 : y % 10 = 2 ∨ y % 10 = 3 := by omega
              rcases c3 with c3 | c3 <;> simp [bodyF, tT, c3, sz, x_inConsI, x_inNilI, x_ix, et, dn, dn2, f1, f2, -x_ixT]
            · have oo := o1.seq (by omega) (w1.seq (by omega) w2)
              rw [← Nat.add_assoc] at oo
              exact oo.pos hL (by omega) (by omega)
          · by_cases c4 : y % 10 < 6
            · -- a fun, a loop
              have sg := is hn2
              obtain ⟨ps, ec, hp4, hpn, hpd⟩ := cut_names hz (x := y / 10) (by omega)
              have sl : sliceD (.ref nr) (some (y / 10 % 5)) (some (y / 10 % 5 + y / 10 / 5 % 4)) T = .ok (.ref T.length) (T ++ [.lst (ps.map D.str)]) := by
                unfold sliceD
                simp only [x_lstOfR, lstAt_of hnT, ec]
                rfl
              obtain ⟨T1, hT1⟩ : ∃ T1, T ++ [Cell.lst (ps.map D.str)] = T1 := ⟨_, rfl⟩
              rw [hT1] at sl
              have tv : tupV [.ref T.length] T1 = .ok (.tup (ps.map D.str)) T1 := by
                unfold tupV
                simp only [x_lstOfR, lstAt_of (show T1[T.length]? = some (.lst (ps.map D.str)) by rw [← hT1]; exact at_end)]
              obtain ⟨T2, hT2⟩ : ∃ T2, T1 ++ [Cell.lst [w "fun", w "loop"]] = T2 := ⟨_, rfl⟩
              have k2 : T2[T1.length]? = some (.lst [w "fun", w "loop"]) := by rw [← hT2]; exact at_end
              have o2 : Out ns nr s (20 * (n : Int)) 1 (-3) a L S 1 (a + 1) T2 := by rw [← hT2, ← hT1]; exact (o1.app _).app _
              have hpT2 := hp.next hne o2 (by omega) (by omega)
              obtain ⟨hh, eh⟩ : ∃ hh : Bool, decide (y % 10 = 5) = hh := ⟨_, rfl⟩
              obtain ⟨S2, bs, p2', a2, f2, g1, g2, w2⟩ := bd_gen (h := hh) hne (by omega) (by omega : 2 * n + 1 ≤ k) sg hpT2 (by omega) (by omega)
              refine ⟨S2, _, 1 + p2', a2, bf (.ok (.tup [w (kw hh), .tup (ps.map .str), .tup bs]) S2) ?_, .fn hh ps hp4 hpn hpd (by omega) g2, ?_, fun q => by omega⟩
              · have c5 : y % 10 = 4 ∨ y % 10 = 5 := by omega
                rcases c5 with c5 | c5
                · have i0 : ixO T2 (.ref T1.length) (.int 0) = some (w "fun") := by rw [x_ixR (lstAt_of k2)]; exact at0 _ _
                  rw [c5] at eh
                  have eh : hh = false := eh.symm
                  subst eh
                  simp [bodyF, tT, c5, sz, x_inConsI, x_inNilI, x_ix, sl, tv, hT2, i0, dn, dn2, f2, kw]
                · have i0 : ixO T2 (.ref T1.length) (.int 1) = some (w "loop") := by rw [x_ixR (lstAt_of k2)]; exact at1 _ _ _
                  rw [c5] at eh
                  have eh : hh = true := eh.symm
                  subst eh
                  simp [bodyF, tT, c5, sz, x_inConsI, x_inNilI, x_ix, sl, tv, hT2, i0, dn, dn2, f2, kw]
              · exact (o2.seq (by omega) w2).pos hL (by omega) (by omega)
            · by_cases c5 : y % 10 = 6
              · -- a call
                obtain ⟨S1, d1, p1', a1, f1, g1, w1, _⟩ := tg k _ _ T (by omega) hpT
                have q1 := w1.pot; have q2 := w1.b1; have q3 := w1.b2
                have hp1 := hpT.next hne w1 (by omega) (by by_cases q : 0 < L - ((1 : Nat) : Int) <;> omega)
                obtain ⟨j, ej, hj⟩ : ∃ j : Nat, y / 10 % 5 = (j : Int) ∧ j ≤ 4 := ⟨(y / 10 % 5).toNat, by omega, by omega⟩
                have hr : rng1 [.int (j : Int)] S1 = .ok (ML.intsFrom 0 j, still) S1 := by rw [x_rng1 (by omega) (by omega), Int.toNat_natCast]
                have hl : (ML.intsFrom 0 j).length = j := by simp [ML.intsFrom]
                obtain ⟨S2, as, p2', a2, f2, g2, g3, w2⟩ := tm_row (l := [some (.ref s), some (.int (((n + 1 : Nat) : Int) - 2)), some (.int y), some (.int 6), some (.int (y / 10)), some (.ref nr), none, some d1, none]) (c := (((n + 1 : Nat) : Int) - 2)) hne (by omega) (by omega : 2 * n ≤ k) tg rfl rfl dn (by simp) (ML.intsFrom 0 j) [] _ _ S1 hp1 (by omega) (by by_cases q : 0 < L - ((1 : Nat) : Int) <;> omega) (by simp; omega)
                rw [hl] at g2 w2
                rw [List.nil_append] at f2
                refine ⟨S2, _, 1 + p1' + p2', a2, bf (.ok (.tup [w "call", d1, .tup as]) S2) ?_, .call g1 (by omega) g3, ?_, fun q => by omega⟩
                · simp only [tT, c5]
                  simp at f2
                  simp [bodyF, sz, x_inConsI, x_inNilI, dn, dn2, f1, ej, hr, Tgt.own, wipeL, f2, tupL]
                · have oo := o1.seq (by omega) (w1.seq (by omega) w2)
                  rw [← Nat.add_assoc] at oo
                  exact oo.pos hL (by omega) (by omega)
              · have c6 : y % 10 = 7 := by omega
                obtain ⟨S1, d1, p1', a1, f1, g1, w1, _⟩ := tg k _ _ T (by omega) hpT
                have q1 := w1.pot; have q2 := w1.b1; have q3 := w1.b2
                have hp1 := hpT.next hne w1 (by omega) (by by_cases q : 0 < L - ((1 : Nat) : Int) <;> omega)
                obtain ⟨S2, d2, p2', a2, f2, g2, w2, _⟩ := tg k _ _ S1 (by omega) hp1
                refine ⟨S2, _, 1 + p1' + p2', a2, bf (.ok (.tup [w "step", d1, d2]) S2) ?_, .step g1 g2, ?_, fun q => by omega⟩
                · simp [bodyF, tT, c6, sz, x_inConsI, x_inNilI, dn, dn2, f1, f2]
                · have oo := o1.seq (by omega) (w1.seq (by omega) w2)
                  rw [← Nat.add_assoc] at oo
                  exact oo.pos hL (by omega) (by omega)
    · -- a statement
      obtain ⟨k, rfl⟩ : ∃ k, m = k + 1 := ⟨m - 1, by omega⟩
      obtain ⟨y, kk, T, z, wd, q8, hy, hz1, hw1, o1, hk, hlf, hhd, e1⟩ := stmt_pre (o := 20 * (n : Int)) hp hz (by omega) hne (((n + 1 : Nat) : Int) - 2) h
      have e1 := e1 (G__law_term k)
      have pp := hp.pot
      have pl := hp.low
      have p1 := o1.pot
      have tg := it (by omega)
      rw [G__law_term_2]
      have bf : ∀ (Z : R D), bodyF 10 (fun _ S => tS (G__law_term k) [some (.ref s), some (.int (((n + 1 : Nat) : Int) - 2)), some (.bl h), some (.int y), some (.int kk), some (.str z), some (.str wd), none, q8, none] T) [] S = Z → bodyF N__law_statement.length (m__law_statement (G__law_term k)) [.ref s, .int (((n + 1 : Nat) : Int) - 2), .bl h] S = Z := fun Z hR => by
        rw [← hR]
        unfold bodyF
        show ((m__law_statement (G__law_term k) [some (.ref s), some (.int (((n + 1 : Nat) : Int) - 2)), some (.bl h), none, none, none, none, none, none, none] S).bind _) = _
        rw [e1]
      have one : ∀ (X : List D), ∃ S' d p a', G__law_term k 0 [.ref s, .int ((n : Int) - 2)] (T ++ [.lst X]) = .ok d S' ∧ Tm n p d ∧ Out ns nr s (20 * ((n + 1 : Nat) : Int)) 1 0 a L S (1 + p) a' S' := fun X => by
        have o2 := o1.app [.lst X]
        obtain ⟨S', d, p, a', f1, g1, w1, w2⟩ := tg k _ _ _ (by omega) (hp.next hne o2 (by omega) (by omega))
        have oo := o2.seq (by omega) w1
        have b2 := oo.b2
        have po := oo.pot
        exact ⟨S', d, p, a', f1, g1, oo.st, oo.a0, by omega, oo.fr, fun q => by have := w2 (by omega); omega, fun q => by have := b2 q; omega⟩
      by_cases c1 : kk < 2
      · obtain ⟨S', d, p, a', f1, g1, w1⟩ := one [w "let", w "set"]
        obtain ⟨T2, hT2⟩ : ∃ T2, T ++ [Cell.lst [w "let", w "set"]] = T2 := ⟨_, rfl⟩
        have k2 : T2[T.length]? = some (.lst [w "let", w "set"]) := by rw [← hT2]; exact at_end
        rw [hT2] at f1
        have c2 : kk = 0 ∨ kk = 1 := by omega
        rcases c2 with c2 | c2
        · have i0 : ixO T2 (.ref T.length) (.int 0) = some (w "let") := by rw [x_ixR (lstAt_of k2)]; exact at0 _ _
          exact ⟨S', _, 1 + p, a', bf (.ok (.tup [w "let", .str z, d]) S') (by simp [bodyF, tS, c2, sz, x_ix, hT2, i0, dn, dn2, f1]), .lets false z hz1 g1, w1⟩
        · have i0 : ixO T2 (.ref T.length) (.int 1) = some (w "set") := by rw [x_ixR (lstAt_of k2)]; exact at1 _ _ _
          exact ⟨S', _, 1 + p, a', bf (.ok (.tup [w "set", .str z, d]) S') (by simp [bodyF, tS, c2, sz, x_ix, hT2, i0, dn, dn2, f1]), .lets true z hz1 g1, w1⟩
      · by_cases c3 : kk < 5
        · obtain ⟨S', d, p, a', f1, g1, w1⟩ := one [w "hand", w "do", w "back"]
          obtain ⟨T2, hT2⟩ : ∃ T2, T ++ [Cell.lst [w "hand", w "do", w "back"]] = T2 := ⟨_, rfl⟩
          have k2 : T2[T.length]? = some (.lst [w "hand", w "do", w "back"]) := by rw [← hT2]; exact at_end
          rw [hT2] at f1
          have c2 : kk = 2 ∨ kk = 3 ∨ kk = 4 := by omega
          rcases c2 with c2 | c2 | c2
          · have i0 : ixO T2 (.ref T.length) (.int 0) = some (w "hand") := by rw [x_ixR (lstAt_of k2)]; exact at0 _ _
            have hh := hhd c2
            subst hh
            exact ⟨S', _, 1 + p, a', bf (.ok (.tup [w "hand", d]) S') (by simp [bodyF, tS, c2, sz, x_ix, hT2, i0, dn, dn2, f1]), .hand g1, w1⟩
          · have i0 : ixO T2 (.ref T.length) (.int 1) = some (w "do") := by rw [x_ixR (lstAt_of k2)]; exact at1 _ _ _
            exact ⟨S', _, 1 + p, a', bf (.ok (.tup [w "do", d]) S') (by simp [bodyF, tS, c2, sz, x_ix, hT2, i0, dn, dn2, f1]), .does false g1, w1⟩
          · have i0 : ixO T2 (.ref T.length) (.int 2) = some (w "back") := by rw [x_ixR (lstAt_of k2)]; exact at2 _ _ _ _
            exact ⟨S', _, 1 + p, a', bf (.ok (.tup [w "back", d]) S') (by simp [bodyF, tS, c2, sz, x_ix, hT2, i0, dn, dn2, f1]), .does true g1, w1⟩
        · by_cases c4 : kk = 5
          · obtain ⟨S', d, p, a', f1, g1, w1⟩ := one [.str wd, w "anya"]
            obtain ⟨T2, hT2⟩ : ∃ T2, T ++ [Cell.lst [.str wd, w "anya"]] = T2 := ⟨_, rfl⟩
            have k2 : T2[T.length]? = some (.lst [.str wd, w "anya"]) := by rw [← hT2]; exact at_end
            rw [hT2] at f1
            by_cases c2 : wd = Str.ofString "any"
            · have i0 : ixO T2 (.ref T.length) (.int 1) = some (w "anya") := by rw [x_ixR (lstAt_of k2)]; exact at1 _ _ _
              refine ⟨S', _, 1 + p, a', bf (.ok (.tup [w "fault", w "anya", d]) S') ?_, .fault (Str.ofString "anya") ?_ ?_ g1, w1⟩
              · subst c2
                simp [bodyF, tS, c4, sz, x_ix, hT2, i0, dn, dn2, f1]
              · exact nm_word "anya" (by decide) (by decide) (by decide)
              · intro q
                have := congrArg cs q
                rw [cs_of, cs_of] at this
                exact absurd this (by decide)
            · have i0 : ixO T2 (.ref T.length) (.int 0) = some (.str wd) := by rw [x_ixR (lstAt_of k2)]; exact at0 _ _
              refine ⟨S', _, 1 + p, a', bf (.ok (.tup [w "fault", .str wd, d]) S') ?_, .fault wd hw1 c2 g1, w1⟩
              simp [bodyF, tS, c4, c2, sz, x_ix, hT2, i0, dn, dn2, f1]
          · -- not at a leaf
            have hnl : ¬ ((((n + 1 : Nat) : Int) - 2) < 2 ∨ L - 1 < 0) := fun q => by have := hlf q; omega
            have hL : 0 < L := by omega
            have hn2 : 2 ≤ n := by omega
            have sg := is hn2
            have hpT : Pre ns nr s zs _ _ T := hp.next hne o1 (by omega) (by omega)
            by_cases c5 : kk < 8
            · obtain ⟨S1, d1, p1', a1, f1, g1, w1, _⟩ := tg k _ _ T (by omega) hpT
              have q1 := w1.pot; have q2 := w1.b1; have q3 := w1.b2
              have hp1 := hpT.next hne w1 (by omega) (by by_cases q : 0 < L - ((1 : Nat) : Int) <;> omega)
              obtain ⟨S2, bs, p2', a2, f2, b2, g2, w2⟩ := bd_gen (h := h) hne (by omega) (by omega : 2 * n + 1 ≤ k) sg hp1 (by omega) (by by_cases q : 0 < L - ((1 : Nat) : Int) <;> omega)
              by_cases c6 : kk = 6
              · refine ⟨S2, _, 1 + p1' + p2', a2, bf (.ok (.tup [w "while", d1, .tup bs]) S2) ?_, .whl g1 (by omega) g2, ?_⟩
                · simp [bodyF, tS, c6, sz, dn, dn2, f1, f2]
                · have oo := o1.seq (by omega) (w1.seq (by omega) w2)
                  rw [← Nat.add_assoc] at oo
                  exact oo.pos hL (by omega) (by omega)
              · have c7 : kk = 7 := by omega
                have r1 := w2.pot; have r2 := w2.b1; have r3 := w2.b2
                have hp2 := hp1.next hne w2 (by omega) (by by_cases q : 0 < L - ((1 : Nat) : Int) <;> by_cases q' : 0 < L - ((1 : Nat) : Int) - (p1' : Int) <;> omega)
                obtain ⟨S3, es, p3', a3, f3, b3, g3, w3⟩ := bd_gen (h := h) hne (by omega) (by omega : 2 * n + 1 ≤ k) sg hp2 (by omega) (by by_cases q : 0 < L - ((1 : Nat) : Int) <;> by_cases q' : 0 < L - ((1 : Nat) : Int) - (p1' : Int) <;> omega)
                refine ⟨S3, _, 1 + p1' + p2' + p3', a3, bf (.ok (.tup [w "if", d1, .tup bs, .tup es]) S3) ?_, .ifs g1 (by omega) g2 (by omega) g3, ?_⟩
                · simp [bodyF, tS, c7, sz, dn, dn2, f1, f2, f3]
                · have oo := o1.seq (by omega) (w1.seq (by omega) (w2.seq (by omega) w3))
                  rw [← Nat.add_assoc, ← Nat.add_assoc] at oo
                  exact oo.pos hL (by omega) (by omega)
            · have c6 : kk = 8 ∨ kk = 9 := by omega
              have hr : rng1 [.int 3] T = .ok ([.int 0, .int 1, .int 2], still) T := by rw [x_rng1 (by omega) (by omega)]; rfl
              obtain ⟨S1, bs, es, gs, p, q, r, a1, f1, b1, b2, b3, g1, g2, g3, w1⟩ := bd_three (h := h) (l := [some (.ref s), some (.int (((n + 1 : Nat) : Int) - 2)), some (.bl h), some (.int y), some (.int kk), some (.str z), some (.str wd), none, q8, none]) (c := (((n + 1 : Nat) : Int) - 2)) hne (by omega) (by omega : 2 * n + 1 ≤ k) sg rfl rfl dn rfl (by simp) hpT (by omega) (by omega) (.int 0) (.int 1) (.int 2)
              obtain ⟨S2, hS2⟩ : ∃ S2, S1 ++ [Cell.lst [.tup bs, .tup es, .tup gs]] = S2 := ⟨_, rfl⟩
              have k2 : S2[S1.length]? = some (.lst [.tup bs, .tup es, .tup gs]) := by rw [← hS2]; exact at_end
              have i0 : ixO S2 (.ref S1.length) (.int 0) = some (.tup bs) := by rw [x_ixR (lstAt_of k2)]; exact at0 _ _
              have i1 : ixO S2 (.ref S1.length) (.int 1) = some (.tup es) := by rw [x_ixR (lstAt_of k2)]; exact at1 _ _ _
              have i2 : ixO S2 (.ref S1.length) (.int 2) = some (.tup gs) := by rw [x_ixR (lstAt_of k2)]; exact at2 _ _ _ _
              have w2 := w1.app [.lst [.tup bs, .tup es, .tup gs]]
              rw [hS2] at w2
              refine ⟨S2, _, 1 + p + q + r, a1, bf (.ok (.tup [w "try", .tup bs, .str wd, .str z, .tup es, .tup gs]) S2) ?_, .trys wd z hw1 hz1 (by omega) g1 (by omega) g2 (by omega) g3, ?_⟩
              · rcases c6 with c6 | c6
                · subst c6
                  simp at f1
                  simp [bodyF, tS, sz, hr, Tgt.own, wipeL, f1, hS2, x_ix, i0, i1, i2]
                · subst c6
                  simp at f1
                  simp [bodyF, tS, sz, hr, Tgt.own, wipeL, f1, hS2, x_ix, i0, i1, i2]
              · have oo := o1.seq (by omega) w2
                have e3 : 1 + (p + q + r) = 1 + p + q + r := by omega
                rw [e3] at oo
                exact oo.pos hL (by omega) (by omega)
end
end K05

set_option Elab.async false
set_option linter.all false
set_option maxRecDepth 100000
set_option autoImplicit false
namespace K05
open PySem PySem.Spec L2 ML
section
variable {ns : List Int} {nr s b : Nat} {zs : List Str}
/-- the statements of a program -/
theorem prog_loop (hz : Names zs) (hne : nr ≠ s) (hbs : b ≠ s) (hbn : b ≠ nr) {c1 : Int} (hc : ∀ S, F__law_cell_at [.lis (ns.map .int), .int 1] S = .ok (.int c1) S) : ∀ (j fuel : Nat) (bs : List D) (p : Nat) (a L : Int) (S : Store), 6 ≤ j + bs.length → bs.length ≤ 6 → Pre ns nr s zs a L S → S[b]? = some (.lst bs) → Bd 9 true p bs → L + p = 40 → -182 ≤ L → a + 4 * L ≤ 200 + bs.length → j + 1 ≤ fuel →
    ∃ S' bs' p', whileS (andM (cmpM gtD (binE ixD (varE 3) (conE (.str (Str.ofString "left")))) (conE (.int 0))) (cmpM ltD (newL lenV (consA (varE 4) (nilA))) (binE addD (conE (.int 1)) (binE modD (callE 2 F__law_cell_at (consA (varE 0) (consA (conE (.int 1)) (nilA)))) (conE (.int 6)))))) b__law_program_0 fuel [some (.lis (ns.map .int)), some (.int 40), some (.ref nr), some (.ref s), some (.ref b)] S = .ok (.nx, [some (.lis (ns.map .int)), some (.int 40), some (.ref nr), some (.ref s), some (.ref b)]) S' ∧ S'[b]? = some (.lst bs') ∧ S'[nr]? = some (.lst (zs.map .str)) ∧ bs'.length ≤ 6 ∧ Bd 9 true p' bs' ∧ p' ≤ 222
  | j, 0, bs, p, a, L, S, _, _, _, _, _, _, _, _, hf => by omega
  | j, fuel + 1, bs, p, a, L, S, hj, hl, hp, hb, hB, hL, hL2, hpot, hf => by
    have q1 := st_left hp.st
    have q2 : lenV [.ref b] S = .ok (.int bs.length) S := x_lenR (lstAt_of hb)
    rw [x_while]
    by_cases c : 0 < L ∧ (bs.length : Int) < 1 + c1 % 6
    · have hb6 : bs.length < 6 := by omega
      obtain ⟨y, hy, e1⟩ := next_eq hp.st hp.a0 (by omega)
      obtain ⟨S1, hS1⟩ : ∃ S1, S.set s (stC ns (a + 1) L nr) = S1 := ⟨_, rfl⟩
      rw [hS1] at e1
      have f1 : Fr s S S1 := by rw [← hS1]; exact Fr.set S _
      have hp1 : Pre ns nr s zs (a + 1) L S1 := ⟨by rw [← hS1]; exact get_set_at hp.st, f1.2 nr _ hp.nm hne, by have := hp.a0; omega, by omega, hp.low⟩
      obtain ⟨n, hn, hn9, hn4⟩ : ∃ n : Nat, (n : Int) - 2 = 2 + y % 6 ∧ n ≤ 9 ∧ 4 ≤ n := ⟨(4 + y % 6).toNat, by omega, by omega, by omega⟩
      obtain ⟨S2, d, p', a', e2, g2, w2⟩ := (gen hz hne n (by omega)).2 (by omega) 60 true (a + 1) L S1 (by omega) (by omega) hp1
      rw [hn] at e2
      have b2 := f1.2 b _ hb hbs
      have b3 := w2.fr.2 b _ b2 hbs
      have r1 := w2.pot; have r2 := w2.b2 c.1
      have e3 := x_append (d := d) (lstAt_of b3) (by omega)
      obtain ⟨S3, hS3⟩ : ∃ S3, S2.set b (.lst (bs ++ [d])) = S3 := ⟨_, rfl⟩
      rw [hS3] at e3
      have hp3 : Pre ns nr s zs a' (L - p') S3 := ⟨by rw [← hS3, get_set_ne hbs]; exact w2.st, by rw [← hS3, get_set_ne hbn]; exact w2.fr.2 nr _ hp1.nm hne, w2.a0, by omega, by omega⟩
      have eb : b__law_program_0 [some (.lis (ns.map .int)), some (.int 40), some (.ref nr), some (.ref s), some (.ref b)] S = .ok (.nx, [some (.lis (ns.map .int)), some (.int 40), some (.ref nr), some (.ref s), some (.ref b)]) S3 := by
        simp [b__law_program_0, e1, F__law_statement, e2, e3, lstAt_of hb]
      obtain ⟨j', rfl⟩ : ∃ j', j = j' + 1 := ⟨j - 1, by omega⟩
      obtain ⟨S', bs', p'', e4, h1, h2, h3, h4, h5⟩ := prog_loop hz hne hbs hbn hc j' fuel (bs ++ [d]) (p + p') a' (L - p') S3 (by simp; omega) (by simp; omega) hp3 (by rw [← hS3]; exact get_set_at b3) (hB.snoc (g2.mono hn9)) (by omega) (by omega) (by simp; omega) (by omega)
      refine ⟨S', bs', p'', ?_, h1, h2, h3, h4, h5⟩
      simp [x_ix, q1, q2, hc, c.1, c.2, eb, e4]
    · refine ⟨S, bs, p, ?_, hb, hp.nm, hl, hB, by omega⟩
      by_cases c0 : 0 < L
      · have c2 : ¬ (bs.length : Int) < 1 + c1 % 6 := fun q => c ⟨c0, q⟩
        simp [x_ix, q1, q2, hc, c0, c2]
      · simp [x_ix, q1, q2, hc, c0]
end
/-- what the law's maker gives -/
def Main (d : D) : Prop := ∃ (ps : List Str) (bs : List D) (p : Nat), d = .tup [w "main", .tup (ps.map .str), .tup bs] ∧ ps.length ≤ 4 ∧ (∀ z ∈ ps, NmOk z) ∧ ps.Nodup ∧ bs.length ≤ 6 ∧ Bd 9 true p bs ∧ p ≤ 222
theorem program_eq (ns : List Int) (S0 : Store) : ∃ S d, F__law_program [.lis (ns.map .int), .int 40] S0 = .ok d S ∧ Main d := by
  obtain ⟨c0, hc0⟩ := cell_int ns 0 (by omega)
  obtain ⟨c1, hc1⟩ := cell_int ns 1 (by omega)
  obtain ⟨c2, hc2⟩ := cell_int ns 2 (by omega)
  obtain ⟨u, hu, hu0⟩ : ∃ u, c0 * 48271 % 2147483647 = u ∧ 0 ≤ u := ⟨_, rfl, Int.emod_nonneg _ (by decide)⟩
  obtain ⟨X, nr, zs, e1, hnr, k1, hz⟩ := names_eq u hu0 S0
  obtain ⟨X, eX⟩ : ∃ Y, S0 ++ X = Y := ⟨_, rfl⟩
  rw [eX] at e1 k1
  have hlt : nr < X.length := lt_of_at k1
  obtain ⟨S2, hS2⟩ : ∃ S2, X ++ [stC ns 0 40 nr] ++ [Cell.lst []] = S2 := ⟨_, rfl⟩
  have s2 : S2[X.length]? = some (stC ns 0 40 nr) := by rw [← hS2]; simp
  have b2 : S2[X.length + 1]? = some (.lst []) := by rw [← hS2]; simp
  have n2 : S2[nr]? = some (.lst (zs.map .str)) := by rw [← hS2]; exact at_app (at_app k1)
  obtain ⟨fu, hfu⟩ : ∃ fu, FU = fu + 7 := ⟨999993, by unfold FU; rfl⟩
  obtain ⟨S3, bs, p, e3, b3, n3, hl, hB, hp⟩ := prog_loop (s := X.length) (b := X.length + 1) hz (by omega) (by omega) (by omega) hc1 6 FU [] 0 0 40 S2 (by simp) (by simp) ⟨s2, n2, by omega, by omega, by omega⟩ b2 .nil (by omega) (by omega) (by simp) (by rw [hfu]; omega)
  obtain ⟨i, ei, hi⟩ : ∃ i : Nat, c2 % 5 = (i : Int) ∧ i ≤ 4 := ⟨(c2 % 5).toNat, by omega, by omega⟩
  have sl : sliceD (.ref nr) none (some (c2 % 5)) S3 = .ok (.ref S3.length) (S3 ++ [.lst ((zs.take i).map D.str)]) := by
    unfold sliceD
    simp only [x_lstOfR, lstAt_of n3]
    unfold cutD
    rw [ei, sIx_of, List.length_map, hz.len, Nat.min_eq_left (by omega)]
    simp [List.map_take, show HT.sIx 8 0 none = 0 from rfl]
  obtain ⟨S4, hS4⟩ : ∃ S4, S3 ++ [Cell.lst ((zs.take i).map D.str)] = S4 := ⟨_, rfl⟩
  have t4 : tupV [.ref S3.length] S4 = .ok (.tup ((zs.take i).map D.str)) S4 := by
    unfold tupV
    simp only [x_lstOfR, lstAt_of (show S4[S3.length]? = some (.lst ((zs.take i).map D.str)) by rw [← hS4]; exact at_end)]
  have b4 : S4[X.length + 1]? = some (.lst bs) := by rw [← hS4]; exact at_app b3
  have t5 : tupV [.ref (X.length + 1)] S4 = .ok (.tup bs) S4 := by
    unfold tupV
    simp only [x_lstOfR, lstAt_of b4]
  refine ⟨S4, .tup [w "main", .tup ((zs.take i).map .str), .tup bs], ?_, zs.take i, bs, p, rfl, by rw [List.length_take]; omega, fun z h => hz.ok z (List.mem_of_mem_take h), hz.nd.sublist (List.take_sublist i zs), hl, hB, hp⟩
  rw [hS4] at sl
  have ed : (X ++ [Cell.dct []]).set X.length (stC ns 0 40 nr) = X ++ [stC ns 0 40 nr] := by simp
  have hk : keysO [(D.str (Str.ofString "cells"), D.lis (ns.map D.int)), (D.str (Str.ofString "at"), D.int 0), (D.str (Str.ofString "left"), D.int 40), (D.str (Str.ofString "names"), D.ref nr)] = some (stL ns 0 40 nr) := rfl
  have hmg : mergeD [] (stL ns 0 40 nr) = stL ns 0 40 nr := rfl
  have hsl : (stL ns 0 40 nr).length = 4 := rfl
  have hda : dctAt (X ++ [Cell.dct []]) X.length = some [] := by
    unfold dctAt
    simp
  unfold F__law_program
  simp only [x_bodyF, m__law_program, N__law_program, startL]
  unfold stC at hS2
  simp [-x_ixT, hc0, hu, e1, sz, hk, hmg, hda, hsl, hS2, e3, hc2, sl, t4, t5]
end K05

set_option Elab.async false
set_option linter.all false
set_option maxRecDepth 100000
set_option autoImplicit false
namespace K05
open PySem PySem.Spec L2 ML
/-! ### a program -/
def Prog (N : Nat) (d : D) : Prop := ∃ (ps : List Str) (bs : List D) (p : Nat), d = .tup [w "main", .tup (ps.map .str), .tup bs] ∧ ps.length ≤ 4 ∧ (∀ z ∈ ps, NmOk z) ∧ ps.Nodup ∧ bs.length ≤ 12 ∧ Bd N true p bs ∧ p ≤ 299 ∧ N ≤ 19
theorem Main.prog {d : D} (h : Main d) : Prog 9 d := by
  obtain ⟨ps, bs, p, rfl, h1, h2, hn, h3, h4, h5⟩ := h
  exact ⟨ps, bs, p, rfl, h1, h2, hn, by omega, h4, by omega, by omega⟩
theorem Prog.part {N : Nat} {d : D} (h : Prog N d) : ∃ q, Part N (1 + q) d ∧ q ≤ 299 ∧ N ≤ 19 := by
  obtain ⟨ps, bs, p, rfl, h1, h2, hn, h3, h4, h5, h6⟩ := h
  have e : inn (.tup [w "main", .tup (ps.map .str), .tup bs]) = bs := by simp [inn, fnw_of, nms_innF, h4.innF]
  refine ⟨p, ⟨⟨_, _, rfl, by simp, ?_⟩, ⟨p, by rw [e]; exact h4.ps, rfl⟩, ?_⟩, h5, h6⟩
  · intro x hx
    simp at hx
    rcases hx with rfl | rfl
    · exact nms_fd h2 h1
    · exact h4.fd (by omega) (by omega)
  · rw [e]
    exact told_of fun S => by simp [F_inner_of, m_inner_of, N_inner_of, startL, x_ix, at0, at2, sz, x_inConsS, x_inNilS, ofS_eq, x_listU, show bs.length ≤ 16777216 by omega]
theorem Prog.py {N : Nat} {d : D} (h : Prog N d) : PyOk d 64 310000 := by
  obtain ⟨ps, bs, p, rfl, h1, h2, hn, h3, h4, h5, h6⟩ := h
  exact (PyOk.tup ((PyOk.w "main" (by decide) (2 * N + 1)).cons (((PysOk.nms h2 (2 * N)).tup).cons ((h4.py.tup).cons .nil)))).le (by omega) (by simp; omega)
theorem Prog.size {N : Nat} {d : D} (h : Prog N d) (S : Store) : ∃ X p, F_size_of [d] S = .ok (.int p) (S ++ X) ∧ p ≤ 300 := by
  obtain ⟨q, hp, hq, hN⟩ := h.part
  obtain ⟨X, e⟩ := hp.size (m := 59) (fun p d h S => size_eq N 59 p d h (by omega) (by omega) S) S
  exact ⟨X, _, e, by omega⟩
theorem Prog.is {N : Nat} {d : D} (h : Prog N d) (S : Store) : ∃ X, F_is_program [d] S = .ok (.bl true) (S ++ X) := by
  have hs := h.size
  obtain ⟨ps, bs, p, rfl, h1, h2, hn, h3, h4, h5, h6⟩ := h
  obtain ⟨X, e⟩ := body_ok (m := 59) (left := 19) (h := true) (by omega) (fun b hb => h4.is 59 19 (by omega) (by omega) b hb) S
  obtain ⟨Y, q, e2, hq⟩ := hs (S ++ X)
  have hw := fun S => has_word_eq (a := "main") (b := "main") (xs := [.tup (ps.map .str), .tup bs]) (n := 3) (S := S)
  have hnm := is_names_eq h1 h2 hn
  refine ⟨X ++ Y, ?_⟩
  rw [← List.append_assoc]
  simp at hw
  have e19 : (20 : Int) - 1 = 19 := rfl
  simp [F_is_program, m_is_program, N_is_program, startL, x_ix, at1, at2, sz, hw, hnm, F_is_body, e, e2, hq]
theorem Prog.need {N : Nat} {d : D} (h : Prog N d) (S : Store) : ∃ X, F_need_program [d] S = .ok .non (S ++ X) := by
  obtain ⟨X, e⟩ := h.is S
  exact ⟨X, by simp [F_need_program, m_need_program, N_need_program, startL, e]⟩
theorem Prog.same {N : Nat} {d : D} (h : Prog N d) (S : Store) : eqD d d S = .ok true S ∧ neD d d S = .ok false S := by
  obtain ⟨py, a, b, _, _⟩ := h.py
  have e := a S 64 (Nat.le_refl _)
  exact ⟨by rw [eqD_of e e b b, eqv_self _ b], by rw [neD_of e e b b, eqv_self _ b]; rfl⟩
end K05

set_option Elab.async false
set_option linter.all false
set_option maxRecDepth 100000
set_option autoImplicit false
namespace K05
open PySem PySem.Spec L2 ML
/-! ### texts and words, bracket by bracket -/
def good (c : Nat) : Prop := c = 10 ∨ (32 ≤ c ∧ c ≤ 126 ∧ c ≠ 37)
instance (c : Nat) : Decidable (good c) := by unfold good; infer_instance
def sep (c : Nat) : Bool := decide (c = 40 ∨ c = 41 ∨ c = 32 ∨ c = 10)
def br (c : Nat) : Bool := decide (c = 40 ∨ c = 41)
inductive Nt where
  | w (l : List Nat)
  | l (xs : List Nt)
/-- a plain word -/
def Wd (l : List Nat) : Prop := l ≠ [] ∧ (∀ c ∈ l, good c ∧ sep c = false) ∧ l.length ≤ 20
mutual
def Nt.ok : Nt → Prop
  | .w l => Wd l
  | .l xs => oks xs
def oks : List Nt → Prop
  | [] => True
  | x :: xs => x.ok ∧ oks xs
end
mutual
def Nt.ws : Nt → List (List Nat)
  | .w l => [l]
  | .l xs => [40] :: (wss xs ++ [[41]])
def wss : List Nt → List (List Nat)
  | [] => []
  | x :: xs => x.ws ++ wss xs
end
mutual
/-- the text -/
def Nt.tx : Nt → List Nat
  | .w l => l
  | .l xs => 40 :: (txs xs ++ [41])
def txs : List Nt → List Nat
  | [] => []
  | x :: xs => x.tx ++ txt xs
def txt : List Nt → List Nat
  | [] => []
  | x :: xs => 32 :: (x.tx ++ txt xs)
end
theorem wss_app : ∀ xs ys : List Nt, wss (xs ++ ys) = wss xs ++ wss ys
  | [], _ => by rw [wss]; rfl
  | x :: xs, ys => by rw [List.cons_append, wss, wss, wss_app xs ys, List.append_assoc]
theorem oks_app : ∀ {xs ys : List Nt}, oks (xs ++ ys) ↔ oks xs ∧ oks ys
  | [], _ => by simp [oks]
  | x :: xs, ys => by
    rw [List.cons_append, oks, oks, oks_app (xs := xs)]
    exact and_assoc.symm
theorem oks_of : ∀ {xs : List Nt}, (∀ x ∈ xs, x.ok) → oks xs
  | [], _ => trivial
  | x :: xs, h => ⟨h x List.mem_cons_self, oks_of fun y hy => h y (List.mem_cons_of_mem _ hy)⟩
/-- words joined, the blanks left out at brackets -/
def tg : Bool → List (List Nat) → List Nat
  | _, [] => []
  | b, w :: ws => (if b = true ∨ w = [41] then [] else [32]) ++ w ++ tg (decide (w = [40])) ws
theorem Wd.ne {l : List Nat} (h : Wd l) : l ≠ [40] ∧ l ≠ [41] := by
  refine ⟨?_, ?_⟩ <;> rintro rfl <;> have := (h.2.1 _ List.mem_cons_self).2 <;> simp [sep] at this
mutual
theorem Nt.tg_eq : ∀ (x : Nt), x.ok → ∀ (b : Bool) (r : List (List Nat)), tg b (x.ws ++ r) = (if b = true then [] else [32]) ++ x.tx ++ tg false r
  | .w l, h, b, r => by
    have n := Wd.ne h
    rw [Nt.ws, Nt.tx]
    show (if b = true ∨ l = [41] then [] else [32]) ++ l ++ tg (decide (l = [40])) r = _
    rw [decide_eq_false n.1]
    simp [n.2]
  | .l xs, h, b, r => by
    rw [Nt.ws, Nt.tx]
    show (if b = true ∨ ([40] : List Nat) = [41] then [] else [32]) ++ [40] ++ tg (decide (([40] : List Nat) = [40])) (wss xs ++ [[41]] ++ r) = _
    rw [decide_eq_true rfl, List.append_assoc (wss xs), tgs_eq xs h [41] r]
    simp
theorem tgs_eq : ∀ (xs : List Nt), oks xs → ∀ (c : List Nat) (r : List (List Nat)), tg true (wss xs ++ ([[41]] ++ r)) = txs xs ++ [41] ++ tg false r
  | [], _, c, r => by
    rw [wss, txs]
    show (if true = true ∨ ([41] : List Nat) = [41] then [] else [32]) ++ [41] ++ tg (decide (([41] : List Nat) = [40])) r = _
    simp
  | x :: xs, h, c, r => by
    rw [wss, txs, List.append_assoc, x.tg_eq h.1, tgt_eq xs h.2 c r]
    simp
theorem tgt_eq : ∀ (xs : List Nt), oks xs → ∀ (c : List Nat) (r : List (List Nat)), tg false (wss xs ++ ([[41]] ++ r)) = txt xs ++ [41] ++ tg false r
  | [], _, c, r => by
    rw [wss, txt]
    show (if false = true ∨ ([41] : List Nat) = [41] then [] else [32]) ++ [41] ++ tg (decide (([41] : List Nat) = [40])) r = _
    simp
  | x :: xs, h, c, r => by
    rw [wss, txt, List.append_assoc, x.tg_eq h.1, tgt_eq xs h.2 c r]
    simp
end
theorem tight_eq {x : Nt} (h : x.ok) : tg true x.ws = x.tx := by
  have := x.tg_eq h true []
  simpa [tg] using this
/-! ### how long -/
def sumW (ws : List (List Nat)) : Nat := (ws.map List.length).sum
theorem sumW_app (a b : List (List Nat)) : sumW (a ++ b) = sumW a + sumW b := by simp [sumW]
def exI (x : Nt) : Int := (sumW x.ws : Int) + 3 * (x.ws.length : Int) - 3 * (x.tx.length : Int)
def exs (xs : List Nt) : Int := (sumW (wss xs) : Int) + 3 * ((wss xs).length : Int) - 3 * ((txs xs).length : Int)
def ext (xs : List Nt) : Int := (sumW (wss xs) : Int) + 3 * ((wss xs).length : Int) - 3 * ((txt xs).length : Int)
theorem ex_w (l : List Nat) : exI (.w l) = 3 - 2 * (l.length : Int) := by
  unfold exI
  rw [Nt.ws, Nt.tx]
  simp [sumW]
  omega
theorem ex_l (xs : List Nt) : exI (.l xs) = 2 + exs xs := by
  unfold exI exs
  rw [Nt.ws, Nt.tx]
  have e : sumW ([40] :: (wss xs ++ [[41]])) = sumW (wss xs) + 2 := by simp [sumW]; omega
  rw [e]
  simp
  omega
theorem exs_nil : exs [] = 0 := by
  unfold exs
  rw [wss, txs]
  simp [sumW]
theorem ext_nil : ext [] = 0 := by
  unfold ext
  rw [wss, txt]
  simp [sumW]
theorem exs_cons (x : Nt) (xs : List Nt) : exs (x :: xs) = exI x + ext xs := by
  unfold exs ext exI
  rw [wss, txs, sumW_app]
  simp
  omega
theorem ext_cons (x : Nt) (xs : List Nt) : ext (x :: xs) = exI x - 3 + ext xs := by
  unfold ext exI
  rw [wss, txt, sumW_app]
  simp
  omega
mutual
theorem Nt.tx_len : ∀ (x : Nt), x.ok → x.tx.length + 1 ≤ 22 * x.ws.length
  | .w l, h => by
    rw [Nt.ws, Nt.tx]
    have := h.2.2
    simp
    omega
  | .l xs, h => by
    have := txs_len xs h
    rw [Nt.ws, Nt.tx]
    simp
    omega
theorem txs_len : ∀ (xs : List Nt), oks xs → (txs xs).length ≤ 22 * (wss xs).length
  | [], _ => by rw [wss, txs]; simp
  | x :: xs, h => by
    have h1 := x.tx_len h.1
    have h2 := txt_len xs h.2
    rw [wss, txs]
    simp
    omega
theorem txt_len : ∀ (xs : List Nt), oks xs → (txt xs).length ≤ 22 * (wss xs).length
  | [], _ => by rw [wss, txt]; simp
  | x :: xs, h => by
    have h1 := x.tx_len h.1
    have h2 := txt_len xs h.2
    rw [wss, txt]
    simp
    omega
end
end K05

set_option Elab.async false
set_option linter.all false
set_option maxRecDepth 100000
set_option autoImplicit false
namespace K05
open PySem PySem.Spec L2 ML
/-! ### a program's parts as brackets -/
def kwN (s : String) : Nt := .w (cs (Str.ofString s))
def nmN (z : Str) : Nt := .w (cs z)
def numN (i : Int) : Nt := .w (cs (Str.ofString (toString i)))
mutual
inductive TN : Nat → D → Nt → Prop
  | num {n : Nat} (i : Int) : -1000000000000 ≤ i → i ≤ 1000000000000 → TN (n + 1) (.tup [w "number", .int i]) (numN i)
  | nam {n : Nat} (z : Str) : NmOk z → TN (n + 1) (.tup [w "name", .str z]) (nmN z)
  | two {n : Nat} {a b : D} {x y : Nt} (s : String) : s ∈ signs → TN n a x → TN n b y → TN (n + 1) (.tup [w "two", w s, a, b]) (.l [kwN s, x, y])
  | fn {n : Nat} {bs : List D} {xs : List Nt} (k : Bool) (ps : List Str) : ps.length ≤ 4 → (∀ z ∈ ps, NmOk z) → bs.length ≤ 12 → BN n bs xs → TN (n + 1) (.tup [w (kw k), .tup (ps.map .str), .tup bs]) (.l (kwN (kw k) :: .l (ps.map nmN) :: xs))
  | call {n : Nat} {f : D} {as : List D} {x : Nt} {xs : List Nt} : TN n f x → as.length ≤ 4 → TNs n as xs → TN (n + 1) (.tup [w "call", f, .tup as]) (.l (kwN "call" :: x :: xs))
  | step {n : Nat} {a b : D} {x y : Nt} : TN n a x → TN n b y → TN (n + 1) (.tup [w "step", a, b]) (.l [kwN "step", x, y])
inductive TNs : Nat → List D → List Nt → Prop
  | nil {n : Nat} : TNs n [] []
  | cons {n : Nat} {a : D} {as : List D} {x : Nt} {xs : List Nt} : TN n a x → TNs n as xs → TNs n (a :: as) (x :: xs)
inductive SN : Nat → D → Nt → Prop
  | two {n : Nat} {t : D} {x : Nt} (s : String) (z : Str) : s = "let" ∨ s = "set" ∨ s = "fault" → NmOk z → TN n t x → SN (n + 1) (.tup [w s, .str z, t]) (.l [kwN s, nmN z, x])
  | one {n : Nat} {t : D} {x : Nt} (s : String) : s = "do" ∨ s = "hand" ∨ s = "back" → TN n t x → SN (n + 1) (.tup [w s, t]) (.l [kwN s, x])
  | whl {n : Nat} {t : D} {bs : List D} {x : Nt} {xs : List Nt} : TN n t x → bs.length ≤ 12 → BN n bs xs → SN (n + 1) (.tup [w "while", t, .tup bs]) (.l [kwN "while", x, .l xs])
  | ifs {n : Nat} {t : D} {bs es : List D} {x : Nt} {xs ys : List Nt} : TN n t x → bs.length ≤ 12 → BN n bs xs → es.length ≤ 12 → BN n es ys → SN (n + 1) (.tup [w "if", t, .tup bs, .tup es]) (.l [kwN "if", x, .l xs, .l ys])
  | trys {n : Nat} {bs es gs : List D} {xs ys zs : List Nt} (y z : Str) : NmOk y → NmOk z → bs.length ≤ 12 → BN n bs xs → es.length ≤ 12 → BN n es ys → gs.length ≤ 12 → BN n gs zs → SN (n + 1) (.tup [w "try", .tup bs, .str y, .str z, .tup es, .tup gs]) (.l [kwN "try", .l xs, nmN y, nmN z, .l ys, .l zs])
inductive BN : Nat → List D → List Nt → Prop
  | nil {n : Nat} : BN n [] []
  | cons {n : Nat} {a : D} {as : List D} {x : Nt} {xs : List Nt} : SN n a x → BN n as xs → BN n (a :: as) (x :: xs)
end
theorem wss_nms (ps : List Str) : (wss (ps.map nmN)).length = ps.length := by
  induction ps with
  | nil => rw [List.map_nil, wss]; rfl
  | cons z ps ih =>
    rw [List.map_cons, wss, List.length_append, ih, nmN, Nt.ws]
    simp
    omega
theorem kw_ws (s : String) : (kwN s).ws.length = 1 := by rw [kwN, Nt.ws]; rfl
theorem nm_ws (z : Str) : (nmN z).ws.length = 1 := by rw [nmN, Nt.ws]; rfl
theorem l_ws (xs : List Nt) : (Nt.l xs).ws.length = (wss xs).length + 2 := by rw [Nt.ws]; simp
theorem c_ws (x : Nt) (xs : List Nt) : (wss (x :: xs)).length = x.ws.length + (wss xs).length := by rw [wss, List.length_append]
theorem n_ws : (wss []).length = 0 := by rw [wss]; rfl
mutual
theorem Tm.tn {n p : Nat} {d : D} (h : Tm n p d) : ∃ x, TN n d x ∧ x.ws.length ≤ 20 * p := by
  cases h with
  | num i a b => exact ⟨_, .num i a b, by rw [numN, Nt.ws]; simp⟩
  | nam z a => exact ⟨_, .nam z a, by rw [nm_ws]; simp⟩
  | two s a b c =>
    obtain ⟨x, hx, l1⟩ := b.tn
    obtain ⟨y, hy, l2⟩ := c.tn
    exact ⟨_, .two s a hx hy, by rw [l_ws, c_ws, c_ws, c_ws, n_ws, kw_ws]; omega⟩
  | fn k ps a b c d e =>
    obtain ⟨xs, hx, l1⟩ := e.tn
    exact ⟨_, .fn k ps a b d hx, by rw [l_ws, c_ws, c_ws, l_ws, kw_ws, wss_nms]; omega⟩
  | call a b c =>
    obtain ⟨x, hx, l1⟩ := a.tn
    obtain ⟨xs, hxs, l2⟩ := c.tn
    exact ⟨_, .call hx b hxs, by rw [l_ws, c_ws, c_ws, kw_ws]; omega⟩
  | step a b =>
    obtain ⟨x, hx, l1⟩ := a.tn
    obtain ⟨y, hy, l2⟩ := b.tn
    exact ⟨_, .step hx hy, by rw [l_ws, c_ws, c_ws, c_ws, n_ws, kw_ws]; omega⟩
theorem Ts.tn {n p : Nat} {d : List D} (h : Ts n p d) : ∃ xs, TNs n d xs ∧ (wss xs).length ≤ 20 * p := by
  cases h with
  | nil => exact ⟨_, .nil, by rw [n_ws]; omega⟩
  | cons a b =>
    obtain ⟨x, hx, l1⟩ := a.tn
    obtain ⟨xs, hxs, l2⟩ := b.tn
    exact ⟨_, .cons hx hxs, by rw [c_ws]; omega⟩
theorem St.sn {n p : Nat} {hd : Bool} {d : D} (h : St n hd p d) : ∃ x, SN n d x ∧ x.ws.length ≤ 20 * p := by
  cases h with
  | lets b z a c =>
    obtain ⟨x, hx, l1⟩ := c.tn
    exact ⟨_, .two _ z (by cases b <;> simp) a hx, by rw [l_ws, c_ws, c_ws, c_ws, n_ws, kw_ws, nm_ws]; omega⟩
  | fault z a b c =>
    obtain ⟨x, hx, l1⟩ := c.tn
    exact ⟨_, .two "fault" z (by simp) a hx, by rw [l_ws, c_ws, c_ws, c_ws, n_ws, kw_ws, nm_ws]; omega⟩
  | hand a =>
    obtain ⟨x, hx, l1⟩ := a.tn
    exact ⟨_, .one "hand" (by simp) hx, by rw [l_ws, c_ws, c_ws, n_ws, kw_ws]; omega⟩
  | does b a =>
    obtain ⟨x, hx, l1⟩ := a.tn
    exact ⟨_, .one _ (by cases b <;> simp) hx, by rw [l_ws, c_ws, c_ws, n_ws, kw_ws]; omega⟩
  | whl a b c =>
    obtain ⟨x, hx, l1⟩ := a.tn
    obtain ⟨xs, hxs, l2⟩ := c.tn
    exact ⟨_, .whl hx b hxs, by rw [l_ws, c_ws, c_ws, c_ws, n_ws, kw_ws, l_ws]; omega⟩
  | ifs a b c d e =>
    obtain ⟨x, hx, l1⟩ := a.tn
    obtain ⟨xs, hxs, l2⟩ := c.tn
    obtain ⟨ys, hys, l3⟩ := e.tn
    exact ⟨_, .ifs hx b hxs d hys, by rw [l_ws, c_ws, c_ws, c_ws, c_ws, n_ws, kw_ws, l_ws, l_ws]; omega⟩
  | trys y z a b c d e f g i =>
    obtain ⟨xs, hxs, l1⟩ := d.tn
    obtain ⟨ys, hys, l2⟩ := f.tn
    obtain ⟨zs, hzs, l3⟩ := i.tn
    exact ⟨_, .trys y z a b c hxs e hys g hzs, by rw [l_ws, c_ws, c_ws, c_ws, c_ws, c_ws, c_ws, n_ws, kw_ws, nm_ws, nm_ws, l_ws, l_ws, l_ws]; omega⟩
theorem Bd.tn {n p : Nat} {hd : Bool} {d : List D} (h : Bd n hd p d) : ∃ xs, BN n d xs ∧ (wss xs).length ≤ 20 * p := by
  cases h with
  | nil => exact ⟨_, .nil, by rw [n_ws]; omega⟩
  | cons a b =>
    obtain ⟨x, hx, l1⟩ := a.sn
    obtain ⟨xs, hxs, l2⟩ := b.tn
    exact ⟨_, .cons hx hxs, by rw [c_ws]; omega⟩
end
/-! ### the words are plain -/
theorem kw_wd (s : String) (h0 : s.toList ≠ []) (h : s.toList.all (fun c => decide (good c.toNat) && !sep c.toNat) = true) (hl : s.toList.length ≤ 20 := by decide) : (kwN s).ok := by
  show Wd _
  rw [cs_of]
  refine ⟨by simpa using h0, fun c hc => ?_, by rw [List.length_map]; exact hl⟩
  obtain ⟨x, hx, rfl⟩ := List.mem_map.mp hc
  have := List.all_eq_true.mp h x hx
  simp at this
  exact this
theorem nm_wd {z : Str} (h : NmOk z) : (nmN z).ok := by
  show Wd _
  refine ⟨fun e => by have := h.1; rw [e] at this; simp at this, fun c hc => ?_, by have := h.2.1; omega⟩
  have := h.2.2 c hc
  unfold good sep
  simp
  omega
theorem sign_wd {s : String} (h : s ∈ signs) : (kwN s).ok := by
  simp [signs] at h
  rcases h with rfl | rfl | rfl | rfl | rfl <;> exact kw_wd _ (by decide) (by decide)
/-- the text of a number -/
def dig (m : Nat) : List Nat := (Nat.toDigits 10 m).map Char.toNat
theorem num_cs (i : Int) : cs (Str.ofString (toString i)) = if i < 0 then 45 :: dig i.natAbs else dig i.natAbs := by
  cases i with
  | ofNat m =>
    have e := PySem.W.KIN.signs_num m
    have hn : ¬ (Int.ofNat m < 0) := by have : (Int.ofNat m) = (m : Int) := rfl; omega
    rw [if_neg hn]
    exact e
  | negSucc m =>
    have hn : Int.negSucc m < 0 := by omega
    rw [if_pos hn, cs_of]
    show ("-" ++ Nat.repr (m + 1)).toList.map Char.toNat = _
    rw [String.toList_append, List.map_append, Nat.toList_repr]
    rfl
theorem dig_ok (m : Nat) : dig m ≠ [] ∧ ∀ c ∈ dig m, 48 ≤ c ∧ c ≤ 57 := by
  refine ⟨fun e => ?_, fun c hc => ?_⟩
  · have h := PySem.toDigits_len_ge 10 m
    rw [List.map_eq_nil_iff.mp e] at h
    exact absurd h (by decide)
  · obtain ⟨ch, hch, e⟩ := List.mem_map.mp hc
    have r := PyProof.Rows.digit_range (Nat.isDigit_of_mem_toDigits (by decide) (by decide) hch)
    rw [← e]
    exact r
theorem num_len {i : Int} (h1 : -1000000000000 ≤ i) (h2 : i ≤ 1000000000000) : (cs (Str.ofString (toString i))).length ≤ 20 := by
  have hn : i.natAbs < 10 ^ 13 := by omega
  have hl := int_text_length_le10 (a := i) (k := 13) (by decide) hn
  have e : (Str.ofString (toString i)).length = (toString i).length := by rw [← cs_len, cs_of, List.length_map]; rfl
  rw [cs_len]
  omega
theorem num_wd {i : Int} (h1 : -1000000000000 ≤ i) (h2 : i ≤ 1000000000000) : (numN i).ok := by
  show Wd _
  have := dig_ok i.natAbs
  have hl := num_len h1 h2
  unfold Wd
  refine (and_assoc.mp ⟨?_, hl⟩ : _ ∧ _ ∧ _)
  rw [num_cs]
  split
  · refine ⟨by simp, fun c hc => ?_⟩
    rcases List.mem_cons.mp hc with rfl | hc
    · decide
    · have := this.2 c hc
      unfold good sep
      simp
      omega
  · refine ⟨this.1, fun c hc => ?_⟩
    have := this.2 c hc
    unfold good sep
    simp
    omega
mutual
theorem TN.ok {n : Nat} {d : D} {x : Nt} (h : TN n d x) : x.ok := by
  cases h with
  | num i a b => exact num_wd a b
  | nam z a => exact nm_wd a
  | two s a b c => exact ⟨sign_wd a, b.ok, c.ok, trivial⟩
  | fn k ps a b c d => exact ⟨by cases k <;> exact kw_wd _ (by decide) (by decide), oks_of fun x hx => by
      obtain ⟨z, hz, rfl⟩ := List.mem_map.mp hx
      exact nm_wd (b z hz), d.ok⟩
  | call a b c => exact ⟨kw_wd _ (by decide) (by decide), a.ok, c.ok⟩
  | step a b => exact ⟨kw_wd _ (by decide) (by decide), a.ok, b.ok, trivial⟩
theorem TNs.ok {n : Nat} {d : List D} {xs : List Nt} (h : TNs n d xs) : oks xs := by
  cases h with
  | nil => exact trivial
  | cons a b => exact ⟨a.ok, b.ok⟩
theorem SN.ok {n : Nat} {d : D} {x : Nt} (h : SN n d x) : x.ok := by
  cases h with
  | two s z a b c => exact ⟨by rcases a with rfl | rfl | rfl <;> exact kw_wd _ (by decide) (by decide), nm_wd b, c.ok, trivial⟩
  | one s a b => exact ⟨by rcases a with rfl | rfl | rfl <;> exact kw_wd _ (by decide) (by decide), b.ok, trivial⟩
  | whl a b c => exact ⟨kw_wd _ (by decide) (by decide), a.ok, c.ok, trivial⟩
  | ifs a b c d e => exact ⟨kw_wd _ (by decide) (by decide), a.ok, c.ok, e.ok, trivial⟩
  | trys y z a b c d e f g i => exact ⟨kw_wd _ (by decide) (by decide), d.ok, nm_wd a, nm_wd b, f.ok, i.ok, trivial⟩
theorem BN.ok {n : Nat} {d : List D} {xs : List Nt} (h : BN n d xs) : oks xs := by
  cases h with
  | nil => exact trivial
  | cons a b => exact ⟨a.ok, b.ok⟩
end
/-! ### the loose text is at most thrice as long -/
theorem kw_ex (s : String) : exI (kwN s) = 3 - 2 * (s.toList.length : Int) := by
  unfold kwN
  rw [ex_w, cs_of, List.length_map]
theorem wd_ex {l : List Nat} (h : Wd l) : exI (.w l) ≤ 1 := by
  rw [ex_w]
  have := List.length_pos_iff.mpr h.1
  omega
theorem nms_ex {ps : List Str} (h : ∀ z ∈ ps, NmOk z) : ext (ps.map nmN) ≤ 0 := by
  induction ps with
  | nil => rw [List.map_nil, ext_nil]; omega
  | cons z ps ih =>
    rw [List.map_cons, ext_cons]
    have := ih fun y hy => h y (List.mem_cons_of_mem _ hy)
    have h2 : exI (nmN z) ≤ 1 := wd_ex (nm_wd (h z List.mem_cons_self))
    omega
theorem nml_ex {ps : List Str} (h : ∀ z ∈ ps, NmOk z) : exI (.l (ps.map nmN)) ≤ 3 := by
  rw [ex_l]
  cases ps with
  | nil => rw [List.map_nil, exs_nil]; omega
  | cons z ps =>
    rw [List.map_cons, exs_cons]
    have := nms_ex (ps := ps) fun y hy => h y (List.mem_cons_of_mem _ hy)
    have h2 : exI (nmN z) ≤ 1 := wd_ex (nm_wd (h z List.mem_cons_self))
    omega
theorem sign_ex {s : String} (h : s ∈ signs) : exI (kwN s) = 1 := by
  simp [signs] at h
  rcases h with rfl | rfl | rfl | rfl | rfl <;> (rw [kw_ex]; decide)
mutual
theorem TN.ex {n : Nat} {d : D} {x : Nt} (h : TN n d x) : exI x ≤ 1 := by
  cases h with
  | num i a b => exact wd_ex (num_wd a b)
  | nam z a => exact wd_ex (nm_wd a)
  | two s a b c =>
    have := b.ex; have := c.ex; have := sign_ex a
    rw [ex_l, exs_cons, ext_cons, ext_cons, ext_nil]
    omega
  | fn k ps a b c d =>
    have := d.ex; have := nml_ex b
    have : exI (kwN (kw k)) ≤ -3 := by cases k <;> (rw [kw_ex]; decide)
    rw [ex_l, exs_cons, ext_cons]
    omega
  | call a b c =>
    have := a.ex; have := c.ex
    have : exI (kwN "call") = -5 := by rw [kw_ex]; decide
    rw [ex_l, exs_cons, ext_cons]
    omega
  | step a b =>
    have := a.ex; have := b.ex
    have : exI (kwN "step") = -5 := by rw [kw_ex]; decide
    rw [ex_l, exs_cons, ext_cons, ext_cons, ext_nil]
    omega
theorem TNs.ex {n : Nat} {d : List D} {xs : List Nt} (h : TNs n d xs) : ext xs ≤ 0 := by
  cases h with
  | nil => rw [ext_nil]; omega
  | cons a b =>
    have := a.ex; have := b.ex
    rw [ext_cons]
    omega
theorem SN.ex {n : Nat} {d : D} {x : Nt} (h : SN n d x) : exI x ≤ -1 := by
  cases h with
  | two s z a b c =>
    have := c.ex
    have h2 : exI (nmN z) ≤ 1 := wd_ex (nm_wd b)
    have : exI (kwN s) ≤ -3 := by rcases a with rfl | rfl | rfl <;> (rw [kw_ex]; decide)
    rw [ex_l, exs_cons, ext_cons, ext_cons, ext_nil]
    omega
  | one s a b =>
    have := b.ex
    have : exI (kwN s) ≤ -1 := by rcases a with rfl | rfl | rfl <;> (rw [kw_ex]; decide)
    rw [ex_l, exs_cons, ext_cons, ext_nil]
    omega
  | whl a b c =>
    have := a.ex; have := c.exl
    have : exI (kwN "while") = -7 := by rw [kw_ex]; decide
    rw [ex_l, exs_cons, ext_cons, ext_cons, ext_nil]
    omega
  | ifs a b c d e =>
    have := a.ex; have := c.exl; have := e.exl
    have : exI (kwN "if") = -1 := by rw [kw_ex]; decide
    rw [ex_l, exs_cons, ext_cons, ext_cons, ext_cons, ext_nil]
    omega
  | trys y z a b c d e f g i =>
    have := d.exl; have := f.exl; have := i.exl
    have h2 : exI (nmN y) ≤ 1 := wd_ex (nm_wd a)
    have h3 : exI (nmN z) ≤ 1 := wd_ex (nm_wd b)
    have : exI (kwN "try") = -3 := by rw [kw_ex]; decide
    rw [ex_l, exs_cons, ext_cons, ext_cons, ext_cons, ext_cons, ext_cons, ext_nil]
    omega
theorem BN.ex {n : Nat} {d : List D} {xs : List Nt} (h : BN n d xs) : ext xs ≤ 0 := by
  cases h with
  | nil => rw [ext_nil]; omega
  | cons a b =>
    have := a.ex; have := b.ex
    rw [ext_cons]
    omega
theorem BN.exl {n : Nat} {d : List D} {xs : List Nt} (h : BN n d xs) : exI (.l xs) ≤ 2 := by
  rw [ex_l]
  cases h with
  | nil => rw [exs_nil]; omega
  | cons a b =>
    have := a.ex; have := b.ex
    rw [exs_cons]
    omega
end
/-! ### a whole program -/
inductive PN : Nat → D → Nt → Prop
  | mk {n : Nat} {bs : List D} {xs : List Nt} (ps : List Str) : ps.length ≤ 4 → (∀ z ∈ ps, NmOk z) → bs.length ≤ 12 → BN n bs xs → PN n (.tup [w "main", .tup (ps.map .str), .tup bs]) (.l (kwN "main" :: .l (ps.map nmN) :: xs))
theorem Prog.pn {N : Nat} {d : D} (h : Prog N d) : ∃ x, PN N d x ∧ x.ws.length ≤ 6000 := by
  obtain ⟨ps, bs, p, rfl, h1, h2, hn, h3, h4, h5, h6⟩ := h
  obtain ⟨xs, hx, l⟩ := h4.tn
  exact ⟨_, .mk ps h1 h2 h3 hx, by rw [l_ws, c_ws, c_ws, l_ws, kw_ws, wss_nms]; omega⟩
theorem PN.ok {n : Nat} {d : D} {x : Nt} (h : PN n d x) : x.ok := by
  cases h with
  | mk ps a b c d => exact ⟨kw_wd _ (by decide) (by decide), oks_of fun x hx => by
      obtain ⟨z, hz, rfl⟩ := List.mem_map.mp hx
      exact nm_wd (b z hz), d.ok⟩
theorem PN.ex {n : Nat} {d : D} {x : Nt} (h : PN n d x) : exI x ≤ 0 := by
  cases h with
  | mk ps a b c d =>
    have := d.ex; have := nml_ex b
    have : exI (kwN "main") = -5 := by rw [kw_ex]; decide
    rw [ex_l, exs_cons, ext_cons]
    omega
end K05

set_option Elab.async false
set_option linter.all false
set_option maxRecDepth 100000
set_option autoImplicit false
namespace K05
open PySem PySem.Spec L2 ML
/-! ### the law's words -/
def tok (ws : List (List Nat)) : List D := ws.map strD
theorem tok_app (a b : List (List Nat)) : tok (a ++ b) = tok a ++ tok b := List.map_append
theorem tok_len (a : List (List Nat)) : (tok a).length = a.length := List.length_map ..
theorem strC (z : Str) : D.str z = strD (cs z) := congrArg D.str (mkS_cs z).symm
theorem lpD : w "(" = strD [40] := by show D.str (Str.ofString "(") = _; rw [strC, cs_of]; rfl
theorem rpD : w ")" = strD [41] := by show D.str (Str.ofString ")") = _; rw [strC, cs_of]; rfl
theorem toks_nm (ps : List Str) : ps.map D.str = tok (wss (ps.map nmN)) := by
  induction ps with
  | nil => rw [List.map_nil, List.map_nil, wss]; rfl
  | cons z ps ih =>
    rw [List.map_cons, List.map_cons, wss, tok_app, ih, nmN, Nt.ws, strC]
    rfl
/-- a def that tells words: a new list -/
def Wds (F : List D → Store → R D) (d : D) (ws : List (List Nat)) : Prop := ∀ S, ∃ X r, F [d] S = .ok (.ref r) (S ++ X) ∧ (S ++ X)[r]? = some (.lst (tok ws))
def LE (m : ME) (l : ML.Loc) (S : Store) (ws : List (List Nat)) : Prop := ∃ X r, m l S = .ok (.ref r) (S ++ X) ∧ (S ++ X)[r]? = some (.lst (tok ws))
section
variable {m n : ME} {l : ML.Loc} {S : Store} {a b ws : List (List Nat)} {F : List D → Store → R D} {d : D}
theorem LE.add (h1 : LE m l S a) (h2 : ∀ S, LE n l S b) (hz : a.length + b.length ≤ 1000000) : LE (binE addD m n) l S (a ++ b) := by
  obtain ⟨X, r, e1, k1⟩ := h1
  obtain ⟨Y, q, e2, k2⟩ := h2 (S ++ X)
  have e3 := x_addR (at_app (T := Y) k1) k2 (by rw [tok_len, tok_len]; omega)
  refine ⟨X ++ (Y ++ [.lst (tok a ++ tok b)]), (S ++ X ++ Y).length, ?_, ?_⟩
  · simp only [List.append_assoc] at e1 e2 e3 ⊢
    simp [e1, e2, e3]
  · rw [tok_app, ← List.append_assoc, ← List.append_assoc]
    exact at_end
theorem LE.lst {r : MA} (h : r l S = .ok (tok ws) S) (hz : ws.length ≤ 1000000) : LE (allocE (lstN r)) l S ws := by
  refine ⟨[.lst (tok ws)], S.length, ?_, at_end⟩
  simp [h, sz, tok_len, show ws.length ≤ 16777216 by omega]
theorem LE.new {r : MA} (h : r l S = .ok (tok ws) S) : LE (allocE r) l S ws := by
  refine ⟨[.lst (tok ws)], S.length, ?_, at_end⟩
  simp [h]
theorem LE.call {as : MA} (h : Wds F d ws) (ha : as l S = .ok [d] S) : LE (callE 1 F as) l S ws := by
  obtain ⟨X, r, e, k⟩ := h S
  exact ⟨X, r, by simp [ha, e], k⟩
theorem LE.of_ret (h : LE m l S ws) : ∃ X r, retS m l S = .ok (.rt (.ref r), l) (S ++ X) ∧ (S ++ X)[r]? = some (.lst (tok ws)) := by
  obtain ⟨X, r, e, k⟩ := h
  exact ⟨X, r, by simp [e], k⟩
end
inductive A2 (R : D → Nt → Prop) : List D → List Nt → Prop
  | nil : A2 R [] []
  | cons {a : D} {as : List D} {x : Nt} {xs : List Nt} : R a x → A2 R as xs → A2 R (a :: as) (x :: xs)
theorem BN.a2 {n : Nat} : ∀ {bs : List D} {xs : List Nt}, BN n bs xs → A2 (SN n) bs xs
  | _, _, .nil => .nil
  | _, _, .cons a b => .cons a b.a2
theorem TNs.a2 {n : Nat} : ∀ {bs : List D} {xs : List Nt}, TNs n bs xs → A2 (TN n) bs xs
  | _, _, .nil => .nil
  | _, _, .cons a b => .cons a b.a2
/-- the words of things in a row are put behind -/
theorem wloop {Rl : D → Nt → Prop} {F : List D → Store → R D} {chk : Store → Prop} (mono : ∀ S X, chk S → chk (S ++ X)) {x0 : Option D} {N : Nat} (ih : ∀ a x, Rl a x → x.ws.length ≤ N → Wds F a x.ws) (hN : N ≤ 100000) {ds : List D} {xs : List Nt} (h : A2 Rl ds xs) :
    ∀ (acc : List (List Nat)) (S : Store) (r : Nat) (x2 : Option D), S[r]? = some (.lst (tok acc)) → chk S → acc.length + (wss xs).length ≤ N →
      ∃ X q y2, forL chk (nameT 2) (setS 1 (binE addD (varE 1) (callE 1 F (consA (varE 2) nilA)))) ds [x0, some (.ref r), x2] S = .ok (.nx, [x0, some (.ref q), y2]) (S ++ X) ∧ (S ++ X)[q]? = some (.lst (tok (acc ++ wss xs))) := by
  induction h with
  | nil =>
    intro acc S r x2 hr hk _
    exact ⟨[], r, x2, by rw [forL_nil hk]; simp, by rw [wss]; simpa using hr⟩
  | @cons a as x xs hx _ ihs =>
    intro acc S r x2 hr hk hz
    rw [c_ws] at hz
    obtain ⟨X, q, e1, k1⟩ := ih a x hx (by omega) S
    have e2 := x_addR (at_app (T := X) hr) k1 (by rw [tok_len, tok_len]; omega)
    obtain ⟨S1, hS1⟩ : ∃ S1, S ++ X ++ [Cell.lst (tok acc ++ tok x.ws)] = S1 := ⟨_, rfl⟩
    rw [hS1] at e2
    have k2 : S1[(S ++ X).length]? = some (.lst (tok (acc ++ x.ws))) := by rw [← hS1, tok_app]; exact at_end
    obtain ⟨u, hu⟩ : ∃ u, (S ++ X).length = u := ⟨_, rfl⟩
    rw [hu] at e2 k2
    have hc : chk S1 := by rw [← hS1]; exact mono _ _ (mono _ _ hk)
    obtain ⟨Y, q2, y2, e3, k3⟩ := ihs (acc ++ x.ws) S1 u (some a) k2 hc (by rw [List.length_append]; omega)
    have eb : (setS 1 (binE addD (varE 1) (callE 1 F (consA (varE 2) nilA)))) [x0, some (.ref r), some a] S = .ok (.nx, [x0, some (.ref u), some a]) S1 := by
      simp [e1, e2]
    have eS : S1 ++ Y = S ++ (X ++ ([Cell.lst (tok acc ++ tok x.ws)] ++ Y)) := by rw [← hS1]; simp
    refine ⟨X ++ ([Cell.lst (tok acc ++ tok x.ws)] ++ Y), q2, y2, ?_, ?_⟩
    · rw [forL_cons hk, ← eS]
      simp [-x_setS, eb, e3]
    · rw [← eS, wss, ← List.append_assoc]
      exact k3
theorem bodies_eq {n m N : Nat} {bs : List D} {xs : List Nt} (hN : N ≤ 100000) (ih : ∀ a x, SN n a x → x.ws.length ≤ N → Wds (G__law_bodies m 3) a x.ws) (h : BN n bs xs) (hz : (wss xs).length + 2 ≤ N) : Wds (G__law_bodies (m + 1) 0) (.tup bs) (Nt.l xs).ws := fun S => by
  obtain ⟨S0, hS0⟩ : ∃ S0, S ++ [Cell.lst (tok [[40]])] = S0 := ⟨_, rfl⟩
  have k0 : S0[S.length]? = some (.lst (tok [[40]])) := by rw [← hS0]; exact at_end
  obtain ⟨X, q, y2, e1, k1⟩ := wloop (Rl := SN n) (F := G__law_bodies m 3) (chk := still) still_mono (x0 := some (.tup bs)) (N := N) ih hN h.a2 [[40]] S0 S.length none k0 trivial (by simp; omega)
  have e2 := x_addR (at_app (T := [Cell.lst (tok [[41]])]) k1) at_end (by rw [tok_len, tok_len]; simp; omega)
  obtain ⟨S1, hS1⟩ : ∃ S1, S0 ++ X = S1 := ⟨_, rfl⟩
  rw [hS1] at e1 e2 k1
  have t40 : tok [[40]] = [D.str (Str.ofString "(")] := by rw [show D.str (Str.ofString "(") = _ from lpD]; rfl
  have t41 : tok [[41]] = [D.str (Str.ofString ")")] := by rw [show D.str (Str.ofString ")") = _ from rpD]; rfl
  rw [t40] at hS0
  refine ⟨[Cell.lst [D.str (Str.ofString "(")]] ++ X ++ [.lst (tok [[41]])] ++ [.lst (tok ([[40]] ++ wss xs) ++ tok [[41]])], (S1 ++ [Cell.lst (tok [[41]])]).length, ?_, ?_⟩
  · have eS : S ++ ([Cell.lst [D.str (Str.ofString "(")]] ++ X ++ [.lst (tok [[41]])] ++ [.lst (tok ([[40]] ++ wss xs) ++ tok [[41]])]) = S1 ++ [Cell.lst (tok [[41]])] ++ [.lst (tok ([[40]] ++ wss xs) ++ tok [[41]])] := by rw [← hS1, ← hS0]; simp
    rw [eS]
    rw [t41] at e2 ⊢
    rw [G__law_bodies_0]
    have eb : b__law_bodies_0 (G__law_bodies m) = setS 1 (binE addD (varE 1) (callE 1 (G__law_bodies m 3) (consA (varE 2) nilA))) := rfl
    simp only [x_bodyF, m__law_bodies, N__law_bodies, startL]
    rw [← eb] at e1
    simp at e2
    simp [sz, hS0, e1, e2]
  · have eS : S ++ ([Cell.lst [D.str (Str.ofString "(")]] ++ X ++ [.lst (tok [[41]])] ++ [.lst (tok ([[40]] ++ wss xs) ++ tok [[41]])]) = S1 ++ [Cell.lst (tok [[41]])] ++ [.lst (tok ([[40]] ++ wss xs) ++ tok [[41]])] := by rw [← hS1, ← hS0]; simp
    rw [eS, ← tok_app, Nt.ws]
    exact at_end
end K05

set_option Elab.async false
set_option linter.all false
set_option maxRecDepth 100000
set_option autoImplicit false
namespace K05
open PySem PySem.Spec L2 ML
section
variable {m n : ME} {l : ML.Loc} {S : Store} {a b ws : List (List Nat)} {F : List D → Store → R D} {d : D}
theorem LE.slice {c : List Nat} (h : LE m l S (c :: ws)) : LE (sliceE m (someO (conE (.int 1))) noO) l S ws := by
  obtain ⟨X, r, e, k⟩ := h
  refine ⟨X ++ [.lst (tok ws)], (S ++ X).length, ?_, by rw [← List.append_assoc]; exact at_end⟩
  have e2 : sliceD (.ref r) (some 1) none (S ++ X) = .ok (.ref (S ++ X).length) (S ++ X ++ [.lst (tok ws)]) := by
    unfold sliceD
    simp only [x_lstOfR, lstAt_of k]
    have := cutD_drop (tok (c :: ws)) 1
    rw [show ((1 : Nat) : Int) = 1 from rfl] at this
    rw [this]
    rfl
  rw [← List.append_assoc]
  simp only [List.append_assoc] at e e2 ⊢
  simp [e, e2]
theorem LE.ret (h : LE m l S ws) {W : R D} (hW : ∀ X r, (S ++ X)[r]? = some (.lst (tok ws)) → retS m l S = .ok (.rt (.ref r), l) (S ++ X) → W = .ok (.ref r) (S ++ X)) : ∃ X r, W = .ok (.ref r) (S ++ X) ∧ (S ++ X)[r]? = some (.lst (tok ws)) := by
  obtain ⟨X, r, e, k⟩ := h.of_ret
  exact ⟨X, r, hW X r k e, k⟩
end
noncomputable def tTW (r : Nat → List D → Store → R D) : MS := seqS (setS 1 (binE addD (allocE (lstN (consA (conE (.str (Str.ofString "("))) (consA (binE ixD (varE 0) (conE (.int 0))) (nilA))))) (callE 1 (r 2) (consA (binE ixD (varE 0) (conE (.int 1))) (nilA))))) (seqS (forS (srcV (ifE (cmpM eqD (binE ixD (varE 0) (conE (.int 0))) (conE (.str (Str.ofString "call")))) (allocE (newL listV (consA (binE ixD (varE 0) (conE (.int 2))) (nilA)))) (allocE (lstN (consA (binE ixD (varE 0) (conE (.int 2))) (nilA)))))) (nameT 2) ((b__law_term_words_0 r))) (retS (binE addD (varE 1) (allocE (lstN (consA (conE (.str (Str.ofString ")"))) (nilA)))))))
theorem tTW_eq (r : Nat → List D → Store → R D) : m__law_term_words r = seqS (ifS (cmpM eqD (binE ixD (varE 0) (conE (.int 0))) (conE (.str (Str.ofString "number")))) (retS (allocE (lstN (consA (newL strV (consA (binE ixD (varE 0) (conE (.int 1))) (nilA))) (nilA))))) (nilS)) (seqS (ifS (cmpM eqD (binE ixD (varE 0) (conE (.int 0))) (conE (.str (Str.ofString "name")))) (retS (allocE (lstN (consA (binE ixD (varE 0) (conE (.int 1))) (nilA))))) (nilS)) (seqS (ifS (cmpM eqD (binE ixD (varE 0) (conE (.int 0))) (conE (.str (Str.ofString "two")))) (retS (binE addD (binE addD (binE addD (allocE (lstN (consA (conE (.str (Str.ofString "("))) (consA (binE ixD (varE 0) (conE (.int 1))) (nilA))))) (callE 1 (r 2) (consA (binE ixD (varE 0) (conE (.int 2))) (nilA)))) (callE 1 (r 2) (consA (binE ixD (varE 0) (conE (.int 3))) (nilA)))) (allocE (lstN (consA (conE (.str (Str.ofString ")"))) (nilA)))))) (nilS)) (seqS (ifS (cmpM inD (binE ixD (varE 0) (conE (.int 0))) (tupE (consA (conE (.str (Str.ofString "fun"))) (consA (conE (.str (Str.ofString "loop"))) (nilA))))) (retS (callE 1 (r 1) (consA (varE 0) (nilA)))) (nilS)) (tTW r)))) := rfl
noncomputable def tLW (r : Nat → List D → Store → R D) : MS := seqS (setS 2 (binE addD (binE addD (allocE (lstN (consA (conE (.str (Str.ofString "("))) (consA (varE 1) (nilA))))) (callE 1 (r 2) (consA (binE ixD (varE 0) (conE (.int 1))) (nilA)))) (callE 1 (r 0) (consA (binE ixD (varE 0) (conE (.int 2))) (nilA))))) (seqS (ifS (cmpM eqD (varE 1) (conE (.str (Str.ofString "if")))) (setS 2 (binE addD (varE 2) (callE 1 (r 0) (consA (binE ixD (varE 0) (conE (.int 3))) (nilA))))) (nilS)) (retS (binE addD (varE 2) (allocE (lstN (consA (conE (.str (Str.ofString ")"))) (nilA)))))))
theorem tLW_eq (r : Nat → List D → Store → R D) : m__law_words r = seqS (setS 1 (binE ixD (varE 0) (conE (.int 0)))) (seqS (ifS (cmpM inD (varE 1) (tupE (consA (conE (.str (Str.ofString "do"))) (consA (conE (.str (Str.ofString "hand"))) (consA (conE (.str (Str.ofString "back"))) (nilA)))))) (retS (binE addD (binE addD (allocE (lstN (consA (conE (.str (Str.ofString "("))) (consA (varE 1) (nilA))))) (callE 1 (r 2) (consA (binE ixD (varE 0) (conE (.int 1))) (nilA)))) (allocE (lstN (consA (conE (.str (Str.ofString ")"))) (nilA)))))) (nilS)) (seqS (ifS (cmpM inD (varE 1) (tupE (consA (conE (.str (Str.ofString "let"))) (consA (conE (.str (Str.ofString "set"))) (consA (conE (.str (Str.ofString "fault"))) (nilA)))))) (retS (binE addD (binE addD (allocE (lstN (consA (conE (.str (Str.ofString "("))) (consA (varE 1) (consA (binE ixD (varE 0) (conE (.int 1))) (nilA)))))) (callE 1 (r 2) (consA (binE ixD (varE 0) (conE (.int 2))) (nilA)))) (allocE (lstN (consA (conE (.str (Str.ofString ")"))) (nilA)))))) (nilS)) (seqS (ifS (cmpM eqD (varE 1) (conE (.str (Str.ofString "try")))) (retS (binE addD (binE addD (binE addD (binE addD (binE addD (allocE (lstN (consA (conE (.str (Str.ofString "("))) (consA (varE 1) (nilA))))) (callE 1 (r 0) (consA (binE ixD (varE 0) (conE (.int 1))) (nilA)))) (allocE (lstN (consA (binE ixD (varE 0) (conE (.int 2))) (consA (binE ixD (varE 0) (conE (.int 3))) (nilA)))))) (callE 1 (r 0) (consA (binE ixD (varE 0) (conE (.int 4))) (nilA)))) (callE 1 (r 0) (consA (binE ixD (varE 0) (conE (.int 5))) (nilA)))) (allocE (lstN (consA (conE (.str (Str.ofString ")"))) (nilA)))))) (nilS)) (tLW r)))) := rfl
theorem kw_tok (s : String) : tok [[40], cs (Str.ofString s)] = [D.str (Str.ofString "("), w s] := by
  rw [show D.str (Str.ofString "(") = _ from lpD, show w s = D.str (Str.ofString s) from rfl, strC]
  rfl
theorem kw_tok3 (s : String) (z : Str) : tok [[40], cs (Str.ofString s), cs z] = [D.str (Str.ofString "("), w s, .str z] := by
  rw [show D.str (Str.ofString "(") = _ from lpD, show w s = D.str (Str.ofString s) from rfl, strC, strC]
  rfl
theorem kw_tok4 (s : String) : tok [[40], cs (Str.ofString s), [40]] = [D.str (Str.ofString "("), w s, D.str (Str.ofString "(")] := by
  rw [show D.str (Str.ofString "(") = _ from lpD, show w s = D.str (Str.ofString s) from rfl, strC]
  rfl
theorem end_tok : tok [[41]] = [D.str (Str.ofString ")")] := by rw [show D.str (Str.ofString ")") = _ from rpD]; rfl
theorem nn_tok (y z : Str) : tok [cs y, cs z] = [.str y, .str z] := by rw [strC, strC]; rfl
theorem one_tok (z : Str) : tok [cs z] = [.str z] := by rw [strC]; rfl
theorem fw_eq {n m N : Nat} {bs : List D} {xs : List Nt} (hN : N ≤ 100000) (ih : ∀ a x, SN n a x → x.ws.length ≤ N → Wds (G__law_bodies m 3) a x.ws) (h : BN n bs xs) (s : String) (ps : List Str) (hz : (Nt.l (kwN s :: .l (ps.map nmN) :: xs)).ws.length ≤ N) :
    Wds (G__law_bodies (m + 2) 1) (.tup [w s, .tup (ps.map .str), .tup bs]) (Nt.l (kwN s :: .l (ps.map nmN) :: xs)).ws := fun S => by
  have hz' := hz
  rw [l_ws, c_ws, c_ws, l_ws, kw_ws, wss_nms] at hz'
  have hb := bodies_eq (m := m) hN ih h (by omega)
  have g : LE (binE addD (binE addD (binE addD (allocE (lstN (consA (conE (.str (Str.ofString "("))) (consA (binE ixD (varE 0) (conE (.int 0))) (consA (conE (.str (Str.ofString "("))) (nilA)))))) (allocE (newL listV (consA (binE ixD (varE 0) (conE (.int 1))) (nilA))))) (allocE (lstN (consA (conE (.str (Str.ofString ")"))) (nilA))))) (sliceE (callE 1 (G__law_bodies (m + 1) 0) (consA (binE ixD (varE 0) (conE (.int 2))) (nilA))) (someO (conE (.int 1))) (noO))) [some (.tup [w s, .tup (ps.map .str), .tup bs])] S ([[40], cs (Str.ofString s), [40]] ++ wss (ps.map nmN) ++ [[41]] ++ (wss xs ++ [[41]])) := by
    refine LE.add (LE.add (LE.add (LE.lst ?_ (by simp)) (fun S => LE.new ?_) (by rw [wss_nms]; simp; omega)) (fun S => LE.lst ?_ (by simp)) (by simp [wss_nms]; omega)) (fun S => LE.slice (c := [40]) (LE.call hb ?_)) (by simp [wss_nms]; omega)
    · rw [kw_tok4]; simp [x_ix, at0]
    · simp [x_ix, at1, x_listU, toks_nm]
    · rw [end_tok]; simp
    · simp [x_ix, at2]
  have ew : [[40], cs (Str.ofString s), [40]] ++ wss (ps.map nmN) ++ [[41]] ++ (wss xs ++ [[41]]) = (Nt.l (kwN s :: .l (ps.map nmN) :: xs)).ws := by
    simp [Nt.ws, wss, kwN]
  rw [ew] at g
  refine g.ret fun X r _ e => ?_
  rw [G__law_bodies_1]
  simp only [x_bodyF, m__law_function_words, N__law_function_words, startL]
  simp [-x_retS, e]
theorem row_part {Rl : D → Nt → Prop} {N : Nat} {rr : Nat → List D → Store → R D} {d : D} {S : Store} {a : List (List Nat)} {ds : List D} {xs : List Nt} (ih : ∀ a x, Rl a x → x.ws.length ≤ N → Wds (rr 2) a x.ws) (hN : N ≤ 100000) (g1 : LE (binE addD (allocE (lstN (consA (conE (.str (Str.ofString "("))) (consA (binE ixD (varE 0) (conE (.int 0))) (nilA))))) (callE 1 (rr 2) (consA (binE ixD (varE 0) (conE (.int 1))) (nilA)))) [some d, none, none] S a) (hsrc : ∀ S v1, (ifE (cmpM eqD (binE ixD (varE 0) (conE (.int 0))) (conE (.str (Str.ofString "call")))) (allocE (newL listV (consA (binE ixD (varE 0) (conE (.int 2))) (nilA)))) (allocE (lstN (consA (binE ixD (varE 0) (conE (.int 2))) (nilA))))) [some d, some v1, none] S = .ok (.ref S.length) (S ++ [.lst ds])) (h : A2 Rl ds xs) (hz : a.length + (wss xs).length + 1 ≤ N) :
    ∃ X r y1 y2, tTW rr [some d, none, none] S = .ok (.rt (.ref r), [some d, y1, y2]) (S ++ X) ∧ (S ++ X)[r]? = some (.lst (tok (a ++ wss xs ++ [[41]]))) := by
  obtain ⟨X, q, e, k⟩ := g1
  obtain ⟨S1, hS1⟩ : ∃ S1, S ++ X = S1 := ⟨_, rfl⟩
  rw [hS1] at e k
  have e2 := hsrc S1 (.ref q)
  obtain ⟨S2, hS2⟩ : ∃ S2, S1 ++ [Cell.lst ds] = S2 := ⟨_, rfl⟩
  rw [hS2] at e2
  have k2 : S2[q]? = some (.lst (tok a)) := by rw [← hS2]; exact at_app k
  have c2 : S2[S1.length]? = some (.lst ds) := by rw [← hS2]; exact at_end
  have e3 := x_srcR c2
  obtain ⟨Y, q2, y2, e4, k4⟩ := wloop (Rl := Rl) (F := rr 2) (chk := fun S' => lstAt S' S1.length = some ds) (lst_mono S1.length ds) (x0 := some d) ih hN h a S2 q none k2 (lstAt_of c2) (by omega)
  have eb : b__law_term_words_0 rr = setS 1 (binE addD (varE 1) (callE 1 (rr 2) (consA (varE 2) nilA))) := rfl
  rw [← eb] at e4
  obtain ⟨S3, hS3⟩ : ∃ S3, S2 ++ Y = S3 := ⟨_, rfl⟩
  rw [hS3] at e4 k4
  have e5 := x_addR (at_app (T := [Cell.lst (tok [[41]])]) k4) at_end (by rw [tok_len, tok_len]; simp; omega)
  refine ⟨X ++ ([Cell.lst ds] ++ (Y ++ ([.lst (tok [[41]])] ++ [.lst (tok (a ++ wss xs) ++ tok [[41]])]))), (S3 ++ [Cell.lst (tok [[41]])]).length, some (.ref q2), y2, ?_, ?_⟩
  · have eS : S ++ (X ++ ([Cell.lst ds] ++ (Y ++ ([.lst (tok [[41]])] ++ [.lst (tok (a ++ wss xs) ++ tok [[41]])])))) = S3 ++ [Cell.lst (tok [[41]])] ++ [.lst (tok (a ++ wss xs) ++ tok [[41]])] := by rw [← hS3, ← hS2, ← hS1]; simp
    rw [eS]
    rw [end_tok] at e5 ⊢
    simp at e5
    unfold tTW
    obtain ⟨E1, hE1⟩ : ∃ E1, binE addD (allocE (lstN (consA (conE (.str (Str.ofString "("))) (consA (binE ixD (varE 0) (conE (.int 0))) (nilA))))) (callE 1 (rr 2) (consA (binE ixD (varE 0) (conE (.int 1))) (nilA))) = E1 := ⟨_, rfl⟩
    obtain ⟨E2, hE2⟩ : ∃ E2, ifE (cmpM eqD (binE ixD (varE 0) (conE (.int 0))) (conE (.str (Str.ofString "call")))) (allocE (newL listV (consA (binE ixD (varE 0) (conE (.int 2))) (nilA)))) (allocE (lstN (consA (binE ixD (varE 0) (conE (.int 2))) (nilA)))) = E2 := ⟨_, rfl⟩
    rw [hE1] at e ⊢
    rw [hE2] at e2 ⊢
    simp [e, e2, e3, e4, sz, e5]
  · have eS : S ++ (X ++ ([Cell.lst ds] ++ (Y ++ ([.lst (tok [[41]])] ++ [.lst (tok (a ++ wss xs) ++ tok [[41]])])))) = S3 ++ [Cell.lst (tok [[41]])] ++ [.lst (tok (a ++ wss xs) ++ tok [[41]])] := by rw [← hS3, ← hS2, ← hS1]; simp
    rw [eS, ← tok_app]
    exact at_end
theorem words_all : ∀ n, (∀ m d x, TN n d x → 3 * n ≤ m → x.ws.length ≤ 100000 → Wds (G__law_bodies m 2) d x.ws) ∧ (∀ m d x, SN n d x → 3 * n ≤ m → x.ws.length ≤ 100000 → Wds (G__law_bodies m 3) d x.ws)
  | 0 => ⟨fun _ _ _ h _ _ => (by cases h), fun _ _ _ h _ _ => (by cases h)⟩
  | n + 1 => by
    obtain ⟨iT, iS⟩ := words_all n
    refine ⟨fun m d x h hm hz => ?_, fun m d x h hm hz => ?_⟩
    · obtain ⟨k, rfl⟩ : ∃ k, m = k + 3 := ⟨m - 3, by omega⟩
      intro S
      rw [G__law_bodies_2]
      cases h with
      | num i a b =>
        have g : LE (allocE (lstN (consA (newL strV (consA (binE ixD (varE 0) (conE (.int 1))) (nilA))) (nilA)))) [some (.tup [w "number", .int i]), none, none] S (numN i).ws := by
          rw [numN, Nt.ws]
          refine LE.lst ?_ (by simp)
          rw [one_tok]
          have hl : i.natAbs.log2 < 1920 := by
            by_cases q : i.natAbs = 0
            · rw [q]; decide
            · have : i.natAbs.log2 < 50 := by
                rw [Nat.log2_lt q]
                have : (10 : Nat) ^ 13 < 2 ^ 50 := by decide
                omega
              omega
          simp [x_ix, at1, hl]
        refine g.ret fun X r _ e => ?_
        simp only [x_bodyF, m__law_term_words, N__law_term_words, startL]
        simp [-x_retS, x_ix, at0, e]
      | nam z a =>
        have g : LE (allocE (lstN (consA (binE ixD (varE 0) (conE (.int 1))) (nilA)))) [some (.tup [w "name", .str z]), none, none] S (nmN z).ws := by
          rw [nmN, Nt.ws]
          refine LE.lst ?_ (by simp)
          rw [one_tok]
          simp [x_ix, at1]
        refine g.ret fun X r _ e => ?_
        simp only [x_bodyF, m__law_term_words, N__law_term_words, startL]
        simp [-x_retS, x_ix, at0, ofS_eq, e]
      | @two _ a b x y s hs h1 h2 =>
        have hz' := hz
        rw [l_ws, c_ws, c_ws, c_ws, n_ws, kw_ws] at hz'
        have g : LE (binE addD (binE addD (binE addD (allocE (lstN (consA (conE (.str (Str.ofString "("))) (consA (binE ixD (varE 0) (conE (.int 1))) (nilA))))) (callE 1 (G__law_bodies (k + 2) 2) (consA (binE ixD (varE 0) (conE (.int 2))) (nilA)))) (callE 1 (G__law_bodies (k + 2) 2) (consA (binE ixD (varE 0) (conE (.int 3))) (nilA)))) (allocE (lstN (consA (conE (.str (Str.ofString ")"))) (nilA))))) [some (.tup [w "two", w s, a, b]), none, none] S ([[40], cs (Str.ofString s)] ++ x.ws ++ y.ws ++ [[41]]) := by
          refine LE.add (LE.add (LE.add (LE.lst ?_ (by simp)) (fun S => LE.call (iT _ _ _ h1 (by omega) (by omega)) ?_) (by simp; omega)) (fun S => LE.call (iT _ _ _ h2 (by omega) (by omega)) ?_) (by simp; omega)) (fun S => LE.lst ?_ (by simp)) (by simp; omega)
          · rw [kw_tok]; simp [x_ix, at1]
          · simp [x_ix, at2]
          · simp [x_ix, at3]
          · rw [end_tok]; simp
        have ew : [[40], cs (Str.ofString s)] ++ x.ws ++ y.ws ++ [[41]] = (Nt.l [kwN s, x, y]).ws := by simp [Nt.ws, wss, kwN]
        rw [ew] at g
        refine g.ret fun X r _ e => ?_
        simp only [x_bodyF, m__law_term_words, N__law_term_words, startL]
        simp [-x_retS, x_ix, at0, ofS_eq, e]
      | @fn _ bs xs kk ps h1 h2 h3 h4 =>
        have hf := fw_eq (m := k) (N := 100000) (by omega) (fun a x h hx => iS k a x h (by omega) hx) h4 (kw kk) ps hz
        have g : LE (callE 1 (G__law_bodies (k + 2) 1) (consA (varE 0) nilA)) [some (.tup [w (kw kk), .tup (ps.map .str), .tup bs]), none, none] S _ := LE.call hf (by simp)
        refine g.ret fun X r _ e => ?_
        simp only [x_bodyF, m__law_term_words, N__law_term_words, startL]
        cases kk <;> simp [-x_retS, x_ix, at0, ofS_eq, sz, x_inConsS, x_inNilS, kw] at e ⊢ <;> simp [-x_retS, e]
      | @call _ f as x xs h1 h2 h3 =>
        have hz' := hz
        rw [l_ws, c_ws, c_ws, kw_ws] at hz'
        have g : LE (binE addD (allocE (lstN (consA (conE (.str (Str.ofString "("))) (consA (binE ixD (varE 0) (conE (.int 0))) (nilA))))) (callE 1 (G__law_bodies (k + 2) 2) (consA (binE ixD (varE 0) (conE (.int 1))) (nilA)))) [some (.tup [w "call", f, .tup as]), none, none] S ([[40], cs (Str.ofString "call")] ++ x.ws) := by
          refine LE.add (LE.lst ?_ (by simp)) (fun S => LE.call (iT _ _ _ h1 (by omega) (by omega)) ?_) (by simp; omega)
          · rw [kw_tok]; simp [x_ix, at0]
          · simp [x_ix, at1]
        obtain ⟨X, r, y1, y2, e, kk⟩ := row_part (Rl := TN n) (N := 100000) (rr := G__law_bodies (k + 2)) (ds := as) (xs := xs) (fun a x h hx => iT _ a x h (by omega) hx) (by omega) g (fun S v1 => by simp [x_ix, at0, at2, x_listU]) h3.a2 (by simp; omega)
        have ew : [[40], cs (Str.ofString "call")] ++ x.ws ++ wss xs ++ [[41]] = (Nt.l (kwN "call" :: x :: xs)).ws := by simp [Nt.ws, wss, kwN]
        rw [ew] at kk
        refine ⟨X, r, ?_, kk⟩
        rw [tTW_eq]
        simp [N__law_term_words, startL, x_ix, at0, ofS_eq, sz, x_inConsS, x_inNilS, e]
      | @step _ a b x y h1 h2 =>
        have hz' := hz
        rw [l_ws, c_ws, c_ws, c_ws, n_ws, kw_ws] at hz'
        have g : LE (binE addD (allocE (lstN (consA (conE (.str (Str.ofString "("))) (consA (binE ixD (varE 0) (conE (.int 0))) (nilA))))) (callE 1 (G__law_bodies (k + 2) 2) (consA (binE ixD (varE 0) (conE (.int 1))) (nilA)))) [some (.tup [w "step", a, b]), none, none] S ([[40], cs (Str.ofString "step")] ++ x.ws) := by
          refine LE.add (LE.lst ?_ (by simp)) (fun S => LE.call (iT _ _ _ h1 (by omega) (by omega)) ?_) (by simp; omega)
          · rw [kw_tok]; simp [x_ix, at0]
          · simp [x_ix, at1]
        obtain ⟨X, r, y1, y2, e, kk⟩ := row_part (Rl := TN n) (N := 100000) (rr := G__law_bodies (k + 2)) (ds := [b]) (xs := [y]) (fun a x h hx => iT _ a x h (by omega) hx) (by omega) g (fun S v1 => by simp [x_ix, at0, at2, ofS_eq, sz]) (.cons h2 .nil) (by rw [c_ws, n_ws]; simp; omega)
        have ew : [[40], cs (Str.ofString "step")] ++ x.ws ++ wss [y] ++ [[41]] = (Nt.l [kwN "step", x, y]).ws := by simp [Nt.ws, wss, kwN]
        rw [ew] at kk
        refine ⟨X, r, ?_, kk⟩
        rw [tTW_eq]
        simp [N__law_term_words, startL, x_ix, at0, ofS_eq, sz, x_inConsS, x_inNilS, e]
    · obtain ⟨k, rfl⟩ : ∃ k, m = k + 3 := ⟨m - 3, by omega⟩
      have bo : ∀ {bs xs}, BN n bs xs → (Nt.l xs).ws.length ≤ 100000 → Wds (G__law_bodies (k + 2) 0) (.tup bs) (Nt.l xs).ws := fun h hz => by
        rw [l_ws] at hz
        exact bodies_eq (m := k + 1) (N := 100000) (by omega) (fun a x h hx => iS _ a x h (by omega) hx) h hz
      intro S
      rw [G__law_bodies_3]
      cases h with
      | @two _ t x s z h1 h2 h3 =>
        have hz' := hz
        rw [l_ws, c_ws, c_ws, c_ws, n_ws, kw_ws, nm_ws] at hz'
        have g : LE (binE addD (binE addD (allocE (lstN (consA (conE (.str (Str.ofString "("))) (consA (varE 1) (consA (binE ixD (varE 0) (conE (.int 1))) (nilA)))))) (callE 1 (G__law_bodies (k + 2) 2) (consA (binE ixD (varE 0) (conE (.int 2))) (nilA)))) (allocE (lstN (consA (conE (.str (Str.ofString ")"))) (nilA))))) [some (.tup [w s, .str z, t]), some (w s), none] S ([[40], cs (Str.ofString s), cs z] ++ x.ws ++ [[41]]) := by
          refine LE.add (LE.add (LE.lst ?_ (by simp)) (fun S => LE.call (iT _ _ _ h3 (by omega) (by omega)) ?_) (by simp; omega)) (fun S => LE.lst ?_ (by simp)) (by simp; omega)
          · rw [kw_tok3]; simp [x_ix, at1]
          · simp [x_ix, at2]
          · rw [end_tok]; simp
        have ew : [[40], cs (Str.ofString s), cs z] ++ x.ws ++ [[41]] = (Nt.l [kwN s, nmN z, x]).ws := by simp [Nt.ws, wss, kwN, nmN]
        rw [ew] at g
        refine g.ret fun X r _ e => ?_
        rw [tLW_eq]
        rcases h1 with rfl | rfl | rfl <;> simp [-x_retS, N__law_words, startL, x_ix, at0, ofS_eq, sz, x_inConsS, x_inNilS, e]
      | @one _ t x s h1 h2 =>
        have hz' := hz
        rw [l_ws, c_ws, c_ws, n_ws, kw_ws] at hz'
        have g : LE (binE addD (binE addD (allocE (lstN (consA (conE (.str (Str.ofString "("))) (consA (varE 1) (nilA))))) (callE 1 (G__law_bodies (k + 2) 2) (consA (binE ixD (varE 0) (conE (.int 1))) (nilA)))) (allocE (lstN (consA (conE (.str (Str.ofString ")"))) (nilA))))) [some (.tup [w s, t]), some (w s), none] S ([[40], cs (Str.ofString s)] ++ x.ws ++ [[41]]) := by
          refine LE.add (LE.add (LE.lst ?_ (by simp)) (fun S => LE.call (iT _ _ _ h2 (by omega) (by omega)) ?_) (by simp; omega)) (fun S => LE.lst ?_ (by simp)) (by simp; omega)
          · rw [kw_tok]; simp
          · simp [x_ix, at1]
          · rw [end_tok]; simp
        have ew : [[40], cs (Str.ofString s)] ++ x.ws ++ [[41]] = (Nt.l [kwN s, x]).ws := by simp [Nt.ws, wss, kwN]
        rw [ew] at g
        refine g.ret fun X r _ e => ?_
        rw [tLW_eq]
        rcases h1 with rfl | rfl | rfl <;> simp [-x_retS, N__law_words, startL, x_ix, at0, ofS_eq, sz, x_inConsS, x_inNilS, e]
      | @trys _ bs es gs xs ys zs y z h1 h2 _ h3 _ h4 _ h5 =>
        have hz' := hz
        rw [l_ws, c_ws, c_ws, c_ws, c_ws, c_ws, c_ws, n_ws, kw_ws, nm_ws, nm_ws] at hz'
        have g : LE (binE addD (binE addD (binE addD (binE addD (binE addD (allocE (lstN (consA (conE (.str (Str.ofString "("))) (consA (varE 1) (nilA))))) (callE 1 (G__law_bodies (k + 2) 0) (consA (binE ixD (varE 0) (conE (.int 1))) (nilA)))) (allocE (lstN (consA (binE ixD (varE 0) (conE (.int 2))) (consA (binE ixD (varE 0) (conE (.int 3))) (nilA)))))) (callE 1 (G__law_bodies (k + 2) 0) (consA (binE ixD (varE 0) (conE (.int 4))) (nilA)))) (callE 1 (G__law_bodies (k + 2) 0) (consA (binE ixD (varE 0) (conE (.int 5))) (nilA)))) (allocE (lstN (consA (conE (.str (Str.ofString ")"))) (nilA))))) [some (.tup [w "try", .tup bs, .str y, .str z, .tup es, .tup gs]), some (w "try"), none] S ([[40], cs (Str.ofString "try")] ++ (Nt.l xs).ws ++ [cs y, cs z] ++ (Nt.l ys).ws ++ (Nt.l zs).ws ++ [[41]]) := by
          refine LE.add (LE.add (LE.add (LE.add (LE.add (LE.lst ?_ (by simp)) (fun S => LE.call (bo h3 (by omega)) ?_) (by simp; omega)) (fun S => LE.lst ?_ (by simp)) (by simp; omega)) (fun S => LE.call (bo h4 (by omega)) ?_) (by simp; omega)) (fun S => LE.call (bo h5 (by omega)) ?_) (by simp; omega)) (fun S => LE.lst ?_ (by simp)) (by simp; omega)
          · rw [kw_tok]; simp
          · simp [x_ix, at1]
          · rw [nn_tok]; simp [x_ix, at2, at3]
          · simp [x_ix, at4]
          · simp [x_ix, at5]
          · rw [end_tok]; simp
        have ew : [[40], cs (Str.ofString "try")] ++ (Nt.l xs).ws ++ [cs y, cs z] ++ (Nt.l ys).ws ++ (Nt.l zs).ws ++ [[41]] = (Nt.l [kwN "try", .l xs, nmN y, nmN z, .l ys, .l zs]).ws := by simp [Nt.ws, wss, kwN, nmN]
        rw [ew] at g
        refine g.ret fun X r _ e => ?_
        rw [tLW_eq]
        simp [-x_retS, N__law_words, startL, x_ix, at0, ofS_eq, sz, x_inConsS, x_inNilS, e]
      | @whl _ t bs x xs h1 _ h2 =>
        have hz' := hz
        rw [l_ws, c_ws, c_ws, c_ws, n_ws, kw_ws] at hz'
        have g : LE (binE addD (binE addD (allocE (lstN (consA (conE (.str (Str.ofString "("))) (consA (varE 1) (nilA))))) (callE 1 (G__law_bodies (k + 2) 2) (consA (binE ixD (varE 0) (conE (.int 1))) (nilA)))) (callE 1 (G__law_bodies (k + 2) 0) (consA (binE ixD (varE 0) (conE (.int 2))) (nilA)))) [some (.tup [w "while", t, .tup bs]), some (w "while"), none] S ([[40], cs (Str.ofString "while")] ++ x.ws ++ (Nt.l xs).ws) := by
          refine LE.add (LE.add (LE.lst ?_ (by simp)) (fun S => LE.call (iT _ _ _ h1 (by omega) (by omega)) ?_) (by simp; omega)) (fun S => LE.call (bo h2 (by omega)) ?_) (by simp; omega)
          · rw [kw_tok]; simp
          · simp [x_ix, at1]
          · simp [x_ix, at2]
        obtain ⟨X, q, e, kq⟩ := g
        obtain ⟨S1, hS1⟩ : ∃ S1, S ++ X = S1 := ⟨_, rfl⟩
        rw [hS1] at e kq
        have g2 : LE (binE addD (varE 2) (allocE (lstN (consA (conE (.str (Str.ofString ")"))) (nilA))))) [some (.tup [w "while", t, .tup bs]), some (w "while"), some (.ref q)] S1 ([[40], cs (Str.ofString "while")] ++ x.ws ++ (Nt.l xs).ws ++ [[41]]) := by
          refine LE.add ⟨[], q, by simp, by simpa using kq⟩ (fun S => LE.lst ?_ (by simp)) (by simp; omega)
          rw [end_tok]; simp
        obtain ⟨Y, r, e2, kr⟩ := g2.of_ret
        have ew : [[40], cs (Str.ofString "while")] ++ x.ws ++ (Nt.l xs).ws ++ [[41]] = (Nt.l [kwN "while", x, .l xs]).ws := by simp [Nt.ws, wss, kwN]
        rw [ew] at kr
        refine ⟨X ++ Y, r, ?_, by rw [← List.append_assoc, hS1]; exact kr⟩
        rw [tLW_eq]
        unfold tLW
        obtain ⟨E1, hE1⟩ : ∃ E1, binE addD (binE addD (allocE (lstN (consA (conE (.str (Str.ofString "("))) (consA (varE 1) (nilA))))) (callE 1 (G__law_bodies (k + 2) 2) (consA (binE ixD (varE 0) (conE (.int 1))) (nilA)))) (callE 1 (G__law_bodies (k + 2) 0) (consA (binE ixD (varE 0) (conE (.int 2))) (nilA))) = E1 := ⟨_, rfl⟩
        rw [hE1] at e ⊢
        obtain ⟨E2, hE2⟩ : ∃ E2, retS (binE addD (varE 2) (allocE (lstN (consA (conE (.str (Str.ofString ")"))) (nilA))))) = E2 := ⟨_, rfl⟩
        rw [hE2] at e2 ⊢
        rw [← List.append_assoc, hS1]
        simp [N__law_words, startL, x_ix, at0, ofS_eq, sz, x_inConsS, x_inNilS, e, e2]
      | @ifs _ t bs es x xs ys h1 _ h2 _ h3 =>
        have hz' := hz
        rw [l_ws, c_ws, c_ws, c_ws, c_ws, n_ws, kw_ws] at hz'
        have g : LE (binE addD (binE addD (allocE (lstN (consA (conE (.str (Str.ofString "("))) (consA (varE 1) (nilA))))) (callE 1 (G__law_bodies (k + 2) 2) (consA (binE ixD (varE 0) (conE (.int 1))) (nilA)))) (callE 1 (G__law_bodies (k + 2) 0) (consA (binE ixD (varE 0) (conE (.int 2))) (nilA)))) [some (.tup [w "if", t, .tup bs, .tup es]), some (w "if"), none] S ([[40], cs (Str.ofString "if")] ++ x.ws ++ (Nt.l xs).ws) := by
          refine LE.add (LE.add (LE.lst ?_ (by simp)) (fun S => LE.call (iT _ _ _ h1 (by omega) (by omega)) ?_) (by simp; omega)) (fun S => LE.call (bo h2 (by omega)) ?_) (by simp; omega)
          · rw [kw_tok]; simp
          · simp [x_ix, at1]
          · simp [x_ix, at2]
        obtain ⟨X, q, e, kq⟩ := g
        obtain ⟨S1, hS1⟩ : ∃ S1, S ++ X = S1 := ⟨_, rfl⟩
        rw [hS1] at e kq
        have g2 : LE (binE addD (varE 2) (callE 1 (G__law_bodies (k + 2) 0) (consA (binE ixD (varE 0) (conE (.int 3))) (nilA)))) [some (.tup [w "if", t, .tup bs, .tup es]), some (w "if"), some (.ref q)] S1 ([[40], cs (Str.ofString "if")] ++ x.ws ++ (Nt.l xs).ws ++ (Nt.l ys).ws) := by
          refine LE.add ⟨[], q, by simp, by simpa using kq⟩ (fun S => LE.call (bo h3 (by omega)) ?_) (by simp; omega)
          simp [x_ix, at3]
        obtain ⟨Y, q2, e2, kq2⟩ := g2
        obtain ⟨S2, hS2⟩ : ∃ S2, S1 ++ Y = S2 := ⟨_, rfl⟩
        rw [hS2] at e2 kq2
        have g3 : LE (binE addD (varE 2) (allocE (lstN (consA (conE (.str (Str.ofString ")"))) (nilA))))) [some (.tup [w "if", t, .tup bs, .tup es]), some (w "if"), some (.ref q2)] S2 ([[40], cs (Str.ofString "if")] ++ x.ws ++ (Nt.l xs).ws ++ (Nt.l ys).ws ++ [[41]]) := by
          refine LE.add ⟨[], q2, by simp, by simpa using kq2⟩ (fun S => LE.lst ?_ (by simp)) (by simp; omega)
          rw [end_tok]; simp
        obtain ⟨Z, r, e3, kr⟩ := g3.of_ret
        have ew : [[40], cs (Str.ofString "if")] ++ x.ws ++ (Nt.l xs).ws ++ (Nt.l ys).ws ++ [[41]] = (Nt.l [kwN "if", x, .l xs, .l ys]).ws := by simp [Nt.ws, wss, kwN]
        rw [ew] at kr
        have eS : S ++ (X ++ (Y ++ Z)) = S2 ++ Z := by rw [← hS2, ← hS1]; simp
        refine ⟨X ++ (Y ++ Z), r, ?_, by rw [eS]; exact kr⟩
        rw [tLW_eq, eS]
        unfold tLW
        obtain ⟨E1, hE1⟩ : ∃ E1, binE addD (binE addD (allocE (lstN (consA (conE (.str (Str.ofString "("))) (consA (varE 1) (nilA))))) (callE 1 (G__law_bodies (k + 2) 2) (consA (binE ixD (varE 0) (conE (.int 1))) (nilA)))) (callE 1 (G__law_bodies (k + 2) 0) (consA (binE ixD (varE 0) (conE (.int 2))) (nilA))) = E1 := ⟨_, rfl⟩
        rw [hE1] at e ⊢
        obtain ⟨E3, hE3⟩ : ∃ E3, binE addD (varE 2) (callE 1 (G__law_bodies (k + 2) 0) (consA (binE ixD (varE 0) (conE (.int 3))) (nilA))) = E3 := ⟨_, rfl⟩
        rw [hE3] at e2 ⊢
        obtain ⟨E2, hE2⟩ : ∃ E2, retS (binE addD (varE 2) (allocE (lstN (consA (conE (.str (Str.ofString ")"))) (nilA))))) = E2 := ⟨_, rfl⟩
        rw [hE2] at e3 ⊢
        simp [N__law_words, startL, x_ix, at0, ofS_eq, sz, x_inConsS, x_inNilS, e, e2, e3]
end K05

set_option Elab.async false
set_option linter.all false
set_option maxRecDepth 100000
set_option autoImplicit false
namespace K05
open PySem PySem.Spec L2 ML
/-! ### the program's text -/
theorem mkS_len (a : List Nat) : (mkS a).length = a.length := by rw [← cs_len, cs_mkS]
theorem addS {a b : List Nat} (h : a.length + b.length ≤ 16777216) (S : Store) : addD (strD a) (strD b) S = .ok (strD (a ++ b)) S := by
  show addD (.str (mkS a)) (.str (mkS b)) S = _
  rw [x_addT, mkS_len, mkS_len, if_pos (by rw [sz]; exact h), mkS_app]
  rfl
theorem txt_cons (x : Nt) (xs : List Nt) : txt (x :: xs) = 32 :: txs (x :: xs) := by rw [txt, txs]
theorem join_txs : ∀ xs : List Nt, TL.joinL [32] (xs.map Nt.tx) = txs xs
  | [] => by rw [txs]; rfl
  | [x] => by rw [txs, txt]; simp [TL.joinL]
  | x :: y :: xs => by
    have ih := join_txs (y :: xs)
    rw [txs, txt_cons]
    simp only [List.map_cons] at ih ⊢
    rw [TL.joinL, ih]
    simp
theorem sum_txs : ∀ xs : List Nt, ((xs.map Nt.tx).map List.length).sum + xs.length ≤ (txs xs).length + 1
  | [] => by simp
  | [x] => by rw [txs, txt]; simp
  | x :: y :: xs => by
    have ih := sum_txs (y :: xs)
    rw [txs, txt_cons]
    simp at ih ⊢
    omega
theorem strO_tok (ts : List (List Nat)) : mapO strO (tok ts) = some (ts.map mkS) := mapO_some (f := strO) (g := strD) (h := mkS) (fun _ => rfl) ts
theorem brk_eq {xs : List Nt} {S : Store} {r : Nat} (h : S[r]? = some (.lst (tok (xs.map Nt.tx)))) (hz : (txs xs).length ≤ 10000000) : F_in_brackets [.ref r] S = .ok (strD (Nt.l xs).tx) S := by
  have hs := sum_txs xs
  have ej : joinV (conE (.str (Str.ofString " "))) (varE 0) [some (.ref r)] S = .ok (strD (txs xs)) S := by
    have e1 : (Str.ofString " ").length = 1 := by rw [← cs_len, cs_of]; rfl
    have e2 : ((xs.map Nt.tx).map mkS).map (·.length) = (xs.map Nt.tx).map List.length := by
      rw [List.map_map]
      exact List.map_congr_left fun a _ => mkS_len a
    have e3 : Str.join (Str.ofString " ") ((xs.map Nt.tx).map mkS) = mkS (txs xs) := cs_ext (by
      rw [cs_join, cs_mkS, cs_of, List.map_map]
      have : (cs ∘ mkS) = id := by funext a; exact cs_mkS a
      rw [this, List.map_id]
      exact join_txs xs)
    unfold joinV
    have h3 : lstAt S r = some (tok (xs.map Nt.tx)) := lstAt_of h
    have h4 : varE 0 [some (.ref r)] S = .ok (.ref r) S := rfl
    have h5 : conE (.str (Str.ofString " ")) [some (.ref r)] S = .ok (.str (Str.ofString " ")) S := rfl
    simp only [h5, h4, R.bind_ok, x_strO, seqOf, h3, strO_tok, e1, e2, e3, List.length_map, Nat.mul_one]
    rw [if_pos (by omega)]
    rfl
  have a1 := addS (a := [40]) (b := txs xs) (by simp; omega) S
  have a2 := addS (a := [40] ++ txs xs) (b := [41]) (by simp; omega) S
  have l1 : D.str (Str.ofString "(") = strD [40] := lpD
  have l2 : D.str (Str.ofString ")") = strD [41] := rpD
  rw [Nt.tx]
  simp only [F_in_brackets, m_in_brackets, N_in_brackets, x_bodyF, startL, l1, l2]
  simp at a1 a2
  simp [ej, a1, a2]
def Tx (F : List D → Store → R D) (d : D) (x : Nt) : Prop := ∀ S, ∃ X, F [d] S = .ok (strD x.tx) (S ++ X)
def TE' (m : ME) (l : ML.Loc) (S : Store) (a : List Nat) : Prop := ∃ X, m l S = .ok (strD a) (S ++ X)
def AE (as : MA) (l : ML.Loc) (S : Store) (ts : List (List Nat)) : Prop := ∃ X, as l S = .ok (tok ts) (S ++ X)
section
variable {m n : ME} {as : MA} {l : ML.Loc} {S : Store} {t : List Nat} {ts : List (List Nat)} {F : List D → Store → R D} {d : D} {x : Nt} {xs : List Nt}
theorem AE.nil : AE nilA l S [] := ⟨[], by simp [tok]⟩
theorem AE.cons (h1 : TE' m l S t) (h2 : ∀ S, AE as l S ts) : AE (consA m as) l S (t :: ts) := by
  obtain ⟨X, e1⟩ := h1
  obtain ⟨Y, e2⟩ := h2 (S ++ X)
  refine ⟨X ++ Y, ?_⟩
  simp only [List.append_assoc] at e2
  simp [e1, e2, tok]
theorem TE'.pure (h : m l S = .ok (strD t) S) : TE' m l S t := ⟨[], by simpa using h⟩
theorem TE'.call (h : Tx F d x) (ha : as l S = .ok [d] S) : TE' (callE 1 F as) l S x.tx := by
  obtain ⟨X, e⟩ := h S
  exact ⟨X, by simp [ha, e]⟩
theorem LE.lstG (h : AE as l S ts) (hz : ts.length ≤ 1000000) : LE (allocE (lstN as)) l S ts := by
  obtain ⟨X, e⟩ := h
  refine ⟨X ++ [.lst (tok ts)], (S ++ X).length, ?_, by rw [← List.append_assoc]; exact at_end⟩
  rw [← List.append_assoc]
  simp [e, sz, tok_len, show ts.length ≤ 16777216 by omega]
theorem TE'.brk (h : LE m l S (xs.map Nt.tx)) (hz : (txs xs).length ≤ 10000000) : TE' (callE 1 F_in_brackets (consA m nilA)) l S (Nt.l xs).tx := by
  obtain ⟨X, r, e, k⟩ := h
  exact ⟨X, by simp [e, brk_eq k hz]⟩
theorem TE'.ret (h : TE' m l S t) : ∃ X, retS m l S = .ok (.rt (strD t), l) (S ++ X) := by
  obtain ⟨X, e⟩ := h
  exact ⟨X, by simp [e]⟩
end
theorem comp_tx {Rl : D → Nt → Prop} {F : List D → Store → R D} {chk : Store → Prop} (mono : ∀ S X, chk S → chk (S ++ X)) {l : ML.Loc} (h1 : 1 < l.length) {N : Nat} (ih : ∀ a x, Rl a x → x.ws.length ≤ N → Tx F a x) {ds : List D} {xs : List Nt} (h : A2 Rl ds xs) :
    ∀ (acc : List (List Nat)) (S : Store), chk S → (wss xs).length ≤ N → acc.length + ds.length ≤ 1000000 → ∃ X, compL chk (.one 1) yesM (callE 1 F (consA (varE 1) nilA)) l ds (tok acc) S = .ok (tok (acc ++ xs.map Nt.tx)) (S ++ X) := by
  induction h with
  | nil => intro acc S hk _ _; exact ⟨[], by rw [compL_nil hk]; simp⟩
  | @cons a as x xs hx _ ihs =>
    intro acc S hk hz hl
    rw [c_ws] at hz
    rw [List.length_cons] at hl
    obtain ⟨X, e1⟩ := ih a x hx (by omega) S
    obtain ⟨Y, e2⟩ := ihs (acc ++ [x.tx]) (S ++ X) (mono S X hk) (by omega) (by simp; omega)
    refine ⟨X ++ Y, ?_⟩
    have v : varE 1 (l.set 1 (some a)) S = .ok a S := by unfold varE; rw [List.getElem?_set_self h1]
    have c : callE 1 F (consA (varE 1) nilA) (l.set 1 (some a)) S = .ok (strD x.tx) (S ++ X) := by simp [v, e1]
    have et : tok acc ++ [strD x.tx] = tok (acc ++ [x.tx]) := by rw [tok_app]; rfl
    rw [compL_cons hk]
    simp only [Tgt.put, x_yes, R.bind_ok, if_true, c]
    rw [if_pos (show _ < sizeLine by rw [sz, tok_len]; omega), et, e2]
    simp
theorem LE.comp {Rl : D → Nt → Prop} {F : List D → Store → R D} {src : ME} {x0 x1 : Option D} {N : Nat} {ds : List D} {xs : List Nt} (hs : ∀ S y, src [x0, y] S = .ok (.tup ds) S) (ih : ∀ a x, Rl a x → x.ws.length ≤ N → Tx F a x) (h : A2 Rl ds xs) (hz : (wss xs).length ≤ N) (hl : ds.length ≤ 100000) (S : Store) :
    LE (allocE (compN (srcV src) (.one 1) yesM (callE 1 F (consA (varE 1) nilA)))) [x0, x1] S (xs.map Nt.tx) := by
  obtain ⟨X, e⟩ := comp_tx (chk := still) still_mono (l := [x0, none]) (by simp) ih h [] S trivial hz (by simp; omega)
  have e : compL still (.one 1) yesM (callE 1 F (consA (varE 1) nilA)) [x0, none] ds [] S = .ok (tok (xs.map Nt.tx)) (S ++ X) := e
  refine ⟨X ++ [.lst (tok (xs.map Nt.tx))], (S ++ X).length, ?_, by rw [← List.append_assoc]; exact at_end⟩
  rw [← List.append_assoc]
  simp [hs, Tgt.own, wipeL, e]
theorem A2.len {Rl : D → Nt → Prop} {ds : List D} {xs : List Nt} (h : A2 Rl ds xs) : ds.length = xs.length := by
  induction h with
  | nil => rfl
  | cons _ _ ih => simp [ih]
theorem ws_pos : ∀ x : Nt, 1 ≤ x.ws.length
  | .w l => by rw [Nt.ws]; simp
  | .l xs => by rw [Nt.ws]; simp
theorem wss_pos : ∀ xs : List Nt, xs.length ≤ (wss xs).length
  | [] => by simp
  | x :: xs => by
    have := wss_pos xs
    have := ws_pos x
    rw [c_ws]
    simp
    omega
end K05

set_option Elab.async false
set_option linter.all false
set_option maxRecDepth 100000
set_option autoImplicit false
namespace K05
open PySem PySem.Spec L2 ML
theorem nms_tx (ps : List Str) : ps.map D.str = tok ((ps.map nmN).map Nt.tx) := by
  unfold tok
  rw [List.map_map, List.map_map]
  refine List.map_congr_left fun z _ => ?_
  show D.str z = strD (nmN z).tx
  rw [nmN, Nt.tx, strC]
theorem kwT (s : String) : (kwN s).tx = cs (Str.ofString s) := by rw [kwN, Nt.tx]
theorem nmT (z : Str) : (nmN z).tx = cs z := by rw [nmN, Nt.tx]
theorem kwD (s : String) : w s = strD (kwN s).tx := by rw [kwT]; exact strC _
theorem nmD (z : Str) : D.str z = strD (nmN z).tx := by rw [nmT]; exact strC _
theorem big {xs : List Nt} (h : oks xs) {N : Nat} (hN : N ≤ 100000) (hz : (wss xs).length ≤ N) : (txs xs).length ≤ 10000000 := by
  have := txs_len xs h
  omega
theorem names_tx {ps : List Str} (h : ∀ z ∈ ps, NmOk z) (hl : ps.length ≤ 4) : Tx F_names_text (.tup (ps.map .str)) (.l (ps.map nmN)) := fun S => by
  have ho : oks (ps.map nmN) := oks_of fun x hx => by
    obtain ⟨z, hz, rfl⟩ := List.mem_map.mp hx
    exact nm_wd (h z hz)
  have e := brk_eq (S := S ++ [.lst (tok ((ps.map nmN).map Nt.tx))]) at_end (big ho (Nat.le_refl _) (by rw [wss_nms]; omega))
  have el : listV [.tup (ps.map D.str)] S = .ok (tok ((ps.map nmN).map Nt.tx)) S := by rw [x_listU, nms_tx]
  refine ⟨[.lst (tok ((ps.map nmN).map Nt.tx))], ?_⟩
  simp only [F_names_text, m_names_text, N_names_text, x_bodyF, startL]
  simp [-List.map_map, el, e]
theorem fun_tx {n m N : Nat} {bs : List D} {xs : List Nt} (hN : N ≤ 100000) (ih : ∀ a x, SN n a x → x.ws.length ≤ N → Tx (G_body_text m 3) a x) (h : BN n bs xs) (hb : bs.length ≤ 12) (s : String) (hs : (kwN s).ok) {ps : List Str} (hp : ∀ z ∈ ps, NmOk z) (hl : ps.length ≤ 4) (hz : (Nt.l (kwN s :: .l (ps.map nmN) :: xs)).ws.length ≤ N) :
    Tx (G_body_text (m + 1) 1) (.tup [w s, .tup (ps.map .str), .tup bs]) (.l (kwN s :: .l (ps.map nmN) :: xs)) := fun S => by
  have hz' := hz
  rw [l_ws, c_ws, c_ws, l_ws, kw_ws, wss_nms] at hz'
  have hx := wss_pos xs
  have ho : oks (kwN s :: .l (ps.map nmN) :: xs) := ⟨hs, oks_of fun x hx => by
    obtain ⟨z, hz, rfl⟩ := List.mem_map.mp hx
    exact nm_wd (hp z hz), h.ok⟩
  have g : TE' (callE 1 F_in_brackets (consA (binE addD (allocE (lstN (consA (binE ixD (varE 0) (conE (.int 0))) (consA (callE 1 F_names_text (consA (binE ixD (varE 0) (conE (.int 1))) (nilA))) (nilA))))) (allocE (compN (srcV (binE ixD (varE 0) (conE (.int 2)))) (.one 1) (yesM) (callE 1 (G_body_text m 3) (consA (varE 1) (nilA)))))) (nilA))) [some (.tup [w s, .tup (ps.map .str), .tup bs]), none] S (Nt.l (kwN s :: .l (ps.map nmN) :: xs)).tx := by
    refine TE'.brk ?_ (big ho hN (by rw [c_ws, c_ws, l_ws, kw_ws, wss_nms]; omega))
    refine LE.add (a := [(kwN s).tx, (Nt.l (ps.map nmN)).tx]) (LE.lstG (AE.cons (TE'.pure ?_) fun S => AE.cons (TE'.call (names_tx hp hl) ?_) fun S => AE.nil) (by simp)) (fun S => LE.comp (Rl := SN n) (N := N) (fun S y => ?_) ih h.a2 (by omega) (by omega) S) (by simp; omega)
    · rw [← kwD]; simp [x_ix, at0]
    · simp [x_ix, at1]
    · simp [x_ix, at2]
  obtain ⟨X, e⟩ := g.ret
  refine ⟨X, ?_⟩
  rw [G_body_text_1]
  simp only [x_bodyF, m_function_text, N_function_text, startL]
  simp [-x_retS, e]
theorem body_tx {n m N : Nat} {bs : List D} {xs : List Nt} (hN : N ≤ 100000) (ih : ∀ a x, SN n a x → x.ws.length ≤ N → Tx (G_body_text m 3) a x) (h : BN n bs xs) (hb : bs.length ≤ 12) (hz : (Nt.l xs).ws.length ≤ N) : Tx (G_body_text (m + 1) 0) (.tup bs) (.l xs) := fun S => by
  have hz' := hz
  rw [l_ws] at hz'
  have g : TE' (callE 1 F_in_brackets (consA (allocE (compN (srcV (varE 0)) (.one 1) (yesM) (callE 1 (G_body_text m 3) (consA (varE 1) (nilA))))) (nilA))) [some (.tup bs), none] S (Nt.l xs).tx := by
    refine TE'.brk ?_ (big h.ok hN (by omega))
    exact LE.comp (Rl := SN n) (N := N) (fun S y => by simp) ih h.a2 (by omega) (by omega) S
  obtain ⟨X, e⟩ := g.ret
  refine ⟨X, ?_⟩
  rw [G_body_text_0]
  simp only [x_bodyF, m_body_text, N_body_text, startL]
  simp [-x_retS, e]
theorem text_all : ∀ n, (∀ m d x, TN n d x → 3 * n ≤ m → x.ws.length ≤ 100000 → Tx (G_body_text m 2) d x) ∧ (∀ m d x, SN n d x → 3 * n ≤ m → x.ws.length ≤ 100000 → Tx (G_body_text m 3) d x)
  | 0 => ⟨fun _ _ _ h _ _ => (by cases h), fun _ _ _ h _ _ => (by cases h)⟩
  | n + 1 => by
    obtain ⟨iT, iS⟩ := text_all n
    refine ⟨fun m d x h hm hz => ?_, fun m d x h hm hz => ?_⟩
    · obtain ⟨k, rfl⟩ : ∃ k, m = k + 3 := ⟨m - 3, by omega⟩
      intro S
      have hok := h.ok
      rw [G_body_text_2]
      cases h with
      | num i a b =>
        refine ⟨[], ?_⟩
        have hl : i.natAbs.log2 < 1920 := by
          by_cases q : i.natAbs = 0
          · rw [q]; decide
          · have : i.natAbs.log2 < 50 := by
              rw [Nat.log2_lt q]
              have : (10 : Nat) ^ 13 < 2 ^ 50 := by decide
              omega
            omega
        rw [numN, Nt.tx, ← strC]
        simp [m_term_text, N_term_text, startL, x_ix, at0, at1, hl]
      | nam z a =>
        refine ⟨[], ?_⟩
        rw [← nmD]
        simp [m_term_text, N_term_text, startL, x_ix, at0, at1, ofS_eq]
      | @two _ a b x y s hs h1 h2 =>
        have hz' := hz
        rw [l_ws, c_ws, c_ws, c_ws, n_ws, kw_ws] at hz'
        have g : TE' (callE 1 F_in_brackets (consA (allocE (lstN (consA (binE ixD (varE 0) (conE (.int 1))) (consA (callE 1 (G_body_text (k + 2) 2) (consA (binE ixD (varE 0) (conE (.int 2))) (nilA))) (consA (callE 1 (G_body_text (k + 2) 2) (consA (binE ixD (varE 0) (conE (.int 3))) (nilA))) (nilA)))))) (nilA))) [some (.tup [w "two", w s, a, b]), none] S (Nt.l [kwN s, x, y]).tx := by
          refine TE'.brk ?_ (big hok (Nat.le_refl _) (by rw [c_ws, c_ws, c_ws, n_ws, kw_ws]; omega))
          refine LE.lstG (AE.cons (TE'.pure ?_) fun S => AE.cons (TE'.call (iT _ _ _ h1 (by omega) (by omega)) ?_) fun S => AE.cons (TE'.call (iT _ _ _ h2 (by omega) (by omega)) ?_) fun S => AE.nil) (by simp)
          · rw [← kwD]; simp [x_ix, at1]
          · simp [x_ix, at2]
          · simp [x_ix, at3]
        obtain ⟨X, e⟩ := g.ret
        exact ⟨X, by simp [-x_retS, m_term_text, N_term_text, startL, x_ix, at0, ofS_eq, e]⟩
      | @fn _ bs xs kk ps h1 h2 h3 h4 =>
        have hf := fun_tx (m := k + 1) (N := 100000) (by omega) (fun a x h hx => iS _ a x h (by omega) hx) h4 h3 (kw kk) (by cases kk <;> exact kw_wd _ (by decide) (by decide)) h2 h1 hz
        obtain ⟨X, e⟩ := hf S
        refine ⟨X, ?_⟩
        cases kk <;> simp [m_term_text, N_term_text, startL, x_ix, at0, ofS_eq, kw] at e ⊢ <;> simp [e]
      | @call _ f as x xs h1 h2 h3 =>
        have hz' := hz
        rw [l_ws, c_ws, c_ws, kw_ws] at hz'
        have g : TE' (callE 1 F_in_brackets (consA (binE addD (allocE (lstN (consA (conE (.str (Str.ofString "call"))) (consA (callE 1 (G_body_text (k + 2) 2) (consA (binE ixD (varE 0) (conE (.int 1))) (nilA))) (nilA))))) (allocE (compN (srcV (binE ixD (varE 0) (conE (.int 2)))) (.one 1) (yesM) (callE 1 (G_body_text (k + 2) 2) (consA (varE 1) (nilA)))))) (nilA))) [some (.tup [w "call", f, .tup as]), none] S (Nt.l (kwN "call" :: x :: xs)).tx := by
          refine TE'.brk ?_ (big hok (Nat.le_refl _) (by rw [c_ws, c_ws, kw_ws]; omega))
          refine LE.add (a := [(kwN "call").tx, x.tx]) (LE.lstG (AE.cons (TE'.pure ?_) fun S => AE.cons (TE'.call (iT _ _ _ h1 (by omega) (by omega)) ?_) fun S => AE.nil) (by simp)) (fun S => LE.comp (Rl := TN n) (N := 100000) (fun S y => ?_) (fun a x h hx => iT _ a x h (by omega) hx) h3.a2 (by omega) (by omega) S) (by have := h3.a2.len; simp; omega)
          · rw [← kwD]; simp
          · simp [x_ix, at1]
          · simp [x_ix, at2]
        obtain ⟨X, e⟩ := g.ret
        exact ⟨X, by simp [-x_retS, m_term_text, N_term_text, startL, x_ix, at0, ofS_eq, e]⟩
      | @step _ a b x y h1 h2 =>
        have hz' := hz
        rw [l_ws, c_ws, c_ws, c_ws, n_ws, kw_ws] at hz'
        have g : TE' (callE 1 F_in_brackets (consA (allocE (lstN (consA (conE (.str (Str.ofString "step"))) (consA (callE 1 (G_body_text (k + 2) 2) (consA (binE ixD (varE 0) (conE (.int 1))) (nilA))) (consA (callE 1 (G_body_text (k + 2) 2) (consA (binE ixD (varE 0) (conE (.int 2))) (nilA))) (nilA)))))) (nilA))) [some (.tup [w "step", a, b]), none] S (Nt.l [kwN "step", x, y]).tx := by
          refine TE'.brk ?_ (big hok (Nat.le_refl _) (by rw [c_ws, c_ws, c_ws, n_ws, kw_ws]; omega))
          refine LE.lstG (AE.cons (TE'.pure ?_) fun S => AE.cons (TE'.call (iT _ _ _ h1 (by omega) (by omega)) ?_) fun S => AE.cons (TE'.call (iT _ _ _ h2 (by omega) (by omega)) ?_) fun S => AE.nil) (by simp)
          · rw [← kwD]; simp
          · simp [x_ix, at1]
          · simp [x_ix, at2]
        obtain ⟨X, e⟩ := g.ret
        exact ⟨X, by simp [-x_retS, m_term_text, N_term_text, startL, x_ix, at0, ofS_eq, e]⟩
    · obtain ⟨k, rfl⟩ : ∃ k, m = k + 3 := ⟨m - 3, by omega⟩
      have bo : ∀ {bs xs}, BN n bs xs → bs.length ≤ 12 → (Nt.l xs).ws.length ≤ 100000 → Tx (G_body_text (k + 2) 0) (.tup bs) (.l xs) := fun h hb hz => body_tx (m := k + 1) (N := 100000) (by omega) (fun a x h hx => iS _ a x h (by omega) hx) h hb hz
      intro S
      have hok := h.ok
      rw [G_body_text_3]
      cases h with
      | @two _ t x s z h1 h2 h3 =>
        have hz' := hz
        rw [l_ws, c_ws, c_ws, c_ws, n_ws, kw_ws, nm_ws] at hz'
        have g : TE' (callE 1 F_in_brackets (consA (allocE (lstN (consA (varE 1) (consA (binE ixD (varE 0) (conE (.int 1))) (consA (callE 1 (G_body_text (k + 2) 2) (consA (binE ixD (varE 0) (conE (.int 2))) (nilA))) (nilA)))))) (nilA))) [some (.tup [w s, .str z, t]), some (w s)] S (Nt.l [kwN s, nmN z, x]).tx := by
          refine TE'.brk ?_ (big hok (Nat.le_refl _) (by rw [c_ws, c_ws, c_ws, n_ws, kw_ws, nm_ws]; omega))
          refine LE.lstG (AE.cons (TE'.pure ?_) fun S => AE.cons (TE'.pure ?_) fun S => AE.cons (TE'.call (iT _ _ _ h3 (by omega) (by omega)) ?_) fun S => AE.nil) (by simp)
          · rw [← kwD]; simp
          · rw [← nmD]; simp [x_ix, at1]
          · simp [x_ix, at2]
        obtain ⟨X, e⟩ := g.ret
        refine ⟨X, ?_⟩
        rcases h1 with rfl | rfl | rfl <;> simp [-x_retS, m_statement_text, N_statement_text, startL, x_ix, at0, ofS_eq, sz, x_inConsS, x_inNilS, e]
      | @one _ t x s h1 h2 =>
        have hz' := hz
        rw [l_ws, c_ws, c_ws, n_ws, kw_ws] at hz'
        have g : TE' (callE 1 F_in_brackets (consA (allocE (lstN (consA (varE 1) (consA (callE 1 (G_body_text (k + 2) 2) (consA (binE ixD (varE 0) (conE (.int 1))) (nilA))) (nilA))))) (nilA))) [some (.tup [w s, t]), some (w s)] S (Nt.l [kwN s, x]).tx := by
          refine TE'.brk ?_ (big hok (Nat.le_refl _) (by rw [c_ws, c_ws, n_ws, kw_ws]; omega))
          refine LE.lstG (AE.cons (TE'.pure ?_) fun S => AE.cons (TE'.call (iT _ _ _ h2 (by omega) (by omega)) ?_) fun S => AE.nil) (by simp)
          · rw [← kwD]; simp
          · simp [x_ix, at1]
        obtain ⟨X, e⟩ := g.ret
        refine ⟨X, ?_⟩
        rcases h1 with rfl | rfl | rfl <;> simp [-x_retS, m_statement_text, N_statement_text, startL, x_ix, at0, ofS_eq, sz, x_inConsS, x_inNilS, e]
      | @trys _ bs es gs xs ys zs y z h1 h2 b3 h3 b4 h4 b5 h5 =>
        have hz' := hz
        rw [l_ws, c_ws, c_ws, c_ws, c_ws, c_ws, c_ws, n_ws, kw_ws, nm_ws, nm_ws] at hz'
        have g : TE' (callE 1 F_in_brackets (consA (allocE (lstN (consA (varE 1) (consA (callE 1 (G_body_text (k + 2) 0) (consA (binE ixD (varE 0) (conE (.int 1))) (nilA))) (consA (binE ixD (varE 0) (conE (.int 2))) (consA (binE ixD (varE 0) (conE (.int 3))) (consA (callE 1 (G_body_text (k + 2) 0) (consA (binE ixD (varE 0) (conE (.int 4))) (nilA))) (consA (callE 1 (G_body_text (k + 2) 0) (consA (binE ixD (varE 0) (conE (.int 5))) (nilA))) (nilA))))))))) (nilA))) [some (.tup [w "try", .tup bs, .str y, .str z, .tup es, .tup gs]), some (w "try")] S (Nt.l [kwN "try", .l xs, nmN y, nmN z, .l ys, .l zs]).tx := by
          refine TE'.brk ?_ (big hok (Nat.le_refl _) (by rw [c_ws, c_ws, c_ws, c_ws, c_ws, c_ws, n_ws, kw_ws, nm_ws, nm_ws]; omega))
          refine LE.lstG (AE.cons (TE'.pure ?_) fun S => AE.cons (TE'.call (bo h3 b3 (by omega)) ?_) fun S => AE.cons (TE'.pure ?_) fun S => AE.cons (TE'.pure ?_) fun S => AE.cons (TE'.call (bo h4 b4 (by omega)) ?_) fun S => AE.cons (TE'.call (bo h5 b5 (by omega)) ?_) fun S => AE.nil) (by simp)
          · rw [← kwD]; simp
          · simp [x_ix, at1]
          · rw [← nmD]; simp [x_ix, at2]
          · rw [← nmD]; simp [x_ix, at3]
          · simp [x_ix, at4]
          · simp [x_ix, at5]
        obtain ⟨X, e⟩ := g.ret
        exact ⟨X, by simp [-x_retS, m_statement_text, N_statement_text, startL, x_ix, at0, ofS_eq, sz, x_inConsS, x_inNilS, e]⟩
      | @whl _ t bs x xs h1 b2 h2 =>
        have hz' := hz
        rw [l_ws, c_ws, c_ws, c_ws, n_ws, kw_ws] at hz'
        have g : TE' (callE 1 F_in_brackets (consA (allocE (lstN (consA (varE 1) (consA (callE 1 (G_body_text (k + 2) 2) (consA (binE ixD (varE 0) (conE (.int 1))) (nilA))) (consA (callE 1 (G_body_text (k + 2) 0) (consA (binE ixD (varE 0) (conE (.int 2))) (nilA))) (nilA)))))) (nilA))) [some (.tup [w "while", t, .tup bs]), some (w "while")] S (Nt.l [kwN "while", x, .l xs]).tx := by
          refine TE'.brk ?_ (big hok (Nat.le_refl _) (by rw [c_ws, c_ws, c_ws, n_ws, kw_ws]; omega))
          refine LE.lstG (AE.cons (TE'.pure ?_) fun S => AE.cons (TE'.call (iT _ _ _ h1 (by omega) (by omega)) ?_) fun S => AE.cons (TE'.call (bo h2 b2 (by omega)) ?_) fun S => AE.nil) (by simp)
          · rw [← kwD]; simp
          · simp [x_ix, at1]
          · simp [x_ix, at2]
        obtain ⟨X, e⟩ := g.ret
        exact ⟨X, by simp [-x_retS, m_statement_text, N_statement_text, startL, x_ix, at0, ofS_eq, sz, x_inConsS, x_inNilS, e]⟩
      | @ifs _ t bs es x xs ys h1 b2 h2 b3 h3 =>
        have hz' := hz
        rw [l_ws, c_ws, c_ws, c_ws, c_ws, n_ws, kw_ws] at hz'
        have g : TE' (callE 1 F_in_brackets (consA (allocE (lstN (consA (varE 1) (consA (callE 1 (G_body_text (k + 2) 2) (consA (binE ixD (varE 0) (conE (.int 1))) (nilA))) (consA (callE 1 (G_body_text (k + 2) 0) (consA (binE ixD (varE 0) (conE (.int 2))) (nilA))) (consA (callE 1 (G_body_text (k + 2) 0) (consA (binE ixD (varE 0) (conE (.int 3))) (nilA))) (nilA))))))) (nilA))) [some (.tup [w "if", t, .tup bs, .tup es]), some (w "if")] S (Nt.l [kwN "if", x, .l xs, .l ys]).tx := by
          refine TE'.brk ?_ (big hok (Nat.le_refl _) (by rw [c_ws, c_ws, c_ws, c_ws, n_ws, kw_ws]; omega))
          refine LE.lstG (AE.cons (TE'.pure ?_) fun S => AE.cons (TE'.call (iT _ _ _ h1 (by omega) (by omega)) ?_) fun S => AE.cons (TE'.call (bo h2 b2 (by omega)) ?_) fun S => AE.cons (TE'.call (bo h3 b3 (by omega)) ?_) fun S => AE.nil) (by simp)
          · rw [← kwD]; simp
          · simp [x_ix, at1]
          · simp [x_ix, at2]
          · simp [x_ix, at3]
        obtain ⟨X, e⟩ := g.ret
        exact ⟨X, by simp [-x_retS, m_statement_text, N_statement_text, startL, x_ix, at0, ofS_eq, sz, x_inConsS, x_inNilS, e]⟩
end K05

set_option Elab.async false
set_option linter.all false
set_option maxRecDepth 100000
set_option autoImplicit false
namespace K05
open PySem PySem.Spec L2 ML
abbrev WS := List (List Nat) × List Nat
def flush (s : WS) : List (List Nat) := s.1 ++ (if s.2 = [] then [] else [s.2])
def stepW (s : WS) (c : Nat) : WS := if sep c = true then (flush s ++ (if br c = true then [[c]] else []), []) else (s.1, s.2 ++ [c])
def runW (l : List Nat) : WS := l.foldl stepW ([], [])
def wordsOf (l : List Nat) : List (List Nat) := (runW (l ++ [32])).1
theorem step_sep {s : WS} {c : Nat} (h : sep c = true) : stepW s c = (flush s ++ (if br c = true then [[c]] else []), []) := if_pos h
theorem step_no {s : WS} {c : Nat} (h : sep c = false) : stepW s c = (s.1, s.2 ++ [c]) := if_neg (by rw [h]; simp)
theorem wordsOf_eq (l : List Nat) : wordsOf l = flush (runW l) := by
  unfold wordsOf runW
  rw [List.foldl_append]
  show (stepW (runW l) 32).1 = _
  rw [step_sep (by decide)]
  simp [br]
  rfl
theorem run_nosep : ∀ (p : List Nat) (s : WS), (∀ c ∈ p, sep c = false) → p.foldl stepW s = (s.1, s.2 ++ p)
  | [], s, _ => by simp
  | c :: p, s, h => by
    rw [List.foldl_cons, step_no (h c List.mem_cons_self), run_nosep p _ fun x hx => h x (List.mem_cons_of_mem _ hx)]
    simp
theorem step_pre (s : WS) (c : Nat) : ∃ t, (stepW s c).1 = s.1 ++ t := by
  unfold stepW flush
  split
  · exact ⟨(if s.2 = [] then [] else [s.2]) ++ (if br c = true then [[c]] else []), by simp⟩
  · exact ⟨[], by simp⟩
theorem run_pre : ∀ (l : List Nat) (s : WS), ∃ t, (l.foldl stepW s).1 = s.1 ++ t
  | [], s => ⟨[], by simp⟩
  | c :: l, s => by
    obtain ⟨t, h⟩ := step_pre s c
    obtain ⟨u, hu⟩ := run_pre l (stepW s c)
    exact ⟨t ++ u, by rw [List.foldl_cons, hu, h, List.append_assoc]⟩
/-- all signs of the words are signs of the text -/
theorem step_ok {s : WS} {c : Nat} (hc : c < 1114112) (h1 : ∀ w ∈ s.1, okT w) (h2 : okT s.2) : (∀ w ∈ (stepW s c).1, okT w) ∧ okT (stepW s c).2 := by
  unfold stepW flush
  split
  · refine ⟨fun w hw => ?_, fun x hx => by simp at hx⟩
    simp only [List.mem_append] at hw
    rcases hw with (hw | hw) | hw
    · exact h1 w hw
    · split at hw
      · simp at hw
      · simp at hw; subst hw; exact h2
    · split at hw
      · simp at hw
        subst hw
        intro x hx
        simp at hx
        omega
      · simp at hw
  · refine ⟨h1, fun x hx => ?_⟩
    simp only [List.mem_append, List.mem_singleton] at hx
    rcases hx with hx | hx
    · exact h2 x hx
    · omega
theorem run_ok : ∀ (l : List Nat) (s : WS), (∀ c ∈ l, c < 1114112) → (∀ w ∈ s.1, okT w) → okT s.2 → (∀ w ∈ (l.foldl stepW s).1, okT w) ∧ okT (l.foldl stepW s).2
  | [], s, _, h1, h2 => ⟨h1, h2⟩
  | c :: l, s, h, h1, h2 => by
    obtain ⟨a, b⟩ := step_ok (h c List.mem_cons_self) h1 h2
    exact run_ok l _ (fun x hx => h x (List.mem_cons_of_mem _ hx)) a b
theorem good_lt {c : Nat} (h : good c) : c < 1114112 := by unfold good at h; omega
theorem words_ok {l : List Nat} (h : ∀ c ∈ l, good c) : ∀ w ∈ wordsOf l, okT w := by
  refine (run_ok (l ++ [32]) ([], []) (fun c hc => ?_) (fun w hw => by simp at hw) (fun c hc => by simp at hc)).1
  rcases List.mem_append.mp hc with hc | hc
  · exact good_lt (h c hc)
  · simp at hc; omega
/-! ### need_text -/
theorem cNL : cs (Str.ofString "\n") = [10] := by rw [cs_of]; rfl
theorem cSP : cs (Str.ofString " ") = [32] := by rw [cs_of]; rfl
theorem cTI : cs (Str.ofString "~") = [126] := by rw [cs_of]; rfl
theorem cSEP : cs (Str.ofString "() \n") = [40, 41, 32, 10] := by rw [cs_of]; rfl
theorem cBR : cs (Str.ofString "()") = [40, 41] := by rw [cs_of]; rfl
noncomputable abbrev nb : MS := b_need_text_0
theorem nb_eq (x0 : Option D) (c : Nat) (S : Store) : nb [x0, some (sgn c)] S = if good c then .ok (.nx, [x0, some (sgn c)]) S else .ex ⟨2, []⟩ S := by
  unfold nb b_need_text_0
  simp [x_neG, cNL, cSP, cTI, lt1]
  by_cases h1 : c = 10
  · simp [h1, good]
  · by_cases h2 : 32 ≤ c
    · by_cases h3 : c ≤ 126
      · by_cases h4 : c = 37
        · subst h4; simp [good, show ¬ 37 < 32 by omega, show ¬ 126 < 37 by omega]
        · have h5 : ¬ ((c : Int) = 37) := by omega
          simp [good, h1, h2, h3, h4, h5, show ¬ c < 32 by omega, show ¬ 126 < c by omega]
      · simp [good, h1, h2, h3, show ¬ c < 32 by omega, show 126 < c by omega]
    · simp [good, h1, h2, show c < 32 by omega]
theorem nloop_ok (x0 : Option D) (S : Store) : ∀ (L : List Nat) (x1 : Option D), (∀ c ∈ L, good c) → ∃ y, forL still (nameT 1) nb (L.map sgn) [x0, x1] S = .ok (.nx, [x0, y]) S
  | [], x1, _ => ⟨x1, by rw [List.map_nil, forL_nil trivial]⟩
  | c :: L, x1, h => by
    obtain ⟨y, e⟩ := nloop_ok x0 S L (some (sgn c)) fun x hx => h x (List.mem_cons_of_mem _ hx)
    refine ⟨y, ?_⟩
    rw [List.map_cons, forL_cons trivial]
    simp [nb_eq, h c List.mem_cons_self, e]
theorem nloop_ex (x0 : Option D) (S : Store) : ∀ (L : List Nat) (x1 : Option D), (∃ c ∈ L, ¬ good c) → forL still (nameT 1) nb (L.map sgn) [x0, x1] S = .ex ⟨2, []⟩ S
  | [], x1, h => by obtain ⟨c, hc, _⟩ := h; simp at hc
  | c :: L, x1, h => by
    rw [List.map_cons, forL_cons trivial]
    by_cases q : good c
    · have e := nloop_ex x0 S L (some (sgn c)) (by
        obtain ⟨d, hd, nd⟩ := h
        rcases List.mem_cons.mp hd with hd | hd
        · subst hd; exact absurd q nd
        · exact ⟨d, hd, nd⟩)
      simp [nb_eq, q, e]
    · simp [nb_eq, q]
theorem need_ok {x : Str} {S : Store} (h1 : x.length ≤ 6000) (h2 : ∀ c ∈ cs x, good c) : F_need_text [.str x] S = .ok .non S := by
  have hz : x.length ≤ sizeLine := by rw [sz]; omega
  obtain ⟨y, e⟩ := nloop_ok (some (.str x)) S (cs x) none h2
  simp [F_need_text, m_need_text, N_need_text, startL, isKind, hz, show ¬ (6000 : Int) < x.length by omega, e]
theorem need_ex {x : Str} {S : Store} (h0 : x.length ≤ 16777216) (h : 6000 < x.length ∨ ∃ c ∈ cs x, ¬ good c) : F_need_text [.str x] S = .ex ⟨2, []⟩ S := by
  have hz : x.length ≤ sizeLine := h0
  by_cases q : 6000 < x.length
  · simp [F_need_text, m_need_text, N_need_text, startL, isKind, hz, show (6000 : Int) < x.length by omega]
  · rcases h with h | h
    · exact absurd h q
    · have e := nloop_ex (some (.str x)) S (cs x) none h
      simp [F_need_text, m_need_text, N_need_text, startL, isKind, hz, show ¬ (6000 : Int) < x.length by omega, e]
theorem need_no {d : D} {S : Store} {t : String} (h : kindO S d = some t) (ht : isKind "str" t = false) : F_need_text [d] S = .ex ⟨2, []⟩ S := by
  simp [F_need_text, m_need_text, N_need_text, startL, h, ht]
/-! ### words_of -/
noncomputable abbrev wb : MS := b_words_of_0
theorem mkS_nil : Str.ofString "" = mkS [] := mkS_of ""
theorem wb_eq (x0 : Option D) (T : Store) (s : WS) (c : Nat) (h1 : s.1.length < 16000000) (h2 : s.2.length < 16000000) :
    wb [x0, some (.ref T.length), some (strD s.2), some (sgn c)] (T ++ [.lst (s.1.map strD)]) = .ok (.nx, [x0, some (.ref T.length), some (strD (stepW s c).2), some (sgn c)]) (T ++ [.lst ((stepW s c).1.map strD)]) := by
  obtain ⟨f, w⟩ := s
  simp only at h1 h2
  unfold wb b_words_of_0 stepW flush sep br
  have e1 : ∀ g : List (List Nat), g.length < 16777216 → ∀ d, appendM (.ref T.length) [d] (T ++ [.lst (g.map strD)]) = .ok .non (T ++ [.lst (g.map strD ++ [d])]) := fun g hg d => by
    rw [x_append (lstAt_end _ _) (by simpa using hg), set_end]
  have z0 : ([] : List Nat) = cs (Str.ofString "") := by rw [cs_of]; rfl
  by_cases q : c = 40 ∨ c = 41 ∨ c = 32 ∨ c = 10
  · by_cases q2 : w = []
    · by_cases q3 : c = 40 ∨ c = 41
      · simp [cSEP, cBR, q, q2, q3, x_neD, ← z0, e1 f (by omega), strD_nil, strD_one, x_neDD]
      · simp [cSEP, cBR, q, q2, q3, x_neD, ← z0, strD_nil, x_neDD]
    · by_cases q3 : c = 40 ∨ c = 41
      · have e2 := e1 (f ++ [w]) (by simp; omega)
        simp only [List.map_append, List.map_cons, List.map_nil] at e2
        have l2 : lstAt (T ++ [Cell.lst (f.map strD ++ [strD w])]) T.length = some (f.map strD ++ [strD w]) := lstAt_end _ _
        simp [cSEP, cBR, q, q2, q3, x_neD, ← z0, e1 f (by omega), strD_nil, strD_one, e2, l2, x_neDD]
      · simp [cSEP, cBR, q, q2, q3, x_neD, ← z0, e1 f (by omega), strD_nil, x_neDD]
  · simp [cSEP, q, x_addDG, sz, show w.length + 1 ≤ 16777216 by omega]
theorem woloop (x0 : Option D) (T : Store) : ∀ (L : List Nat) (s : WS) (x3 : Option D), s.1.length + 2 * L.length < 16000000 → s.2.length + L.length < 16000000 →
    ∃ y, forL still (nameT 3) wb (L.map sgn) [x0, some (.ref T.length), some (strD s.2), x3] (T ++ [.lst (s.1.map strD)]) = .ok (.nx, [x0, some (.ref T.length), some (strD (L.foldl stepW s).2), y]) (T ++ [.lst ((L.foldl stepW s).1.map strD)])
  | [], s, x3, _, _ => ⟨x3, by rw [List.map_nil, forL_nil trivial]; rfl⟩
  | c :: L, s, x3, h1, h2 => by
    rw [List.length_cons] at h1 h2
    have b1 : (stepW s c).1.length ≤ s.1.length + 2 ∧ (stepW s c).2.length ≤ s.2.length + 1 := by
      unfold stepW flush
      split
      · refine ⟨?_, by simp⟩
        split <;> split <;> simp
      · simp
    obtain ⟨y, e⟩ := woloop x0 T L (stepW s c) (some (sgn c)) (by omega) (by omega)
    refine ⟨y, ?_⟩
    rw [List.map_cons, forL_cons trivial]
    simp [wb_eq x0 T s c (by omega) (by omega), e]
theorem words_eq {x : Str} {S : Store} (h1 : x.length ≤ 6000) (h2 : ∀ c ∈ cs x, good c) : F_words_of [.str x] S = .ok (.ref S.length) (S ++ [.lst ((wordsOf (cs x)).map strD)]) := by
  obtain ⟨y, e⟩ := woloop (some (.str x)) S (cs x ++ [32]) ([], []) none (by simp; omega) (by simp; omega)
  have hl : (Str.ofString " ").length = 1 := by rw [len_of]; rfl
  simp [F_words_of, m_words_of, N_words_of, startL, need_ok h1 h2, sz, hl, show x.length + 1 ≤ 16777216 by omega, mkS_nil, cSP]
  simp at e
  rw [show D.str (mkS []) = strD [] from rfl, e]
  simp [wordsOf, runW]
theorem words_ex {d : D} {S : Store} (h : F_need_text [d] S = .ex ⟨2, []⟩ S) : F_words_of [d] S = .ex ⟨2, []⟩ S := by
  simp [F_words_of, m_words_of, N_words_of, startL, h]
def MI (L : List Nat) (ws : List (List Nat)) (was : Bool) : Prop := (∀ c ∈ L, good c) ∧ flush (runW L) = ws ∧ (was = false → (runW L).2 = [])
theorem MI_word {L p : List Nat} {ws : List (List Nat)} (h : MI L ws false) (h0 : p ≠ []) (hp : ∀ c ∈ p, good c ∧ sep c = false) : MI (L ++ p) (ws ++ [p]) true := by
  obtain ⟨h1, h2, h3⟩ := h
  have h3 := h3 rfl
  have e : runW (L ++ p) = ((runW L).1, p) := by
    unfold runW at h3 ⊢
    rw [List.foldl_append, run_nosep p _ fun c hc => (hp c hc).2, h3, List.nil_append]
  refine ⟨fun c hc => ?_, ?_, fun z => by cases z⟩
  · rcases List.mem_append.mp hc with hc | hc
    · exact h1 c hc
    · exact (hp c hc).1
  · rw [e, ← h2]
    unfold flush
    rw [h3]
    simp [h0]
theorem MI_sep {L : List Nat} {ws : List (List Nat)} {was : Bool} {c : Nat} (h : MI L ws was) (hc : sep c = true) (hg : good c) : MI (L ++ [c]) (ws ++ if br c = true then [[c]] else []) false := by
  obtain ⟨h1, h2, h3⟩ := h
  have e : runW (L ++ [c]) = (ws ++ (if br c = true then [[c]] else []), []) := by
    unfold runW
    rw [List.foldl_append]
    show stepW (runW L) c = _
    rw [step_sep hc, h2]
  refine ⟨fun d hd => ?_, ?_, fun _ => by rw [e]⟩
  · rcases List.mem_append.mp hd with hd | hd
    · exact h1 d hd
    · simp at hd; subst hd; exact hg
  · rw [e]
    simp [flush]
theorem MI_words {L : List Nat} {ws : List (List Nat)} {was : Bool} (h : MI L ws was) : wordsOf L = ws := (wordsOf_eq L).trans h.2.1
/-! ### words put one behind the other -/
def Tk (l : List Nat) : Prop := l = [40] ∨ l = [41] ∨ Wd l
mutual
theorem Nt.tks : ∀ (x : Nt), x.ok → ∀ l ∈ x.ws, Tk l
  | .w l, h, y, hy => by
    rw [Nt.ws] at hy
    rw [List.mem_singleton.mp hy]
    exact .inr (.inr h)
  | .l xs, h, y, hy => by
    rw [Nt.ws] at hy
    rcases List.mem_cons.mp hy with rfl | hy
    · exact .inl rfl
    · rcases List.mem_append.mp hy with hy | hy
      · exact tkss xs h y hy
      · rw [List.mem_singleton.mp hy]
        exact .inr (.inl rfl)
theorem tkss : ∀ (xs : List Nt), oks xs → ∀ l ∈ wss xs, Tk l
  | [], _, y, hy => by rw [wss] at hy; simp at hy
  | x :: xs, h, y, hy => by
    rw [wss] at hy
    rcases List.mem_append.mp hy with hy | hy
    · exact x.tks h.1 y hy
    · exact tkss xs h.2 y hy
end
/-- is it a plain word -/
def pl : Option (List Nat) → Bool
  | none => false
  | some l => !decide (l = [40] ∨ l = [41])
def b0 : Option (List Nat) → Bool
  | none => true
  | some l => decide (l = [40])
theorem MI_seps {u : List Nat} (hu : ∀ c ∈ u, c = 32 ∨ c = 10) : ∀ {L : List Nat} {ws : List (List Nat)} {was : Bool}, MI L ws was → u ≠ [] → MI (L ++ u) ws false := by
  induction u with
  | nil => intro L ws was _ h; exact absurd rfl h
  | cons c u ih =>
    intro L ws was h _
    have hc := hu c List.mem_cons_self
    have s1 : sep c = true := by rcases hc with rfl | rfl <;> rfl
    have s2 : br c = false := by rcases hc with rfl | rfl <;> rfl
    have s3 : good c := by rcases hc with rfl | rfl <;> decide
    have h1 := MI_sep h s1 s3
    rw [s2] at h1
    simp at h1
    by_cases q : u = []
    · subst q; exact h1
    · have := ih (fun d hd => hu d (List.mem_cons_of_mem _ hd)) h1 q
      rw [List.append_assoc] at this
      exact this
theorem step_MI {L u l : List Nat} {pre : List (List Nat)} {p : Option (List Nat)} (h : MI L pre (pl p)) (hl : Tk l) (hu : ∀ c ∈ u, c = 32 ∨ c = 10) (hn : u = [] → pl p = false ∨ l = [40] ∨ l = [41]) : MI (L ++ u ++ l) (pre ++ [l]) (pl (some l)) := by
  have h1 : ∃ was, MI (L ++ u) pre was ∧ (l = [40] ∨ l = [41] ∨ was = false) := by
    by_cases q : u = []
    · subst q
      refine ⟨_, by simpa using h, ?_⟩
      rcases hn rfl with a | a | a
      · exact .inr (.inr a)
      · exact .inl a
      · exact .inr (.inl a)
    · exact ⟨false, MI_seps hu h q, .inr (.inr rfl)⟩
  obtain ⟨was, h1, h2⟩ := h1
  have hb : ∀ c, (c = 40 ∨ c = 41) → l = [c] → MI (L ++ u ++ l) (pre ++ [l]) (pl (some l)) := fun c hc e => by
    subst e
    have s1 : sep c = true := by rcases hc with rfl | rfl <;> rfl
    have s2 : br c = true := by rcases hc with rfl | rfl <;> rfl
    have s3 : good c := by rcases hc with rfl | rfl <;> decide
    have := MI_sep h1 s1 s3
    rw [s2] at this
    have e2 : pl (some [c]) = false := by rcases hc with rfl | rfl <;> rfl
    rw [e2]
    exact this
  rcases hl with e | e | hw
  · exact hb 40 (.inl rfl) e
  · exact hb 41 (.inr rfl) e
  · have n := hw.ne
    rcases h2 with e | e | e
    · exact absurd e n.1
    · exact absurd e n.2
    · subst e
      have := MI_word h1 hw.1 hw.2.1
      have e2 : pl (some l) = true := by
        show (!decide (l = [40] ∨ l = [41])) = true
        rw [decide_eq_false (fun q => q.elim n.1 n.2)]
        rfl
      rw [e2]
      exact this
theorem tg_MI : ∀ (rest pre : List (List Nat)) (L : List Nat) (p : Option (List Nat)), MI L pre (pl p) → (∀ l ∈ rest, Tk l) → ∃ was, MI (L ++ tg (b0 p) rest) (pre ++ rest) was
  | [], pre, L, p, h, _ => ⟨_, by simpa [tg] using h⟩
  | l :: rest, pre, L, p, h, ht => by
    have h1 := step_MI (u := if b0 p = true ∨ l = [41] then [] else [32]) h (ht l List.mem_cons_self) (fun c hc => by
      split at hc
      · simp at hc
      · simp at hc; exact .inl hc) (fun e => by
      split at e
      · rename_i q
        rcases q with q | q
        · left
          cases p with
          | none => rfl
          | some x =>
            have : x = [40] := of_decide_eq_true q
            rw [this]
            rfl
        · exact .inr (.inr q)
      · simp at e)
    obtain ⟨was, h2⟩ := tg_MI rest (pre ++ [l]) _ (some l) h1 fun x hx => ht x (List.mem_cons_of_mem _ hx)
    refine ⟨was, ?_⟩
    rw [tg]
    have e : b0 (some l) = decide (l = [40]) := rfl
    rw [e] at h2
    simpa [List.append_assoc] using h2
theorem MI_nil : MI [] [] false := ⟨fun c hc => by simp at hc, by simp [runW, flush], fun _ => rfl⟩
/-- the words of the plain text -/
theorem tx_words {x : Nt} (h : x.ok) : (∀ c ∈ x.tx, good c) ∧ wordsOf x.tx = x.ws := by
  obtain ⟨was, hm⟩ := tg_MI x.ws [] [] none MI_nil (x.tks h)
  have e : b0 none = true := rfl
  rw [e, tight_eq h] at hm
  simp at hm
  exact ⟨hm.1, MI_words hm⟩
end K05

set_option Elab.async false
set_option linter.all false
set_option maxRecDepth 100000
set_option autoImplicit false
namespace K05
open PySem PySem.Spec L2 ML
/-! ### the law's text -/
theorem mkS_inj {a b : List Nat} : mkS a = mkS b ↔ a = b := ⟨fun h => by have := congrArg cs h; rwa [cs_mkS, cs_mkS] at this, fun h => by rw [h]⟩
theorem eq_lp (a : List Nat) (S : Store) : eqD (strD a) (.str (Str.ofString "(")) S = .ok (decide (a = [40])) S := by
  rw [show D.str (Str.ofString "(") = strD [40] from lpD]
  show eqD (.str (mkS a)) (.str (mkS [40])) S = _
  rw [x_eqT]
  simp only [mkS_inj]
theorem eq_rp (a : List Nat) (S : Store) : eqD (strD a) (.str (Str.ofString ")")) S = .ok (decide (a = [41])) S := by
  rw [show D.str (Str.ofString ")") = strD [41] from rpD]
  show eqD (.str (mkS a)) (.str (mkS [41])) S = _
  rw [x_eqT]
  simp only [mkS_inj]
theorem cBB : cs (Str.ofString "()") = [40, 41] := by rw [cs_of]; rfl
theorem in_bb {l : List Nat} (h : Tk l) (S : Store) : inTD (strD l) (.str (Str.ofString "()")) S = .ok (!pl (some l)) S := by
  have e : (!pl (some l)) = decide (l = [40] ∨ l = [41]) := by show (!(!decide (l = [40] ∨ l = [41]))) = _; rw [Bool.not_not]
  rw [e]
  rcases h with rfl | rfl | h
  · rw [inTD_one, cBB]; simp
  · rw [inTD_one, cBB]; simp
  · have n := h.ne
    rw [inTD_not h.1 (fun c hc => by
      rw [cBB]
      have := (h.2.1 c hc).2
      simp [sep] at this
      simp
      omega)]
    rw [decide_eq_false (fun q => q.elim n.1 n.2)]
@[simp] theorem is_rn (n : Nat) (S : Store) : isD (.ref n) .non S = .ok false S := (rfl)
@[simp] theorem is_nn (S : Store) : isD .non .non S = .ok true S := (rfl)
theorem tok_at {S : Store} {r : Nat} {pre rest : List (List Nat)} {l : List Nat} (h : S[r]? = some (.lst (tok (pre ++ l :: rest)))) : ixO S (.ref r) (.int (pre.length : Int)) = some (strD l) := by
  rw [x_ixR (lstAt_of h), L2.atI_nat (v := strD l)]
  unfold tok
  simp
theorem tok_before {S : Store} {r : Nat} {pre rest : List (List Nat)} {p l : List Nat} (h : S[r]? = some (.lst (tok ((pre ++ [p]) ++ l :: rest)))) : ixO S (.ref r) (.int (((pre ++ [p]).length : Int) - 1)) = some (strD p) := by
  have e : (((pre ++ [p]).length : Nat) : Int) - 1 = (pre.length : Int) := by simp
  rw [List.append_assoc] at h
  rw [e]
  exact tok_at h
theorem spD : D.str (Str.ofString " ") = strD [32] := by rw [strC, cs_of]; rfl
theorem nlD : D.str (Str.ofString "\n") = strD [10] := by rw [strC, cs_of]; rfl
theorem ssD : D.str (Str.ofString "  ") = strD [32, 32] := by rw [strC, cs_of]; rfl
theorem snD : D.str (Str.ofString " \n ") = strD [32, 10, 32] := by rw [strC, cs_of]; rfl
theorem noD : D.str (Str.ofString "") = strD [] := by rw [strC, cs_of]; rfl
/-- one word, plainly -/
theorem text_step {S : Store} {r : Nat} {pre rest : List (List Nat)} {l acc : List Nat} {x4 x5 : Option D} (h : S[r]? = some (.lst (tok (pre ++ l :: rest)))) (hz : acc.length + l.length + 1 ≤ 16777216) :
    ∃ y4, b__law_text_0 [some (.ref r), some .non, some (strD acc), some (.int (pre.length : Int)), x4, x5] S = .ok (.nx, [some (.ref r), some .non, some (strD (acc ++ (if b0 pre.getLast? = true ∨ l = [41] then [] else [32]) ++ l)), some (.int (pre.length : Int)), y4, x5]) (S ++ [.lst [strD [32], strD []]]) := by
  have h1 := tok_at h
  have hA : ∀ S, addD (strD acc) (strD []) S = .ok (strD acc) S := fun S => by rw [addS (by simp; omega), List.append_nil]
  have hB : ∀ S, addD (strD acc) (strD [32]) S = .ok (strD (acc ++ [32])) S := fun S => addS (by simp; omega) S
  have hC : ∀ S, addD (strD acc) (strD l) S = .ok (strD (acc ++ l)) S := fun S => addS (by omega) S
  have hD : ∀ S, addD (strD (acc ++ [32])) (strD l) S = .ok (strD (acc ++ 32 :: l)) S := fun S => by rw [addS (by simp; omega)]; simp
  have h1' : ixO (S ++ [.lst [strD [32], strD []]]) (.ref r) (.int (pre.length : Int)) = some (strD l) := tok_at (at_app h)
  have j0 : ixO (S ++ [.lst [strD [32], strD []]]) (.ref S.length) (.int 0) = some (strD [32]) := by rw [x_ixR (lstAt_of at_end)]; rfl
  have j1 : ixO (S ++ [.lst [strD [32], strD []]]) (.ref S.length) (.int 1) = some (strD []) := by rw [x_ixR (lstAt_of at_end)]; rfl
  rcases List.eq_nil_or_concat pre with rfl | ⟨q, p, e⟩
  · simp at h1 h1'
    refine ⟨some (.bl true), ?_⟩
    simp [b__law_text_0, b0, spD, noD, sz, x_ix, j1, hA, h1', hC]
  · rw [List.concat_eq_append] at e
    subst e
    have h2 := tok_before h
    obtain ⟨k, hk⟩ : ∃ k : Nat, (q ++ [p]).length = k := ⟨_, rfl⟩
    rw [hk] at h1 h1' h2 ⊢
    have hk0 : ¬ (k : Int) = 0 := by simp at hk; omega
    have hk1 : ¬ k = 0 := by simp at hk; omega
    have hb : b0 (q ++ [p]).getLast? = decide (p = [40]) := by simp [b0]
    rw [hb]
    by_cases c1 : p = [40]
    · refine ⟨some (.bl true), ?_⟩
      simp [b__law_text_0, hk0, hk1, x_ix, h2, eq_lp, c1, spD, noD, sz, j1, hA, h1', hC]
    · by_cases c2 : l = [41]
      · refine ⟨some (.bl true), ?_⟩
        simp [b__law_text_0, hk0, hk1, x_ix, h2, h1, eq_lp, eq_rp, c1, c2, spD, noD, sz, j1, hA, h1']
        rw [c2] at hC
        simp [hC]
      · refine ⟨some (.bl false), ?_⟩
        simp [b__law_text_0, hk0, hk1, x_ix, h2, h1, eq_lp, eq_rp, c1, c2, spD, noD, sz, j0, hB, h1', hD]
theorem tg_len (ws : List (List Nat)) : ∀ b, (tg b ws).length ≤ sumW ws + ws.length := by
  induction ws with
  | nil => intro b; simp [tg]
  | cons l ws ih =>
    intro b
    have := ih (decide (l = [40]))
    rw [tg]
    have e : sumW (l :: ws) = l.length + sumW ws := by simp [sumW]
    rw [e]
    simp
    split <;> simp <;> omega
theorem text_loop {r : Nat} {x0 : Option D} : ∀ (rest pre : List (List Nat)) (acc : List Nat) (S : Store) (x3 x4 : Option D), S[r]? = some (.lst (tok (pre ++ rest))) → acc.length + sumW rest + rest.length ≤ 16000000 →
    ∃ X y3 y4, forL still (nameT 3) b__law_text_0 (intsD (List.range' pre.length rest.length)) [some (.ref r), some .non, some (strD acc), x3, x4, x0] S = .ok (.nx, [some (.ref r), some .non, some (strD (acc ++ tg (b0 pre.getLast?) rest)), y3, y4, x0]) (S ++ X)
  | [], pre, acc, S, x3, x4, _, _ => ⟨[], x3, x4, by simp [intsD, forL_nil (chk := still) trivial, tg]⟩
  | l :: rest, pre, acc, S, x3, x4, h, hz => by
    have e0 : sumW (l :: rest) = l.length + sumW rest := by simp [sumW]
    rw [e0, List.length_cons] at hz
    obtain ⟨y4, e1⟩ := text_step (acc := acc) (x4 := x4) (x5 := x0) h (by omega)
    obtain ⟨acc', hacc⟩ : ∃ acc', acc ++ (if b0 pre.getLast? = true ∨ l = [41] then [] else [32]) ++ l = acc' := ⟨_, rfl⟩
    rw [hacc] at e1
    have hl : acc'.length ≤ acc.length + l.length + 1 := by rw [← hacc]; split <;> simp <;> omega
    obtain ⟨S1, hS1⟩ : ∃ S1, S ++ [Cell.lst [strD [32], strD []]] = S1 := ⟨_, rfl⟩
    rw [hS1] at e1
    obtain ⟨X, y3, z4, e2⟩ := text_loop (x0 := x0) rest (pre ++ [l]) acc' S1 (some (.int (pre.length : Int))) y4 (by rw [← hS1, List.append_assoc]; exact at_app h) (by omega)
    have eS : S ++ ([Cell.lst [strD [32], strD []]] ++ X) = S1 ++ X := by rw [← hS1]; simp
    have et : acc' ++ tg (b0 (pre ++ [l]).getLast?) rest = acc ++ tg (b0 pre.getLast?) (l :: rest) := by
      rw [tg, ← hacc]
      have : b0 (pre ++ [l]).getLast? = decide (l = [40]) := by simp [b0]
      rw [this]
      simp [List.append_assoc]
    refine ⟨[Cell.lst [strD [32], strD []]] ++ X, y3, z4, ?_⟩
    rw [eS, ← et]
    have ei : intsD (List.range' pre.length (l :: rest).length) = .int (pre.length : Int) :: intsD (List.range' (pre ++ [l]).length rest.length) := by
      rw [List.length_cons, List.range'_succ]
      simp [intsD]
    rw [ei, forL_cons (chk := still) trivial]
    simp only [nameT] at e2 ⊢
    simp [e1]
    simpa using e2
theorem sum_tk (ws : List (List Nat)) (h : ∀ l ∈ ws, Tk l) : sumW ws ≤ 20 * ws.length := by
  induction ws with
  | nil => simp [sumW]
  | cons l ws ih =>
    have := ih fun y hy => h y (List.mem_cons_of_mem _ hy)
    have e0 : sumW (l :: ws) = l.length + sumW ws := by simp [sumW]
    have hl : l.length ≤ 20 := by
      rcases h l List.mem_cons_self with rfl | rfl | h
      · simp
      · simp
      · exact h.2.2
    rw [e0]
    simp
    omega
theorem rng_tok {S : Store} {r n : Nat} {ws : List (List Nat)} (h : S[r]? = some (.lst (tok ws))) (hn : ws.length = n) (hz : n ≤ 100000) : lenV [.ref r] S = .ok (.int (n : Int)) S ∧ rng1 [.int (n : Int)] S = .ok (intsD (List.range' 0 n), still) S := by
  refine ⟨by rw [x_lenR (lstAt_of h), tok_len, hn], ?_⟩
  rw [x_rng1 (by omega) (by omega), Int.toNat_natCast, rng_ints, List.range_eq_range']
theorem text_eq {x : Nt} (hx : x.ok) (hz : x.ws.length ≤ 100000) {S : Store} {r : Nat} (h : S[r]? = some (.lst (tok x.ws))) : ∃ X, F__law_text [.ref r, .non] S = .ok (strD x.tx) (S ++ X) := by
  have hs := sum_tk _ (x.tks hx)
  obtain ⟨X, y3, y4, e⟩ := text_loop (x0 := none) x.ws [] [] S none none (by simpa using h) (by simp; omega)
  obtain ⟨e1, e2⟩ := rng_tok h rfl hz
  have e3 : ([] : List Nat) ++ tg (b0 ([] : List (List Nat)).getLast?) x.ws = x.tx := tight_eq hx
  rw [e3] at e
  simp only [List.length_nil] at e
  refine ⟨X, ?_⟩
  simp only [F__law_text, m__law_text, N__law_text, x_bodyF, startL]
  simp [e1, e2, noD, e]
end K05

set_option Elab.async false
set_option linter.all false
set_option maxRecDepth 100000
set_option autoImplicit false
namespace K05
open PySem PySem.Spec L2 ML
/-! ### the loose text -/
def uL (ns : List Int) (a : Int) : List (Key × D) := [(.inr (Str.ofString "cells"), .lis (ns.map .int)), (.inr (Str.ofString "at"), .int a)]
def uC (ns : List Int) (a : Int) : Cell := .dct (uL ns a)
section
variable {ns : List Int} {s : Nat} {a : Int} {S : Store}
theorem u_cells (h : S[s]? = some (uC ns a)) : ixO S (.ref s) (.str (Str.ofString "cells")) = some (.lis (ns.map .int)) := by rw [x_ixK (kvAt_of h)]; rfl
theorem u_at (h : S[s]? = some (uC ns a)) : ixO S (.ref s) (.str (Str.ofString "at")) = some (.int a) := by rw [x_ixK (kvAt_of h)]; rfl
theorem u_put (h : S[s]? = some (uC ns a)) (b : Int) : setO S (.ref s) (.str (Str.ofString "at")) (.int b) = some (S.set s (uC ns b)) := by
  rw [set_dS h (show (2 : Nat) < 16777216 by decide)]
  rfl
theorem next_u (h : S[s]? = some (uC ns a)) (h0 : 0 ≤ a) (h1 : a ≤ 200000) : ∃ y : Int, 0 ≤ y ∧ F__law_next [.ref s] S = .ok (.int y) (S.set s (uC ns (a + 1))) := by
  obtain ⟨m, e1, hm⟩ : ∃ m : Int, max 1 (ns.length : Int) = m ∧ 0 < m := ⟨_, rfl, by omega⟩
  obtain ⟨b, eb, hb⟩ : ∃ b : Int, a + 1 = b ∧ 0 ≤ b ∧ b ≤ 200001 := ⟨_, rfl, by omega, by omega⟩
  obtain ⟨k, e2⟩ : ∃ k : Nat, b % m = (k : Int) := ⟨(b % m).toNat, by have := Int.emod_nonneg b (show m ≠ 0 by omega); omega⟩
  have e3 : b.natAbs < 18446744073709551616 := by omega
  have p := u_put h b
  have h' : (S.set s (uC ns b))[s]? = some (uC ns b) := get_set_at h
  have q1 := u_at h'
  have q2 := u_cells h'
  have q3 := u_at h
  rw [eb]
  obtain ⟨S1, hS1⟩ : ∃ S1, S.set s (uC ns b) = S1 := ⟨_, rfl⟩
  rw [hS1] at p q1 q2 ⊢
  refine ⟨(cellAt ns k * 48271 + b * b * 69621) % 2147483647 / 8, by have := Int.emod_nonneg (cellAt ns k * 48271 + b * b * 69621) (show (2147483647 : Int) ≠ 0 by decide); omega, ?_⟩
  simp [F__law_next, m__law_next, N__law_next, startL, x_ix, q3, eb, p, q1, q2, e1, hm, e2, cell_at_eq]
  generalize cellAt ns k = c
  simp [e3]
end
noncomputable def flagM : MS := setS 4 (orV (ofV (toV (cmpM eqD (varE 3) (conE (.int 0))))) (orV (ofV (toV (cmpM inTD (binE ixD (varE 0) (binE subD (varE 3) (conE (.int 1)))) (conE (.str (Str.ofString "()")))))) (toV (cmpM inTD (binE ixD (varE 0) (varE 3)) (conE (.str (Str.ofString "()")))))))
noncomputable def flag1 : MS := setS 4 (orV (ofV (toV (cmpM eqD (varE 3) (conE (.int 0))))) (orV (ofV (toV (cmpM eqD (binE ixD (varE 0) (binE subD (varE 3) (conE (.int 1)))) (conE (.str (Str.ofString "(")))))) (toV (cmpM eqD (binE ixD (varE 0) (varE 3)) (conE (.str (Str.ofString ")")))))))
noncomputable def plainM : MS := setS 2 (binE addD (binE addD (varE 2) (binE ixD (allocE (lstN (consA (conE (.str (Str.ofString " "))) (consA (conE (.str (Str.ofString ""))) (nilA))))) (newL intV (consA (varE 4) (nilA))))) (binE ixD (varE 0) (varE 3)))
noncomputable def someM : ME := allocE (lstN (consA (conE (.str (Str.ofString " "))) (consA (conE (.str (Str.ofString "\n"))) (consA (conE (.str (Str.ofString "  "))) (consA (conE (.str (Str.ofString " \n "))) (consA (binE ixD (allocE (lstN (consA (conE (.str (Str.ofString ""))) (consA (conE (.str (Str.ofString " "))) (nilA))))) (newL intV (consA (toV (notM (ofV (varE 4)))) (nilA)))) (consA (binE ixD (allocE (lstN (consA (conE (.str (Str.ofString ""))) (consA (conE (.str (Str.ofString "\n"))) (nilA))))) (newL intV (consA (toV (notM (ofV (varE 4)))) (nilA)))) (nilA))))))))
noncomputable def putM : MS := setS 2 (binE addD (binE addD (varE 2) (binE ixD (varE 5) (binE modD (callE 1 F__law_next (consA (varE 1) (nilA))) (conE (.int 6))))) (binE ixD (varE 0) (varE 3)))
theorem b_text_eq : b__law_text_0 = seqS flag1 (ifS (cmpM isD (varE 1) (conE .non)) plainM (seqS flagM (seqS (setS 5 someM) putM))) := rfl
theorem flag_eq {S : Store} {r : Nat} {pre rest : List (List Nat)} {l : List Nat} {x1 x2 x4 x5 : Option D} (h : S[r]? = some (.lst (tok (pre ++ l :: rest)))) (hp : ∀ y ∈ pre, Tk y) (hl : Tk l) :
    (∃ y4, flag1 [some (.ref r), x1, x2, some (.int (pre.length : Int)), x4, x5] S = .ok (.nx, [some (.ref r), x1, x2, some (.int (pre.length : Int)), y4, x5]) S) ∧
    ∃ b, (b = true → pl pre.getLast? = false ∨ l = [40] ∨ l = [41]) ∧ ∀ x4, flagM [some (.ref r), x1, x2, some (.int (pre.length : Int)), x4, x5] S = .ok (.nx, [some (.ref r), x1, x2, some (.int (pre.length : Int)), some (.bl b), x5]) S := by
  have h1 := tok_at h
  rcases List.eq_nil_or_concat pre with rfl | ⟨q, p, e⟩
  · exact ⟨⟨some (.bl true), by simp [flag1]⟩, true, fun _ => .inl rfl, fun x4 => by simp [flagM]⟩
  · rw [List.concat_eq_append] at e
    subst e
    have h2 := tok_before h
    have hpp : Tk p := hp p (by simp)
    obtain ⟨k, hk⟩ : ∃ k : Nat, (q ++ [p]).length = k := ⟨_, rfl⟩
    rw [hk] at h1 h2 ⊢
    have hk0 : ¬ (k : Int) = 0 := by simp at hk; omega
    have hk1 : ¬ k = 0 := by simp at hk; omega
    have hg : (q ++ [p]).getLast? = some p := by simp
    rw [hg]
    refine ⟨?_, ?_⟩
    · by_cases c1 : p = [40]
      · exact ⟨some (.bl true), by simp [flag1, hk0, hk1, x_ix, h2, eq_lp, c1]⟩
      · exact ⟨some (.bl (decide (l = [41]))), by simp [flag1, hk0, hk1, x_ix, h2, h1, eq_lp, eq_rp, c1]⟩
    · cases c1 : pl (some p) with
      | false => exact ⟨true, fun _ => .inl rfl, fun x4 => by simp [flagM, hk0, hk1, x_ix, h2, in_bb hpp, c1]⟩
      | true =>
        refine ⟨!pl (some l), fun e => .inr ?_, fun x4 => by simp [flagM, hk0, hk1, x_ix, h2, h1, in_bb hpp, in_bb hl, c1]⟩
        have e2 : (!(!decide (l = [40] ∨ l = [41]))) = true := e
        rw [Bool.not_not] at e2
        exact of_decide_eq_true e2
theorem some_eq {S : Store} {x0 x1 x2 x3 x5 : Option D} (b : Bool) : ∃ X q u5 u6, someM [x0, x1, x2, x3, some (.bl b), x5] S = .ok (.ref q) (S ++ X) ∧ (S ++ X)[q]? = some (.lst [strD [32], strD [10], strD [32, 32], strD [32, 10, 32], strD u5, strD u6]) ∧ S.length ≤ q ∧ (∀ c ∈ u5, c = 32 ∨ c = 10) ∧ (∀ c ∈ u6, c = 32 ∨ c = 10) ∧ (u5 = [] → b = true) ∧ (u6 = [] → b = true) ∧ u5.length ≤ 1 ∧ u6.length ≤ 1 := by
  obtain ⟨S1, hS1⟩ : ∃ S1, S ++ [Cell.lst [strD [], strD [32]]] = S1 := ⟨_, rfl⟩
  have k1 : S1[S.length]? = some (.lst [strD [], strD [32]]) := by rw [← hS1]; exact at_end
  obtain ⟨S2, hS2⟩ : ∃ S2, S1 ++ [Cell.lst [strD [], strD [10]]] = S2 := ⟨_, rfl⟩
  have k2 : S2[S1.length]? = some (.lst [strD [], strD [10]]) := by rw [← hS2]; exact at_end
  have l1 : S.length ≤ S1.length := by rw [← hS1]; simp
  have l2 : S1.length ≤ S2.length := by rw [← hS2]; simp
  cases b with
  | true =>
    have i1 : ixO S1 (.ref S.length) (.int 0) = some (strD []) := by rw [x_ixR (lstAt_of k1)]; rfl
    have i2 : ixO S2 (.ref S1.length) (.int 0) = some (strD []) := by rw [x_ixR (lstAt_of k2)]; rfl
    refine ⟨[Cell.lst [strD [], strD [32]], Cell.lst [strD [], strD [10]], .lst [strD [32], strD [10], strD [32, 32], strD [32, 10, 32], strD [], strD []]], S2.length, [], [], ?_, ?_, by omega, by simp, by simp, by simp, by simp, by simp, by simp⟩
    · have eS : S ++ [Cell.lst [strD [], strD [32]], Cell.lst [strD [], strD [10]], .lst [strD [32], strD [10], strD [32, 32], strD [32, 10, 32], strD [], strD []]] = S2 ++ [.lst [strD [32], strD [10], strD [32, 32], strD [32, 10, 32], strD [], strD []]] := by rw [← hS2, ← hS1]; simp
      rw [eS]
      simp [someM, spD, nlD, ssD, snD, noD, sz, hS1, hS2, x_ix, i1, i2]
    · have eS : S ++ [Cell.lst [strD [], strD [32]], Cell.lst [strD [], strD [10]], .lst [strD [32], strD [10], strD [32, 32], strD [32, 10, 32], strD [], strD []]] = S2 ++ [.lst [strD [32], strD [10], strD [32, 32], strD [32, 10, 32], strD [], strD []]] := by rw [← hS2, ← hS1]; simp
      rw [eS]
      exact at_end
  | false =>
    have i1 : ixO S1 (.ref S.length) (.int 1) = some (strD [32]) := by rw [x_ixR (lstAt_of k1)]; rfl
    have i2 : ixO S2 (.ref S1.length) (.int 1) = some (strD [10]) := by rw [x_ixR (lstAt_of k2)]; rfl
    refine ⟨[Cell.lst [strD [], strD [32]], Cell.lst [strD [], strD [10]], .lst [strD [32], strD [10], strD [32, 32], strD [32, 10, 32], strD [32], strD [10]]], S2.length, [32], [10], ?_, ?_, by omega, by simp, by simp, by simp, by simp, by simp, by simp⟩
    · have eS : S ++ [Cell.lst [strD [], strD [32]], Cell.lst [strD [], strD [10]], .lst [strD [32], strD [10], strD [32, 32], strD [32, 10, 32], strD [32], strD [10]]] = S2 ++ [.lst [strD [32], strD [10], strD [32, 32], strD [32, 10, 32], strD [32], strD [10]]] := by rw [← hS2, ← hS1]; simp
      rw [eS]
      simp [someM, spD, nlD, ssD, snD, noD, sz, hS1, hS2, x_ix, i1, i2]
    · have eS : S ++ [Cell.lst [strD [], strD [32]], Cell.lst [strD [], strD [10]], .lst [strD [32], strD [10], strD [32, 32], strD [32, 10, 32], strD [32], strD [10]]] = S2 ++ [.lst [strD [32], strD [10], strD [32, 32], strD [32, 10, 32], strD [32], strD [10]]] := by rw [← hS2, ← hS1]; simp
      rw [eS]
      exact at_end
/-- one word, loosely -/
theorem loose_step {S : Store} {r s : Nat} {ns : List Int} {a : Int} {pre rest : List (List Nat)} {l acc : List Nat} {x4 x5 : Option D} (h : S[r]? = some (.lst (tok (pre ++ l :: rest)))) (hs : S[s]? = some (uC ns a)) (hrs : r ≠ s) (ha : 0 ≤ a) (ha2 : a ≤ 200000) (hp : ∀ y ∈ pre, Tk y) (hl : Tk l) (hz : acc.length + l.length + 3 ≤ 16777216) :
    ∃ u S' y4 y5, b__law_text_0 [some (.ref r), some (.ref s), some (strD acc), some (.int (pre.length : Int)), x4, x5] S = .ok (.nx, [some (.ref r), some (.ref s), some (strD (acc ++ u ++ l)), some (.int (pre.length : Int)), y4, y5]) S' ∧ (∀ c ∈ u, c = 32 ∨ c = 10) ∧ (u = [] → pl pre.getLast? = false ∨ l = [40] ∨ l = [41]) ∧ u.length ≤ 3 ∧ S'[s]? = some (uC ns (a + 1)) ∧ Fr s S S' := by
  obtain ⟨⟨y4, e1⟩, b, hb, e2⟩ := flag_eq (x1 := some (.ref s)) (x2 := some (strD acc)) (x4 := x4) (x5 := x5) h hp hl
  obtain ⟨X, q, u5, u6, e3, k3, hq, hu5, hu6, b5, b6, g5, g6⟩ := some_eq (S := S) (x0 := some (.ref r)) (x1 := some (.ref s)) (x2 := some (strD acc)) (x3 := some (.int (pre.length : Int))) (x5 := x5) b
  obtain ⟨S1, hS1⟩ : ∃ S1, S ++ X = S1 := ⟨_, rfl⟩
  rw [hS1] at e3 k3
  have s1 : S1[s]? = some (uC ns a) := by rw [← hS1]; exact at_app hs
  have r1 : S1[r]? = some (.lst (tok (pre ++ l :: rest))) := by rw [← hS1]; exact at_app h
  obtain ⟨y, hy, e4⟩ := next_u s1 ha ha2
  obtain ⟨S2, hS2⟩ : ∃ S2, S1.set s (uC ns (a + 1)) = S2 := ⟨_, rfl⟩
  rw [hS2] at e4
  have ls := lt_of_at hs
  have f2 : Fr s S1 S2 := by rw [← hS2]; exact Fr.set S1 _
  have q2 := f2.2 q _ k3 (by omega)
  have r2 := f2.2 r _ r1 hrs
  have i2 := tok_at r2
  have c6 : y % 6 = 0 ∨ y % 6 = 1 ∨ y % 6 = 2 ∨ y % 6 = 3 ∨ y % 6 = 4 ∨ y % 6 = 5 := by omega
  obtain ⟨u, hu, iu, hub, hue, hul⟩ : ∃ u, ixO S2 (.ref q) (.int (y % 6)) = some (strD u) ∧ True ∧ (∀ c ∈ u, c = 32 ∨ c = 10) ∧ (u = [] → b = true) ∧ u.length ≤ 3 := by
    rw [x_ixR (lstAt_of q2)]
    rcases c6 with c | c | c | c | c | c <;> rw [c]
    · exact ⟨[32], rfl, trivial, by simp, by simp, by simp⟩
    · exact ⟨[10], rfl, trivial, by simp, by simp, by simp⟩
    · exact ⟨[32, 32], rfl, trivial, by simp, by simp, by simp⟩
    · exact ⟨[32, 10, 32], rfl, trivial, by simp, by simp, by simp⟩
    · exact ⟨u5, rfl, trivial, hu5, b5, by omega⟩
    · exact ⟨u6, rfl, trivial, hu6, b6, by omega⟩
  have hA : addD (strD acc) (strD u) S2 = .ok (strD (acc ++ u)) S2 := addS (by omega) S2
  have hB : addD (strD (acc ++ u)) (strD l) S2 = .ok (strD (acc ++ u ++ l)) S2 := addS (by rw [List.length_append]; omega) S2
  refine ⟨u, S2, some (.bl b), some (.ref q), ?_, hub, fun e => hb (hue e), hul, by rw [← hS2]; exact get_set_at s1, ?_⟩
  · rw [b_text_eq]
    simp only [x_seqS, e1]
    simp [e2, e3]
    simp only [putM]
    simp [e4, x_ix, hu, hA, i2, hB]
  · have f1 : Fr s S S1 := by rw [← hS1]; exact Fr.app s S X
    exact f1.trans f2
theorem loose_loop {r s : Nat} {ns : List Int} (hrs : r ≠ s) : ∀ (rest pre : List (List Nat)) (acc : List Nat) (a : Int) (S : Store) (x3 x4 x5 : Option D), S[r]? = some (.lst (tok (pre ++ rest))) → S[s]? = some (uC ns a) → 0 ≤ a → a + rest.length ≤ 200000 → (∀ y ∈ pre, Tk y) → (∀ y ∈ rest, Tk y) → MI acc pre (pl pre.getLast?) → acc.length + sumW rest + 3 * rest.length ≤ 16000000 →
    ∃ L S' y3 y4 y5 was, forL still (nameT 3) b__law_text_0 (intsD (List.range' pre.length rest.length)) [some (.ref r), some (.ref s), some (strD acc), x3, x4, x5] S = .ok (.nx, [some (.ref r), some (.ref s), some (strD L), y3, y4, y5]) S' ∧ MI L (pre ++ rest) was ∧ L.length ≤ acc.length + sumW rest + 3 * rest.length ∧ Fr s S S'
  | [], pre, acc, a, S, x3, x4, x5, _, _, _, _, _, _, hm, _ => ⟨acc, S, x3, x4, x5, _, by simp [intsD, forL_nil (chk := still) trivial], by simpa using hm, by simp [sumW], ⟨Nat.le_refl _, fun i c h _ => h⟩⟩
  | l :: rest, pre, acc, a, S, x3, x4, x5, h, hs, ha, ha2, hp, hr, hm, hz => by
    have e0 : sumW (l :: rest) = l.length + sumW rest := by simp [sumW]
    rw [e0, List.length_cons] at hz
    rw [List.length_cons] at ha2
    have hl := hr l List.mem_cons_self
    obtain ⟨u, S1, y4, y5, e1, hu, hue, hul, s1, f1⟩ := loose_step (acc := acc) (x4 := x4) (x5 := x5) h hs hrs ha (by omega) hp hl (by omega)
    have hm1 := step_MI hm hl hu hue
    have hg : (pre ++ [l]).getLast? = some l := by simp
    obtain ⟨L, S2, z3, z4, z5, was, e2, m2, l2, f2⟩ := loose_loop hrs rest (pre ++ [l]) (acc ++ u ++ l) (a + 1) S1 (some (.int (pre.length : Int))) y4 y5 (by rw [List.append_assoc]; exact f1.2 r _ h hrs) s1 (by omega) (by omega) (fun y hy => by
      rcases List.mem_append.mp hy with hy | hy
      · exact hp y hy
      · rw [List.mem_singleton.mp hy]; exact hl) (fun y hy => hr y (List.mem_cons_of_mem _ hy)) (by rw [hg]; exact hm1) (by simp; omega)
    refine ⟨L, S2, z3, z4, z5, was, ?_, by simpa using m2, ?_, f1.trans f2⟩
    · have ei : intsD (List.range' pre.length (l :: rest).length) = .int (pre.length : Int) :: intsD (List.range' (pre ++ [l]).length rest.length) := by
        rw [List.length_cons, List.range'_succ]
        simp [intsD]
      rw [ei, forL_cons (chk := still) trivial]
      simp [e1]
      simpa using e2
    · rw [e0, List.length_cons]
      simp at l2
      omega
theorem loose_eq {x : Nt} (hx : x.ok) (hz : x.ws.length ≤ 100000) {S : Store} {r s : Nat} {ns : List Int} (h : S[r]? = some (.lst (tok x.ws))) (hs : S[s]? = some (uC ns 7)) (hrs : r ≠ s) : ∃ L S' was, F__law_text [.ref r, .ref s] S = .ok (strD L) S' ∧ MI L x.ws was ∧ L.length ≤ sumW x.ws + 3 * x.ws.length ∧ Fr s S S' := by
  have hs2 := sum_tk _ (x.tks hx)
  obtain ⟨L, S', y3, y4, y5, was, e, m, l, f⟩ := loose_loop hrs x.ws [] [] 7 S none none none (by simpa using h) hs (by omega) (by omega) (fun y hy => by simp at hy) (x.tks hx) MI_nil (by simp; omega)
  obtain ⟨e1, e2⟩ := rng_tok h rfl hz
  simp only [List.length_nil] at e
  refine ⟨L, S', was, ?_, by simpa using m, by simpa using l, f⟩
  simp only [F__law_text, m__law_text, N__law_text, x_bodyF, startL]
  simp [e1, e2, noD, e]
end K05

set_option Elab.async false
set_option linter.all false
set_option maxRecDepth 100000
set_option autoImplicit false
namespace K05
open PySem PySem.Spec L2 ML
/-! ### brackets in the store -/
mutual
def NA (lo : Nat) (S : Store) : Nt → D → Prop
  | .w l, e => e = strD l
  | .l xs, e => ∃ q ds, e = .ref q ∧ lo ≤ q ∧ S[q]? = some (.lst ds) ∧ NAs lo S xs ds
def NAs (lo : Nat) (S : Store) : List Nt → List D → Prop
  | [], ds => ds = []
  | x :: xs, ds => ∃ d r, ds = d :: r ∧ NA lo S x d ∧ NAs lo S xs r
end
mutual
theorem NA.mono {lo lo' : Nat} {S T : Store} (hl : lo' ≤ lo) (f : ∀ (i : Nat) (c : Cell), lo ≤ i → S[i]? = some c → T[i]? = some c) : ∀ (x : Nt) (e : D), NA lo S x e → NA lo' T x e
  | .w l, e, h => by
    rw [NA] at h ⊢
    exact h
  | .l xs, e, h => by
    rw [NA] at h ⊢
    obtain ⟨q, ds, rfl, h1, h2, h3⟩ := h
    exact ⟨q, ds, rfl, by omega, f q _ h1 h2, NAs.mono hl f xs ds h3⟩
theorem NAs.mono {lo lo' : Nat} {S T : Store} (hl : lo' ≤ lo) (f : ∀ (i : Nat) (c : Cell), lo ≤ i → S[i]? = some c → T[i]? = some c) : ∀ (xs : List Nt) (ds : List D), NAs lo S xs ds → NAs lo' T xs ds
  | [], ds, h => by
    rw [NAs] at h ⊢
    exact h
  | x :: xs, ds, h => by
    rw [NAs] at h ⊢
    obtain ⟨d, r, rfl, h1, h2⟩ := h
    exact ⟨d, r, rfl, NA.mono hl f x d h1, NAs.mono hl f xs r h2⟩
end
theorem NAs.len {lo : Nat} {S : Store} : ∀ {xs : List Nt} {ds : List D}, NAs lo S xs ds → ds.length = xs.length
  | [], ds, h => by rw [NAs] at h; subst h; rfl
  | x :: xs, ds, h => by
    rw [NAs] at h
    obtain ⟨d, r, rfl, _, h2⟩ := h
    rw [List.length_cons, List.length_cons, NAs.len h2]
theorem last_ix {S : Store} {rr : Nat} {refs : List D} {d : D} (h : S[rr]? = some (.lst (refs ++ [d]))) : ixO S (.ref rr) (.int (-1)) = some d := by
  rw [x_ixR (lstAt_of h)]
  unfold atI ixN
  have e : (-1 + ((refs.length : Int) + 1)).toNat = refs.length := by omega
  have e2 : (1 : Int) ≤ (refs.length : Int) + 1 := by omega
  simp [e, e2]
/-- what the rest of a walk is -/
def Goes (wq rr r : Nat) (all refs : List D) (x0 : Option D) (ws : List (List Nat)) (S : Store) (ds es : List D) (P : Store → List D → Prop) : Prop :=
  ∃ S', (∀ (x2 x3 : Option D), ∃ y2 y3, ∀ rest, forL (fun S' => lstAt S' wq = some all) (nameT 2) b_nested_0 (tok ws ++ rest) [x0, some (.ref rr), x2, x3] S = forL (fun S' => lstAt S' wq = some all) (nameT 2) b_nested_0 rest [x0, some (.ref rr), y2, y3] S') ∧
    S'[rr]? = some (.lst (refs ++ [.ref r])) ∧ S'[r]? = some (.lst (ds ++ es)) ∧ P S' es ∧ S.length ≤ S'.length ∧ ∀ (i : Nat) (c : Cell), S[i]? = some c → i ≠ rr → i ≠ r → S'[i]? = some c
theorem word_step {x0 x3 : Option D} {S : Store} {rr r : Nat} {refs ds : List D} {l : List Nat} (hl : Wd l) (h1 : S[rr]? = some (.lst (refs ++ [.ref r]))) (h2 : S[r]? = some (.lst ds)) (hz : ds.length ≤ 1000000) : b_nested_0 [x0, some (.ref rr), some (strD l), x3] S = .ok (.nx, [x0, some (.ref rr), some (strD l), x3]) (S.set r (.lst (ds ++ [strD l]))) := by
  have n := hl.ne
  have e := x_append (d := strD l) (lstAt_of h2) (by omega)
  have i := last_ix h1
  simp [b_nested_0, eq_lp, eq_rp, n.1, n.2, x_ix, i, lstAt_of h2, e]
theorem open_step {x0 x3 : Option D} {S : Store} {rr r : Nat} {refs : List D} (h1 : S[rr]? = some (.lst (refs ++ [.ref r]))) (hz : refs.length ≤ 1000000) : b_nested_0 [x0, some (.ref rr), some (strD [40]), x3] S = .ok (.nx, [x0, some (.ref rr), some (strD [40]), x3]) ((S ++ [Cell.lst []]).set rr (Cell.lst (refs ++ [D.ref r] ++ [D.ref S.length]))) := by
  have h1' : (S ++ [Cell.lst []])[rr]? = some (.lst (refs ++ [.ref r])) := at_app h1
  have e := x_append (d := .ref S.length) (lstAt_of h1') (by simp; omega)
  simp only [b_nested_0]
  simp [eq_lp, sz, lstAt_of h1]
  simp at e
  simp [e]
theorem close_step {x0 x3 : Option D} {S : Store} {rr r q : Nat} {refs ds : List D} (h1 : S[rr]? = some (.lst (refs ++ [.ref r] ++ [.ref q]))) (h2 : S[r]? = some (.lst ds)) (hr : rr ≠ r) (hz : ds.length ≤ 1000000) : b_nested_0 [x0, some (.ref rr), some (strD [41]), x3] S = .ok (.nx, [x0, some (.ref rr), some (strD [41]), some (.ref q)]) ((S.set rr (Cell.lst (refs ++ [D.ref r])) ++ [Cell.lst []]).set r (Cell.lst (ds ++ [D.ref q]))) := by
  have e1 := x_pop (lstAt_of h1)
  obtain ⟨S1, hS1⟩ : ∃ S1, S.set rr (.lst (refs ++ [.ref r])) = S1 := ⟨_, rfl⟩
  rw [hS1] at e1 ⊢
  have k1 : S1[rr]? = some (.lst (refs ++ [.ref r])) := by rw [← hS1]; exact get_set_at h1
  have d1 : S1[r]? = some (.lst ds) := by rw [← hS1, get_set_ne hr]; exact h2
  obtain ⟨S2, hS2⟩ : ∃ S2, S1 ++ [Cell.lst []] = S2 := ⟨_, rfl⟩
  have k2 : S2[rr]? = some (.lst (refs ++ [.ref r])) := by rw [← hS2]; exact at_app k1
  have d2 : S2[r]? = some (.lst ds) := by rw [← hS2]; exact at_app d1
  have n2 : S2[S1.length]? = some (.lst []) := by rw [← hS2]; exact at_end
  have e2 := x_eqLne k2 n2 (by simp)
  have i2 := last_ix k2
  have e3 := x_append (d := .ref q) (lstAt_of d2) (by omega)
  rw [hS2]
  simp only [b_nested_0]
  simp [eq_lp, eq_rp, sz, lstAt_of h1, e1, hS2, e2, x_ix, i2, lstAt_of d2, e3]
mutual
theorem nest_x {wq rr : Nat} {all : List D} {x0 : Option D} : ∀ (x : Nt), x.ok → ∀ (S : Store) (r : Nat) (refs ds : List D), lstAt S wq = some all → S[rr]? = some (.lst (refs ++ [.ref r])) → S[r]? = some (.lst ds) → wq ≠ rr → wq ≠ r → rr ≠ r → ds.length + x.ws.length ≤ 900000 → refs.length + x.ws.length ≤ 900000 →
    ∃ e, Goes wq rr r all refs x0 x.ws S ds [e] fun S' _ => NA S.length S' x e
  | .w l, hx, S, r, refs, ds, hk, h1, h2, n1, n2, n3, z1, z2 => by
    have e := fun x3 => word_step (x0 := x0) (x3 := x3) (show Wd l from hx) h1 h2 (by omega)
    refine ⟨strD l, S.set r (.lst (ds ++ [strD l])), fun x2 x3 => ⟨some (strD l), x3, fun rest => ?_⟩, by rw [get_set_ne (Ne.symm n3)]; exact h1, get_set_at h2, by show NA _ _ (.w l) _; rw [NA], by simp, fun i c hc a b => by rw [get_set_ne (Ne.symm b)]; exact hc⟩
    have et : tok (Nt.w l).ws ++ rest = strD l :: rest := by rw [Nt.ws]; rfl
    rw [et, forL_cons hk]
    simp [e]
  | .l xs, hx, S, r, refs, ds, hk, h1, h2, n1, n2, n3, z1, z2 => by
    rw [l_ws] at z1 z2
    have e1 := fun x3 => open_step (x0 := x0) (x3 := x3) h1 (by omega)
    have lr := lt_of_at h1
    have ld := lt_of_at h2
    obtain ⟨S1, hS1⟩ : ∃ S1, (S ++ [Cell.lst []]).set rr (.lst (refs ++ [.ref r] ++ [.ref S.length])) = S1 := ⟨_, rfl⟩
    rw [hS1] at e1
    have lS1 : S1.length = S.length + 1 := by rw [← hS1]; simp
    have f1 : ∀ (i : Nat) (c : Cell), S[i]? = some c → i ≠ rr → S1[i]? = some c := fun i c hc a => by rw [← hS1, get_set_ne (Ne.symm a)]; exact at_app hc
    have k1 : S1[rr]? = some (.lst ((refs ++ [.ref r]) ++ [.ref S.length])) := by rw [← hS1]; exact get_set_at (at_app h1)
    have m1 : S1[S.length]? = some (.lst []) := by rw [← hS1, get_set_ne (by omega)]; exact at_end
    have hk1 : lstAt S1 wq = some all := lstAt_of (f1 wq _ (lstAt_some hk) n1)
    have lw := lt_of_at (lstAt_some hk)
    obtain ⟨es, S2, e2, k2, m2, na2, l2, f2⟩ := nest_xs (x0 := x0) xs hx S1 S.length (refs ++ [.ref r]) [] hk1 k1 m1 n1 (by omega) (by omega) (by simp; omega) (by simp; omega)
    rw [List.nil_append] at m2
    have d2 : S2[r]? = some (.lst ds) := f2 r _ (f1 r _ h2 (Ne.symm n3)) (Ne.symm n3) (by omega)
    have e3 := fun x3 => close_step (x0 := x0) (x3 := x3) k2 d2 n3 (by omega)
    obtain ⟨S3, hS3⟩ : ∃ S3, (S2.set rr (.lst (refs ++ [.ref r])) ++ [Cell.lst []]).set r (.lst (ds ++ [.ref S.length])) = S3 := ⟨_, rfl⟩
    rw [hS3] at e3
    have hk2 : lstAt S2 wq = some all := lstAt_of (f2 wq _ (lstAt_some hk1) n1 (by omega))
    have f3 : ∀ (i : Nat) (c : Cell), S2[i]? = some c → i ≠ rr → i ≠ r → S3[i]? = some c := fun i c hc a b => by rw [← hS3, get_set_ne (Ne.symm b)]; exact at_app (by rw [get_set_ne (Ne.symm a)]; exact hc)
    have d2' : (S2.set rr (.lst (refs ++ [.ref r])) ++ [Cell.lst []])[r]? = some (.lst ds) := at_app (by rw [get_set_ne n3]; exact d2)
    refine ⟨.ref S.length, S3, fun x2 x3 => ?_, ?_, by rw [← hS3]; exact get_set_at d2', ?_, by rw [← hS3]; simp; omega, fun i c hc a b => f3 i c (f2 i c (f1 i c hc a) a (by have := lt_of_at hc; omega)) a b⟩
    · obtain ⟨y2, y3, e2⟩ := e2 (some (strD [40])) x3
      refine ⟨some (strD [41]), some (.ref S.length), fun rest => ?_⟩
      have et : tok (Nt.l xs).ws ++ rest = strD [40] :: (tok (wss xs) ++ (strD [41] :: rest)) := by rw [Nt.ws]; simp [tok]
      rw [et, forL_cons hk]
      simp [e1]
      rw [e2, forL_cons hk2]
      simp [e3]
    · rw [← hS3, get_set_ne (Ne.symm n3)]
      exact at_app (get_set_at k2)
    · show NA S.length S3 (.l xs) (.ref S.length)
      rw [NA]
      refine ⟨S.length, es, rfl, Nat.le_refl _, f3 _ _ m2 (by omega) (by omega), NAs.mono (lo := S1.length) (by omega) (fun i c hi hc => f3 i c hc (by omega) (by omega)) xs es na2⟩
theorem nest_xs {wq rr : Nat} {all : List D} {x0 : Option D} : ∀ (xs : List Nt), oks xs → ∀ (S : Store) (r : Nat) (refs ds : List D), lstAt S wq = some all → S[rr]? = some (.lst (refs ++ [.ref r])) → S[r]? = some (.lst ds) → wq ≠ rr → wq ≠ r → rr ≠ r → ds.length + (wss xs).length ≤ 900000 → refs.length + (wss xs).length ≤ 900000 →
    ∃ es, Goes wq rr r all refs x0 (wss xs) S ds es fun S' es => NAs S.length S' xs es
  | [], _, S, r, refs, ds, hk, h1, h2, n1, n2, n3, z1, z2 => ⟨[], S, fun x2 x3 => ⟨x2, x3, fun rest => by rw [wss]; rfl⟩, h1, by simpa using h2, by show NAs _ _ [] []; rw [NAs], Nat.le_refl _, fun i c hc _ _ => hc⟩
  | x :: xs, hx, S, r, refs, ds, hk, h1, h2, n1, n2, n3, z1, z2 => by
    rw [c_ws] at z1 z2
    have wp := ws_pos x
    obtain ⟨e, S1, e1, k1, m1, na1, l1, f1⟩ := nest_x (x0 := x0) x hx.1 S r refs ds hk h1 h2 n1 n2 n3 (by omega) (by omega)
    have hk1 : lstAt S1 wq = some all := lstAt_of (f1 wq _ (lstAt_some hk) n1 n2)
    obtain ⟨es, S2, e2, k2, m2, na2, l2, f2⟩ := nest_xs (x0 := x0) xs hx.2 S1 r refs (ds ++ [e]) hk1 k1 m1 n1 n2 n3 (by simp; omega) (by omega)
    have lr := lt_of_at h1
    have ld := lt_of_at h2
    refine ⟨e :: es, S2, fun x2 x3 => ?_, k2, by simpa using m2, ?_, by omega, fun i c hc a b => f2 i c (f1 i c hc a b) a b⟩
    · obtain ⟨y2, y3, e1⟩ := e1 x2 x3
      obtain ⟨z2, z3, e2⟩ := e2 y2 y3
      refine ⟨z2, z3, fun rest => ?_⟩
      have et : tok (wss (x :: xs)) ++ rest = tok x.ws ++ (tok (wss xs) ++ rest) := by rw [wss, tok_app, List.append_assoc]
      rw [et, e1, e2]
    · show NAs S.length S2 (x :: xs) (e :: es)
      rw [NAs]
      exact ⟨e, es, rfl, NA.mono (Nat.le_refl _) (fun i c hi hc => f2 i c hc (by omega) (by omega)) x e na1, NAs.mono l1 (fun i c _ hc => hc) xs es na2⟩
end
theorem nested_eq {x : Nt} (hx : x.ok) (hz : x.ws.length ≤ 100000) {S : Store} {wq : Nat} (h : S[wq]? = some (.lst (tok x.ws))) : ∃ S' e, F_nested [.ref wq] S = .ok e S' ∧ NA S.length S' x e ∧ S.length ≤ S'.length ∧ ∀ (i : Nat) (c : Cell), S[i]? = some c → S'[i]? = some c := by
  have lw := lt_of_at h
  obtain ⟨S1, hS1⟩ : ∃ S1, S ++ [Cell.lst []] = S1 := ⟨_, rfl⟩
  have l1 : S1.length = S.length + 1 := by rw [← hS1]; simp
  obtain ⟨S2, hS2⟩ : ∃ S2, S1 ++ [Cell.lst [.ref S.length]] = S2 := ⟨_, rfl⟩
  have l2 : S2.length = S.length + 2 := by rw [← hS2]; simp; omega
  have r2 : S2[S1.length]? = some (.lst ([] ++ [.ref S.length])) := by rw [← hS2]; exact at_end
  have z2 : S2[S.length]? = some (.lst []) := by rw [← hS2, ← hS1]; exact at_app at_end
  have w2 : S2[wq]? = some (.lst (tok x.ws)) := by rw [← hS2, ← hS1]; exact at_app (at_app h)
  obtain ⟨e, S3, e3, k3, m3, na, l3, f3⟩ := nest_x (x0 := some (.ref wq)) x hx S2 S.length [] [] (lstAt_of w2) r2 z2 (by omega) (by omega) (by omega) (by simp; omega) (by simp; omega)
  obtain ⟨y2, y3, e3⟩ := e3 none none
  have e3 := e3 []
  rw [List.append_nil, forL_nil (lstAt_of (f3 wq _ w2 (by omega) (by omega)))] at e3
  have es := x_srcR w2
  refine ⟨S3, e, ?_, NA.mono (lo := S2.length) (by omega) (fun i c _ hc => hc) x e na, by omega, fun i c hc => f3 i c (by rw [← hS2, ← hS1]; exact at_app (at_app hc)) (by have := lt_of_at hc; omega) (by have := lt_of_at hc; omega)⟩
  rw [List.nil_append] at k3 m3
  have i0 : ixO S3 (.ref S1.length) (.int 0) = some (.ref S.length) := by rw [x_ixR (lstAt_of k3)]; rfl
  have i1 : ixO S3 (.ref S.length) (.int 0) = some e := by rw [x_ixR (lstAt_of m3)]; rfl
  have n0 : lenV [.ref S1.length] S3 = .ok (.int 1) S3 := by rw [x_lenR (lstAt_of k3)]; rfl
  have n1 : lenV [.ref S.length] S3 = .ok (.int 1) S3 := by rw [x_lenR (lstAt_of m3)]; rfl
  simp only [F_nested, m_nested, N_nested, x_bodyF, startL]
  simp [sz, hS1, hS2, es, e3, n0, n1, x_ix, i0, i1]
end K05

set_option Elab.async false
set_option linter.all false
set_option maxRecDepth 100000
set_option autoImplicit false
namespace K05
open PySem PySem.Spec L2 ML
/-! ### reading words -/
theorem dig_snoc {m : Nat} (h : 10 ≤ m) : ∃ c, dig m = dig (m / 10) ++ [c] := by
  have hm : m % 10 < 10 := Nat.mod_lt m (by decide)
  have t : Nat.toDigits 10 (m / 10) ++ Nat.toDigits 10 (m % 10) = Nat.toDigits 10 (10 * (m / 10) + m % 10) := Nat.toDigits_append_toDigits (by decide) (by omega) hm
  rw [Nat.div_add_mod, Nat.toDigits_of_lt_base hm] at t
  unfold dig
  rw [← t, List.map_append]
  exact ⟨_, rfl⟩
theorem dig_small {m : Nat} (h : m < 10) : dig m = [48 + m] := by
  unfold dig
  rw [Nat.toDigits_of_lt_base h]
  have : ∀ d : Nat, d < 10 → [(Nat.digitChar d).toNat] = [48 + d] := by decide
  exact this m h
theorem dig_head (m : Nat) (hm : 0 < m) : ∃ c r, dig m = c :: r ∧ c ≠ 48 := by
  induction m using Nat.strongRecOn with
  | _ m ih =>
    by_cases h : m < 10
    · exact ⟨48 + m, [], dig_small h, by omega⟩
    · obtain ⟨d, e⟩ := dig_snoc (m := m) (by omega)
      obtain ⟨c, r, e2, n⟩ := ih (m / 10) (by omega) (by omega)
      exact ⟨c, r ++ [d], by rw [e, e2]; rfl, n⟩
theorem dig_len (k : Nat) : ∀ m : Nat, m < 10 ^ (k + 1) → (dig m).length ≤ k + 1 := by
  induction k with
  | zero => intro m h; rw [dig_small (by omega)]; simp
  | succ k ih =>
    intro m h
    by_cases q : m < 10
    · rw [dig_small q]; simp
    · obtain ⟨d, e⟩ := dig_snoc (m := m) (by omega)
      have := ih (m / 10) (by rw [Nat.pow_succ] at h; omega)
      rw [e]
      simp
      omega
theorem eq_cs (a : List Nat) (z : Str) (S : Store) : eqD (strD a) (.str z) S = .ok (decide (a = cs z)) S := by
  show eqD (.str (mkS a)) (.str z) S = _
  rw [x_eqT]
  congr 1
  exact decide_eq_decide.mpr ⟨fun h => by rw [← h, cs_mkS], fun h => cs_ext (by rw [cs_mkS]; exact h)⟩
theorem c0 : cs (Str.ofString "0") = [48] := by rw [cs_of]; rfl
theorem c9 : cs (Str.ofString "9") = [57] := by rw [cs_of]; rfl
theorem cMi : cs (Str.ofString "-") = [45] := by rw [cs_of]; rfl
def dgt (c : Nat) : Bool := !decide (c < 48) && !decide (57 < c)
theorem digits_comp {f : List Nat} (hf : f.length ≤ 1000) (x0 x1 x2 : Option D) (S : Store) : compL still (.one 3) yesM (toV (chainM leD leD (conE (.str (Str.ofString "0"))) (varE 3) (conE (.str (Str.ofString "9"))))) [x0, x1, x2, none] (f.map sgn) [] S = .ok (f.map fun c => .bl (dgt c)) S := by
  rw [compL_mapG sgn (fun c => .bl (dgt c)) f]
  · intro c hc
    unfold dgt
    by_cases h1 : c < 48
    · simp [c0, c9, lt1, h1]
    · by_cases h2 : 57 < c <;> simp [c0, c9, lt1, h1, h2]
  · rw [sz]; omega
theorem src_strD (f : List Nat) (S : Store) : srcD (strD f) S = .ok (f.map sgn, still) S := rfl
noncomputable def tNum : MS := seqS (ifS (orM (notM (chainM leD leD (conE (.int 1)) (newL lenV (consA (varE 1) (nilA))) (conE (.int 13)))) (notM (ofV (newL allL (compN (srcV (varE 1)) (.one 3) (yesM) (toV (chainM leD leD (conE (.str (Str.ofString "0"))) (varE 3) (conE (.str (Str.ofString "9")))))))))) (retS (conE .non)) (nilS)) (seqS (ifS (andM (cmpM eqD (binE ixD (varE 1) (conE (.int 0))) (conE (.str (Str.ofString "0")))) (cmpM neD (varE 0) (conE (.str (Str.ofString "0"))))) (retS (conE .non)) (nilS)) (seqS (setS 2 (newL intX (consA (varE 0) (nilA)))) (seqS (ifS (notM (ofV (callE 1 F_is_number (consA (varE 2) (nilA))))) (retS (conE .non)) (nilS)) (retS (varE 2)))))
theorem m_num_eq : m_number_of = seqS (setS 1 (varE 0)) (seqS (ifS (cmpM eqD (sliceE (varE 0) (noO) (someO (conE (.int 1)))) (conE (.str (Str.ofString "-")))) (setS 1 (sliceE (varE 0) (someO (conE (.int 1))) (noO))) (nilS)) tNum) := rfl
theorem num_start {l f : List Nat} (hl : l.length ≤ 20) (h : (l.take 1 = [45] ∧ f = l.drop 1) ∨ (l.take 1 ≠ [45] ∧ f = l)) (S : Store) : m_number_of [some (strD l), none, none, none] S = tNum [some (strD l), some (strD f), none, none] S := by
  have e1 : sliceD (strD l) none (some 1) S = .ok (strD (l.take 1)) S := x_slTake (k := 1) (by omega)
  have e2 : sliceD (strD l) (some 1) none S = .ok (strD (l.drop 1)) S := x_slDrop (k := 1) (by omega)
  rw [m_num_eq]
  rcases h with ⟨h, rfl⟩ | ⟨h, rfl⟩
  · simp [e1, eq_cs, cMi, h, e2]
  · simp [e1, eq_cs, cMi, h]
theorem number_no {z : Str} (h : NmOk z) (S : Store) : F_number_of [.str z] S = .ok .non S := by
  rw [strC]
  obtain ⟨k1, k2, k3⟩ := h
  obtain ⟨l, hzl⟩ : ∃ l, cs z = l := ⟨_, rfl⟩
  rw [hzl] at k1 k2 k3 ⊢
  obtain ⟨c, r, e⟩ := List.exists_cons_of_length_pos (show 0 < l.length from k1)
  have hc := k3 c (by rw [e]; exact List.mem_cons_self)
  have hl := k2
  have hs := num_start (l := l) (f := l) (by omega) (.inr ⟨by rw [e]; simp; omega, rfl⟩) S
  have ec := digits_comp (f := l) (by omega) (some (strD l)) (some (strD l)) none S
  have ea := allL_map dgt l S
  have ef : l.all dgt = false := by
    rw [e, List.all_cons]
    have : dgt c = false := by
      unfold dgt
      rw [decide_eq_true (show 57 < c by omega)]
      simp
    rw [this]
    rfl
  rw [ef] at ea
  simp only [F_number_of, N_number_of, x_bodyF, startL]
  simp only [List.map_cons, List.map_nil, List.length_cons, List.length_nil, List.cons_append, List.nil_append]
  have hs' : m_number_of ([some (strD l)] ++ List.replicate (0 + 1 + 1 + 1 + 1 - (0 + 1)) none) S = tNum [some (strD l), some (strD l), none, none] S := hs
  simp only [List.cons_append, List.nil_append] at hs'
  rw [hs']
  have len := x_lenD (w := l) (S := S) (by omega)
  simp [tNum, len, show (1 : Int) ≤ (l.length : Int) by omega, show (l.length : Int) ≤ 13 by omega, src_strD, Tgt.own, wipeL, ec, ea]
theorem number_yes {i : Int} (h1 : -1000000000000 ≤ i) (h2 : i ≤ 1000000000000) (S : Store) : F_number_of [strD (cs (Str.ofString (toString i)))] S = .ok (.int i) S := by
  obtain ⟨l, hl⟩ : ∃ l, cs (Str.ofString (toString i)) = l := ⟨_, rfl⟩
  have h20 := num_len h1 h2
  rw [hl] at h20 ⊢
  obtain ⟨m, hm⟩ : ∃ m, i.natAbs = m := ⟨_, rfl⟩
  have hn := num_cs i
  rw [hm, hl] at hn
  obtain ⟨d1, d2⟩ := dig_ok m
  have d3 := dig_len 12 m (by omega)
  have hp := List.length_pos_iff.mpr d1
  have hs : m_number_of [some (strD l), none, none, none] S = tNum [some (strD l), some (strD (dig m)), none, none] S := by
    refine num_start h20 ?_ S
    by_cases q : i < 0
    · rw [if_pos q] at hn
      exact .inl ⟨by rw [hn]; rfl, by rw [hn]; rfl⟩
    · rw [if_neg q] at hn
      refine .inr ⟨fun e => ?_, hn.symm⟩
      obtain ⟨c, r, e2⟩ := List.exists_cons_of_length_pos hp
      have := d2 c (by rw [e2]; exact List.mem_cons_self)
      rw [hn, e2] at e
      simp at e
      omega
  have hi : PySem.intText? (mkS l) = some i := by
    have hd : PySem.NumText.AllDigits (dig m) := d2
    have hv : PySem.NumText.digitsVal (dig m) = m := PySem.W.KIN.val_back m
    by_cases q : i < 0
    · rw [if_pos q] at hn
      have := PySem.intText_neg (x := mkS l) (cs := dig m) (by show cs (mkS l) = _; rw [cs_mkS, hn]) hd d1 (by rw [mkS_len]; omega)
      rw [this, hv]
      congr 1
      omega
    · rw [if_neg q] at hn
      have e3 : (mkS l).cps.toList = dig m := by show cs (mkS l) = _; rw [cs_mkS, hn]
      have := PySem.intText_digits (x := mkS l) (by rw [e3]; exact hd) (by rw [e3]; exact d1) (by rw [mkS_len]; omega)
      rw [this, e3, hv]
      congr 1
      omega
  have hx : intX [strD l] S = .ok (.int i) S := x_intX (z := mkS l) hi (by rw [mkS_len]; omega)
  have hnum := is_number_eq h1 h2 S
  have ec := digits_comp (f := dig m) (by omega) (some (strD l)) (some (strD (dig m))) none S
  have ea := allL_map dgt (dig m) S
  have ef : (dig m).all dgt = true := List.all_eq_true.mpr fun c hc => by
    have := d2 c hc
    unfold dgt
    simp
    omega
  rw [ef] at ea
  have len := x_lenD (w := dig m) (S := S) (by omega)
  simp only [F_number_of, N_number_of, x_bodyF, startL]
  have hs' : m_number_of ([some (strD l)] ++ List.replicate (4 - 1) none) S = tNum [some (strD l), some (strD (dig m)), none, none] S := hs
  simp only [List.map_cons, List.map_nil, List.length_cons, List.length_nil]
  rw [show (0 + 1 + 1 + 1 + 1 - (0 + 1)) = 4 - 1 from rfl, hs']
  by_cases q : m = 0
  · have hi0 : i = 0 := by omega
    have hl2 : l = [48] := by rw [hn, if_neg (by omega), q, dig_small (by omega)]
    have hd0 : dig m = [48] := by rw [q, dig_small (by omega)]
    rw [hd0] at ec ea len ⊢
    rw [hl2] at hx ec ⊢
    have i0 : ixO S (strD [48]) (.int 0) = some (sgn 48) := rfl
    have e4 : eqD (sgn 48) (.str (Str.ofString "0")) S = .ok true S := by rw [← strD_one, eq_cs, c0]; rfl
    simp at ec ea len
    simp [tNum, len, src_strD, Tgt.own, wipeL, ec, ea, x_ix, i0, e4, x_neD, c0, hx, hnum]
  · obtain ⟨c, r, e, n⟩ := dig_head m (by omega)
    have i0 : ixO S (strD (dig m)) (.int 0) = some (sgn c) := by
      rw [e]
      show (if (mkS (c :: r)).length ≤ sizeLine then (atI (cs (mkS (c :: r))) 0).map sgn else none) = _
      rw [mkS_len, if_pos (by rw [← e, sz]; omega), cs_mkS]
      unfold atI ixN
      simp
    have e4 : eqD (sgn c) (.str (Str.ofString "0")) S = .ok false S := by
      rw [← strD_one, eq_cs, c0]
      simp [n]
    simp [tNum, len, show (1 : Int) ≤ ((dig m).length : Int) by omega, show ((dig m).length : Int) ≤ 13 by omega, src_strD, Tgt.own, wipeL, ec, ea, x_ix, i0, e4, hx, hnum]
theorem simple_num {i : Int} (h1 : -1000000000000 ≤ i) (h2 : i ≤ 1000000000000) (S : Store) : F_simple_term [strD (cs (Str.ofString (toString i)))] S = .ok (.tup [w "number", .int i]) S := by
  have e := number_yes h1 h2 S
  have e2 : isNotD (.int i) .non S = .ok true S := rfl
  obtain ⟨l, hl⟩ : ∃ l, cs (Str.ofString (toString i)) = l := ⟨_, rfl⟩
  rw [hl] at e ⊢
  simp [F_simple_term, m_simple_term, N_simple_term, startL, e, e2, sz]
theorem simple_nam {z : Str} (h : NmOk z) (S : Store) : F_simple_term [strD (cs z)] S = .ok (.tup [w "name", .str z]) S := by
  have e := number_no h S
  have e2 : isNotD .non .non S = .ok false S := rfl
  have e3 := is_name_eq h S
  rw [← strC]
  simp [F_simple_term, m_simple_term, N_simple_term, startL, e, e2, e3, sz]
end K05

set_option Elab.async false
set_option linter.all false
set_option maxRecDepth 100000
set_option autoImplicit false
namespace K05
open PySem PySem.Spec L2 ML
/-! ### reading brackets -/
theorem NA.app {lo : Nat} {S : Store} {x : Nt} {e : D} (h : NA lo S x e) (X : Store) : NA lo (S ++ X) x e := NA.mono (Nat.le_refl _) (fun i c _ hc => at_app hc) x e h
theorem NAs.app {lo : Nat} {S : Store} {xs : List Nt} {ds : List D} (h : NAs lo S xs ds) (X : Store) : NAs lo (S ++ X) xs ds := NAs.mono (Nat.le_refl _) (fun i c _ hc => at_app hc) xs ds h
/-- a row as it stands -/
theorem NA.row {lo : Nat} {S : Store} {s : String} {xs : List Nt} {e : D} (h : NA lo S (.l (kwN s :: xs)) e) : ∃ q ds, e = .ref q ∧ S[q]? = some (.lst (w s :: ds)) ∧ NAs lo S xs ds := by
  rw [NA] at h
  obtain ⟨q, ds, rfl, _, h2, h3⟩ := h
  rw [NAs] at h3
  obtain ⟨d, r, rfl, h4, h5⟩ := h3
  rw [kwN, NA] at h4
  subst h4
  rw [show strD (cs (Str.ofString s)) = w s from (strC _).symm] at h2
  exact ⟨q, r, rfl, h2, h5⟩
theorem NAs.cons {lo : Nat} {S : Store} {x : Nt} {xs : List Nt} {ds : List D} (h : NAs lo S (x :: xs) ds) : ∃ d r, ds = d :: r ∧ NA lo S x d ∧ NAs lo S xs r := by
  rw [NAs] at h
  exact h
theorem NAs.none {lo : Nat} {S : Store} {ds : List D} (h : NAs lo S [] ds) : ds = [] := by
  rw [NAs] at h
  exact h
theorem NA.nm {lo : Nat} {S : Store} {z : Str} {e : D} (h : NA lo S (nmN z) e) : e = .str z := by
  rw [nmN, NA] at h
  rw [h, strC]
theorem need_eq {S : Store} {q : Nat} {s : String} {ds : List D} (h : S[q]? = some (.lst (w s :: ds))) (hd : ds ≠ []) : F_need_row [.ref q, .int 2] S = .ok .non S := by
  have l := x_lenR (S := S) (lstAt_of h)
  have i0 : ixO S (.ref q) (.int 0) = some (w s) := by rw [x_ixR (lstAt_of h)]; exact at0 _ _
  have hp := List.length_pos_iff.mpr hd
  have hn : ¬ (((w s :: ds).length : Nat) : Int) < 2 := by rw [List.length_cons]; omega
  obtain ⟨N, hN⟩ : ∃ N, (((w s :: ds).length : Nat) : Int) = N := ⟨_, rfl⟩
  rw [hN] at l hn
  simp [F_need_row, m_need_row, N_need_row, startL, kindO, h, isKind, l, hn, x_ix, i0]
theorem names_in_eq {ps : List Str} {lo : Nat} {S : Store} {e : D} (hl : ps.length ≤ 4) (h : NA lo S (.l (ps.map nmN)) e) : F_names_in [e] S = .ok (.tup (ps.map .str)) S := by
  rw [NA] at h
  obtain ⟨q, ds, rfl, _, h2, h3⟩ := h
  have hds : ∀ (ps : List Str) (ds : List D), NAs lo S (ps.map nmN) ds → ds = ps.map .str := fun ps => by
    induction ps with
    | nil => intro ds h; exact h.none
    | cons z ps ih =>
      intro ds h
      obtain ⟨d, r, rfl, h1, h2⟩ := NAs.cons h
      rw [List.map_cons, h1.nm, ih r h2]
  have e := hds ps ds h3
  subst e
  have es := x_srcR h2
  have ec : compL (fun S' => lstAt S' q = some (ps.map D.str)) (.one 1) yesM (toV (isE "str" (varE 1))) [some (.ref q), none] (ps.map D.str) [] S = .ok (ps.map fun _ => .bl true) S := by
    rw [compL_mapG D.str (fun _ => .bl true) ps (hk := lstAt_of h2)]
    · intro z hz
      simp [kindO, isKind]
    · rw [sz]; omega
  have ea := allL_map (fun _ : Str => true) ps S
  have et : tupV [.ref q] S = .ok (.tup (ps.map D.str)) S := by
    unfold tupV
    simp only [x_lstOfR, lstAt_of h2]
  simp [F_names_in, m_names_in, N_names_in, startL, kindO, h2, isKind, es, Tgt.own, wipeL, ec, ea, et]
/-- things read one behind the other -/
theorem comp_rd {Rl : D → Nt → Prop} {F : List D → Store → R D} {chk : Store → Prop} (mono : ∀ S X, chk S → chk (S ++ X)) {i : Nat} {as : MA} {l : ML.Loc} {L : Int} {lo : Nat} (ha : ∀ e S, as (l.set i (some e)) S = .ok [e, .int L] S) (ih : ∀ d x, Rl d x → ∀ S e, NA lo S x e → ∃ X, F [e, .int L] S = .ok d (S ++ X)) {ds : List D} {xs : List Nt} (h : A2 Rl ds xs) :
    ∀ (es acc : List D) (S : Store), NAs lo S xs es → chk S → acc.length + es.length ≤ 1000000 → ∃ X, compL chk (.one i) yesM (callE 2 F as) l es acc S = .ok (acc ++ ds) (S ++ X) := by
  induction h with
  | nil =>
    intro es acc S hn hk _
    rw [hn.none]
    exact ⟨[], by rw [compL_nil hk]; simp⟩
  | @cons d ds x xs hx _ ihs =>
    intro es acc S hn hk hl
    obtain ⟨e, r, rfl, h1, h2⟩ := NAs.cons hn
    rw [List.length_cons] at hl
    obtain ⟨X, e1⟩ := ih d x hx S e h1
    obtain ⟨Y, e2⟩ := ihs r (acc ++ [d]) (S ++ X) (h2.app X) (mono S X hk) (by simp; omega)
    refine ⟨X ++ Y, ?_⟩
    have c : callE 2 F as (l.set i (some e)) S = .ok d (S ++ X) := by simp [ha, e1]
    rw [compL_cons hk]
    simp only [Tgt.put, x_yes, R.bind_ok, if_true, c]
    rw [if_pos (show _ < sizeLine by rw [sz]; omega), e2]
    simp
def Rd (F : List D → Store → R D) (d : D) (x : Nt) (L : Int) : Prop := ∀ lo S e, NA lo S x e → ∃ X, F [e, .int L] S = .ok d (S ++ X)
theorem body_rd {n m : Nat} {L : Int} (ih : ∀ d x, SN n d x → Rd (G_term_in m 3) d x L) {bs : List D} {xs : List Nt} (h : BN n bs xs) (hb : bs.length ≤ 12) {lo : Nat} {S : Store} {q : Nat} {es : List D} (hq : S[q]? = some (.lst es)) (hn : NAs lo S xs es) : ∃ X, G_term_in (m + 1) 1 [.ref q, .int L] S = .ok (.tup bs) (S ++ X) := by
  have el : es.length = bs.length := by rw [hn.len, h.a2.len]
  obtain ⟨X, e⟩ := comp_rd (Rl := SN n) (F := G_term_in m 3) (chk := fun S' => lstAt S' q = some es) (lst_mono q es) (i := 2) (as := consA (varE 2) (consA (varE 1) nilA)) (l := [some (.ref q), some (.int L), none]) (L := L) (lo := lo) (fun e S => by simp) (fun d x hx S e => ih d x hx lo S e) h.a2 es [] S hn (lstAt_of hq) (by simp; omega)
  rw [List.nil_append] at e
  have hs := x_srcR hq
  have hr : ∀ ds S, tupL ds S = .ok (.tup ds) S := fun _ _ => rfl
  refine ⟨X, ?_⟩
  rw [G_term_in_1]
  simp only [x_bodyF, m_body_in, N_body_in, startL]
  simp [kindO, hq, isKind, hs, Tgt.own, wipeL, e, hr]
theorem sign_in {s : String} (h : s ∈ signs) (S : Store) : inD (w s) (.tup [w "+", w "-", w "*", w "<", w "="]) S = .ok true S := by
  simp [signs] at h
  rcases h with rfl | rfl | rfl | rfl | rfl <;> simp [x_inConsS, x_inNilS, ofS_eq]
theorem rd_all : ∀ n, (∀ m L d x, TN n d x → 3 * n ≤ m → (n : Int) ≤ L → Rd (G_term_in m 0) d x L) ∧ (∀ m L d x, SN n d x → 3 * n ≤ m → (n : Int) ≤ L → Rd (G_term_in m 3) d x L)
  | 0 => ⟨fun _ _ _ _ h _ _ => (by cases h), fun _ _ _ _ h _ _ => (by cases h)⟩
  | n + 1 => by
    obtain ⟨iT, iS⟩ := rd_all n
    refine ⟨fun m L d x h hm hL => ?_, fun m L d x h hm hL => ?_⟩
    · obtain ⟨k, rfl⟩ : ∃ k, m = k + 3 := ⟨m - 3, by omega⟩
      intro lo S e he
      have hL1 : ¬ L < 1 := by omega
      have tm : ∀ {d x}, TN n d x → Rd (G_term_in (k + 2) 0) d x (L - 1) := fun h => iT _ _ _ _ h (by omega) (by omega)
      rw [G_term_in_0]
      cases h with
      | num i a b =>
        rw [numN, NA] at he
        subst he
        have e1 := simple_num a b S
        obtain ⟨l, hl⟩ : ∃ l, cs (Str.ofString (toString i)) = l := ⟨_, rfl⟩
        rw [hl] at e1 ⊢
        have k1 : kindO S (strD l) = some "str" := rfl
        exact ⟨[], by simp [m_term_in, N_term_in, startL, hL1, k1, isKind, e1]⟩
      | nam z a =>
        rw [nmN, NA] at he
        subst he
        have e1 := simple_nam a S
        have k1 : kindO S (strD (cs z)) = some "str" := rfl
        exact ⟨[], by simp [m_term_in, N_term_in, startL, hL1, k1, isKind, e1]⟩
      | @two _ a b x y s hs h1 h2 =>
        obtain ⟨q, ds, rfl, hq, hds⟩ := he.row
        obtain ⟨d1, r1, rfl, n1, hds⟩ := NAs.cons hds
        obtain ⟨d2, r2, rfl, n2, hds⟩ := NAs.cons hds
        have := hds.none
        subst this
        have en := need_eq hq (by simp)
        have i0 : ixO S (.ref q) (.int 0) = some (w s) := by rw [x_ixR (lstAt_of hq)]; exact at0 _ _
        have i1 : ixO S (.ref q) (.int 1) = some d1 := by rw [x_ixR (lstAt_of hq)]; exact at1 _ _ _
        have ln : lenV [.ref q] S = .ok (.int 3) S := by rw [x_lenR (lstAt_of hq)]; rfl
        have si := sign_in hs S
        obtain ⟨X, e1⟩ := tm h1 lo S d1 n1
        have i2 : ixO (S ++ X) (.ref q) (.int 2) = some d2 := by rw [x_ixR (lstAt_of (at_app hq))]; exact at2 _ _ _ _
        obtain ⟨Y, e2⟩ := tm h2 lo (S ++ X) d2 (n2.app X)
        refine ⟨X ++ Y, ?_⟩
        rw [← List.append_assoc]
        simp [-List.append_assoc, m_term_in, N_term_in, startL, hL1, kindO, hq, isKind, en, x_ix, i0, ln, si, i1, e1, i2, e2, sz]
      | @fn _ bs xs kk ps h1 h2 h3 h4 =>
        obtain ⟨q, ds, rfl, hq, hds⟩ := he.row
        obtain ⟨d1, r1, rfl, n1, hds⟩ := NAs.cons hds
        have en := need_eq hq (by simp)
        have i0 : ixO S (.ref q) (.int 0) = some (w (kw kk)) := by rw [x_ixR (lstAt_of hq)]; exact at0 _ _
        have i1 : ixO S (.ref q) (.int 1) = some d1 := by rw [x_ixR (lstAt_of hq)]; exact at1 _ _ _
        have e1 := names_in_eq h1 n1
        have sl : sliceD (.ref q) (some 2) none S = .ok (.ref S.length) (S ++ [.lst r1]) := x_slRD (k := 2) (lstAt_of hq)
        obtain ⟨S1, hS1⟩ : ∃ S1, S ++ [Cell.lst r1] = S1 := ⟨_, rfl⟩
        have k1 : S1[S.length]? = some (.lst r1) := by rw [← hS1]; exact at_end
        obtain ⟨X, e2⟩ := body_rd (m := k + 1) (L := L - 1) (fun d x h => iS _ _ _ _ h (by omega) (by omega)) h4 h3 k1 (by rw [← hS1]; exact hds.app _)
        refine ⟨[.lst r1] ++ X, ?_⟩
        rw [← List.append_assoc, hS1]
        rw [hS1] at sl
        cases kk <;> simp [-List.append_assoc, m_term_in, N_term_in, startL, hL1, kindO, hq, isKind, en, x_ix, i0, kw, ofS_eq, x_inConsS, x_inNilS, i1, e1, sl, e2, sz]
      | @call _ f as x xs h1 h2 h3 =>
        obtain ⟨q, ds, rfl, hq, hds⟩ := he.row
        obtain ⟨d1, r1, rfl, n1, hds⟩ := NAs.cons hds
        have en := need_eq hq (by simp)
        have i0 : ixO S (.ref q) (.int 0) = some (w "call") := by rw [x_ixR (lstAt_of hq)]; exact at0 _ _
        have i1 : ixO S (.ref q) (.int 1) = some d1 := by rw [x_ixR (lstAt_of hq)]; exact at1 _ _ _
        obtain ⟨X, e1⟩ := tm h1 lo S d1 n1
        obtain ⟨S1, hS1⟩ : ∃ S1, S ++ X = S1 := ⟨_, rfl⟩
        rw [hS1] at e1
        have hq1 : S1[q]? = some (.lst (w "call" :: d1 :: r1)) := by rw [← hS1]; exact at_app hq
        have sl : sliceD (.ref q) (some 2) none S1 = .ok (.ref S1.length) (S1 ++ [.lst r1]) := x_slRD (k := 2) (lstAt_of hq1)
        obtain ⟨S2, hS2⟩ : ∃ S2, S1 ++ [Cell.lst r1] = S2 := ⟨_, rfl⟩
        rw [hS2] at sl
        have k1 : S2[S1.length]? = some (.lst r1) := by rw [← hS2]; exact at_end
        have es := x_srcR k1
        have rl : r1.length = as.length := by rw [hds.len, h3.a2.len]
        obtain ⟨Y, e2⟩ := comp_rd (Rl := TN n) (F := G_term_in (k + 2) 0) (chk := fun S' => lstAt S' S1.length = some r1) (lst_mono S1.length r1) (i := 3) (as := consA (varE 3) (consA (binE subD (varE 1) (conE (.int 1))) nilA)) (l := [some (.ref q), some (.int L), some (w "call"), none]) (L := L - 1) (lo := lo) (fun e S => by simp) (fun d x hx S e => tm hx lo S e) h3.a2 r1 [] S2 (by rw [← hS2, ← hS1]; exact (hds.app _).app _) (lstAt_of k1) (by simp; omega)
        rw [List.nil_append] at e2
        have hr : ∀ ds S, tupL ds S = .ok (.tup ds) S := fun _ _ => rfl
        refine ⟨X ++ ([.lst r1] ++ Y), ?_⟩
        have eS : S ++ (X ++ ([.lst r1] ++ Y)) = S2 ++ Y := by rw [← hS2, ← hS1]; simp
        rw [eS]
        simp [m_term_in, N_term_in, startL, hL1, kindO, hq, isKind, en, x_ix, i0, ofS_eq, x_inConsS, x_inNilS, i1, e1, sl, es, Tgt.own, wipeL, e2, hr, sz]
      | @step _ a b x y h1 h2 =>
        obtain ⟨q, ds, rfl, hq, hds⟩ := he.row
        obtain ⟨d1, r1, rfl, n1, hds⟩ := NAs.cons hds
        obtain ⟨d2, r2, rfl, n2, hds⟩ := NAs.cons hds
        have := hds.none
        subst this
        have en := need_eq hq (by simp)
        have i0 : ixO S (.ref q) (.int 0) = some (w "step") := by rw [x_ixR (lstAt_of hq)]; exact at0 _ _
        have i1 : ixO S (.ref q) (.int 1) = some d1 := by rw [x_ixR (lstAt_of hq)]; exact at1 _ _ _
        have ln : lenV [.ref q] S = .ok (.int 3) S := by rw [x_lenR (lstAt_of hq)]; rfl
        obtain ⟨X, e1⟩ := tm h1 lo S d1 n1
        have i2 : ixO (S ++ X) (.ref q) (.int 2) = some d2 := by rw [x_ixR (lstAt_of (at_app hq))]; exact at2 _ _ _ _
        obtain ⟨Y, e2⟩ := tm h2 lo (S ++ X) d2 (n2.app X)
        refine ⟨X ++ Y, ?_⟩
        rw [← List.append_assoc]
        simp [-List.append_assoc, m_term_in, N_term_in, startL, hL1, kindO, hq, isKind, en, x_ix, i0, ofS_eq, x_inConsS, x_inNilS, ln, i1, e1, i2, e2, sz]
    · obtain ⟨k, rfl⟩ : ∃ k, m = k + 3 := ⟨m - 3, by omega⟩
      intro lo S e he
      have hL1 : ¬ L < 1 := by omega
      have tm : ∀ {d x}, TN n d x → Rd (G_term_in (k + 2) 0) d x (L - 1) := fun h => iT _ _ _ _ h (by omega) (by omega)
      have tm1 : ∀ {d x}, TN n d x → Rd (G_term_in (k + 1) 0) d x (L - 1) := fun h => iT _ _ _ _ h (by omega) (by omega)
      have bo : ∀ {bs : List D} {xs : List Nt}, BN n bs xs → bs.length ≤ 12 → ∀ {S : Store} {e : D}, NA lo S (.l xs) e → ∃ X, G_term_in (k + 1) 1 [e, .int (L - 1)] S = .ok (.tup bs) (S ++ X) := by
        intro bs xs h hb S e hE
        unfold NA at hE
        obtain ⟨q, es, rfl, _, hq, hn⟩ := hE
        exact body_rd (m := k) (L := L - 1) (fun d x h => iS _ _ _ _ h (by omega) (by omega)) h hb hq hn
      rw [G_term_in_3]
      cases h with
      | @two _ t x s z h1 h2 h3 =>
        obtain ⟨q, ds, rfl, hq, hds⟩ := he.row
        obtain ⟨d1, r1, rfl, n1, hds⟩ := NAs.cons hds
        obtain ⟨d2, r2, rfl, n2, hds⟩ := NAs.cons hds
        have := hds.none
        subst this
        have := n1.nm
        subst this
        have en := need_eq hq (by simp)
        have i0 : ixO S (.ref q) (.int 0) = some (w s) := by rw [x_ixR (lstAt_of hq)]; exact at0 _ _
        have i1 : ixO S (.ref q) (.int 1) = some (.str z) := by rw [x_ixR (lstAt_of hq)]; exact at1 _ _ _
        have i2 : ixO S (.ref q) (.int 2) = some d2 := by rw [x_ixR (lstAt_of hq)]; exact at2 _ _ _ _
        have ln : lenV [.ref q] S = .ok (.int 3) S := by rw [x_lenR (lstAt_of hq)]; rfl
        obtain ⟨X, e1⟩ := tm h3 lo S d2 n2
        refine ⟨X, ?_⟩
        rcases h1 with rfl | rfl | rfl <;> simp [m_statement_in, N_statement_in, startL, hL1, en, x_ix, i0, ofS_eq, x_inConsS, x_inNilS, ln, i1, kindO, isKind, i2, e1, sz]
      | @one _ t x s h1 h2 =>
        obtain ⟨q, ds, rfl, hq, hds⟩ := he.row
        obtain ⟨d1, r1, rfl, n1, hds⟩ := NAs.cons hds
        have := hds.none
        subst this
        have en := need_eq hq (by simp)
        have i0 : ixO S (.ref q) (.int 0) = some (w s) := by rw [x_ixR (lstAt_of hq)]; exact at0 _ _
        have i1 : ixO S (.ref q) (.int 1) = some d1 := by rw [x_ixR (lstAt_of hq)]; exact at1 _ _ _
        have ln : lenV [.ref q] S = .ok (.int 2) S := by rw [x_lenR (lstAt_of hq)]; rfl
        obtain ⟨X, e1⟩ := tm h2 lo S d1 n1
        refine ⟨X, ?_⟩
        rcases h1 with rfl | rfl | rfl <;> simp [m_statement_in, N_statement_in, startL, hL1, en, x_ix, i0, ofS_eq, x_inConsS, x_inNilS, ln, i1, e1, sz]
      | @whl _ t bs x xs h1 b2 h2 =>
        obtain ⟨q, ds, rfl, hq, hds⟩ := he.row
        obtain ⟨d1, r1, rfl, n1, hds⟩ := NAs.cons hds
        obtain ⟨d2, r2, rfl, n2, hds⟩ := NAs.cons hds
        have := hds.none
        subst this
        have en := need_eq hq (by simp)
        have i0 : ixO S (.ref q) (.int 0) = some (w "while") := by rw [x_ixR (lstAt_of hq)]; exact at0 _ _
        have i1 : ixO S (.ref q) (.int 1) = some d1 := by rw [x_ixR (lstAt_of hq)]; exact at1 _ _ _
        have ln : lenV [.ref q] S = .ok (.int 3) S := by rw [x_lenR (lstAt_of hq)]; rfl
        obtain ⟨X, e1⟩ := tm1 h1 lo S d1 n1
        have i2 : ixO (S ++ X) (.ref q) (.int 2) = some d2 := by rw [x_ixR (lstAt_of (at_app hq))]; exact at2 _ _ _ _
        obtain ⟨Y, e2⟩ := bo h2 b2 (n2.app X)
        have el : G_term_in (k + 2) 2 [.ref q, .int L] S = .ok (.tup [w "while", t, .tup bs]) (S ++ X ++ Y) := by
          rw [G_term_in_2]
          simp [-List.append_assoc, m_long_statement, N_long_statement, startL, x_ix, i0, ofS_eq, ln, i1, e1, i2, e2, sz]
        refine ⟨X ++ Y, ?_⟩
        rw [← List.append_assoc]
        simp [-List.append_assoc, m_statement_in, N_statement_in, startL, hL1, en, x_ix, i0, ofS_eq, x_inConsS, x_inNilS, sz, el]
      | @ifs _ t bs es x xs ys h1 b2 h2 b3 h3 =>
        obtain ⟨q, ds, rfl, hq, hds⟩ := he.row
        obtain ⟨d1, r1, rfl, n1, hds⟩ := NAs.cons hds
        obtain ⟨d2, r2, rfl, n2, hds⟩ := NAs.cons hds
        obtain ⟨d3, r3, rfl, n3, hds⟩ := NAs.cons hds
        have := hds.none
        subst this
        have en := need_eq hq (by simp)
        have i0 : ixO S (.ref q) (.int 0) = some (w "if") := by rw [x_ixR (lstAt_of hq)]; exact at0 _ _
        have i1 : ixO S (.ref q) (.int 1) = some d1 := by rw [x_ixR (lstAt_of hq)]; exact at1 _ _ _
        have ln : lenV [.ref q] S = .ok (.int 4) S := by rw [x_lenR (lstAt_of hq)]; rfl
        obtain ⟨X, e1⟩ := tm1 h1 lo S d1 n1
        have i2 : ixO (S ++ X) (.ref q) (.int 2) = some d2 := by rw [x_ixR (lstAt_of (at_app hq))]; exact at2 _ _ _ _
        obtain ⟨Y, e2⟩ := bo h2 b2 (n2.app X)
        have i3 : ixO (S ++ X ++ Y) (.ref q) (.int 3) = some d3 := by rw [x_ixR (lstAt_of (at_app (at_app hq)))]; exact at3 _ _ _ _ _
        obtain ⟨Z, e3⟩ := bo h3 b3 ((n3.app X).app Y)
        have el : G_term_in (k + 2) 2 [.ref q, .int L] S = .ok (.tup [w "if", t, .tup bs, .tup es]) (S ++ X ++ Y ++ Z) := by
          rw [G_term_in_2]
          simp [-List.append_assoc, m_long_statement, N_long_statement, startL, x_ix, i0, ofS_eq, ln, i1, e1, i2, e2, i3, e3, sz]
        refine ⟨X ++ (Y ++ Z), ?_⟩
        rw [← List.append_assoc, ← List.append_assoc]
        simp [-List.append_assoc, m_statement_in, N_statement_in, startL, hL1, en, x_ix, i0, ofS_eq, x_inConsS, x_inNilS, sz, el]
      | @trys _ bs es gs xs ys zs y z h1 h2 b3 h3 b4 h4 b5 h5 =>
        obtain ⟨q, ds, rfl, hq, hds⟩ := he.row
        obtain ⟨d1, r1, rfl, n1, hds⟩ := NAs.cons hds
        obtain ⟨d2, r2, rfl, n2, hds⟩ := NAs.cons hds
        obtain ⟨d3, r3, rfl, n3, hds⟩ := NAs.cons hds
        obtain ⟨d4, r4, rfl, n4, hds⟩ := NAs.cons hds
        obtain ⟨d5, r5, rfl, n5, hds⟩ := NAs.cons hds
        have := hds.none
        subst this
        have := n2.nm
        subst this
        have := n3.nm
        subst this
        have en := need_eq hq (by simp)
        have i0 : ixO S (.ref q) (.int 0) = some (w "try") := by rw [x_ixR (lstAt_of hq)]; exact at0 _ _
        have i2 : ixO S (.ref q) (.int 2) = some (.str y) := by rw [x_ixR (lstAt_of hq)]; exact at2 _ _ _ _
        have i3 : ixO S (.ref q) (.int 3) = some (.str z) := by rw [x_ixR (lstAt_of hq)]; exact at3 _ _ _ _ _
        have ln : lenV [.ref q] S = .ok (.int 6) S := by rw [x_lenR (lstAt_of hq)]; rfl
        have i1 : ixO S (.ref q) (.int 1) = some d1 := by rw [x_ixR (lstAt_of hq)]; exact at1 _ _ _
        obtain ⟨X, e1⟩ := bo h3 b3 n1
        obtain ⟨S1, hS1⟩ : ∃ S1, S ++ X = S1 := ⟨_, rfl⟩
        rw [hS1] at e1
        have hq1 := at_app (T := X) hq
        rw [hS1] at hq1
        have i4 : ixO S1 (.ref q) (.int 4) = some d4 := by rw [x_ixR (lstAt_of hq1)]; exact at4 _ _ _ _ _ _
        obtain ⟨Y, e2⟩ := bo h4 b4 (by rw [← hS1]; exact n4.app X : NA lo S1 _ _)
        obtain ⟨S2, hS2⟩ : ∃ S2, S1 ++ Y = S2 := ⟨_, rfl⟩
        rw [hS2] at e2
        have hq2 := at_app (T := Y) hq1
        rw [hS2] at hq2
        have i5 : ixO S2 (.ref q) (.int 5) = some d5 := by rw [x_ixR (lstAt_of hq2)]; exact at5 _ _ _ _ _ _ _
        obtain ⟨Z, e3⟩ := bo h5 b5 (by rw [← hS2, ← hS1]; exact (n5.app X).app Y : NA lo S2 _ _)
        obtain ⟨S3, hS3⟩ : ∃ S3, S2 ++ Z = S3 := ⟨_, rfl⟩
        rw [hS3] at e3
        have hq3 := at_app (T := Z) hq2
        rw [hS3] at hq3
        obtain ⟨S4, hS4⟩ : ∃ S4, S3 ++ [Cell.lst [.tup bs, .tup es, .tup gs]] = S4 := ⟨_, rfl⟩
        have k4 : S4[S3.length]? = some (.lst [.tup bs, .tup es, .tup gs]) := by rw [← hS4]; exact at_end
        have hq4 := at_app (T := [Cell.lst [.tup bs, .tup es, .tup gs]]) hq3
        rw [hS4] at hq4
        have j0 : ixO S4 (.ref S3.length) (.int 0) = some (.tup bs) := by rw [x_ixR (lstAt_of k4)]; exact at0 _ _
        have j1 : ixO S4 (.ref S3.length) (.int 1) = some (.tup es) := by rw [x_ixR (lstAt_of k4)]; exact at1 _ _ _
        have j2 : ixO S4 (.ref S3.length) (.int 2) = some (.tup gs) := by rw [x_ixR (lstAt_of k4)]; exact at2 _ _ _ _
        have i2' : ixO S4 (.ref q) (.int 2) = some (.str y) := by rw [x_ixR (lstAt_of hq4)]; exact at2 _ _ _ _
        have i3' : ixO S4 (.ref q) (.int 3) = some (.str z) := by rw [x_ixR (lstAt_of hq4)]; exact at3 _ _ _ _ _
        have ec : compL still (.one 4) yesM (callE 2 (G_term_in (k + 1) 1) (consA (binE ixD (varE 0) (varE 4)) (consA (binE subD (varE 1) (conE (.int 1))) (nilA)))) [some (.ref q), some (.int L), some (w "try"), none, none] [.int 1, .int 4, .int 5] [] S = .ok [.tup bs, .tup es, .tup gs] S3 := by
          have st : ∀ (i : Int) (d : D) (T : Store) (R : ML.R D), ixO T (.ref q) (.int i) = some d → G_term_in (k + 1) 1 [d, .int (L - 1)] T = R → callE 2 (G_term_in (k + 1) 1) (consA (binE ixD (varE 0) (varE 4)) (consA (binE subD (varE 1) (conE (.int 1))) (nilA))) (([some (.ref q), some (.int L), some (w "try"), none, none] : ML.Loc).set 4 (some (.int i))) T = R := fun i d T R hi hR => by
            simp [x_ix, hi, hR]
          have s1 := st 1 d1 S _ i1 e1
          have s2 := st 4 d4 S1 _ i4 e2
          have s3 := st 5 d5 S2 _ i5 e3
          rw [compL_cons trivial]
          simp only [Tgt.put, x_yes, R.bind_ok, if_true, s1]
          rw [if_pos (show _ < sizeLine by rw [sz]; simp), compL_cons trivial]
          simp only [Tgt.put, x_yes, R.bind_ok, if_true, s2]
          rw [if_pos (show _ < sizeLine by rw [sz]; simp), compL_cons trivial]
          simp only [Tgt.put, x_yes, R.bind_ok, if_true, s3]
          rw [if_pos (show _ < sizeLine by rw [sz]; simp), compL_nil trivial]
          rfl
        have el : G_term_in (k + 2) 2 [.ref q, .int L] S = .ok (.tup [w "try", .tup bs, .str y, .str z, .tup es, .tup gs]) S4 := by
          rw [G_term_in_2]
          simp [m_long_statement, N_long_statement, startL, x_ix, i0, ofS_eq, ln, i2, i3, kindO, isKind, sz, Tgt.own, wipeL, ec, hS4, j0, j1, j2, i2', i3']
        refine ⟨X ++ (Y ++ (Z ++ [Cell.lst [.tup bs, .tup es, .tup gs]])), ?_⟩
        have eS : S ++ (X ++ (Y ++ (Z ++ [Cell.lst [.tup bs, .tup es, .tup gs]]))) = S4 := by rw [← hS4, ← hS3, ← hS2, ← hS1]; simp
        rw [eS]
        simp [m_statement_in, N_statement_in, startL, hL1, en, x_ix, i0, ofS_eq, x_inConsS, x_inNilS, sz, el]
end K05

set_option Elab.async false
set_option linter.all false
set_option maxRecDepth 100000
set_option autoImplicit false
namespace K05
open PySem PySem.Spec L2 ML
/-! ### a whole program shown and read -/
theorem read_eq {N : Nat} {d : D} {x : Nt} (hp : Prog N d) (h : PN N d x) (hz : x.ws.length ≤ 100000) {L : List Nat} (hl : L.length ≤ 6000) (hg : ∀ c ∈ L, good c) (hw : wordsOf L = x.ws) (S : Store) : ∃ S', F_read [strD L] S = .ok d S' ∧ S.length ≤ S'.length ∧ ∀ (i : Nat) (c : Cell), S[i]? = some c → S'[i]? = some c := by
  have hN : N ≤ 19 := by obtain ⟨_, _, _, _, _, _, _, _, _, _, h⟩ := hp; exact h
  have e1 := words_eq (x := mkS L) (S := S) (by rw [mkS_len]; exact hl) (by rw [cs_mkS]; exact hg)
  rw [cs_mkS, hw] at e1
  obtain ⟨S1, hS1⟩ : ∃ S1, S ++ [Cell.lst (tok x.ws)] = S1 := ⟨_, rfl⟩
  have e0 : F_words_of [strD L] S = .ok (.ref S.length) S1 := by rw [← hS1]; exact e1
  clear e1
  have k1 : S1[S.length]? = some (.lst (tok x.ws)) := by rw [← hS1]; exact at_end
  have hk := h.ok
  obtain ⟨S2, e, e2, na, l2, f2⟩ := nested_eq hk hz k1
  have his := hp.is
  cases h with
  | @mk bs xs ps a b c d =>
    obtain ⟨q, ds, rfl, hq, hds⟩ := na.row
    obtain ⟨d1, r1, rfl, n1, hds⟩ := NAs.cons hds
    have en := need_eq hq (by simp)
    have i0 : ixO S2 (.ref q) (.int 0) = some (w "main") := by rw [x_ixR (lstAt_of hq)]; exact at0 _ _
    have i1 : ixO S2 (.ref q) (.int 1) = some d1 := by rw [x_ixR (lstAt_of hq)]; exact at1 _ _ _
    have e3 := names_in_eq a n1
    have sl : sliceD (.ref q) (some 2) none S2 = .ok (.ref S2.length) (S2 ++ [.lst r1]) := x_slRD (k := 2) (lstAt_of hq)
    obtain ⟨S3, hS3⟩ : ∃ S3, S2 ++ [Cell.lst r1] = S3 := ⟨_, rfl⟩
    rw [hS3] at sl
    have k3 : S3[S2.length]? = some (.lst r1) := by rw [← hS3]; exact at_end
    obtain ⟨X, e4⟩ := body_rd (m := 59) (L := 19) (fun d x h => (rd_all N).2 59 19 d x h (by omega) (by omega)) d c k3 (by rw [← hS3]; exact hds.app _)
    obtain ⟨Y, e5⟩ := his (S3 ++ X)
    refine ⟨S3 ++ X ++ Y, ?_, ?_, fun i cc hc => at_app (at_app (by rw [← hS3]; exact at_app (f2 i cc (by rw [← hS1]; exact at_app hc))))⟩
    · have e19 : (20 : Int) - 1 = 19 := rfl
      have e4 : F_body_in [.ref S2.length, .int 19] S3 = .ok (.tup bs) (S3 ++ X) := e4
      simp only [F_read, m_read, N_read, x_bodyF, startL]
      simp [-List.append_assoc, e0, e2, en, x_ix, i0, i1, e3, sl, e19, e4, sz, e5]
    · have : S.length ≤ S1.length := by rw [← hS1]; simp
      rw [← hS3]
      simp
      omega
theorem read_long {L : List Nat} (hl : 6000 < L.length) (hz : L.length ≤ 1000000) (S : Store) : F_read [strD L] S = .ex ⟨2, []⟩ S := by
  have e0 := need_ex (x := mkS L) (S := S) (by rw [mkS_len]; omega) (.inl (by rw [mkS_len]; exact hl))
  have e1 : F_words_of [strD L] S = .ex ⟨2, []⟩ S := words_ex e0
  simp only [F_read, m_read, N_read, x_bodyF, startL]
  simp [e1]
theorem shown_eq {N : Nat} {d : D} {x : Nt} (hp : Prog N d) (h : PN N d x) (hz : x.ws.length ≤ 100000) (S : Store) : ∃ X, F_shown [d] S = .ok (strD x.tx) (S ++ X) := by
  have hN : N ≤ 19 := by obtain ⟨_, _, _, _, _, _, _, _, _, _, h⟩ := hp; exact h
  obtain ⟨X, e1⟩ := hp.need S
  have e2 : ∃ Y, F_function_text [d] (S ++ X) = .ok (strD x.tx) (S ++ X ++ Y) := by
    cases h with
    | @mk bs xs ps a b c d => exact fun_tx (m := 59) (N := 100000) (by omega) (fun a x h hx => (text_all N).2 59 a x h (by omega) hx) d c "main" (kw_wd _ (by decide) (by decide)) b a hz (S ++ X)
  obtain ⟨Y, e2⟩ := e2
  refine ⟨X ++ Y, ?_⟩
  rw [← List.append_assoc]
  simp [-List.append_assoc, F_shown, m_shown, N_shown, startL, e1, e2]
theorem fwords_eq {N : Nat} {d : D} {x : Nt} (hN : N ≤ 19) (h : PN N d x) (hz : x.ws.length ≤ 100000) : Wds F__law_function_words d x.ws := by
  cases h with
  | @mk bs xs ps a b c d => exact fw_eq (m := 58) (N := 100000) (by omega) (fun a x h hx => (words_all N).2 58 a x h (by omega) hx) d "main" ps hz
/-- the law's text of a program -/
theorem due_eq {N : Nat} {d : D} {x : Nt} (hN : N ≤ 19) (h : PN N d x) (hz : x.ws.length ≤ 100000) (S : Store) : ∃ X r, F__law_function_words [d] S = .ok (.ref r) (S ++ X) ∧ (S ++ X)[r]? = some (.lst (tok x.ws)) ∧ ∀ S, S[r]? = some (.lst (tok x.ws)) → ∃ Y, F__law_text [.ref r, .non] S = .ok (strD x.tx) (S ++ Y) := by
  obtain ⟨X, r, e, k⟩ := fwords_eq hN h hz S
  exact ⟨X, r, e, k, fun S hk => text_eq h.ok hz hk⟩
end K05

set_option Elab.async false
set_option linter.all false
set_option maxRecDepth 100000
set_option autoImplicit false
namespace K05
open PySem PySem.Spec L2 ML
theorem eq_DD (a b : List Nat) (S : Store) : eqD (strD a) (strD b) S = .ok (decide (a = b)) S := by
  have := eq_cs a (mkS b) S
  rwa [cs_mkS] at this
/-! ### whiles and ifs in one another -/
def Dp (j : Nat) (d : D) (x : Nt) : Prop := ∃ p, St (j + 2) true p d ∧ SN (j + 2) d x ∧ p ≤ 2 + 2 * j ∧ x.ws.length ≤ 4 + 8 * j
theorem num_ws (i : Int) : (numN i).ws.length = 1 := by rw [numN, Nt.ws]; rfl
theorem Dp.zero {i : Int} (h1 : 0 ≤ i) (h2 : i ≤ 1000) : Dp 0 (.tup [w "do", .tup [w "number", .int i]]) (.l [kwN "do", numN i]) :=
  ⟨2, .does false (.num i (by omega) (by omega)), .one "do" (by simp) (.num i (by omega) (by omega)), by omega, by rw [l_ws, c_ws, c_ws, n_ws, kw_ws, num_ws]; omega⟩
theorem Dp.whl {j : Nat} {d : D} {x : Nt} (h : Dp j d x) : Dp (j + 1) (.tup [w "while", .tup [w "number", .int 0], .tup [d]]) (.l [kwN "while", numN 0, .l [x]]) := by
  obtain ⟨p, a, b, c, e⟩ := h
  exact ⟨_, .whl (.num 0 (by omega) (by omega)) (by simp) (.cons a .nil), .whl (.num 0 (by omega) (by omega)) (by simp) (.cons b .nil), by omega, by rw [l_ws, c_ws, c_ws, c_ws, n_ws, l_ws, c_ws, n_ws, kw_ws, num_ws]; omega⟩
theorem Dp.if1 {j : Nat} {d : D} {x : Nt} (h : Dp j d x) : Dp (j + 1) (.tup [w "if", .tup [w "number", .int 1], .tup [d], .tup []]) (.l [kwN "if", numN 1, .l [x], .l []]) := by
  obtain ⟨p, a, b, c, e⟩ := h
  exact ⟨_, .ifs (.num 1 (by omega) (by omega)) (by simp) (.cons a .nil) (by simp) .nil, .ifs (.num 1 (by omega) (by omega)) (by simp) (.cons b .nil) (by simp) .nil, by omega, by rw [l_ws, c_ws, c_ws, c_ws, c_ws, n_ws, l_ws, l_ws, c_ws, n_ws, kw_ws, num_ws]; omega⟩
theorem Dp.if0 {j : Nat} {d : D} {x : Nt} (h : Dp j d x) : Dp (j + 1) (.tup [w "if", .tup [w "number", .int 0], .tup [], .tup [d]]) (.l [kwN "if", numN 0, .l [], .l [x]]) := by
  obtain ⟨p, a, b, c, e⟩ := h
  exact ⟨_, .ifs (.num 0 (by omega) (by omega)) (by simp) .nil (by simp) (.cons a .nil), .ifs (.num 0 (by omega) (by omega)) (by simp) .nil (by simp) (.cons b .nil), by omega, by rw [l_ws, c_ws, c_ws, c_ws, c_ws, n_ws, l_ws, l_ws, c_ws, n_ws, kw_ws, num_ws]; omega⟩
theorem deep_step {cell : Int} {k j : Nat} {d : D} {x : Nt} (h : Dp j d x) (S : Store) (x3 x4 x5 : Option D) : ∃ X d' x' y3, b__law_deep_right_0 [some (.int cell), some d, some (.int (k : Int)), x3, x4, x5] S = .ok (.nx, [some (.int cell), some d', some (.int (k : Int)), y3, x4, x5]) (S ++ X) ∧ Dp (j + 1) d' x' := by
  have c3 : (cell / 9000 + k) % 3 = 0 ∨ (cell / 9000 + k) % 3 = 1 ∨ (cell / 9000 + k) % 3 = 2 := by omega
  let L3 : List D := [.tup [w "while", .tup [w "number", .int 0], .tup [d]], .tup [w "if", .tup [w "number", .int 1], .tup [d], .tup []], .tup [w "if", .tup [w "number", .int 0], .tup [], .tup [d]]]
  obtain ⟨d', x', hd, hx⟩ : ∃ d' x', ixO (S ++ [.lst L3]) (.ref S.length) (.int ((cell / 9000 + k) % 3)) = some d' ∧ Dp (j + 1) d' x' := by
    rw [x_ixR (lstAt_of at_end)]
    rcases c3 with c | c | c <;> rw [c]
    · exact ⟨_, _, rfl, h.whl⟩
    · exact ⟨_, _, rfl, h.if1⟩
    · exact ⟨_, _, rfl, h.if0⟩
  refine ⟨[.lst L3], d', x', some (.ref S.length), ?_, hx⟩
  simp only [b__law_deep_right_0]
  let L2 : List D := [.tup [w "while", .tup [w "number", .int 0], .tup [d]], .tup [w "if", .tup [w "number", .int 1], .tup [d], .tup []]]
  have ea : appendM (.ref S.length) [.tup [w "if", .tup [w "number", .int 0], .tup [], .tup [d]]] (S ++ [.lst L2]) = .ok .non (S ++ [.lst L3]) := by
    rw [x_append (lstAt_of at_end) (by simp [L2]), List.set_append_right _ _ (Nat.le_refl _), Nat.sub_self]
    rfl
  simp [-List.append_assoc, sz]
  rw [ea]
  simp [-List.append_assoc, x_ix, hd]
theorem deep_loop {cell : Int} : ∀ (m k j : Nat) (d : D) (x : Nt) (S : Store) (x2 x3 x4 x5 : Option D), Dp j d x → ∃ X d' x' y2 y3, forL still (nameT 2) b__law_deep_right_0 (intsD (List.range' k m)) [some (.int cell), some d, x2, x3, x4, x5] S = .ok (.nx, [some (.int cell), some d', y2, y3, x4, x5]) (S ++ X) ∧ Dp (j + m) d' x'
  | 0, k, j, d, x, S, x2, x3, x4, x5, h => ⟨[], d, x, x2, x3, by simp [intsD, forL_nil (chk := still) trivial], h⟩
  | m + 1, k, j, d, x, S, x2, x3, x4, x5, h => by
    obtain ⟨X, d1, x1, y3, e1, h1⟩ := deep_step (cell := cell) (k := k) h S x3 x4 x5
    obtain ⟨Y, d2, x2', z2, z3, e2, h2⟩ := deep_loop m (k + 1) (j + 1) d1 x1 (S ++ X) (some (.int (k : Int))) y3 x4 x5 h1
    refine ⟨X ++ Y, d2, x2', z2, z3, ?_, by rw [show j + (m + 1) = j + 1 + m by omega]; exact h2⟩
    have ei : intsD (List.range' k (m + 1)) = .int (k : Int) :: intsD (List.range' (k + 1) m) := by rw [List.range'_succ]; rfl
    rw [ei, forL_cons (chk := still) trivial, ← List.append_assoc]
    simp only [nameT] at e1 e2 ⊢
    simp [-List.append_assoc, e1]
    simpa [-List.append_assoc] using e2
/-- shown, and read again -/
theorem pn_told {N : Nat} {d : D} {x : Nt} (hp : Prog N d) (h : PN N d x) (hz : x.ws.length ≤ 270) (S : Store) : ∃ X r S1 S2 S3, F__law_function_words [d] S = .ok (.ref r) (S ++ X) ∧ F__law_text [.ref r, .non] (S ++ X) = .ok (strD x.tx) S1 ∧ F_shown [d] S1 = .ok (strD x.tx) S2 ∧ F_read [strD x.tx] S2 = .ok d S3 := by
  have hN : N ≤ 19 := by obtain ⟨_, _, _, _, _, _, _, _, _, _, h⟩ := hp; exact h
  have l := Nt.tx_len x h.ok
  obtain ⟨X, r, e1, k1, ht⟩ := due_eq hN h (by omega) S
  obtain ⟨Y, e2⟩ := ht _ k1
  obtain ⟨Z, e3⟩ := shown_eq hp h (by omega) (S ++ X ++ Y)
  obtain ⟨g, hw⟩ := tx_words h.ok
  obtain ⟨S4, e4, _⟩ := read_eq hp h (by omega) (L := x.tx) (by omega) g hw (S ++ X ++ Y ++ Z)
  exact ⟨X, r, _, _, _, e1, e2, e3, e4⟩
theorem deep_eq (cell : Int) (S : Store) : ∃ S', F__law_deep_right [.int cell] S = .ok (.bl true) S' := by
  obtain ⟨m, hm, hm2⟩ : ∃ m : Nat, 8 + cell / 1000 % 9 = (m : Int) ∧ m ≤ 16 := ⟨(8 + cell / 1000 % 9).toNat, by omega, by omega⟩
  have h0 := Dp.zero (i := cell % 1000) (by omega) (by omega)
  obtain ⟨X, d, x, y2, y3, e1, h1⟩ := deep_loop (cell := cell) m 0 0 _ _ S none none none none h0
  obtain ⟨p, a, b, c, l⟩ := h1
  have hp : Prog (0 + m + 2) (.tup [w "main", .tup [], .tup [d]]) := ⟨[], [d], _, rfl, by simp, by simp, by simp, by simp, .cons a .nil, by omega, by omega⟩
  have hx : PN (0 + m + 2) (.tup [w "main", .tup [], .tup [d]]) (.l (kwN "main" :: .l [] :: [x])) := .mk [] (by simp) (by simp) (by simp) (.cons b .nil)
  have hz : (Nt.l (kwN "main" :: .l [] :: [x])).ws.length ≤ 270 := by rw [l_ws, c_ws, c_ws, c_ws, n_ws, l_ws, n_ws, kw_ws]; omega
  generalize hX : Nt.l (kwN "main" :: .l [] :: [x]) = z at hx hz
  obtain ⟨Y, r, S1, S2, S3, f1, f2, f3, f4⟩ := pn_told hp hx hz (S ++ X)
  have er : rng1 [.int (m : Int)] S = .ok (intsD (List.range' 0 m), still) S := by
    rw [x_rng1 (by omega) (by omega), Int.toNat_natCast, rng_ints, List.range_eq_range']
  refine ⟨S3, ?_⟩
  simp only [F__law_deep_right, m__law_deep_right, N__law_deep_right, x_bodyF, startL]
  simp [-List.append_assoc, sz, hm, er, e1, f1, f2, f3, f4, eq_DD, (hp.same S3).1]
end K05

set_option Elab.async false
set_option linter.all false
set_option maxRecDepth 100000
set_option autoImplicit false
namespace K05
open PySem PySem.Spec L2 ML
/-! ### a text too long -/
def lgW (c k : Int) : List Nat := (List.range 7).map fun j : Nat => ltr (c + 3 * k + (j : Int) * (j : Int))
def lgN (c : Int) (k : Nat) : List Nat := lgW c k ++ [97 + k]
theorem lgN_len (c : Int) (k : Nat) : (lgN c k).length = 8 := by simp [lgN, lgW]
theorem lgN_ok (c : Int) (k : Nat) (hk : k < 4) : NmOk (mkS (lgN c k)) := by
  unfold NmOk
  rw [cs_mkS, lgN_len]
  refine ⟨by omega, by omega, fun x hx => ?_⟩
  unfold lgN lgW at hx
  rcases List.mem_append.mp hx with hx | hx
  · obtain ⟨j, _, rfl⟩ := List.mem_map.mp hx
    exact ltr_ok _
  · rw [List.mem_singleton.mp hx]; omega
def lgP (c : Int) : List Str := (List.range 4).map fun k : Nat => mkS (lgN c k)
theorem lgP_nd (c : Int) : (lgP c).Nodup := by
  have h : ∀ i j : Nat, mkS (lgN c i) = mkS (lgN c j) → i = j := fun i j e => by
    have e2 : lgN c i = lgN c j := by rw [← cs_mkS (lgN c i), e, cs_mkS]
    unfold lgN at e2
    have e3 := congrArg List.getLast? e2
    simp at e3
    exact e3
  unfold lgP
  refine List.pairwise_map.mpr ?_
  exact (List.nodup_range (n := 4)).imp fun {i j} n e => n (h i j e)
theorem lg_one (c : Int) (k : Nat) (hk : k < 4) (x2 x3 x4 x5 x7 : Option D) (S : Store) : (binE addD (joinN (conE (.str (Str.ofString ""))) (compN (srcR1 (consA (conE (.int 7)) (nilA))) (.one 7) (yesM) (binE ixD (varE 1) (binE modD (binE addD (binE addD (varE 0) (binE mulD (conE (.int 3)) (varE 6))) (binE mulD (varE 7) (varE 7))) (conE (.int 26)))))) (binE ixD (varE 1) (varE 6))) [some (.int c), some (.str (Str.ofString "abcdefghijklmnopqrstuvwxyz")), x2, x3, x4, x5, some (.int (k : Int)), x7] S = .ok (strD (lgN c k)) S := by
  have hr : rng1 [.int 7] S = .ok (intsD (List.range 7), still) S := by
    rw [x_rng1 (by omega) (by omega), ← rng_ints]
    rfl
  obtain ⟨x, hx, ex⟩ := joinN_signs (m := compN (srcR1 (consA (conE (.int 7)) (nilA))) (.one 7) (yesM) (binE ixD (varE 1) (binE modD (binE addD (binE addD (varE 0) (binE mulD (conE (.int 3)) (varE 6))) (binE mulD (varE 7) (varE 7))) (conE (.int 26))))) (l := [some (.int c), some (.str (Str.ofString "abcdefghijklmnopqrstuvwxyz")), x2, x3, x4, x5, some (.int (k : Int)), x7]) (S := S) (S1 := S) (ks := lgW c k) (by
      simp only [x_compN, x_srcR1, x_consA, x_nilA, x_con, R.bind_ok, hr, Tgt.own, wipeL, List.set_cons_succ, List.set_cons_zero]
      unfold intsD lgW
      rw [compL_mapG (fun j : Nat => D.int (j : Int)) (fun j : Nat => sgn (ltr (c + 3 * (k : Int) + (j : Int) * (j : Int)))) (List.range 7)]
      · rw [List.map_map]; rfl
      · intro j hj
        have hj : j < 7 := List.mem_range.mp hj
        have q : ((j : Int)).natAbs < 18446744073709551616 := by omega
        generalize (j : Int) = y at q
        generalize (k : Int) = z
        simp [-x_ixT, x_ix, letters_at, q]
      · rw [sz]; simp) (by simp [lgW])
  have ex : x = mkS (lgW c k) := cs_ext (by rw [ex, cs_mkS])
  have ek : ixO S (.str (Str.ofString "abcdefghijklmnopqrstuvwxyz")) (.int (k : Int)) = some (sgn (97 + k)) := by
    have := letters_at (k : Int) S
    rw [Int.emod_eq_of_lt (by omega) (by omega)] at this
    rw [this]
    unfold ltr
    rw [Int.emod_eq_of_lt (by omega) (by omega)]
    congr 2
  have ea : addD (.str x) (sgn (97 + k)) S = .ok (strD (lgN c k)) S := by
    have := x_addDG (lgW c k) (97 + k) S
    rw [if_pos (by rw [sz]; simp [lgW])] at this
    rw [ex]
    exact this
  rw [x_bin, hx]
  simp [-x_ixT, x_ix, ek, ea]
theorem lg_names (c : Int) (S : Store) : newL tupL (compN (srcR1 (consA (conE (.int 4)) (nilA))) (.one 6) (yesM) (binE addD (joinN (conE (.str (Str.ofString ""))) (compN (srcR1 (consA (conE (.int 7)) (nilA))) (.one 7) (yesM) (binE ixD (varE 1) (binE modD (binE addD (binE addD (varE 0) (binE mulD (conE (.int 3)) (varE 6))) (binE mulD (varE 7) (varE 7))) (conE (.int 26)))))) (binE ixD (varE 1) (varE 6)))) [some (.int c), some (.str (Str.ofString "abcdefghijklmnopqrstuvwxyz")), none, none, none, none, none, none] S = .ok (.tup ((lgP c).map .str)) S := by
  have hr : rng1 [.int 4] S = .ok (intsD (List.range 4), still) S := by
    rw [x_rng1 (by omega) (by omega), ← rng_ints]
    rfl
  have e : (compN (srcR1 (consA (conE (.int 4)) (nilA))) (.one 6) (yesM) (binE addD (joinN (conE (.str (Str.ofString ""))) (compN (srcR1 (consA (conE (.int 7)) (nilA))) (.one 7) (yesM) (binE ixD (varE 1) (binE modD (binE addD (binE addD (varE 0) (binE mulD (conE (.int 3)) (varE 6))) (binE mulD (varE 7) (varE 7))) (conE (.int 26)))))) (binE ixD (varE 1) (varE 6)))) [some (.int c), some (.str (Str.ofString "abcdefghijklmnopqrstuvwxyz")), none, none, none, none, none, none] S = .ok ((lgP c).map .str) S := by
    simp only [x_compN, x_srcR1, x_consA, x_nilA, x_con, R.bind_ok, hr, Tgt.own, wipeL, List.set_cons_succ, List.set_cons_zero]
    unfold intsD lgP
    rw [compL_mapG (fun j : Nat => D.int (j : Int)) (fun j : Nat => strD (lgN c j)) (List.range 4)]
    · rw [List.map_map]; rfl
    · intro j hj
      exact lg_one c j (List.mem_range.mp hj) none none none none none S
    · rw [sz]; simp
  rw [x_newL, e]
  simp [tupL, sz, lgP]
end K05

set_option Elab.async false
set_option linter.all false
set_option maxRecDepth 100000
set_option autoImplicit false
namespace K05
open PySem PySem.Spec L2 ML
theorem Bd_rep {n p : Nat} {h : Bool} {a : D} (ha : St n h p a) : ∀ m : Nat, Bd n h (m * p) (List.replicate m [a]).flatten
  | 0 => by rw [Nat.zero_mul]; exact .nil
  | m + 1 => by
    have e : (m + 1) * p = p + m * p := by rw [Nat.succ_mul, Nat.add_comm]
    rw [List.replicate_succ, List.flatten_cons, e]
    exact .cons ha (Bd_rep ha m)
theorem BN_rep {n : Nat} {a : D} {x : Nt} (ha : SN n a x) : ∀ m : Nat, BN n (List.replicate m [a]).flatten (List.replicate m x)
  | 0 => .nil
  | m + 1 => by
    rw [List.replicate_succ, List.flatten_cons, List.replicate_succ]
    exact .cons ha (BN_rep ha m)
theorem tx_wl (l : List Nat) : (Nt.w l).tx.length = l.length := by rw [Nt.tx]
theorem tx_ll (xs : List Nt) : (Nt.l xs).tx.length = (txs xs).length + 2 := by rw [Nt.tx]; simp
theorem txs_c (x : Nt) (xs : List Nt) : (txs (x :: xs)).length = x.tx.length + (txt xs).length := by rw [txs, List.length_append]
theorem txt_c (x : Nt) (xs : List Nt) : (txt (x :: xs)).length = 1 + x.tx.length + (txt xs).length := by rw [txt]; simp; omega
theorem txt_n : (txt []).length = 0 := by rw [txt]; rfl
theorem txs_n : (txs []).length = 0 := by rw [txs]; rfl
theorem txt_rep (x : Nt) : ∀ m : Nat, (txt (List.replicate m x)).length = m * (1 + x.tx.length)
  | 0 => by rw [List.replicate_zero, txt_n, Nat.zero_mul]
  | m + 1 => by rw [List.replicate_succ, txt_c, txt_rep x m, Nat.succ_mul]; omega
theorem wss_rep (x : Nt) : ∀ m : Nat, (wss (List.replicate m x)).length = m * x.ws.length
  | 0 => by rw [List.replicate_zero, n_ws, Nat.zero_mul]
  | m + 1 => by rw [List.replicate_succ, c_ws, wss_rep x m, Nat.succ_mul]; omega
theorem kw_tx (s : String) : (kwN s).tx.length = s.toList.length := by
  unfold kwN
  rw [tx_wl, cs_of, List.length_map]
def repD (n : Nat) (a : D) : List D := (List.replicate n [a]).flatten
theorem rep_len (m : Nat) (a : D) : (repD m a).length = m := by simp [repD]
theorem mulR (n : Nat) (a : D) (S : Store) (h1 : 2 ≤ n) (h2 : n ≤ 1000) : mulTD (.tup [a]) (.int (n : Int)) S = .ok (.tup (repD n a)) S := x_mulT [a] n S (by simp) (by omega) (by omega) (by simp)
/-- the fun -/
def lgF (c : Int) : D := .tup [w "do", .tup [w "fun", .tup ((lgP c).map .str), .tup []]]
def lgI (c : Int) : D := .tup [w "if", .tup [w "number", .int 7], .tup (repD 12 (lgF c)), .tup []]
def lgD (c : Int) : D := .tup [w "main", .tup [], .tup (repD 11 (lgI c))]
def lgXf (c : Int) : Nt := .l [kwN "do", .l [kwN "fun", .l ((lgP c).map nmN)]]
def lgXi (c : Int) : Nt := .l [kwN "if", numN 7, .l (List.replicate 12 (lgXf c)), .l []]
def lgX (c : Int) : Nt := .l (kwN "main" :: .l [] :: List.replicate 11 (lgXi c))
theorem lgP_len (c : Int) : (lgP c).length = 4 := by simp [lgP]
theorem lgP_ok (c : Int) : ∀ z ∈ lgP c, NmOk z := fun z hz => by
  obtain ⟨k, hk, rfl⟩ := List.mem_map.mp hz
  exact lgN_ok c k (List.mem_range.mp hk)
theorem lgF_st (c : Int) : St 2 true 2 (lgF c) := .does false (.fn false (lgP c) (by rw [lgP_len]; decide) (lgP_ok c) (lgP_nd c) (by simp) .nil)
theorem lgI_st (c : Int) : St 3 true 26 (lgI c) := .ifs (.num 7 (by omega) (by omega)) (by first | (rw [rep_len]; decide) | simp) (Bd_rep (lgF_st c) 12) (by simp) .nil
theorem lgD_pg (c : Int) : Prog 3 (lgD c) := ⟨[], _, _, rfl, by simp, by simp, by simp, by rw [rep_len]; decide, Bd_rep (lgI_st c) 11, by omega, by omega⟩
theorem lgF_sn (c : Int) : SN 2 (lgF c) (lgXf c) := .one "do" (by simp) (.fn false (lgP c) (by rw [lgP_len]; decide) (lgP_ok c) (by simp) .nil)
theorem lgI_sn (c : Int) : SN 3 (lgI c) (lgXi c) := .ifs (.num 7 (by omega) (by omega)) (by first | (rw [rep_len]; decide) | simp) (BN_rep (lgF_sn c) 12) (by simp) .nil
theorem lgD_pn (c : Int) : PN 3 (lgD c) (lgX c) := .mk [] (by simp) (by simp) (by first | (rw [rep_len]; decide) | simp) (BN_rep (lgI_sn c) 11)
theorem nms_txl : ∀ (zs : List (List Nat)), (∀ z ∈ zs, z.length = 8) → (txt ((zs.map mkS).map nmN)).length = 9 * zs.length
  | [], _ => txt_n
  | z :: zs, h => by
    rw [List.map_cons, List.map_cons, txt_c, nms_txl zs fun y hy => h y (List.mem_cons_of_mem _ hy), nmN, tx_wl, cs_mkS, h z List.mem_cons_self, List.length_cons]
    omega
theorem lgXf_tx (c : Int) : (lgXf c).tx.length = 48 := by
  have e : txs ((lgP c).map nmN) = (nmN (mkS (lgN c 0))).tx ++ txt ((((List.range' 1 3).map fun k => lgN c k).map mkS).map nmN) := rfl
  have e2 : (txs ((lgP c).map nmN)).length = 35 := by
    rw [e, List.length_append, nms_txl _ (fun z hz => by
      obtain ⟨k, _, rfl⟩ := List.mem_map.mp hz
      exact lgN_len c k), nmN, tx_wl, cs_mkS, lgN_len]
    rfl
  have e3 : "do".toList.length = 2 := rfl
  have e4 : "fun".toList.length = 3 := rfl
  unfold lgXf
  rw [tx_ll, txs_c, txt_c, txt_n, kw_tx, tx_ll, txs_c, txt_c, txt_n, kw_tx, tx_ll, e2, e3, e4]
theorem lgXi_tx (c : Int) : 598 ≤ (lgXi c).tx.length := by
  have e3 : "if".toList.length = 2 := rfl
  have e : (txs (List.replicate 12 (lgXf c))).length = 48 + 11 * (1 + 48) := by
    rw [List.replicate_succ, txs_c, txt_rep, lgXf_tx]
  unfold lgXi
  rw [tx_ll, txs_c, txt_c, txt_c, txt_c, txt_n, kw_tx, tx_ll, tx_ll, txs_n, e, e3]
  omega
theorem lgX_tx (c : Int) : 6000 < (lgX c).tx.length := by
  have e3 : "main".toList.length = 4 := rfl
  have := lgXi_tx c
  unfold lgX
  rw [tx_ll, txs_c, txt_c, txt_rep, kw_tx, tx_ll, txs_n, e3]
  have : 11 * (1 + 598) ≤ 11 * (1 + (lgXi c).tx.length) := Nat.mul_le_mul_left _ (by omega)
  omega
theorem lgX_ws (c : Int) : (lgX c).ws.length ≤ 3000 := by
  have e1 : (lgXf c).ws.length = 12 := by
    unfold lgXf
    rw [l_ws, c_ws, c_ws, n_ws, kw_ws, l_ws, c_ws, c_ws, n_ws, kw_ws, l_ws, wss_nms, lgP_len]
  have e2 : (lgXi c).ws.length = 12 * 12 + 8 := by
    unfold lgXi
    rw [l_ws, c_ws, c_ws, c_ws, c_ws, n_ws, kw_ws, num_ws, l_ws, l_ws, n_ws, wss_rep, e1]
  unfold lgX
  rw [l_ws, c_ws, c_ws, kw_ws, l_ws, n_ws, wss_rep, e2]
  omega
theorem long_eq (c : Int) (S : Store) : ∃ S', F__law_long_right [.int c] S = .ok (.bl true) S' := by
  have hp := lgD_pg c
  have h := lgD_pn c
  have hz := lgX_ws c
  have ht := lgX_tx c
  have hl := Nt.tx_len (lgX c) h.ok
  generalize ex : lgX c = x at h hz ht hl
  obtain ⟨X, r, e1, k1, et⟩ := due_eq (by omega) h (by omega) S
  obtain ⟨Y, e2⟩ := et _ k1
  obtain ⟨Z, e3⟩ := shown_eq hp h (by omega) (S ++ X ++ Y)
  have e4 := read_long (L := x.tx) ht (by omega) (S ++ X ++ Y ++ Z)
  have e5 : lenV [strD x.tx] (S ++ X ++ Y) = .ok (.int (x.tx.length : Int)) (S ++ X ++ Y) := x_lenD (by omega)
  have en := lg_names c S
  refine ⟨S ++ X ++ Y ++ Z, ?_⟩
  simp only [F__law_long_right, m__law_long_right, N__law_long_right, x_bodyF, startL]
  generalize newL tupL _ = nm at en ⊢
  have eF : D.tup [w "do", .tup [w "fun", .tup ((lgP c).map .str), .tup []]] = lgF c := rfl
  have eI : D.tup [w "if", .tup [w "number", .int 7], .tup (repD 12 (lgF c)), .tup []] = lgI c := rfl
  have eD : D.tup [w "main", .tup [], .tup (repD 11 (lgI c))] = lgD c := rfl
  have m1 : ∀ S, mulTD (.tup [.tup [w "do", .tup [w "fun", .tup ((lgP c).map .str), .tup []]]]) (.int 12) S = .ok (.tup (repD 12 (lgF c))) S := fun S => mulR 12 (lgF c) S (by omega) (by omega)
  have m2 : ∀ S, mulTD (.tup [.tup [w "if", .tup [w "number", .int 7], .tup (repD 12 (lgF c)), .tup []]]) (.int 11) S = .ok (.tup (repD 11 (lgI c))) S := fun S => mulR 11 (lgI c) S (by omega) (by omega)
  simp only [lgD] at e1 e3
  generalize repD 12 (lgF c) = B1 at *
  generalize repD 11 (lgI c) = B2 at *
  have e6 : leD (.int (x.tx.length : Int)) (.int 6000) (S ++ X ++ Y) = .ok false (S ++ X ++ Y) := by
    show R.ok (decide ((x.tx.length : Int) ≤ 6000)) _ = _
    rw [decide_eq_false (by omega)]
  have e7 : (exprS (callE 1 F_read (consA (varE 5) nilA))) [some (D.int c), some (.str (Str.ofString "abcdefghijklmnopqrstuvwxyz")), some (.tup ((lgP c).map .str)), some (.tup B1), some (D.tup [w "main", .tup [], .tup B2]), some (strD x.tx), none, none] (S ++ X ++ Y ++ Z) = .ex ⟨2, []⟩ (S ++ X ++ Y ++ Z) := by
    simp [-List.append_assoc, e4]
  have e8 := catchO_ex (mh := retS (conE (.bl true))) e7 (hit := hit_BadText) rfl
  simp [-List.append_assoc, -x_mulT, en, sz, m1, m2, e1, e2, e3, e5, e6, x_neDD, e8]
end K05

set_option Elab.async false
set_option linter.all false
set_option maxRecDepth 100000
set_option autoImplicit false
namespace K05
open PySem PySem.Spec L2 ML
/-- read, and shown again -/
theorem round_eq {N : Nat} {d : D} {x : Nt} (hp : Prog N d) (h : PN N d x) (hz : x.ws.length ≤ 100000) {L : List Nat} (hl : L.length ≤ 6000) (hg : ∀ c ∈ L, good c) (hw : wordsOf L = x.ws) (x0 x2 x4 x5 : Option D) (S : Store) : ∃ S', b_law_0 [x0, some d, x2, some (strD x.tx), x4, x5, some (strD L)] S = .ok (.nx, [x0, some d, x2, some (strD x.tx), x4, x5, some (strD L)]) S' := by
  obtain ⟨S1, e1, _⟩ := read_eq hp h hz hl hg hw S
  obtain ⟨S2, e2, _⟩ := read_eq hp h hz hl hg hw S1
  obtain ⟨X, e3⟩ := shown_eq hp h hz S2
  refine ⟨S2 ++ X, ?_⟩
  have n1 := (hp.same S1).2
  simp [-List.append_assoc, b_law_0, e1, n1, e2, e3, x_neDD]
theorem tail_eq (ns : List Int) (S : Store) : ∃ S' l', seqS (setS 1 (callE 2 F__law_program (consA (varE 0) (consA (conE (.int 40)) (nilA))))) (seqS (setS 2 (callE 1 F__law_function_words (consA (varE 1) (nilA)))) (seqS (setS 3 (callE 2 F__law_text (consA (varE 2) (consA (conE .non) (nilA))))) (seqS (ifS (cmpM gtD (newL lenV (consA (varE 3) (nilA))) (conE (.int 2000))) (retS (conE (.bl true))) (nilS)) (seqS (setS 4 (callE 2 F__law_text (consA (varE 2) (consA (dictE (consP (conE (.str (Str.ofString "cells"))) (varE 0) (consP (conE (.str (Str.ofString "at"))) (conE (.int 7)) (nilP)))) (nilA))))) (seqS (setS 5 (callE 1 F_shown (consA (varE 1) (nilA)))) (seqS (ifS (orM (notM (ofV (toV (isE "str" (varE 5))))) (orM (cmpM neD (varE 5) (varE 3)) (cmpM neD (callE 1 F_shown (consA (varE 1) (nilA))) (varE 3)))) (retS (conE (.bl false))) (nilS)) (seqS (forS (srcV (tupE (consA (varE 3) (consA (varE 4) (consA (varE 3) (nilA)))))) (nameT 6) (b_law_0)) (retS (conE (.bl true)))))))))) [some (.lis (ns.map .int)), none, none, none, none, none, none] S = .ok (.rt (.bl true), l') S' := by
  obtain ⟨S3, d, e1, hm⟩ := program_eq ns S
  have hp := hm.prog
  obtain ⟨x, h, hz⟩ := hp.pn
  have hk := h.ok
  have hl := Nt.tx_len x hk
  have hx := h.ex
  obtain ⟨X, r, e2, k2, et⟩ := due_eq (by omega) h (by omega) S3
  obtain ⟨Y, e3⟩ := et _ k2
  obtain ⟨S4, hS4⟩ : ∃ T, S3 ++ X ++ Y = T := ⟨_, rfl⟩
  have k4 : S4[r]? = some (.lst (tok x.ws)) := by rw [← hS4]; exact at_app k2
  rw [hS4] at e3
  have e4 : lenV [strD x.tx] S4 = .ok (.int (x.tx.length : Int)) S4 := x_lenD (by omega)
  by_cases c : 2000 < x.tx.length
  · have e5 : gtD (.int (x.tx.length : Int)) (.int 2000) S4 = .ok true S4 := by
      show R.ok (decide ((2000 : Int) < (x.tx.length : Int))) _ = _
      rw [decide_eq_true (by omega)]
    refine ⟨S4, [some (.lis (ns.map .int)), some d, some (.ref r), some (strD x.tx), none, none, none], ?_⟩
    simp [-List.append_assoc, e1, e2, e3, e4, e5]
  · have e5 : gtD (.int (x.tx.length : Int)) (.int 2000) S4 = .ok false S4 := by
      show R.ok (decide ((2000 : Int) < (x.tx.length : Int))) _ = _
      rw [decide_eq_false (by omega)]
    obtain ⟨S5, hS5⟩ : ∃ T, S4 ++ [uC ns 7] = T := ⟨_, rfl⟩
    have k5 : S5[r]? = some (.lst (tok x.ws)) := by rw [← hS5]; exact at_app k4
    have s5 : S5[S4.length]? = some (uC ns 7) := by rw [← hS5]; exact at_end
    have lt := lt_of_at k4
    obtain ⟨L, S6, was, e6, hM, hL, f6⟩ := loose_eq hk (by omega) k5 s5 (by omega)
    obtain ⟨A, e7⟩ := shown_eq hp h (by omega) S6
    obtain ⟨B, e8⟩ := shown_eq hp h (by omega) (S6 ++ A)
    obtain ⟨g, hw⟩ := tx_words hk
    have hL6 : L.length ≤ 6000 := by unfold exI at hx; omega
    obtain ⟨T1, r1⟩ := round_eq hp h (by omega) (L := x.tx) (by omega) g hw (some (.lis (ns.map .int))) (some (.ref r)) (some (strD L)) (some (strD x.tx)) (S6 ++ A ++ B)
    obtain ⟨T2, r2⟩ := round_eq hp h (by omega) (L := L) hL6 hM.1 (MI_words hM) (some (.lis (ns.map .int))) (some (.ref r)) (some (strD L)) (some (strD x.tx)) T1
    obtain ⟨T3, r3⟩ := round_eq hp h (by omega) (L := x.tx) (by omega) g hw (some (.lis (ns.map .int))) (some (.ref r)) (some (strD L)) (some (strD x.tx)) T2
    refine ⟨T3, [some (.lis (ns.map .int)), some d, some (.ref r), some (strD x.tx), some (strD L), some (strD x.tx), some (strD x.tx)], ?_⟩
    have hk : keysO [(D.str (Str.ofString "cells"), D.lis (ns.map D.int)), (D.str (Str.ofString "at"), D.int 7)] = some (uL ns 7) := rfl
    have hmg : mergeD [] (uL ns 7) = uL ns 7 := rfl
    have hsl : (uL ns 7).length = 2 := rfl
    have hda : dctAt (S4 ++ [Cell.dct []]) S4.length = some [] := by
      unfold dctAt
      simp
    have ks : ∀ S w, kindO S (strD w) = some "str" := fun _ _ => rfl
    have ki : isKind "str" "str" = true := rfl
    unfold uC at hS5
    simp [-List.append_assoc, e1, e2, e3, e4, e5, hk, hmg, hsl, hda, hS5, sz, e6, e7, e8, x_neDD, ks, ki, r1, r2, r3, forL_cons (chk := still) trivial, forL_nil (chk := still) trivial]
    done
theorem law_true : ∀ ns : List Int, ns.length ≤ 63 → ∃ S', F_law [.lis (ns.map D.int)] [] = .ok (.bl true) S' := by
  intro ns _
  obtain ⟨c5, h5⟩ := cell_int ns 5 (by omega)
  obtain ⟨c4, h4⟩ := cell_int ns 4 (by omega)
  obtain ⟨S1, e1⟩ := deep_eq c5 []
  unfold F_law
  simp only [x_bodyF, m_law, N_law, startL]
  by_cases c : c4 % 16 = 5
  · obtain ⟨S2, e2⟩ := long_eq c5 S1
    obtain ⟨S3, l, e3⟩ := tail_eq ns S2
    generalize seqS (setS 1 (callE 2 F__law_program _)) _ = tl at e3 ⊢
    refine ⟨S3, ?_⟩
    simp [-List.append_assoc, h5, h4, e1, c, e2, e3]
  · obtain ⟨S3, l, e3⟩ := tail_eq ns S1
    generalize seqS (setS 1 (callE 2 F__law_program _)) _ = tl at e3 ⊢
    refine ⟨S3, ?_⟩
    simp [-List.append_assoc, h5, h4, e1, c, e3]
end K05

set_option Elab.async false
set_option linter.all false
set_option maxRecDepth 100000
set_option autoImplicit false
set_option maxHeartbeats 4000000
namespace K05
open PySem PySem.Spec L2 ML
theorem all_mk {l : PySem.W.OpenLaw} {w : World} {K : PySem.W.Frag} {h : Heap} {mg : Str → Option Value} {fa : Addr} (X : K.In h) (G : h.Ns mainGlobals mg) (hfa : mg "law" = some (.ref fa))
    {f1 : Addr} {od1 an1 : Option Addr} {sl1 : Array (Option Value)} {oc1 kV1 dc1 pm1 cd1 ct1 : Value}
    {f2 : Addr} {od2 an2 : Option Addr} {sl2 : Array (Option Value)} {oc2 kV2 dc2 pm2 cd2 ct2 : Value}
    {f3 : Addr} {od3 an3 : Option Addr} {sl3 : Array (Option Value)} {oc3 kV3 dc3 pm3 cd3 ct3 : Value}
    {f4 : Addr} {od4 an4 : Option Addr} {sl4 : Array (Option Value)} {oc4 kV4 dc4 pm4 cd4 ct4 : Value}
    {f5 : Addr} {od5 an5 : Option Addr} {sl5 : Array (Option Value)} {oc5 kV5 dc5 pm5 cd5 ct5 : Value}
    {f6 : Addr} {od6 an6 : Option Addr} {sl6 : Array (Option Value)} {oc6 kV6 dc6 pm6 cd6 ct6 : Value}
    {f7 : Addr} {od7 an7 : Option Addr} {sl7 : Array (Option Value)} {oc7 kV7 dc7 pm7 cd7 ct7 : Value}
    {f8 : Addr} {od8 an8 : Option Addr} {sl8 : Array (Option Value)} {oc8 kV8 dc8 pm8 cd8 ct8 : Value}
    {f9 : Addr} {od9 an9 : Option Addr} {sl9 : Array (Option Value)} {oc9 kV9 dc9 pm9 cd9 ct9 : Value}
    {f10 : Addr} {od10 an10 : Option Addr} {sl10 : Array (Option Value)} {oc10 kV10 dc10 pm10 cd10 ct10 : Value}
    {f11 : Addr} {od11 an11 : Option Addr} {sl11 : Array (Option Value)} {oc11 kV11 dc11 pm11 cd11 ct11 : Value}
    {f12 : Addr} {od12 an12 : Option Addr} {sl12 : Array (Option Value)} {oc12 kV12 dc12 pm12 cd12 ct12 : Value}
    {f13 : Addr} {od13 an13 : Option Addr} {sl13 : Array (Option Value)} {oc13 kV13 dc13 pm13 cd13 ct13 : Value}
    {f14 : Addr} {od14 an14 : Option Addr} {sl14 : Array (Option Value)} {oc14 kV14 dc14 pm14 cd14 ct14 : Value}
    {f15 : Addr} {od15 an15 : Option Addr} {sl15 : Array (Option Value)} {oc15 kV15 dc15 pm15 cd15 ct15 : Value}
    {f16 : Addr} {od16 an16 : Option Addr} {sl16 : Array (Option Value)} {oc16 kV16 dc16 pm16 cd16 ct16 : Value}
    {f17 : Addr} {od17 an17 : Option Addr} {sl17 : Array (Option Value)} {oc17 kV17 dc17 pm17 cd17 ct17 : Value}
    {f18 : Addr} {od18 an18 : Option Addr} {sl18 : Array (Option Value)} {oc18 kV18 dc18 pm18 cd18 ct18 : Value}
    {f19 : Addr} {od19 an19 : Option Addr} {sl19 : Array (Option Value)} {oc19 kV19 dc19 pm19 cd19 ct19 : Value}
    {f20 : Addr} {od20 an20 : Option Addr} {sl20 : Array (Option Value)} {oc20 kV20 dc20 pm20 cd20 ct20 : Value}
    {f21 : Addr} {od21 an21 : Option Addr} {sl21 : Array (Option Value)} {oc21 kV21 dc21 pm21 cd21 ct21 : Value}
    {f22 : Addr} {od22 an22 : Option Addr} {sl22 : Array (Option Value)} {oc22 kV22 dc22 pm22 cd22 ct22 : Value}
    {f23 : Addr} {od23 an23 : Option Addr} {sl23 : Array (Option Value)} {oc23 kV23 dc23 pm23 cd23 ct23 : Value}
    {f24 : Addr} {od24 an24 : Option Addr} {sl24 : Array (Option Value)} {oc24 kV24 dc24 pm24 cd24 ct24 : Value}
    {f25 : Addr} {od25 an25 : Option Addr} {sl25 : Array (Option Value)} {oc25 kV25 dc25 pm25 cd25 ct25 : Value}
    {f26 : Addr} {od26 an26 : Option Addr} {sl26 : Array (Option Value)} {oc26 kV26 dc26 pm26 cd26 ct26 : Value}
    {f27 : Addr} {od27 an27 : Option Addr} {sl27 : Array (Option Value)} {oc27 kV27 dc27 pm27 cd27 ct27 : Value}
    {f28 : Addr} {od28 an28 : Option Addr} {sl28 : Array (Option Value)} {oc28 kV28 dc28 pm28 cd28 ct28 : Value}
    {f29 : Addr} {od29 an29 : Option Addr} {sl29 : Array (Option Value)} {oc29 kV29 dc29 pm29 cd29 ct29 : Value}
    {f30 : Addr} {od30 an30 : Option Addr} {sl30 : Array (Option Value)} {oc30 kV30 dc30 pm30 cd30 ct30 : Value}
    {f31 : Addr} {od31 an31 : Option Addr} {sl31 : Array (Option Value)} {oc31 kV31 dc31 pm31 cd31 ct31 : Value}
    {f32 : Addr} {od32 an32 : Option Addr} {sl32 : Array (Option Value)} {oc32 kV32 dc32 pm32 cd32 ct32 : Value}
    {f33 : Addr} {od33 an33 : Option Addr} {sl33 : Array (Option Value)} {oc33 kV33 dc33 pm33 cd33 ct33 : Value}
    {f34 : Addr} {od34 an34 : Option Addr} {sl34 : Array (Option Value)} {oc34 kV34 dc34 pm34 cd34 ct34 : Value}
    {f35 : Addr} {od35 an35 : Option Addr} {sl35 : Array (Option Value)} {oc35 kV35 dc35 pm35 cd35 ct35 : Value}
    {f36 : Addr} {od36 an36 : Option Addr} {sl36 : Array (Option Value)} {oc36 kV36 dc36 pm36 cd36 ct36 : Value}
    {f37 : Addr} {od37 an37 : Option Addr} {sl37 : Array (Option Value)} {oc37 kV37 dc37 pm37 cd37 ct37 : Value}
    {f38 : Addr} {od38 an38 : Option Addr} {sl38 : Array (Option Value)} {oc38 kV38 dc38 pm38 cd38 ct38 : Value}
    {f39 : Addr} {od39 an39 : Option Addr} {sl39 : Array (Option Value)} {oc39 kV39 dc39 pm39 cd39 ct39 : Value}
    {f40 : Addr} {od40 an40 : Option Addr} {sl40 : Array (Option Value)} {oc40 kV40 dc40 pm40 cd40 ct40 : Value}
    {f41 : Addr} {od41 an41 : Option Addr} {sl41 : Array (Option Value)} {oc41 kV41 dc41 pm41 cd41 ct41 : Value}
    {f42 : Addr} {od42 an42 : Option Addr} {sl42 : Array (Option Value)} {oc42 kV42 dc42 pm42 cd42 ct42 : Value}
    {f43 : Addr} {od43 an43 : Option Addr} {sl43 : Array (Option Value)} {oc43 kV43 dc43 pm43 cd43 ct43 : Value}
    {f44 : Addr} {od44 an44 : Option Addr} {sl44 : Array (Option Value)} {oc44 kV44 dc44 pm44 cd44 ct44 : Value}
    {f45 : Addr} {od45 an45 : Option Addr} {sl45 : Array (Option Value)} {oc45 kV45 dc45 pm45 cd45 ct45 : Value}
    {f46 : Addr} {od46 an46 : Option Addr} {sl46 : Array (Option Value)} {oc46 kV46 dc46 pm46 cd46 ct46 : Value}
    {f47 : Addr} {od47 an47 : Option Addr} {sl47 : Array (Option Value)} {oc47 kV47 dc47 pm47 cd47 ct47 : Value}
    {f48 : Addr} {od48 an48 : Option Addr} {sl48 : Array (Option Value)} {oc48 kV48 dc48 pm48 cd48 ct48 : Value}
    {f49 : Addr} {od49 an49 : Option Addr} {sl49 : Array (Option Value)} {oc49 kV49 dc49 pm49 cd49 ct49 : Value}
    {t_GREATEST : Tok}
    {t_MOST_DEPTH : Tok}
    {t_MOST_LETTERS : Tok}
    {t_MOST_NAMES : Tok}
    {t_MOST_PARTS : Tok}
    {t_MOST_SIGNS : Tok}
    {t_MOST_STATEMENTS : Tok}
    {t_MOST_TERMS : Tok}
    {t_MOST_WORD : Tok}
    {t_PERCENT : Tok}
    {a_SIGNS : Addr} {n_SIGNS : Nat} {z_SIGNS : Array (Option Value)} {d_SIGNS : Option Addr} {t_SIGNS_0 : Tok} {t_SIGNS_1 : Tok} {t_SIGNS_2 : Tok} {t_SIGNS_3 : Tok} {t_SIGNS_4 : Tok}
    {C_BadTree : Addr}
    {C_BadText : Addr}
    (a1 : PySem.W.nsIn K mainGlobals "_law_cell_at" = some (some (.ref f1)))
    (l1 : K.lookup f1 = some ⟨oc1, od1, .func (PySem.W.fnOf "_law_cell_at" "_law_cell_at" (defArgs s__law_cell_at) (defBody s__law_cell_at) (defScope s__law_cell_at) .none kV1 dc1 pm1 an1 cd1 ct1), sl1⟩)
    (c1 : PySem.W.codeIn K cd1 "_law_cell_at" = true)
    (k1 : PySem.W.keepIn K (.ref f1) = true)
    (a2 : PySem.W.nsIn K mainGlobals "_law_bodies" = some (some (.ref f2)))
    (l2 : K.lookup f2 = some ⟨oc2, od2, .func (PySem.W.fnOf "_law_bodies" "_law_bodies" (defArgs s__law_bodies) (defBody s__law_bodies) (defScope s__law_bodies) .none kV2 dc2 pm2 an2 cd2 ct2), sl2⟩)
    (c2 : PySem.W.codeIn K cd2 "_law_bodies" = true)
    (k2 : PySem.W.keepIn K (.ref f2) = true)
    (a3 : PySem.W.nsIn K mainGlobals "_law_function_words" = some (some (.ref f3)))
    (l3 : K.lookup f3 = some ⟨oc3, od3, .func (PySem.W.fnOf "_law_function_words" "_law_function_words" (defArgs s__law_function_words) (defBody s__law_function_words) (defScope s__law_function_words) .none kV3 dc3 pm3 an3 cd3 ct3), sl3⟩)
    (c3 : PySem.W.codeIn K cd3 "_law_function_words" = true)
    (k3 : PySem.W.keepIn K (.ref f3) = true)
    (a4 : PySem.W.nsIn K mainGlobals "_law_term_words" = some (some (.ref f4)))
    (l4 : K.lookup f4 = some ⟨oc4, od4, .func (PySem.W.fnOf "_law_term_words" "_law_term_words" (defArgs s__law_term_words) (defBody s__law_term_words) (defScope s__law_term_words) .none kV4 dc4 pm4 an4 cd4 ct4), sl4⟩)
    (c4 : PySem.W.codeIn K cd4 "_law_term_words" = true)
    (k4 : PySem.W.keepIn K (.ref f4) = true)
    (a5 : PySem.W.nsIn K mainGlobals "_law_words" = some (some (.ref f5)))
    (l5 : K.lookup f5 = some ⟨oc5, od5, .func (PySem.W.fnOf "_law_words" "_law_words" (defArgs s__law_words) (defBody s__law_words) (defScope s__law_words) .none kV5 dc5 pm5 an5 cd5 ct5), sl5⟩)
    (c5 : PySem.W.codeIn K cd5 "_law_words" = true)
    (k5 : PySem.W.keepIn K (.ref f5) = true)
    (a6 : PySem.W.nsIn K mainGlobals "_law_next" = some (some (.ref f6)))
    (l6 : K.lookup f6 = some ⟨oc6, od6, .func (PySem.W.fnOf "_law_next" "_law_next" (defArgs s__law_next) (defBody s__law_next) (defScope s__law_next) .none kV6 dc6 pm6 an6 cd6 ct6), sl6⟩)
    (c6 : PySem.W.codeIn K cd6 "_law_next" = true)
    (k6 : PySem.W.keepIn K (.ref f6) = true)
    (a7 : PySem.W.nsIn K mainGlobals "_law_text" = some (some (.ref f7)))
    (l7 : K.lookup f7 = some ⟨oc7, od7, .func (PySem.W.fnOf "_law_text" "_law_text" (defArgs s__law_text) (defBody s__law_text) (defScope s__law_text) .none kV7 dc7 pm7 an7 cd7 ct7), sl7⟩)
    (c7 : PySem.W.codeIn K cd7 "_law_text" = true)
    (k7 : PySem.W.keepIn K (.ref f7) = true)
    (a8 : PySem.W.nsIn K mainGlobals "names_in" = some (some (.ref f8)))
    (l8 : K.lookup f8 = some ⟨oc8, od8, .func (PySem.W.fnOf "names_in" "names_in" (defArgs s_names_in) (defBody s_names_in) (defScope s_names_in) .none kV8 dc8 pm8 an8 cd8 ct8), sl8⟩)
    (c8 : PySem.W.codeIn K cd8 "names_in" = true)
    (k8 : PySem.W.keepIn K (.ref f8) = true)
    (a9 : PySem.W.nsIn K mainGlobals "need_row" = some (some (.ref f9)))
    (l9 : K.lookup f9 = some ⟨oc9, od9, .func (PySem.W.fnOf "need_row" "need_row" (defArgs s_need_row) (defBody s_need_row) (defScope s_need_row) .none kV9 dc9 pm9 an9 cd9 ct9), sl9⟩)
    (c9 : PySem.W.codeIn K cd9 "need_row" = true)
    (k9 : PySem.W.keepIn K (.ref f9) = true)
    (a10 : PySem.W.nsIn K mainGlobals "is_name" = some (some (.ref f10)))
    (l10 : K.lookup f10 = some ⟨oc10, od10, .func (PySem.W.fnOf "is_name" "is_name" (defArgs s_is_name) (defBody s_is_name) (defScope s_is_name) .none kV10 dc10 pm10 an10 cd10 ct10), sl10⟩)
    (c10 : PySem.W.codeIn K cd10 "is_name" = true)
    (k10 : PySem.W.keepIn K (.ref f10) = true)
    (a11 : PySem.W.nsIn K mainGlobals "is_number" = some (some (.ref f11)))
    (l11 : K.lookup f11 = some ⟨oc11, od11, .func (PySem.W.fnOf "is_number" "is_number" (defArgs s_is_number) (defBody s_is_number) (defScope s_is_number) .none kV11 dc11 pm11 an11 cd11 ct11), sl11⟩)
    (c11 : PySem.W.codeIn K cd11 "is_number" = true)
    (k11 : PySem.W.keepIn K (.ref f11) = true)
    (a12 : PySem.W.nsIn K mainGlobals "number_of" = some (some (.ref f12)))
    (l12 : K.lookup f12 = some ⟨oc12, od12, .func (PySem.W.fnOf "number_of" "number_of" (defArgs s_number_of) (defBody s_number_of) (defScope s_number_of) .none kV12 dc12 pm12 an12 cd12 ct12), sl12⟩)
    (c12 : PySem.W.codeIn K cd12 "number_of" = true)
    (k12 : PySem.W.keepIn K (.ref f12) = true)
    (a13 : PySem.W.nsIn K mainGlobals "simple_term" = some (some (.ref f13)))
    (l13 : K.lookup f13 = some ⟨oc13, od13, .func (PySem.W.fnOf "simple_term" "simple_term" (defArgs s_simple_term) (defBody s_simple_term) (defScope s_simple_term) .none kV13 dc13 pm13 an13 cd13 ct13), sl13⟩)
    (c13 : PySem.W.codeIn K cd13 "simple_term" = true)
    (k13 : PySem.W.keepIn K (.ref f13) = true)
    (a14 : PySem.W.nsIn K mainGlobals "term_in" = some (some (.ref f14)))
    (l14 : K.lookup f14 = some ⟨oc14, od14, .func (PySem.W.fnOf "term_in" "term_in" (defArgs s_term_in) (defBody s_term_in) (defScope s_term_in) .none kV14 dc14 pm14 an14 cd14 ct14), sl14⟩)
    (c14 : PySem.W.codeIn K cd14 "term_in" = true)
    (k14 : PySem.W.keepIn K (.ref f14) = true)
    (a15 : PySem.W.nsIn K mainGlobals "body_in" = some (some (.ref f15)))
    (l15 : K.lookup f15 = some ⟨oc15, od15, .func (PySem.W.fnOf "body_in" "body_in" (defArgs s_body_in) (defBody s_body_in) (defScope s_body_in) .none kV15 dc15 pm15 an15 cd15 ct15), sl15⟩)
    (c15 : PySem.W.codeIn K cd15 "body_in" = true)
    (k15 : PySem.W.keepIn K (.ref f15) = true)
    (a16 : PySem.W.nsIn K mainGlobals "long_statement" = some (some (.ref f16)))
    (l16 : K.lookup f16 = some ⟨oc16, od16, .func (PySem.W.fnOf "long_statement" "long_statement" (defArgs s_long_statement) (defBody s_long_statement) (defScope s_long_statement) .none kV16 dc16 pm16 an16 cd16 ct16), sl16⟩)
    (c16 : PySem.W.codeIn K cd16 "long_statement" = true)
    (k16 : PySem.W.keepIn K (.ref f16) = true)
    (a17 : PySem.W.nsIn K mainGlobals "statement_in" = some (some (.ref f17)))
    (l17 : K.lookup f17 = some ⟨oc17, od17, .func (PySem.W.fnOf "statement_in" "statement_in" (defArgs s_statement_in) (defBody s_statement_in) (defScope s_statement_in) .none kV17 dc17 pm17 an17 cd17 ct17), sl17⟩)
    (c17 : PySem.W.codeIn K cd17 "statement_in" = true)
    (k17 : PySem.W.keepIn K (.ref f17) = true)
    (a18 : PySem.W.nsIn K mainGlobals "has_word" = some (some (.ref f18)))
    (l18 : K.lookup f18 = some ⟨oc18, od18, .func (PySem.W.fnOf "has_word" "has_word" (defArgs s_has_word) (defBody s_has_word) (defScope s_has_word) .none kV18 dc18 pm18 an18 cd18 ct18), sl18⟩)
    (c18 : PySem.W.codeIn K cd18 "has_word" = true)
    (k18 : PySem.W.keepIn K (.ref f18) = true)
    (a19 : PySem.W.nsIn K mainGlobals "is_names" = some (some (.ref f19)))
    (l19 : K.lookup f19 = some ⟨oc19, od19, .func (PySem.W.fnOf "is_names" "is_names" (defArgs s_is_names) (defBody s_is_names) (defScope s_is_names) .none kV19 dc19 pm19 an19 cd19 ct19), sl19⟩)
    (c19 : PySem.W.codeIn K cd19 "is_names" = true)
    (k19 : PySem.W.keepIn K (.ref f19) = true)
    (a20 : PySem.W.nsIn K mainGlobals "is_simple" = some (some (.ref f20)))
    (l20 : K.lookup f20 = some ⟨oc20, od20, .func (PySem.W.fnOf "is_simple" "is_simple" (defArgs s_is_simple) (defBody s_is_simple) (defScope s_is_simple) .none kV20 dc20 pm20 an20 cd20 ct20), sl20⟩)
    (c20 : PySem.W.codeIn K cd20 "is_simple" = true)
    (k20 : PySem.W.keepIn K (.ref f20) = true)
    (a21 : PySem.W.nsIn K mainGlobals "is_function" = some (some (.ref f21)))
    (l21 : K.lookup f21 = some ⟨oc21, od21, .func (PySem.W.fnOf "is_function" "is_function" (defArgs s_is_function) (defBody s_is_function) (defScope s_is_function) .none kV21 dc21 pm21 an21 cd21 ct21), sl21⟩)
    (c21 : PySem.W.codeIn K cd21 "is_function" = true)
    (k21 : PySem.W.keepIn K (.ref f21) = true)
    (a22 : PySem.W.nsIn K mainGlobals "is_term" = some (some (.ref f22)))
    (l22 : K.lookup f22 = some ⟨oc22, od22, .func (PySem.W.fnOf "is_term" "is_term" (defArgs s_is_term) (defBody s_is_term) (defScope s_is_term) .none kV22 dc22 pm22 an22 cd22 ct22), sl22⟩)
    (c22 : PySem.W.codeIn K cd22 "is_term" = true)
    (k22 : PySem.W.keepIn K (.ref f22) = true)
    (a23 : PySem.W.nsIn K mainGlobals "is_body" = some (some (.ref f23)))
    (l23 : K.lookup f23 = some ⟨oc23, od23, .func (PySem.W.fnOf "is_body" "is_body" (defArgs s_is_body) (defBody s_is_body) (defScope s_is_body) .none kV23 dc23 pm23 an23 cd23 ct23), sl23⟩)
    (c23 : PySem.W.codeIn K cd23 "is_body" = true)
    (k23 : PySem.W.keepIn K (.ref f23) = true)
    (a24 : PySem.W.nsIn K mainGlobals "is_short" = some (some (.ref f24)))
    (l24 : K.lookup f24 = some ⟨oc24, od24, .func (PySem.W.fnOf "is_short" "is_short" (defArgs s_is_short) (defBody s_is_short) (defScope s_is_short) .none kV24 dc24 pm24 an24 cd24 ct24), sl24⟩)
    (c24 : PySem.W.codeIn K cd24 "is_short" = true)
    (k24 : PySem.W.keepIn K (.ref f24) = true)
    (a25 : PySem.W.nsIn K mainGlobals "is_statement" = some (some (.ref f25)))
    (l25 : K.lookup f25 = some ⟨oc25, od25, .func (PySem.W.fnOf "is_statement" "is_statement" (defArgs s_is_statement) (defBody s_is_statement) (defScope s_is_statement) .none kV25 dc25 pm25 an25 cd25 ct25), sl25⟩)
    (c25 : PySem.W.codeIn K cd25 "is_statement" = true)
    (k25 : PySem.W.keepIn K (.ref f25) = true)
    (a26 : PySem.W.nsIn K mainGlobals "inner_of" = some (some (.ref f26)))
    (l26 : K.lookup f26 = some ⟨oc26, od26, .func (PySem.W.fnOf "inner_of" "inner_of" (defArgs s_inner_of) (defBody s_inner_of) (defScope s_inner_of) .none kV26 dc26 pm26 an26 cd26 ct26), sl26⟩)
    (c26 : PySem.W.codeIn K cd26 "inner_of" = true)
    (k26 : PySem.W.keepIn K (.ref f26) = true)
    (a27 : PySem.W.nsIn K mainGlobals "size_of" = some (some (.ref f27)))
    (l27 : K.lookup f27 = some ⟨oc27, od27, .func (PySem.W.fnOf "size_of" "size_of" (defArgs s_size_of) (defBody s_size_of) (defScope s_size_of) .none kV27 dc27 pm27 an27 cd27 ct27), sl27⟩)
    (c27 : PySem.W.codeIn K cd27 "size_of" = true)
    (k27 : PySem.W.keepIn K (.ref f27) = true)
    (a28 : PySem.W.nsIn K mainGlobals "is_program" = some (some (.ref f28)))
    (l28 : K.lookup f28 = some ⟨oc28, od28, .func (PySem.W.fnOf "is_program" "is_program" (defArgs s_is_program) (defBody s_is_program) (defScope s_is_program) .none kV28 dc28 pm28 an28 cd28 ct28), sl28⟩)
    (c28 : PySem.W.codeIn K cd28 "is_program" = true)
    (k28 : PySem.W.keepIn K (.ref f28) = true)
    (a29 : PySem.W.nsIn K mainGlobals "nested" = some (some (.ref f29)))
    (l29 : K.lookup f29 = some ⟨oc29, od29, .func (PySem.W.fnOf "nested" "nested" (defArgs s_nested) (defBody s_nested) (defScope s_nested) .none kV29 dc29 pm29 an29 cd29 ct29), sl29⟩)
    (c29 : PySem.W.codeIn K cd29 "nested" = true)
    (k29 : PySem.W.keepIn K (.ref f29) = true)
    (a30 : PySem.W.nsIn K mainGlobals "need_text" = some (some (.ref f30)))
    (l30 : K.lookup f30 = some ⟨oc30, od30, .func (PySem.W.fnOf "need_text" "need_text" (defArgs s_need_text) (defBody s_need_text) (defScope s_need_text) .none kV30 dc30 pm30 an30 cd30 ct30), sl30⟩)
    (c30 : PySem.W.codeIn K cd30 "need_text" = true)
    (k30 : PySem.W.keepIn K (.ref f30) = true)
    (a31 : PySem.W.nsIn K mainGlobals "words_of" = some (some (.ref f31)))
    (l31 : K.lookup f31 = some ⟨oc31, od31, .func (PySem.W.fnOf "words_of" "words_of" (defArgs s_words_of) (defBody s_words_of) (defScope s_words_of) .none kV31 dc31 pm31 an31 cd31 ct31), sl31⟩)
    (c31 : PySem.W.codeIn K cd31 "words_of" = true)
    (k31 : PySem.W.keepIn K (.ref f31) = true)
    (a32 : PySem.W.nsIn K mainGlobals "read" = some (some (.ref f32)))
    (l32 : K.lookup f32 = some ⟨oc32, od32, .func (PySem.W.fnOf "read" "read" (defArgs s_read) (defBody s_read) (defScope s_read) .none kV32 dc32 pm32 an32 cd32 ct32), sl32⟩)
    (c32 : PySem.W.codeIn K cd32 "read" = true)
    (k32 : PySem.W.keepIn K (.ref f32) = true)
    (a33 : PySem.W.nsIn K mainGlobals "in_brackets" = some (some (.ref f33)))
    (l33 : K.lookup f33 = some ⟨oc33, od33, .func (PySem.W.fnOf "in_brackets" "in_brackets" (defArgs s_in_brackets) (defBody s_in_brackets) (defScope s_in_brackets) .none kV33 dc33 pm33 an33 cd33 ct33), sl33⟩)
    (c33 : PySem.W.codeIn K cd33 "in_brackets" = true)
    (k33 : PySem.W.keepIn K (.ref f33) = true)
    (a34 : PySem.W.nsIn K mainGlobals "names_text" = some (some (.ref f34)))
    (l34 : K.lookup f34 = some ⟨oc34, od34, .func (PySem.W.fnOf "names_text" "names_text" (defArgs s_names_text) (defBody s_names_text) (defScope s_names_text) .none kV34 dc34 pm34 an34 cd34 ct34), sl34⟩)
    (c34 : PySem.W.codeIn K cd34 "names_text" = true)
    (k34 : PySem.W.keepIn K (.ref f34) = true)
    (a35 : PySem.W.nsIn K mainGlobals "body_text" = some (some (.ref f35)))
    (l35 : K.lookup f35 = some ⟨oc35, od35, .func (PySem.W.fnOf "body_text" "body_text" (defArgs s_body_text) (defBody s_body_text) (defScope s_body_text) .none kV35 dc35 pm35 an35 cd35 ct35), sl35⟩)
    (c35 : PySem.W.codeIn K cd35 "body_text" = true)
    (k35 : PySem.W.keepIn K (.ref f35) = true)
    (a36 : PySem.W.nsIn K mainGlobals "function_text" = some (some (.ref f36)))
    (l36 : K.lookup f36 = some ⟨oc36, od36, .func (PySem.W.fnOf "function_text" "function_text" (defArgs s_function_text) (defBody s_function_text) (defScope s_function_text) .none kV36 dc36 pm36 an36 cd36 ct36), sl36⟩)
    (c36 : PySem.W.codeIn K cd36 "function_text" = true)
    (k36 : PySem.W.keepIn K (.ref f36) = true)
    (a37 : PySem.W.nsIn K mainGlobals "term_text" = some (some (.ref f37)))
    (l37 : K.lookup f37 = some ⟨oc37, od37, .func (PySem.W.fnOf "term_text" "term_text" (defArgs s_term_text) (defBody s_term_text) (defScope s_term_text) .none kV37 dc37 pm37 an37 cd37 ct37), sl37⟩)
    (c37 : PySem.W.codeIn K cd37 "term_text" = true)
    (k37 : PySem.W.keepIn K (.ref f37) = true)
    (a38 : PySem.W.nsIn K mainGlobals "statement_text" = some (some (.ref f38)))
    (l38 : K.lookup f38 = some ⟨oc38, od38, .func (PySem.W.fnOf "statement_text" "statement_text" (defArgs s_statement_text) (defBody s_statement_text) (defScope s_statement_text) .none kV38 dc38 pm38 an38 cd38 ct38), sl38⟩)
    (c38 : PySem.W.codeIn K cd38 "statement_text" = true)
    (k38 : PySem.W.keepIn K (.ref f38) = true)
    (a39 : PySem.W.nsIn K mainGlobals "need_program" = some (some (.ref f39)))
    (l39 : K.lookup f39 = some ⟨oc39, od39, .func (PySem.W.fnOf "need_program" "need_program" (defArgs s_need_program) (defBody s_need_program) (defScope s_need_program) .none kV39 dc39 pm39 an39 cd39 ct39), sl39⟩)
    (c39 : PySem.W.codeIn K cd39 "need_program" = true)
    (k39 : PySem.W.keepIn K (.ref f39) = true)
    (a40 : PySem.W.nsIn K mainGlobals "shown" = some (some (.ref f40)))
    (l40 : K.lookup f40 = some ⟨oc40, od40, .func (PySem.W.fnOf "shown" "shown" (defArgs s_shown) (defBody s_shown) (defScope s_shown) .none kV40 dc40 pm40 an40 cd40 ct40), sl40⟩)
    (c40 : PySem.W.codeIn K cd40 "shown" = true)
    (k40 : PySem.W.keepIn K (.ref f40) = true)
    (a41 : PySem.W.nsIn K mainGlobals "_law_deep_right" = some (some (.ref f41)))
    (l41 : K.lookup f41 = some ⟨oc41, od41, .func (PySem.W.fnOf "_law_deep_right" "_law_deep_right" (defArgs s__law_deep_right) (defBody s__law_deep_right) (defScope s__law_deep_right) .none kV41 dc41 pm41 an41 cd41 ct41), sl41⟩)
    (c41 : PySem.W.codeIn K cd41 "_law_deep_right" = true)
    (k41 : PySem.W.keepIn K (.ref f41) = true)
    (a42 : PySem.W.nsIn K mainGlobals "_law_long_right" = some (some (.ref f42)))
    (l42 : K.lookup f42 = some ⟨oc42, od42, .func (PySem.W.fnOf "_law_long_right" "_law_long_right" (defArgs s__law_long_right) (defBody s__law_long_right) (defScope s__law_long_right) .none kV42 dc42 pm42 an42 cd42 ct42), sl42⟩)
    (c42 : PySem.W.codeIn K cd42 "_law_long_right" = true)
    (k42 : PySem.W.keepIn K (.ref f42) = true)
    (a43 : PySem.W.nsIn K mainGlobals "_law_names" = some (some (.ref f43)))
    (l43 : K.lookup f43 = some ⟨oc43, od43, .func (PySem.W.fnOf "_law_names" "_law_names" (defArgs s__law_names) (defBody s__law_names) (defScope s__law_names) .none kV43 dc43 pm43 an43 cd43 ct43), sl43⟩)
    (c43 : PySem.W.codeIn K cd43 "_law_names" = true)
    (k43 : PySem.W.keepIn K (.ref f43) = true)
    (a44 : PySem.W.nsIn K mainGlobals "_law_number" = some (some (.ref f44)))
    (l44 : K.lookup f44 = some ⟨oc44, od44, .func (PySem.W.fnOf "_law_number" "_law_number" (defArgs s__law_number) (defBody s__law_number) (defScope s__law_number) .none kV44 dc44 pm44 an44 cd44 ct44), sl44⟩)
    (c44 : PySem.W.codeIn K cd44 "_law_number" = true)
    (k44 : PySem.W.keepIn K (.ref f44) = true)
    (a45 : PySem.W.nsIn K mainGlobals "_law_term" = some (some (.ref f45)))
    (l45 : K.lookup f45 = some ⟨oc45, od45, .func (PySem.W.fnOf "_law_term" "_law_term" (defArgs s__law_term) (defBody s__law_term) (defScope s__law_term) .none kV45 dc45 pm45 an45 cd45 ct45), sl45⟩)
    (c45 : PySem.W.codeIn K cd45 "_law_term" = true)
    (k45 : PySem.W.keepIn K (.ref f45) = true)
    (a46 : PySem.W.nsIn K mainGlobals "_law_body" = some (some (.ref f46)))
    (l46 : K.lookup f46 = some ⟨oc46, od46, .func (PySem.W.fnOf "_law_body" "_law_body" (defArgs s__law_body) (defBody s__law_body) (defScope s__law_body) .none kV46 dc46 pm46 an46 cd46 ct46), sl46⟩)
    (c46 : PySem.W.codeIn K cd46 "_law_body" = true)
    (k46 : PySem.W.keepIn K (.ref f46) = true)
    (a47 : PySem.W.nsIn K mainGlobals "_law_statement" = some (some (.ref f47)))
    (l47 : K.lookup f47 = some ⟨oc47, od47, .func (PySem.W.fnOf "_law_statement" "_law_statement" (defArgs s__law_statement) (defBody s__law_statement) (defScope s__law_statement) .none kV47 dc47 pm47 an47 cd47 ct47), sl47⟩)
    (c47 : PySem.W.codeIn K cd47 "_law_statement" = true)
    (k47 : PySem.W.keepIn K (.ref f47) = true)
    (a48 : PySem.W.nsIn K mainGlobals "_law_program" = some (some (.ref f48)))
    (l48 : K.lookup f48 = some ⟨oc48, od48, .func (PySem.W.fnOf "_law_program" "_law_program" (defArgs s__law_program) (defBody s__law_program) (defScope s__law_program) .none kV48 dc48 pm48 an48 cd48 ct48), sl48⟩)
    (c48 : PySem.W.codeIn K cd48 "_law_program" = true)
    (k48 : PySem.W.keepIn K (.ref f48) = true)
    (a49 : PySem.W.nsIn K mainGlobals "law" = some (some (.ref f49)))
    (l49 : K.lookup f49 = some ⟨oc49, od49, .func (PySem.W.fnOf "law" "law" (defArgs s_law) (defBody s_law) (defScope s_law) .none kV49 dc49 pm49 an49 cd49 ct49), sl49⟩)
    (c49 : PySem.W.codeIn K cd49 "law" = true)
    (k49 : PySem.W.keepIn K (.ref f49) = true)
    (b_all : PySem.W.nsIn K mainGlobals "all" = some none)
    (b_bool : PySem.W.nsIn K mainGlobals "bool" = some none)
    (b_int : PySem.W.nsIn K mainGlobals "int" = some none)
    (b_isinstance : PySem.W.nsIn K mainGlobals "isinstance" = some none)
    (b_len : PySem.W.nsIn K mainGlobals "len" = some none)
    (b_list : PySem.W.nsIn K mainGlobals "list" = some none)
    (b_max : PySem.W.nsIn K mainGlobals "max" = some none)
    (b_ord : PySem.W.nsIn K mainGlobals "ord" = some none)
    (b_range : PySem.W.nsIn K mainGlobals "range" = some none)
    (b_set : PySem.W.nsIn K mainGlobals "set" = some none)
    (b_str : PySem.W.nsIn K mainGlobals "str" = some none)
    (b_sum : PySem.W.nsIn K mainGlobals "sum" = some none)
    (b_tuple : PySem.W.nsIn K mainGlobals "tuple" = some none)
    (g_GREATEST : PySem.W.nsIn K mainGlobals "GREATEST" = some (some (.int 1000000000000 t_GREATEST)))
    (g_MOST_DEPTH : PySem.W.nsIn K mainGlobals "MOST_DEPTH" = some (some (.int 20 t_MOST_DEPTH)))
    (g_MOST_LETTERS : PySem.W.nsIn K mainGlobals "MOST_LETTERS" = some (some (.int 8 t_MOST_LETTERS)))
    (g_MOST_NAMES : PySem.W.nsIn K mainGlobals "MOST_NAMES" = some (some (.int 4 t_MOST_NAMES)))
    (g_MOST_PARTS : PySem.W.nsIn K mainGlobals "MOST_PARTS" = some (some (.int 300 t_MOST_PARTS)))
    (g_MOST_SIGNS : PySem.W.nsIn K mainGlobals "MOST_SIGNS" = some (some (.int 6000 t_MOST_SIGNS)))
    (g_MOST_STATEMENTS : PySem.W.nsIn K mainGlobals "MOST_STATEMENTS" = some (some (.int 12 t_MOST_STATEMENTS)))
    (g_MOST_TERMS : PySem.W.nsIn K mainGlobals "MOST_TERMS" = some (some (.int 4 t_MOST_TERMS)))
    (g_MOST_WORD : PySem.W.nsIn K mainGlobals "MOST_WORD" = some (some (.int 13 t_MOST_WORD)))
    (g_PERCENT : PySem.W.nsIn K mainGlobals "PERCENT" = some (some (.int 37 t_PERCENT)))
    (g_SIGNS : PySem.W.nsIn K mainGlobals "SIGNS" = some (some (.ref a_SIGNS)))
    (l_SIGNS : K.lookup a_SIGNS = some ⟨.type "tuple", d_SIGNS, .seq #[.str (Str.ofString "+") t_SIGNS_0, .str (Str.ofString "-") t_SIGNS_1, .str (Str.ofString "*") t_SIGNS_2, .str (Str.ofString "<") t_SIGNS_3, .str (Str.ofString "=") t_SIGNS_4] n_SIGNS, z_SIGNS⟩)
    (n_BadTree : PySem.W.nsIn K mainGlobals "BadTree" = some (some (.ref C_BadTree)))
    (n_BadText : PySem.W.nsIn K mainGlobals "BadText" = some (some (.ref C_BadText)))
    (q_BadTree : PySem.W.excIn K C_BadTree [.type "ValueError", .type "Exception", .type "BaseException", .type "object"] "ValueError.__new__" = true)
    (k_BadTree : PySem.W.keepIn K (.ref C_BadTree) = true)
    (s_BadTree : PySem.W.subIn K (.ref C_BadTree) (.type "BaseException") = some true)
    (t_BadTree : PySem.W.typeIn K (.ref C_BadTree) = some (.type "type"))
    (q_BadText : PySem.W.excIn K C_BadText [.type "ValueError", .type "Exception", .type "BaseException", .type "object"] "ValueError.__new__" = true)
    (k_BadText : PySem.W.keepIn K (.ref C_BadText) = true)
    (s_BadText : PySem.W.subIn K (.ref C_BadText) (.type "BaseException") = some true)
    (t_BadText : PySem.W.typeIn K (.ref C_BadText) = some (.type "type"))
    (xd_BadText : PySem.W.hasDictIn K C_BadText = true)
    (i_BadTree_BadText : PySem.W.subIn K (.ref C_BadTree) (.ref C_BadText) = some false)
    (i_BadTree_BadTree : PySem.W.subIn K (.ref C_BadTree) (.ref C_BadTree) = some true)
    (i_BadText_BadText : PySem.W.subIn K (.ref C_BadText) (.ref C_BadText) = some true)
    : ∃ fd : FuncData, (∀ (s : Shared) (v : Value), BindsTo s fd ⟨[v], []⟩ [("_law_script", v)]) ∧ ∀ base : Heap, K.In base → base.Ns mainGlobals mg → FnOk l.prog w K mg base (L2.CX l.prog w) 67 fa fd ["_law_script"] (spA K F_law 1) := by
  have e := hfa.symm.trans (PySem.W.mg_of X G a49)
  cases e
  have T : Txt K mg (tabA [0, C_BadTree, C_BadText]) := ⟨⟨PySem.W.mg_of X G n_BadTree, q_BadTree, k_BadTree, s_BadTree, t_BadTree⟩, ⟨PySem.W.mg_of X G n_BadText, q_BadText, k_BadText, s_BadText, t_BadText⟩, PySem.W.mg_of X G n_BadText, (fun k b h => by unfold hit_BadText at h; split at h <;> first | (cases h; first | exact PySem.W.exm_ref s_BadText xd_BadText t_BadText i_BadTree_BadText | exact PySem.W.exm_ref s_BadText xd_BadText t_BadText i_BadText_BadText) | cases h), PySem.W.mg_none_of X G b_all, PySem.W.mg_none_of X G b_bool, PySem.W.mg_none_of X G b_int, PySem.W.mg_none_of X G b_isinstance, PySem.W.mg_none_of X G b_len, PySem.W.mg_none_of X G b_list, PySem.W.mg_none_of X G b_max, PySem.W.mg_none_of X G b_ord, PySem.W.mg_none_of X G b_range, PySem.W.mg_none_of X G b_set, PySem.W.mg_none_of X G b_str, PySem.W.mg_none_of X G b_sum, PySem.W.mg_none_of X G b_tuple, ⟨_, PySem.W.mg_of X G g_GREATEST⟩, ⟨_, PySem.W.mg_of X G g_MOST_DEPTH⟩, ⟨_, PySem.W.mg_of X G g_MOST_LETTERS⟩, ⟨_, PySem.W.mg_of X G g_MOST_NAMES⟩, ⟨_, PySem.W.mg_of X G g_MOST_PARTS⟩, ⟨_, PySem.W.mg_of X G g_MOST_SIGNS⟩, ⟨_, PySem.W.mg_of X G g_MOST_STATEMENTS⟩, ⟨_, PySem.W.mg_of X G g_MOST_TERMS⟩, ⟨_, PySem.W.mg_of X G g_MOST_WORD⟩, ⟨_, PySem.W.mg_of X G g_PERCENT⟩, ⟨_, PySem.W.mg_of X G g_SIGNS, sqt_strs l_SIGNS _ (show (5 : Nat) ≤ sizeLine by decide) (.cons ⟨_, rfl⟩ (.cons ⟨_, rfl⟩ (.cons ⟨_, rfl⟩ (.cons ⟨_, rfl⟩ (.cons ⟨_, rfl⟩ .nil)))))⟩⟩
  have F1 := fun_mk (st := s__law_cell_at) l1 c1 k1
  have B1 := F1.binds (ps := ["_law_script", "_law_k"]) fun _ _ _ _ _ _ us hl => match us, hl with | [_, _], _ => rfl
  have F2 := fun_mk (st := s__law_bodies) l2 c2 k2
  have B2 := F2.binds (ps := ["_law_body_here"]) fun _ _ _ _ _ _ us hl => match us, hl with | [_], _ => rfl
  have F3 := fun_mk (st := s__law_function_words) l3 c3 k3
  have B3 := F3.binds (ps := ["_law_part"]) fun _ _ _ _ _ _ us hl => match us, hl with | [_], _ => rfl
  have F4 := fun_mk (st := s__law_term_words) l4 c4 k4
  have B4 := F4.binds (ps := ["_law_term_here"]) fun _ _ _ _ _ _ us hl => match us, hl with | [_], _ => rfl
  have F5 := fun_mk (st := s__law_words) l5 c5 k5
  have B5 := F5.binds (ps := ["_law_one"]) fun _ _ _ _ _ _ us hl => match us, hl with | [_], _ => rfl
  have F6 := fun_mk (st := s__law_next) l6 c6 k6
  have B6 := F6.binds (ps := ["_law_state"]) fun _ _ _ _ _ _ us hl => match us, hl with | [_], _ => rfl
  have F7 := fun_mk (st := s__law_text) l7 c7 k7
  have B7 := F7.binds (ps := ["_law_words_here", "_law_state"]) fun _ _ _ _ _ _ us hl => match us, hl with | [_, _], _ => rfl
  have F8 := fun_mk (st := s_names_in) l8 c8 k8
  have B8 := F8.binds (ps := ["row"]) fun _ _ _ _ _ _ us hl => match us, hl with | [_], _ => rfl
  have F9 := fun_mk (st := s_need_row) l9 c9 k9
  have B9 := F9.binds (ps := ["row", "least"]) fun _ _ _ _ _ _ us hl => match us, hl with | [_, _], _ => rfl
  have F10 := fun_mk (st := s_is_name) l10 c10 k10
  have B10 := F10.binds (ps := ["thing"]) fun _ _ _ _ _ _ us hl => match us, hl with | [_], _ => rfl
  have F11 := fun_mk (st := s_is_number) l11 c11 k11
  have B11 := F11.binds (ps := ["thing"]) fun _ _ _ _ _ _ us hl => match us, hl with | [_], _ => rfl
  have F12 := fun_mk (st := s_number_of) l12 c12 k12
  have B12 := F12.binds (ps := ["word"]) fun _ _ _ _ _ _ us hl => match us, hl with | [_], _ => rfl
  have F13 := fun_mk (st := s_simple_term) l13 c13 k13
  have B13 := F13.binds (ps := ["word"]) fun _ _ _ _ _ _ us hl => match us, hl with | [_], _ => rfl
  have F14 := fun_mk (st := s_term_in) l14 c14 k14
  have B14 := F14.binds (ps := ["row", "left"]) fun _ _ _ _ _ _ us hl => match us, hl with | [_, _], _ => rfl
  have F15 := fun_mk (st := s_body_in) l15 c15 k15
  have B15 := F15.binds (ps := ["rows", "left"]) fun _ _ _ _ _ _ us hl => match us, hl with | [_, _], _ => rfl
  have F16 := fun_mk (st := s_long_statement) l16 c16 k16
  have B16 := F16.binds (ps := ["row", "left"]) fun _ _ _ _ _ _ us hl => match us, hl with | [_, _], _ => rfl
  have F17 := fun_mk (st := s_statement_in) l17 c17 k17
  have B17 := F17.binds (ps := ["row", "left"]) fun _ _ _ _ _ _ us hl => match us, hl with | [_, _], _ => rfl
  have F18 := fun_mk (st := s_has_word) l18 c18 k18
  have B18 := F18.binds (ps := ["thing", "word", "size"]) fun _ _ _ _ _ _ us hl => match us, hl with | [_, _, _], _ => rfl
  have F19 := fun_mk (st := s_is_names) l19 c19 k19
  have B19 := F19.binds (ps := ["thing"]) fun _ _ _ _ _ _ us hl => match us, hl with | [_], _ => rfl
  have F20 := fun_mk (st := s_is_simple) l20 c20 k20
  have B20 := F20.binds (ps := ["thing"]) fun _ _ _ _ _ _ us hl => match us, hl with | [_], _ => rfl
  have F21 := fun_mk (st := s_is_function) l21 c21 k21
  have B21 := F21.binds (ps := ["thing", "left"]) fun _ _ _ _ _ _ us hl => match us, hl with | [_, _], _ => rfl
  have F22 := fun_mk (st := s_is_term) l22 c22 k22
  have B22 := F22.binds (ps := ["thing", "left"]) fun _ _ _ _ _ _ us hl => match us, hl with | [_, _], _ => rfl
  have F23 := fun_mk (st := s_is_body) l23 c23 k23
  have B23 := F23.binds (ps := ["thing", "left", "may_hand"]) fun _ _ _ _ _ _ us hl => match us, hl with | [_, _, _], _ => rfl
  have F24 := fun_mk (st := s_is_short) l24 c24 k24
  have B24 := F24.binds (ps := ["thing", "left", "may_hand"]) fun _ _ _ _ _ _ us hl => match us, hl with | [_, _, _], _ => rfl
  have F25 := fun_mk (st := s_is_statement) l25 c25 k25
  have B25 := F25.binds (ps := ["thing", "left", "may_hand"]) fun _ _ _ _ _ _ us hl => match us, hl with | [_, _, _], _ => rfl
  have F26 := fun_mk (st := s_inner_of) l26 c26 k26
  have B26 := F26.binds (ps := ["part"]) fun _ _ _ _ _ _ us hl => match us, hl with | [_], _ => rfl
  have F27 := fun_mk (st := s_size_of) l27 c27 k27
  have B27 := F27.binds (ps := ["part"]) fun _ _ _ _ _ _ us hl => match us, hl with | [_], _ => rfl
  have F28 := fun_mk (st := s_is_program) l28 c28 k28
  have B28 := F28.binds (ps := ["thing"]) fun _ _ _ _ _ _ us hl => match us, hl with | [_], _ => rfl
  have F29 := fun_mk (st := s_nested) l29 c29 k29
  have B29 := F29.binds (ps := ["words"]) fun _ _ _ _ _ _ us hl => match us, hl with | [_], _ => rfl
  have F30 := fun_mk (st := s_need_text) l30 c30 k30
  have B30 := F30.binds (ps := ["text"]) fun _ _ _ _ _ _ us hl => match us, hl with | [_], _ => rfl
  have F31 := fun_mk (st := s_words_of) l31 c31 k31
  have B31 := F31.binds (ps := ["text"]) fun _ _ _ _ _ _ us hl => match us, hl with | [_], _ => rfl
  have F32 := fun_mk (st := s_read) l32 c32 k32
  have B32 := F32.binds (ps := ["text"]) fun _ _ _ _ _ _ us hl => match us, hl with | [_], _ => rfl
  have F33 := fun_mk (st := s_in_brackets) l33 c33 k33
  have B33 := F33.binds (ps := ["words"]) fun _ _ _ _ _ _ us hl => match us, hl with | [_], _ => rfl
  have F34 := fun_mk (st := s_names_text) l34 c34 k34
  have B34 := F34.binds (ps := ["names"]) fun _ _ _ _ _ _ us hl => match us, hl with | [_], _ => rfl
  have F35 := fun_mk (st := s_body_text) l35 c35 k35
  have B35 := F35.binds (ps := ["body"]) fun _ _ _ _ _ _ us hl => match us, hl with | [_], _ => rfl
  have F36 := fun_mk (st := s_function_text) l36 c36 k36
  have B36 := F36.binds (ps := ["part"]) fun _ _ _ _ _ _ us hl => match us, hl with | [_], _ => rfl
  have F37 := fun_mk (st := s_term_text) l37 c37 k37
  have B37 := F37.binds (ps := ["term"]) fun _ _ _ _ _ _ us hl => match us, hl with | [_], _ => rfl
  have F38 := fun_mk (st := s_statement_text) l38 c38 k38
  have B38 := F38.binds (ps := ["one"]) fun _ _ _ _ _ _ us hl => match us, hl with | [_], _ => rfl
  have F39 := fun_mk (st := s_need_program) l39 c39 k39
  have B39 := F39.binds (ps := ["thing"]) fun _ _ _ _ _ _ us hl => match us, hl with | [_], _ => rfl
  have F40 := fun_mk (st := s_shown) l40 c40 k40
  have B40 := F40.binds (ps := ["program"]) fun _ _ _ _ _ _ us hl => match us, hl with | [_], _ => rfl
  have F41 := fun_mk (st := s__law_deep_right) l41 c41 k41
  have B41 := F41.binds (ps := ["_law_cell"]) fun _ _ _ _ _ _ us hl => match us, hl with | [_], _ => rfl
  have F42 := fun_mk (st := s__law_long_right) l42 c42 k42
  have B42 := F42.binds (ps := ["_law_cell"]) fun _ _ _ _ _ _ us hl => match us, hl with | [_], _ => rfl
  have F43 := fun_mk (st := s__law_names) l43 c43 k43
  have B43 := F43.binds (ps := ["_law_cell", "_law_many"]) fun _ _ _ _ _ _ us hl => match us, hl with | [_, _], _ => rfl
  have F44 := fun_mk (st := s__law_number) l44 c44 k44
  have B44 := F44.binds (ps := ["_law_more"]) fun _ _ _ _ _ _ us hl => match us, hl with | [_], _ => rfl
  have F45 := fun_mk (st := s__law_term) l45 c45 k45
  have B45 := F45.binds (ps := ["_law_state", "_law_deep"]) fun _ _ _ _ _ _ us hl => match us, hl with | [_, _], _ => rfl
  have F46 := fun_mk (st := s__law_body) l46 c46 k46
  have B46 := F46.binds (ps := ["_law_state", "_law_deep", "_law_may_hand"]) fun _ _ _ _ _ _ us hl => match us, hl with | [_, _, _], _ => rfl
  have F47 := fun_mk (st := s__law_statement) l47 c47 k47
  have B47 := F47.binds (ps := ["_law_state", "_law_deep", "_law_may_hand"]) fun _ _ _ _ _ _ us hl => match us, hl with | [_, _, _], _ => rfl
  have F48 := fun_mk (st := s__law_program) l48 c48 k48
  have B48 := F48.binds (ps := ["_law_script", "_law_most"]) fun _ _ _ _ _ _ us hl => match us, hl with | [_, _], _ => rfl
  have F49 := fun_mk (st := s_law) l49 c49 k49
  refine ⟨PySem.W.fnOf "law" "law" (defArgs s_law) (defBody s_law) (defScope s_law) .none kV49 dc49 pm49 an49 cd49 ct49, fun s v => .of_eq rfl, fun base _ _ => ?_⟩
  have C1 : FnM l.prog w K mg base (tabA [0, C_BadTree, C_BadText]) 1 "_law_cell_at" 2 F__law_cell_at := .mk' F1 (PySem.W.mg_of X G a1) B1 (ok__law_cell_at F1 T )
  have R__law_bodies := rec__law_bodies (P := l.prog) (w := w) (base := base) F2 (PySem.W.mg_of X G a2) B2 F3 (PySem.W.mg_of X G a3) B3 F4 (PySem.W.mg_of X G a4) B4 F5 (PySem.W.mg_of X G a5) B5 T 
  have C2 : FnM l.prog w K mg base (tabA [0, C_BadTree, C_BadText]) 60 "_law_bodies" 1 F__law_bodies := (R__law_bodies 60).1
  have C3 : FnM l.prog w K mg base (tabA [0, C_BadTree, C_BadText]) 60 "_law_function_words" 1 F__law_function_words := (R__law_bodies 60).2.1
  have C4 : FnM l.prog w K mg base (tabA [0, C_BadTree, C_BadText]) 60 "_law_term_words" 1 F__law_term_words := (R__law_bodies 60).2.2.1
  have C5 : FnM l.prog w K mg base (tabA [0, C_BadTree, C_BadText]) 60 "_law_words" 1 F__law_words := (R__law_bodies 60).2.2.2
  have C6 : FnM l.prog w K mg base (tabA [0, C_BadTree, C_BadText]) 2 "_law_next" 1 F__law_next := .mk' F6 (PySem.W.mg_of X G a6) B6 (ok__law_next F6 T C1)
  have C7 : FnM l.prog w K mg base (tabA [0, C_BadTree, C_BadText]) 3 "_law_text" 2 F__law_text := .mk' F7 (PySem.W.mg_of X G a7) B7 (ok__law_text F7 T C6)
  have C8 : FnM l.prog w K mg base (tabA [0, C_BadTree, C_BadText]) 1 "names_in" 1 F_names_in := .mk' F8 (PySem.W.mg_of X G a8) B8 (ok_names_in F8 T )
  have C9 : FnM l.prog w K mg base (tabA [0, C_BadTree, C_BadText]) 1 "need_row" 2 F_need_row := .mk' F9 (PySem.W.mg_of X G a9) B9 (ok_need_row F9 T )
  have C10 : FnM l.prog w K mg base (tabA [0, C_BadTree, C_BadText]) 1 "is_name" 1 F_is_name := .mk' F10 (PySem.W.mg_of X G a10) B10 (ok_is_name F10 T )
  have C11 : FnM l.prog w K mg base (tabA [0, C_BadTree, C_BadText]) 1 "is_number" 1 F_is_number := .mk' F11 (PySem.W.mg_of X G a11) B11 (ok_is_number F11 T )
  have C12 : FnM l.prog w K mg base (tabA [0, C_BadTree, C_BadText]) 2 "number_of" 1 F_number_of := .mk' F12 (PySem.W.mg_of X G a12) B12 (ok_number_of F12 T C11)
  have C13 : FnM l.prog w K mg base (tabA [0, C_BadTree, C_BadText]) 3 "simple_term" 1 F_simple_term := .mk' F13 (PySem.W.mg_of X G a13) B13 (ok_simple_term F13 T C10 C12)
  have R_term_in := rec_term_in (P := l.prog) (w := w) (base := base) F14 (PySem.W.mg_of X G a14) B14 F15 (PySem.W.mg_of X G a15) B15 F16 (PySem.W.mg_of X G a16) B16 F17 (PySem.W.mg_of X G a17) B17 T C8 C9 C13
  have C14 : FnM l.prog w K mg base (tabA [0, C_BadTree, C_BadText]) 63 "term_in" 2 F_term_in := (R_term_in 60).1
  have C15 : FnM l.prog w K mg base (tabA [0, C_BadTree, C_BadText]) 63 "body_in" 2 F_body_in := (R_term_in 60).2.1
  have C16 : FnM l.prog w K mg base (tabA [0, C_BadTree, C_BadText]) 63 "long_statement" 2 F_long_statement := (R_term_in 60).2.2.1
  have C17 : FnM l.prog w K mg base (tabA [0, C_BadTree, C_BadText]) 63 "statement_in" 2 F_statement_in := (R_term_in 60).2.2.2
  have C18 : FnM l.prog w K mg base (tabA [0, C_BadTree, C_BadText]) 1 "has_word" 3 F_has_word := .mk' F18 (PySem.W.mg_of X G a18) B18 (ok_has_word F18 T )
  have C19 : FnM l.prog w K mg base (tabA [0, C_BadTree, C_BadText]) 2 "is_names" 1 F_is_names := .mk' F19 (PySem.W.mg_of X G a19) B19 (ok_is_names F19 T C10)
  have C20 : FnM l.prog w K mg base (tabA [0, C_BadTree, C_BadText]) 2 "is_simple" 1 F_is_simple := .mk' F20 (PySem.W.mg_of X G a20) B20 (ok_is_simple F20 T C18 C10 C11)
  have R_is_function := rec_is_function (P := l.prog) (w := w) (base := base) F21 (PySem.W.mg_of X G a21) B21 F22 (PySem.W.mg_of X G a22) B22 F23 (PySem.W.mg_of X G a23) B23 F24 (PySem.W.mg_of X G a24) B24 F25 (PySem.W.mg_of X G a25) B25 T C18 C10 C19 C20
  have C21 : FnM l.prog w K mg base (tabA [0, C_BadTree, C_BadText]) 62 "is_function" 2 F_is_function := (R_is_function 60).1
  have C22 : FnM l.prog w K mg base (tabA [0, C_BadTree, C_BadText]) 62 "is_term" 2 F_is_term := (R_is_function 60).2.1
  have C23 : FnM l.prog w K mg base (tabA [0, C_BadTree, C_BadText]) 62 "is_body" 3 F_is_body := (R_is_function 60).2.2.1
  have C24 : FnM l.prog w K mg base (tabA [0, C_BadTree, C_BadText]) 62 "is_short" 3 F_is_short := (R_is_function 60).2.2.2.1
  have C25 : FnM l.prog w K mg base (tabA [0, C_BadTree, C_BadText]) 62 "is_statement" 3 F_is_statement := (R_is_function 60).2.2.2.2
  have C26 : FnM l.prog w K mg base (tabA [0, C_BadTree, C_BadText]) 1 "inner_of" 1 F_inner_of := .mk' F26 (PySem.W.mg_of X G a26) B26 (ok_inner_of F26 T )
  have R_size_of := rec_size_of (P := l.prog) (w := w) (base := base) F27 (PySem.W.mg_of X G a27) B27 T C26
  have C27 : FnM l.prog w K mg base (tabA [0, C_BadTree, C_BadText]) 61 "size_of" 1 F_size_of := (R_size_of 60)
  have C28 : FnM l.prog w K mg base (tabA [0, C_BadTree, C_BadText]) 63 "is_program" 1 F_is_program := .mk' F28 (PySem.W.mg_of X G a28) B28 (ok_is_program F28 T C18 C23 C19 C27)
  have C29 : FnM l.prog w K mg base (tabA [0, C_BadTree, C_BadText]) 1 "nested" 1 F_nested := .mk' F29 (PySem.W.mg_of X G a29) B29 (ok_nested F29 T )
  have C30 : FnM l.prog w K mg base (tabA [0, C_BadTree, C_BadText]) 1 "need_text" 1 F_need_text := .mk' F30 (PySem.W.mg_of X G a30) B30 (ok_need_text F30 T )
  have C31 : FnM l.prog w K mg base (tabA [0, C_BadTree, C_BadText]) 2 "words_of" 1 F_words_of := .mk' F31 (PySem.W.mg_of X G a31) B31 (ok_words_of F31 T C30)
  have C32 : FnM l.prog w K mg base (tabA [0, C_BadTree, C_BadText]) 64 "read" 1 F_read := .mk' F32 (PySem.W.mg_of X G a32) B32 (ok_read F32 T C15 C28 C8 C9 C29 C31)
  have C33 : FnM l.prog w K mg base (tabA [0, C_BadTree, C_BadText]) 1 "in_brackets" 1 F_in_brackets := .mk' F33 (PySem.W.mg_of X G a33) B33 (ok_in_brackets F33 T )
  have C34 : FnM l.prog w K mg base (tabA [0, C_BadTree, C_BadText]) 2 "names_text" 1 F_names_text := .mk' F34 (PySem.W.mg_of X G a34) B34 (ok_names_text F34 T C33)
  have R_body_text := rec_body_text (P := l.prog) (w := w) (base := base) F35 (PySem.W.mg_of X G a35) B35 F36 (PySem.W.mg_of X G a36) B36 F37 (PySem.W.mg_of X G a37) B37 F38 (PySem.W.mg_of X G a38) B38 T C33 C34
  have C35 : FnM l.prog w K mg base (tabA [0, C_BadTree, C_BadText]) 62 "body_text" 1 F_body_text := (R_body_text 60).1
  have C36 : FnM l.prog w K mg base (tabA [0, C_BadTree, C_BadText]) 62 "function_text" 1 F_function_text := (R_body_text 60).2.1
  have C37 : FnM l.prog w K mg base (tabA [0, C_BadTree, C_BadText]) 62 "term_text" 1 F_term_text := (R_body_text 60).2.2.1
  have C38 : FnM l.prog w K mg base (tabA [0, C_BadTree, C_BadText]) 62 "statement_text" 1 F_statement_text := (R_body_text 60).2.2.2
  have C39 : FnM l.prog w K mg base (tabA [0, C_BadTree, C_BadText]) 64 "need_program" 1 F_need_program := .mk' F39 (PySem.W.mg_of X G a39) B39 (ok_need_program F39 T C28)
  have C40 : FnM l.prog w K mg base (tabA [0, C_BadTree, C_BadText]) 65 "shown" 1 F_shown := .mk' F40 (PySem.W.mg_of X G a40) B40 (ok_shown F40 T C36 C39)
  have C41 : FnM l.prog w K mg base (tabA [0, C_BadTree, C_BadText]) 66 "_law_deep_right" 1 F__law_deep_right := .mk' F41 (PySem.W.mg_of X G a41) B41 (ok__law_deep_right F41 T C3 C7 C32 C40)
  have C42 : FnM l.prog w K mg base (tabA [0, C_BadTree, C_BadText]) 66 "_law_long_right" 1 F__law_long_right := .mk' F42 (PySem.W.mg_of X G a42) B42 (ok__law_long_right F42 T C3 C7 C32 C40)
  have C43 : FnM l.prog w K mg base (tabA [0, C_BadTree, C_BadText]) 1 "_law_names" 2 F__law_names := .mk' F43 (PySem.W.mg_of X G a43) B43 (ok__law_names F43 T )
  have C44 : FnM l.prog w K mg base (tabA [0, C_BadTree, C_BadText]) 1 "_law_number" 1 F__law_number := .mk' F44 (PySem.W.mg_of X G a44) B44 (ok__law_number F44 T )
  have R__law_term := rec__law_term (P := l.prog) (w := w) (base := base) F45 (PySem.W.mg_of X G a45) B45 F46 (PySem.W.mg_of X G a46) B46 F47 (PySem.W.mg_of X G a47) B47 T C6 C44
  have C45 : FnM l.prog w K mg base (tabA [0, C_BadTree, C_BadText]) 62 "_law_term" 2 F__law_term := (R__law_term 60).1
  have C46 : FnM l.prog w K mg base (tabA [0, C_BadTree, C_BadText]) 62 "_law_body" 3 F__law_body := (R__law_term 60).2.1
  have C47 : FnM l.prog w K mg base (tabA [0, C_BadTree, C_BadText]) 62 "_law_statement" 3 F__law_statement := (R__law_term 60).2.2
  have C48 : FnM l.prog w K mg base (tabA [0, C_BadTree, C_BadText]) 63 "_law_program" 2 F__law_program := .mk' F48 (PySem.W.mg_of X G a48) B48 (ok__law_program F48 T C1 C43 C6 C47)
  exact spA_of (ok_law F49 T C1 C41 C3 C42 C48 C7 C32 C40)
end K05
open PySem PySem.W PyProof.Rows
set_option maxHeartbeats 0 in
theorem PySem.Challenge.cw_waitloom_k05_whole_shown_and_read_holds : PySem.Challenge.rw_waitloom_k05_whole_shown_and_read.Holds := by
  w_on; o_law; k_head; (case hw => w_witness2)
  k_fill
  refine L2.walk_of (l := PySem.Challenge.rw_waitloom_k05_whole_shown_and_read) (n := 63) (k := 67) (x := "_law_script") (CX := fun w => L2.CX PySem.Challenge.rw_waitloom_k05_whole_shown_and_read.prog w) (sp := fun w => ML.spA _ K05.F_law 1) rfl (by decide) rfl ⟨rfl, by decide, by decide⟩ (fun w h Y => PySem.W.kIn_of Y) ?F (fun w H a ns hn hO hS => ML.law_spA K05.law_true hn hO hS) (fun _ _ _ _ _ h => ML.cx_end h)
  case F =>
    intro w mg fa h KX G hmg
    refine' K05.all_mk KX G hmg ?a1 ?l1 ?c1 ?k1 ?a2 ?l2 ?c2 ?k2 ?a3 ?l3 ?c3 ?k3 ?a4 ?l4 ?c4 ?k4 ?a5 ?l5 ?c5 ?k5 ?a6 ?l6 ?c6 ?k6 ?a7 ?l7 ?c7 ?k7 ?a8 ?l8 ?c8 ?k8 ?a9 ?l9 ?c9 ?k9 ?a10 ?l10 ?c10 ?k10 ?a11 ?l11 ?c11 ?k11 ?a12 ?l12 ?c12 ?k12 ?a13 ?l13 ?c13 ?k13 ?a14 ?l14 ?c14 ?k14 ?a15 ?l15 ?c15 ?k15 ?a16 ?l16 ?c16 ?k16 ?a17 ?l17 ?c17 ?k17 ?a18 ?l18 ?c18 ?k18 ?a19 ?l19 ?c19 ?k19 ?a20 ?l20 ?c20 ?k20 ?a21 ?l21 ?c21 ?k21 ?a22 ?l22 ?c22 ?k22 ?a23 ?l23 ?c23 ?k23 ?a24 ?l24 ?c24 ?k24 ?a25 ?l25 ?c25 ?k25 ?a26 ?l26 ?c26 ?k26 ?a27 ?l27 ?c27 ?k27 ?a28 ?l28 ?c28 ?k28 ?a29 ?l29 ?c29 ?k29 ?a30 ?l30 ?c30 ?k30 ?a31 ?l31 ?c31 ?k31 ?a32 ?l32 ?c32 ?k32 ?a33 ?l33 ?c33 ?k33 ?a34 ?l34 ?c34 ?k34 ?a35 ?l35 ?c35 ?k35 ?a36 ?l36 ?c36 ?k36 ?a37 ?l37 ?c37 ?k37 ?a38 ?l38 ?c38 ?k38 ?a39 ?l39 ?c39 ?k39 ?a40 ?l40 ?c40 ?k40 ?a41 ?l41 ?c41 ?k41 ?a42 ?l42 ?c42 ?k42 ?a43 ?l43 ?c43 ?k43 ?a44 ?l44 ?c44 ?k44 ?a45 ?l45 ?c45 ?k45 ?a46 ?l46 ?c46 ?k46 ?a47 ?l47 ?c47 ?k47 ?a48 ?l48 ?c48 ?k48 ?a49 ?l49 ?c49 ?k49 ?b_all ?b_bool ?b_int ?b_isinstance ?b_len ?b_list ?b_max ?b_ord ?b_range ?b_set ?b_str ?b_sum ?b_tuple ?g_GREATEST ?g_MOST_DEPTH ?g_MOST_LETTERS ?g_MOST_NAMES ?g_MOST_PARTS ?g_MOST_SIGNS ?g_MOST_STATEMENTS ?g_MOST_TERMS ?g_MOST_WORD ?g_PERCENT ?g_SIGNS ?l_SIGNS ?n_BadTree ?n_BadText ?q_BadTree ?k_BadTree ?s_BadTree ?t_BadTree ?q_BadText ?k_BadText ?s_BadText ?t_BadText ?xd_BadText ?i_BadTree_BadText ?i_BadTree_BadTree ?i_BadText_BadText
    (case a1 => k_is)
    (case l1 => k_is)
    (case c1 => k_is)
    (case k1 => k_is)
    (case a2 => k_is)
    (case l2 => k_is)
    (case c2 => k_is)
    (case k2 => k_is)
    (case a3 => k_is)
    (case l3 => k_is)
    (case c3 => k_is)
    (case k3 => k_is)
    (case a4 => k_is)
    (case l4 => k_is)
    (case c4 => k_is)
    (case k4 => k_is)
    (case a5 => k_is)
    (case l5 => k_is)
    (case c5 => k_is)
    (case k5 => k_is)
    (case a6 => k_is)
    (case l6 => k_is)
    (case c6 => k_is)
    (case k6 => k_is)
    (case a7 => k_is)
    (case l7 => k_is)
    (case c7 => k_is)
    (case k7 => k_is)
    (case a8 => k_is)
    (case l8 => k_is)
    (case c8 => k_is)
    (case k8 => k_is)
    (case a9 => k_is)
    (case l9 => k_is)
    (case c9 => k_is)
    (case k9 => k_is)
    (case a10 => k_is)
    (case l10 => k_is)
    (case c10 => k_is)
    (case k10 => k_is)
    (case a11 => k_is)
    (case l11 => k_is)
    (case c11 => k_is)
    (case k11 => k_is)
    (case a12 => k_is)
    (case l12 => k_is)
    (case c12 => k_is)
    (case k12 => k_is)
    (case a13 => k_is)
    (case l13 => k_is)
    (case c13 => k_is)
    (case k13 => k_is)
    (case a14 => k_is)
    (case l14 => k_is)
    (case c14 => k_is)
    (case k14 => k_is)
    (case a15 => k_is)
    (case l15 => k_is)
    (case c15 => k_is)
    (case k15 => k_is)
    (case a16 => k_is)
    (case l16 => k_is)
    (case c16 => k_is)
    (case k16 => k_is)
    (case a17 => k_is)
    (case l17 => k_is)
    (case c17 => k_is)
    (case k17 => k_is)
    (case a18 => k_is)
    (case l18 => k_is)
    (case c18 => k_is)
    (case k18 => k_is)
    (case a19 => k_is)
    (case l19 => k_is)
    (case c19 => k_is)
    (case k19 => k_is)
    (case a20 => k_is)
    (case l20 => k_is)
    (case c20 => k_is)
    (case k20 => k_is)
    (case a21 => k_is)
    (case l21 => k_is)
    (case c21 => k_is)
    (case k21 => k_is)
    (case a22 => k_is)
    (case l22 => k_is)
    (case c22 => k_is)
    (case k22 => k_is)
    (case a23 => k_is)
    (case l23 => k_is)
    (case c23 => k_is)
    (case k23 => k_is)
    (case a24 => k_is)
    (case l24 => k_is)
    (case c24 => k_is)
    (case k24 => k_is)
    (case a25 => k_is)
    (case l25 => k_is)
    (case c25 => k_is)
    (case k25 => k_is)
    (case a26 => k_is)
    (case l26 => k_is)
    (case c26 => k_is)
    (case k26 => k_is)
    (case a27 => k_is)
    (case l27 => k_is)
    (case c27 => k_is)
    (case k27 => k_is)
    (case a28 => k_is)
    (case l28 => k_is)
    (case c28 => k_is)
    (case k28 => k_is)
    (case a29 => k_is)
    (case l29 => k_is)
    (case c29 => k_is)
    (case k29 => k_is)
    (case a30 => k_is)
    (case l30 => k_is)
    (case c30 => k_is)
    (case k30 => k_is)
    (case a31 => k_is)
    (case l31 => k_is)
    (case c31 => k_is)
    (case k31 => k_is)
    (case a32 => k_is)
    (case l32 => k_is)
    (case c32 => k_is)
    (case k32 => k_is)
    (case a33 => k_is)
    (case l33 => k_is)
    (case c33 => k_is)
    (case k33 => k_is)
    (case a34 => k_is)
    (case l34 => k_is)
    (case c34 => k_is)
    (case k34 => k_is)
    (case a35 => k_is)
    (case l35 => k_is)
    (case c35 => k_is)
    (case k35 => k_is)
    (case a36 => k_is)
    (case l36 => k_is)
    (case c36 => k_is)
    (case k36 => k_is)
    (case a37 => k_is)
    (case l37 => k_is)
    (case c37 => k_is)
    (case k37 => k_is)
    (case a38 => k_is)
    (case l38 => k_is)
    (case c38 => k_is)
    (case k38 => k_is)
    (case a39 => k_is)
    (case l39 => k_is)
    (case c39 => k_is)
    (case k39 => k_is)
    (case a40 => k_is)
    (case l40 => k_is)
    (case c40 => k_is)
    (case k40 => k_is)
    (case a41 => k_is)
    (case l41 => k_is)
    (case c41 => k_is)
    (case k41 => k_is)
    (case a42 => k_is)
    (case l42 => k_is)
    (case c42 => k_is)
    (case k42 => k_is)
    (case a43 => k_is)
    (case l43 => k_is)
    (case c43 => k_is)
    (case k43 => k_is)
    (case a44 => k_is)
    (case l44 => k_is)
    (case c44 => k_is)
    (case k44 => k_is)
    (case a45 => k_is)
    (case l45 => k_is)
    (case c45 => k_is)
    (case k45 => k_is)
    (case a46 => k_is)
    (case l46 => k_is)
    (case c46 => k_is)
    (case k46 => k_is)
    (case a47 => k_is)
    (case l47 => k_is)
    (case c47 => k_is)
    (case k47 => k_is)
    (case a48 => k_is)
    (case l48 => k_is)
    (case c48 => k_is)
    (case k48 => k_is)
    (case a49 => k_is)
    (case l49 => k_is)
    (case c49 => k_is)
    (case k49 => k_is)
    (case b_all => k_is)
    (case b_bool => k_is)
    (case b_int => k_is)
    (case b_isinstance => k_is)
    (case b_len => k_is)
    (case b_list => k_is)
    (case b_max => k_is)
    (case b_ord => k_is)
    (case b_range => k_is)
    (case b_set => k_is)
    (case b_str => k_is)
    (case b_sum => k_is)
    (case b_tuple => k_is)
    (case g_GREATEST => k_is)
    (case g_MOST_DEPTH => k_is)
    (case g_MOST_LETTERS => k_is)
    (case g_MOST_NAMES => k_is)
    (case g_MOST_PARTS => k_is)
    (case g_MOST_SIGNS => k_is)
    (case g_MOST_STATEMENTS => k_is)
    (case g_MOST_TERMS => k_is)
    (case g_MOST_WORD => k_is)
    (case g_PERCENT => k_is)
    (case g_SIGNS => k_is)
    (case l_SIGNS => k_is)
    (case n_BadTree => k_is)
    (case n_BadText => k_is)
    (case q_BadTree => k_exc)
    (case k_BadTree => k_is)
    (case s_BadTree => k_is)
    (case t_BadTree => k_is)
    (case q_BadText => k_exc)
    (case k_BadText => k_is)
    (case s_BadText => k_is)
    (case t_BadText => k_is)
    (case xd_BadText => k_is)
    (case i_BadTree_BadText => k_is)
    (case i_BadTree_BadTree => k_is)
    (case i_BadText_BadText => k_is)
