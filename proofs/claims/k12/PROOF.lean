import PyProof.Rows.All
import Wide.All
import OpenK.AllK
import Wide.FinOn
import HandS.ForMost
import HandS.ForExc
import HandS.Wide
import HandS.Style
import HandS.TupLe
import HandS.TupAny
import HandS.IsInst
import HandS.StrMore
import HandS.Evl
import HandS.Defaults
import HandS.CallSlots
import KE.DataEq
import KE.DataCmp
import HandS.Steps
import HandS.HeadHook1
import HandS.ExcInit
import HandS.ExcField
import HandS.TryOnly
import KE.KExcIs
import HandS.Replace
import HandS.Iter
import HandS.WideMore
import HandS.Head0
import HandS.Head1
import HandS.Head2
import HandS.HeadEnd
import HandS.HeadHook2
import KE.KStateDown
import PySem.Challenge.RW_partlabels_k12_formats
set_option Elab.async false
set_option linter.all false
set_option maxRecDepth 100000
set_option autoImplicit false
set_option maxHeartbeats 4000000
/-! The layer of data: values as trees of data, statements as steps from data to data. -/
namespace DL
open PySem L2 Evl
abbrev Frag := PySem.W.Frag
inductive Dt where
  | non | bl (b : Bool) | int (i : Int) | str (x : Str) | ty (n : String) | ref (a : Addr)
  | lst (ds : List Dt) | tup (ds : List Dt) | dic (ks : List Key) (ds : List Dt) | ins (C : Addr) (fs : List Str) (ds : List Dt)
  | exn (a : Addr) (dd : Option Addr) (C : Addr) (fs : List Str) (ds : List Dt)
  | own (i : Nat)
mutual
def Rep (K : Frag) (F : Hp) : Dt → V → Prop
  | .non, v => v = .non
  | .bl b, v => v = .bl b
  | .int i, v => v = .int i
  | .str x, v => v = .str x
  | .ty n, v => v = .ty n
  | .ref a, v => v = .ref a
  | .lst ds, v => ∃ a xs, v = .ref a ∧ SqL K F a xs ∧ RepL K F ds xs
  | .tup ds, v => ∃ a xs, v = .ref a ∧ SqT K F a xs ∧ RepL K F ds xs
  | .dic ks ds, v => ∃ a xs, v = .ref a ∧ Rd F a (.dK (ks.zip xs)) ∧ ks.length = ds.length ∧ RepL K F ds xs
  | .ins C fs ds, v => ∃ a dx xs, v = .ref a ∧ F a = some (.ins C dx (fs.zip xs)) ∧ fs.length = ds.length ∧ RepL K F ds xs
  | .exn a dd _ fs ds, v => v = .ref a ∧ ((fs = [] ∧ dd = none) ∨ ∃ b xs, dd = some b ∧ F b = some (.xd (fs.zip xs)) ∧ fs.length = ds.length ∧ RepL K F ds xs)
  | .own _, _ => False
def RepL (K : Frag) (F : Hp) : List Dt → List V → Prop
  | [], vs => vs = []
  | d :: ds, vs => ∃ v r, vs = v :: r ∧ Rep K F d v ∧ RepL K F ds r
end
mutual
theorem Rep.mono {K : Frag} {F F' : Hp} (e : Ex F F') : ∀ {d : Dt} {v : V}, Rep K F d v → Rep K F' d v
  | .non, _, h => h
  | .bl _, _, h => h
  | .int _, _, h => h
  | .str _, _, h => h
  | .ty _, _, h => h
  | .ref _, _, h => h
  | .lst ds, _, h => by
    unfold Rep at h ⊢
    obtain ⟨a, xs, h1, h2, h3⟩ := h
    exact ⟨a, xs, h1, ex_l e h2, RepL.mono e h3⟩
  | .tup ds, _, h => by
    unfold Rep at h ⊢
    obtain ⟨a, xs, h1, h2, h3⟩ := h
    exact ⟨a, xs, h1, ex_t e h2, RepL.mono e h3⟩
  | .dic ks ds, _, h => by
    unfold Rep at h ⊢
    obtain ⟨a, xs, h1, h2, h3, h4⟩ := h
    exact ⟨a, xs, h1, ex_rd e h2, h3, RepL.mono e h4⟩
  | .ins C fs ds, _, h => by
    unfold Rep at h ⊢
    obtain ⟨a, dx, xs, h1, h2, h3, h4⟩ := h
    exact ⟨a, dx, xs, h1, e _ _ h2, h3, RepL.mono e h4⟩
  | .exn a dd C fs ds, _, h => by
    unfold Rep at h ⊢
    obtain ⟨h1, h2⟩ := h
    refine ⟨h1, ?_⟩
    rcases h2 with h2 | ⟨b, xs, h3, h4, h5, h6⟩
    · exact .inl h2
    · exact .inr ⟨b, xs, h3, e _ _ h4, h5, RepL.mono e h6⟩
  | .own _, _, h => by
    unfold Rep at h
    exact h.elim
theorem RepL.mono {K : Frag} {F F' : Hp} (e : Ex F F') : ∀ {ds : List Dt} {vs : List V}, RepL K F ds vs → RepL K F' ds vs
  | [], _, h => by
    unfold RepL at h ⊢
    exact h
  | d :: ds, _, h => by
    unfold RepL at h ⊢
    obtain ⟨v, r, h1, h2, h3⟩ := h
    exact ⟨v, r, h1, Rep.mono e h2, RepL.mono e h3⟩
end
theorem RepL.length {K : Frag} {F : Hp} : ∀ {ds : List Dt} {vs : List V}, RepL K F ds vs → vs.length = ds.length
  | [], _, h => by
    unfold RepL at h
    rw [h] <;> rfl
  | d :: ds, _, h => by
    unfold RepL at h
    obtain ⟨v, r, h1, h2, h3⟩ := h
    rw [h1, List.length_cons, List.length_cons, RepL.length h3]
theorem RepL.get {K : Frag} {F : Hp} : ∀ {ds : List Dt} {vs : List V} {i : Nat} {d : Dt}, RepL K F ds vs → ds[i]? = some d → ∃ v, vs[i]? = some v ∧ Rep K F d v
  | [], _, i, d, h, e => by simp at e
  | c :: ds, _, 0, d, h, e => by
    unfold RepL at h
    obtain ⟨v, r, h1, h2, h3⟩ := h
    simp at e
    subst e h1
    exact ⟨v, rfl, h2⟩
  | c :: ds, _, i + 1, d, h, e => by
    unfold RepL at h
    obtain ⟨v, r, h1, h2, h3⟩ := h
    subst h1
    obtain ⟨u, e1, e2⟩ := RepL.get (i := i) (d := d) h3 (by simpa using e)
    exact ⟨u, by simpa using e1, e2⟩
theorem RepL.app {K : Frag} {F : Hp} : ∀ {ds es : List Dt} {vs us : List V}, RepL K F ds vs → RepL K F es us → RepL K F (ds ++ es) (vs ++ us)
  | [], es, vs, us, h, g => by
    unfold RepL at h
    subst h
    exact g
  | d :: ds, es, vs, us, h, g => by
    unfold RepL at h
    obtain ⟨v, r, h1, h2, h3⟩ := h
    subst h1
    show RepL K F (d :: (ds ++ es)) (v :: (r ++ us))
    unfold RepL
    exact ⟨v, r ++ us, rfl, h2, RepL.app h3 g⟩
theorem repL_nil {K : Frag} {F : Hp} : RepL K F [] [] := by
  unfold RepL
  rfl
theorem repL_cons {K : Frag} {F : Hp} {d : Dt} {ds : List Dt} {v : V} {vs : List V} (h : Rep K F d v) (g : RepL K F ds vs) : RepL K F (d :: ds) (v :: vs) := by
  unfold RepL
  exact ⟨v, vs, rfl, h, g⟩
/-! ### slots -/
inductive Sl where
  | no | sh (d : Dt) | ow (l : Bool) (d : Dt)
abbrev En := List Sl
/-- what an owned object is -/
def Own (K : Frag) (F H : Hp) (p : Addr) : Dt → Prop
  | .lst ds => ∃ xs, H p = some (.lst xs) ∧ RepL K F ds xs
  | .dic ks ds => ∃ xs, H p = some (.dK (ks.zip xs)) ∧ ks.length = ds.length ∧ RepL K F ds xs
  | .ins C fs ds => ∃ dx xs, H p = some (.ins C dx (fs.zip xs)) ∧ fs.length = ds.length ∧ RepL K F ds xs
  | _ => False
theorem Own.mono {K : Frag} {F F' H H' : Hp} {p : Addr} (e : Ex F F') (h : H' p = H p) : ∀ {d : Dt}, Own K F H p d → Own K F' H' p d
  | .lst ds, ⟨xs, a, b⟩ => ⟨xs, h.trans a, b.mono e⟩
  | .dic ks ds, ⟨xs, a, b, c⟩ => ⟨xs, h.trans a, b, c.mono e⟩
  | .ins C fs ds, ⟨dx, xs, a, b, c⟩ => ⟨dx, xs, h.trans a, b, c.mono e⟩
theorem Own.there {K : Frag} {F H : Hp} {p : Addr} : ∀ {d : Dt}, Own K F H p d → H p ≠ none
  | .lst ds, ⟨xs, a, b⟩ => by rw [a]; exact fun z => nomatch z
  | .dic ks ds, ⟨xs, a, b, c⟩ => by rw [a]; exact fun z => nomatch z
  | .ins C fs ds, ⟨dx, xs, a, b, c⟩ => by rw [a]; exact fun z => nomatch z
def OwA (σ : L2.St) (ρ : En) (a : Addr) : Prop := ∃ (i : Nat) (l : Bool) (d : Dt), ρ[i]? = some (.ow l d) ∧ σ[i]? = some (some (.ref a))
structure Sym (K : Frag) (F H : Hp) (σ : L2.St) (ρ : En) : Prop where
  ex : Ex F H
  len : σ.length = ρ.length
  sh : ∀ (i : Nat) (d : Dt), ρ[i]? = some (.sh d) → ∃ v, σ[i]? = some (some v) ∧ Rep K F d v
  ow : ∀ (i : Nat) (l : Bool) (d : Dt), ρ[i]? = some (.ow l d) → ∃ p, σ[i]? = some (some (.ref p)) ∧ F p = none ∧ Own K F H p d
  inj : ∀ (i j : Nat) (l m : Bool) (d e : Dt) (p : Addr), ρ[i]? = some (.ow l d) → ρ[j]? = some (.ow m e) → σ[i]? = some (some (.ref p)) → σ[j]? = some (some (.ref p)) → i = j
/-- from one state to a later one -/
structure Step (K : Frag) (σ : L2.St) (ρ : En) (F H : Hp) (σ' : L2.St) (ρ' : En) (F' H' : Hp) : Prop where
  sym : Sym K F' H' σ' ρ'
  exF : Ex F F'
  keep : ∀ a o, H a = some o → ¬ OwA σ ρ a → H' a = some o
  own : ∀ a, OwA σ' ρ' a → OwA σ ρ a ∨ H a = none
  new : ∀ a, F' a ≠ none → F a ≠ none ∨ H a = none ∨ OwA σ ρ a
  all : ∀ a, H a ≠ none → H' a ≠ none
  stay : ∀ (i : Nat) (d : Dt), ρ[i]? = some (.ow true d) → ∃ d', ρ'[i]? = some (.ow true d') ∧ σ'[i]? = σ[i]?
section
variable {K : Frag} {σ σ1 σ2 : L2.St} {ρ ρ1 ρ2 : En} {F F1 F2 H H1 H2 : Hp}
theorem Step.refl (s : Sym K F H σ ρ) : Step K σ ρ F H σ ρ F H := ⟨s, Ex.refl F, fun _ _ h _ => h, fun _ h => .inl h, fun _ h => .inl h, fun _ h => h, fun _ d h => ⟨d, h, rfl⟩⟩
theorem Step.trans (a : Step K σ ρ F H σ1 ρ1 F1 H1) (b : Step K σ1 ρ1 F1 H1 σ2 ρ2 F2 H2) : Step K σ ρ F H σ2 ρ2 F2 H2 where
  sym := b.sym
  exF := a.exF.trans b.exF
  keep := fun x o h n => b.keep x o (a.keep x o h n) fun z => by
    rcases a.own x z with y | y
    · exact n y
    · rw [h] at y
      cases y
  own := fun x z => by
    rcases b.own x z with y | y
    · exact a.own x y
    · refine .inr ?_
      cases h : H x with
      | none => rfl
      | some o => exact absurd y (a.all x (by rw [h]; exact fun z => nomatch z))
  new := fun x z => by
    rcases b.new x z with y | y | y
    · exact a.new x y
    · refine .inr (.inl ?_)
      cases h : H x with
      | none => rfl
      | some o => exact absurd y (a.all x (by rw [h]; exact fun z => nomatch z))
    · rcases a.own x y with w | w
      · exact .inr (.inr w)
      · exact .inr (.inl w)
  all := fun x z => b.all x (a.all x z)
  stay := fun i d h => by
    obtain ⟨d1, h1, e1⟩ := a.stay i d h
    obtain ⟨d2, h2, e2⟩ := b.stay i d1 h1
    exact ⟨d2, h2, e2.trans e1⟩
/-- nothing but new objects; all of these are frozen -/
def Fz (F H H' : Hp) : Hp := fun a => match H a with
  | none => H' a
  | some _ => F a
theorem fz_old {a : Addr} {o : HO} (h : H a = some o) : Fz F H H1 a = F a := by unfold Fz; rw [h]
theorem fz_new {a : Addr} (h : H a = none) : Fz F H H1 a = H1 a := by unfold Fz; rw [h]
theorem fz_ex (h : Ex F H) : Ex F (Fz F H H1) := fun a o e => by rw [fz_old (h a o e)]; exact e
theorem fz_in (h : Ex F H) (g : Ex H H1) : Ex (Fz F H H1) H1 := fun a o e => by
  cases q : H a with
  | none =>
    rw [fz_new q] at e
    exact e
  | some u =>
    rw [fz_old q] at e
    exact g a o (h a o e)
theorem Sym.grow (s : Sym K F H σ ρ) (g : Ex H H1) : Sym K (Fz F H H1) H1 σ ρ where
  ex := fz_in s.ex g
  len := s.len
  sh := fun i d h => by
    obtain ⟨v, a, b⟩ := s.sh i d h
    exact ⟨v, a, b.mono (fz_ex s.ex)⟩
  ow := fun i l d h => by
    obtain ⟨p, a, b, c⟩ := s.ow i l d h
    cases q : H p with
    | none => exact absurd q c.there
    | some o => exact ⟨p, a, by rw [fz_old q]; exact b, c.mono (fz_ex s.ex) (by rw [q]; exact g p o q)⟩
  inj := s.inj
theorem Step.grow (s : Sym K F H σ ρ) (g : Ex H H1) : Step K σ ρ F H σ ρ (Fz F H H1) H1 where
  sym := s.grow g
  exF := fz_ex s.ex
  keep := fun a o h _ => g a o h
  own := fun a h => .inl h
  new := fun a h => by
    cases q : H a with
    | none => exact .inr (.inl rfl)
    | some o =>
      rw [fz_old q] at h
      exact .inl h
  all := fun a h => by
    cases q : H a with
    | none => exact absurd q h
    | some o => rw [g a o q]; exact fun z => nomatch z
  stay := fun _ d h => ⟨d, h, rfl⟩
/-- the object that the slot i owns is changed -/
theorem Sym.write {i : Nat} {l : Bool} {d d' : Dt} {p : Addr} {o : HO} (s : Sym K F H σ ρ) (hi : ρ[i]? = some (.ow l d)) (hp : σ[i]? = some (some (.ref p))) (new : Own K F (upd H p o) p d') : Sym K F (upd H p o) σ (ρ.set i (.ow l d')) := by
  obtain ⟨p', a, b, c⟩ := s.ow i l d hi
  have ep : p' = p := by
    rw [a] at hp
    have z := Option.some.inj (Option.some.inj hp)
    injection z
  subst ep
  have hil : i < ρ.length := (List.getElem?_eq_some_iff.mp hi).1
  exact {
    ex := Ex.mut s.ex b
    len := by rw [List.length_set]; exact s.len
    sh := fun j e h => by
      by_cases hj : i = j
      · subst hj
        rw [List.getElem?_set_self hil] at h
        cases h
      · rw [List.getElem?_set_ne hj] at h
        exact s.sh j e h
    ow := fun j m e h => by
      by_cases hj : i = j
      · subst hj
        rw [List.getElem?_set_self hil] at h
        cases h
        exact ⟨p', a, b, new⟩
      · rw [List.getElem?_set_ne hj] at h
        obtain ⟨q, a', b', c'⟩ := s.ow j m e h
        have ne : q ≠ p' := fun z => by
          subst z
          exact hj (s.inj i j l m d e q hi h a a')
        exact ⟨q, a', b', c'.mono (Ex.refl F) (upd_ne ne)⟩
    inj := fun j k m n e f q h1 h2 h3 h4 => by
      have t : ∀ {j : Nat} {m : Bool} {e : Dt}, (ρ.set i (.ow l d'))[j]? = some (.ow m e) → ∃ m e, ρ[j]? = some (.ow m e) := fun {j m e} h => by
        by_cases hj : i = j
        · subst hj
          exact ⟨l, d, hi⟩
        · rw [List.getElem?_set_ne hj] at h
          exact ⟨m, e, h⟩
      obtain ⟨m', e', h1'⟩ := t h1
      obtain ⟨n', f', h2'⟩ := t h2
      exact s.inj j k m' n' e' f' q h1' h2' h3 h4 }
theorem OwA.of_write {i : Nat} {l : Bool} {d d' : Dt} {a : Addr} (hi : ρ[i]? = some (.ow l d)) (h : OwA σ (ρ.set i (.ow l d')) a) : OwA σ ρ a := by
  obtain ⟨j, m, e, h1, h2⟩ := h
  by_cases hj : i = j
  · subst hj
    exact ⟨i, l, d, hi, h2⟩
  · rw [List.getElem?_set_ne hj] at h1
    exact ⟨j, m, e, h1, h2⟩
theorem Step.write {i : Nat} {l : Bool} {d d' : Dt} {p : Addr} {o : HO} (s : Sym K F H σ ρ) (hi : ρ[i]? = some (.ow l d)) (hp : σ[i]? = some (some (.ref p))) (new : Own K F (upd H p o) p d') : Step K σ ρ F H σ (ρ.set i (.ow l d')) F (upd H p o) where
  sym := s.write hi hp new
  exF := Ex.refl F
  keep := fun a u h n => by
    have ne : a ≠ p := fun z => by
      subst z
      exact n ⟨i, l, d, hi, hp⟩
    rw [upd_ne ne]
    exact h
  own := fun a h => .inl (h.of_write hi)
  new := fun a h => .inl h
  all := fun a h => by
    by_cases e : a = p
    · subst e
      rw [upd_same]
      exact fun z => nomatch z
    · rw [upd_ne e]
      exact h
  stay := fun j e h => by
    by_cases hj : i = j
    · subst hj
      rw [hi] at h
      cases h
      exact ⟨d', List.getElem?_set_self (List.getElem?_eq_some_iff.mp hi).1, rfl⟩
    · exact ⟨e, by rw [List.getElem?_set_ne hj]; exact h, rfl⟩
/-- a slot comes to own a new object -/
theorem Sym.take {i : Nat} {d : Dt} {p : Addr} (s : Sym K F H σ ρ) (hn : F p = none) (nw : ∀ (j : Nat) (l : Bool) (e : Dt), ρ[j]? = some (.ow l e) → σ[j]? ≠ some (some (.ref p))) (new : Own K F H p d) : Sym K F H (σ.set i (some (.ref p))) (ρ.set i (.ow false d)) := by
  have bound : ∀ {z : Sl}, (ρ.set i (.ow false d))[i]? = some z → i < ρ.length := fun {z} h => by
    have := (List.getElem?_eq_some_iff.mp h).1
    rw [List.length_set] at this
    exact this
  exact {
    ex := s.ex
    len := by rw [List.length_set, List.length_set]; exact s.len
    sh := fun j e h => by
      by_cases hj : i = j
      · subst hj
        rw [List.getElem?_set_self (bound h)] at h
        cases h
      · rw [List.getElem?_set_ne hj] at h
        obtain ⟨v, a, b⟩ := s.sh j e h
        exact ⟨v, by rw [List.getElem?_set_ne hj]; exact a, b⟩
    ow := fun j m e h => by
      by_cases hj : i = j
      · subst hj
        have hb := bound h
        rw [List.getElem?_set_self hb] at h
        cases h
        exact ⟨p, List.getElem?_set_self (by rw [s.len]; exact hb), hn, new⟩
      · rw [List.getElem?_set_ne hj] at h
        obtain ⟨q, a, b⟩ := s.ow j m e h
        exact ⟨q, by rw [List.getElem?_set_ne hj]; exact a, b⟩
    inj := fun j k m n e f q h1 h2 h3 h4 => by
      by_cases hj : i = j
      · by_cases hk : i = k
        · rw [← hj, ← hk]
        · subst hj
          have hb := bound h1
          rw [List.getElem?_set_self (by rw [s.len]; exact hb)] at h3
          have z := Option.some.inj (Option.some.inj h3)
          injection z with z
          subst z
          rw [List.getElem?_set_ne hk] at h2 h4
          exact absurd h4 (nw k n f h2)
      · by_cases hk : i = k
        · subst hk
          have hb := bound h2
          rw [List.getElem?_set_self (by rw [s.len]; exact hb)] at h4
          have z := Option.some.inj (Option.some.inj h4)
          injection z with z
          subst z
          rw [List.getElem?_set_ne hj] at h1 h3
          exact absurd h3 (nw j m e h1)
        · rw [List.getElem?_set_ne hj] at h1 h3
          rw [List.getElem?_set_ne hk] at h2 h4
          exact s.inj j k m n e f q h1 h2 h3 h4 }
end
def lent (ρ : En) (i : Nat) : Bool := match ρ[i]? with
  | some (.ow true _) => true
  | _ => false
theorem lent_no {ρ : En} {i : Nat} {d : Dt} (h : lent ρ i = false) : ρ[i]? ≠ some (.ow true d) := fun e => by
  unfold lent at h
  rw [e] at h
  cases h
end DL
set_option Elab.async false
set_option linter.all false
set_option maxRecDepth 100000
set_option autoImplicit false
set_option maxHeartbeats 4000000
namespace DL
open PySem L2 Evl
/-- a value in hand: data, or what a slot owns -/
def RepV (K : Frag) (F : Hp) (σ : L2.St) (d : Dt) (v : V) : Prop := match d with
  | .own i => σ[i]? = some (some v)
  | d => Rep K F d v
theorem RepV.mono {K : Frag} {F F' : Hp} {σ : L2.St} (e : Ex F F') {d : Dt} {v : V} (h : RepV K F σ d v) : RepV K F' σ d v := by
  cases d with
  | own i => exact h
  | _ => exact Rep.mono e h
/-- an exception: its class, its fields -/
structure Xc where
  C : Addr
  fs : List Str
  ds : List Dt
def XOk (K : Frag) (F : Hp) (x : Xc) (cls : Value) (dd : Option Addr) : Prop := cls = .ref x.C ∧ ((x.fs = [] ∧ dd = none) ∨ ∃ a xs, dd = some a ∧ F a = some (.xd (x.fs.zip xs)) ∧ x.fs.length = x.ds.length ∧ RepL K F x.ds xs)
abbrev PX := Xc → En → Prop
def px0 : PX := fun _ _ => False
/-- an expression: from data to data -/
def EvD (K : Frag) (W : WX) (te : TE) (ρ : En) (x : PX) (P : Dt → En → Prop) : Prop :=
  ∀ (σ : L2.St) (F H : Hp) (Q : VK), Sym K F H σ ρ → (∀ d ρ' v F' H', P d ρ' → Step K σ ρ F H σ ρ' F' H' → RepV K F' σ d v → Q v H') →
    (∀ c ρ' cls dd F' H', x c ρ' → Step K σ ρ F H σ ρ' F' H' → XOk K F' c cls dd → W cls dd σ H') → te σ H Q
/-- a test -/
def TtD (K : Frag) (W : WX) (tt : TT) (ρ : En) (x : PX) (P : Bool → En → Prop) : Prop :=
  ∀ (σ : L2.St) (F H : Hp) (Q : Bool → Hp → Prop), Sym K F H σ ρ → (∀ b ρ' F' H', P b ρ' → Step K σ ρ F H σ ρ' F' H' → Q b H') →
    (∀ c ρ' cls dd F' H', x c ρ' → Step K σ ρ F H σ ρ' F' H' → XOk K F' c cls dd → W cls dd σ H') → tt σ H Q
/-- arguments -/
def RepVL (K : Frag) (F : Hp) (σ : L2.St) : List Dt → List V → Prop
  | [], vs => vs = []
  | d :: ds, vs => ∃ v r, vs = v :: r ∧ RepV K F σ d v ∧ RepVL K F σ ds r
theorem RepVL.mono {K : Frag} {F F' : Hp} {σ : L2.St} (e : Ex F F') : ∀ {ds : List Dt} {vs : List V}, RepVL K F σ ds vs → RepVL K F' σ ds vs
  | [], _, h => h
  | d :: ds, _, ⟨v, r, h1, h2, h3⟩ => ⟨v, r, h1, h2.mono e, RepVL.mono e h3⟩
def ArD (K : Frag) (W : WX) (ta : TA) (ρ : En) (x : PX) (P : List Dt → En → Prop) : Prop :=
  ∀ (σ : L2.St) (F H : Hp) (Q : List V → Hp → Prop), Sym K F H σ ρ → (∀ ds ρ' vs F' H', P ds ρ' → Step K σ ρ F H σ ρ' F' H' → RepVL K F' σ ds vs → Q vs H') →
    (∀ c ρ' cls dd F' H', x c ρ' → Step K σ ρ F H σ ρ' F' H' → XOk K F' c cls dd → W cls dd σ H') → ta σ H Q
/-- an operation on two values, on one, on several -/
def OpD (K : Frag) (r : R2) (d e : Dt) (ρ : En) (P : Dt → En → Prop) : Prop :=
  ∀ (σ : L2.St) (F H : Hp) (Q : VK) (u v : V), Sym K F H σ ρ → RepV K F σ d u → RepV K F σ e v → (∀ d' ρ' v' F' H', P d' ρ' → Step K σ ρ F H σ ρ' F' H' → RepV K F' σ d' v' → Q v' H') → r u v H Q
def UnD (K : Frag) (r : V → Hp → VK → Prop) (d : Dt) (ρ : En) (P : Dt → En → Prop) : Prop :=
  ∀ (σ : L2.St) (F H : Hp) (Q : VK) (u : V), Sym K F H σ ρ → RepV K F σ d u → (∀ d' ρ' v' F' H', P d' ρ' → Step K σ ρ F H σ ρ' F' H' → RepV K F' σ d' v' → Q v' H') → r u H Q
def CaD (K : Frag) (r : List V → Hp → VK → Prop) (ds : List Dt) (ρ : En) (P : Dt → En → Prop) : Prop :=
  ∀ (σ : L2.St) (F H : Hp) (Q : VK) (us : List V), Sym K F H σ ρ → RepVL K F σ ds us → (∀ d' ρ' v' F' H', P d' ρ' → Step K σ ρ F H σ ρ' F' H' → RepV K F' σ d' v' → Q v' H') → r us H Q
structure Pd where
  nx : En → Prop
  rt : Dt → En → Prop
  rn : Dt → En → Prop := fun _ _ => False
  bk : En → Prop := fun _ => False
  ct : En → Prop := fun _ => False
  ex : PX := px0
/-- what follows a statement, for data -/
structure Lk (K : Frag) (W : WX) (D : Ends) (P : Pd) (σ : L2.St) (ρ : En) (F H : Hp) : Prop where
  nx : ∀ ρ' σ' F' H', P.nx ρ' → Step K σ ρ F H σ' ρ' F' H' → D.nx σ' H'
  rt : ∀ d ρ' v σ' F' H', P.rt d ρ' → Step K σ ρ F H σ' ρ' F' H' → Rep K F' d v → D.rt v H'
  rn : ∀ d ρ' p σ' F' H', P.rn d ρ' → Step K σ ρ F H σ' ρ' F' H' → F' p = none → Own K F' H' p d → (OwA σ' ρ' p ∨ H p = none) → D.rt (.ref p) H'
  bk : ∀ ρ' σ' F' H', P.bk ρ' → Step K σ ρ F H σ' ρ' F' H' → D.bk σ' H'
  ct : ∀ ρ' σ' F' H', P.ct ρ' → Step K σ ρ F H σ' ρ' F' H' → D.ct σ' H'
  ex : ∀ c ρ' cls dd σ' F' H', P.ex c ρ' → Step K σ ρ F H σ' ρ' F' H' → XOk K F' c cls dd → W cls dd σ' H'
/-- a statement, a block -/
def StD (K : Frag) (W : WX) (ts : TS) (ρ : En) (P : Pd) : Prop := ∀ (σ : L2.St) (F H : Hp) (D : Ends), Sym K F H σ ρ → Lk K W D P σ ρ F H → ts D σ H
section
variable {K : Frag} {W : WX} {σ σ1 : L2.St} {ρ ρ1 : En} {F F1 H H1 : Hp} {x : PX} {D : Ends} {P : Pd}
theorem Lk.later (l : Lk K W D P σ ρ F H) (s : Step K σ ρ F H σ1 ρ1 F1 H1) : Lk K W D P σ1 ρ1 F1 H1 :=
  ⟨fun _ _ _ _ p t => l.nx _ _ _ _ p (s.trans t), fun _ _ _ _ _ _ p t => l.rt _ _ _ _ _ _ p (s.trans t), fun _ _ q _ _ _ p t f o w => l.rn _ _ _ _ _ _ p (s.trans t) f o (by
    rcases w with w | w
    · exact .inl w
    · refine .inr ?_
      cases e : H q with
      | none => rfl
      | some u => exact absurd w (s.all q (by rw [e]; exact fun z => nomatch z))), fun _ _ _ _ p t => l.bk _ _ _ _ p (s.trans t), fun _ _ _ _ p t => l.ct _ _ _ _ p (s.trans t), fun _ _ _ _ _ _ _ p t => l.ex _ _ _ _ _ _ _ p (s.trans t)⟩
/-! ### expressions -/
theorem e_var {i : Nat} {d : Dt} {P : Dt → En → Prop} (h : ρ[i]? = some (.sh d)) (p : P d ρ) : EvD K W (tVar i) ρ x P := fun σ F H Q s q _ => by
  obtain ⟨v, e1, e2⟩ := s.sh i d h
  refine ⟨v, e1, q d ρ v F H p (Step.refl s) ?_⟩
  cases d with
  | own j =>
    unfold Rep at e2
    exact e2.elim
  | _ => exact e2
theorem e_own {i : Nat} {l : Bool} {d : Dt} {P : Dt → En → Prop} (h : ρ[i]? = some (.ow l d)) (p : P (.own i) ρ) : EvD K W (tVar i) ρ x P := fun σ F H Q s q _ => by
  obtain ⟨a, e1, _⟩ := s.ow i l d h
  exact ⟨_, e1, q (.own i) ρ _ F H p (Step.refl s) e1⟩
theorem e_int {i : Int} {P : Dt → En → Prop} (p : P (.int i) ρ) : EvD K W (tC (.int i)) ρ x P := fun σ F H Q s q _ => q _ _ _ F H p (Step.refl s) rfl
theorem e_str {z : Str} {P : Dt → En → Prop} (p : P (.str z) ρ) : EvD K W (tC (.str z)) ρ x P := fun σ F H Q s q _ => q _ _ _ F H p (Step.refl s) rfl
theorem e_bl {z : Bool} {P : Dt → En → Prop} (p : P (.bl z) ρ) : EvD K W (tC (.bl z)) ρ x P := fun σ F H Q s q _ => q _ _ _ F H p (Step.refl s) rfl
theorem e_non {P : Dt → En → Prop} (p : P .non ρ) : EvD K W (tC .non) ρ x P := fun σ F H Q s q _ => q _ _ _ F H p (Step.refl s) rfl
theorem e_ty {z : String} {P : Dt → En → Prop} (p : P (.ty z) ρ) : EvD K W (tC (.ty z)) ρ x P := fun σ F H Q s q _ => q _ _ _ F H p (Step.refl s) rfl
theorem e_ref {a : Addr} {P : Dt → En → Prop} (p : P (.ref a) ρ) : EvD K W (tC (.ref a)) ρ x P := fun σ F H Q s q _ => q _ _ _ F H p (Step.refl s) rfl
/-- a constant of the module that is data (written) -/
theorem e_wr {v : V} {d : Dt} {P : Dt → En → Prop} (h : ∀ F, Rep K F d v) (p : P d ρ) : EvD K W (tC v) ρ x P := fun σ F H Q s q _ => q d ρ v F H p (Step.refl s) (by
  have h1 := h F
  cases d with
  | own j =>
    unfold Rep at h1
    exact h1.elim
  | _ => exact h1)
theorem e_op {r : R2} {ta tb : TE} {P : Dt → En → Prop} (h : EvD K W ta ρ x fun d ρ1 => EvD K W tb ρ1 x fun e ρ2 => OpD K r d e ρ2 P) : EvD K W (tOp r ta tb) ρ x P := fun σ F H Q s q w =>
  h σ F H _ s (fun d ρ1 v F1 H1 p1 s1 r1 => p1 σ F1 H1 _ s1.sym (fun e ρ2 u F2 H2 p2 s2 r2 => p2 σ F2 H2 Q v u s2.sym (r1.mono s2.exF) r2 fun d' ρ3 v' F3 H3 p3 s3 r3 => q d' ρ3 v' F3 H3 p3 ((s1.trans s2).trans s3) r3)
    fun c ρ' cls dd F' H' px st xo => w c ρ' cls dd F' H' px (s1.trans st) xo) w
theorem e_un {r : V → Hp → VK → Prop} {ta : TE} {P : Dt → En → Prop} (h : EvD K W ta ρ x fun d ρ1 => UnD K r d ρ1 P) : EvD K W (tUn r ta) ρ x P := fun σ F H Q s q w =>
  h σ F H _ s (fun d ρ1 v F1 H1 p1 s1 r1 => p1 σ F1 H1 Q v s1.sym r1 fun d' ρ3 v' F3 H3 p3 s3 r3 => q d' ρ3 v' F3 H3 p3 (s1.trans s3) r3) w
theorem e_cb {r : List V → Hp → VK → Prop} {ta : TA} {P : Dt → En → Prop} (h : ArD K W ta ρ x fun ds ρ1 => CaD K r ds ρ1 P) : EvD K W (tCB r ta) ρ x P := fun σ F H Q s q w =>
  h σ F H _ s (fun ds ρ1 vs F1 H1 p1 s1 r1 => p1 σ F1 H1 Q vs s1.sym r1 fun d' ρ3 v' F3 H3 p3 s3 r3 => q d' ρ3 v' F3 H3 p3 (s1.trans s3) r3) w
theorem e_imp {te : TE} {P P' : Dt → En → Prop} (h : EvD K W te ρ x P) (g : ∀ d ρ', P d ρ' → P' d ρ') : EvD K W te ρ x P' := fun σ F H Q s q w => h σ F H Q s (fun d ρ' v F' H' p => q d ρ' v F' H' (g d ρ' p)) w
/-! ### arguments -/
theorem a_nil {P : List Dt → En → Prop} (p : P [] ρ) : ArD K W tNil ρ x P := fun σ F H Q s q _ => q [] ρ [] F H p (Step.refl s) rfl
theorem a_cons {te : TE} {ta : TA} {P : List Dt → En → Prop} (h : EvD K W te ρ x fun d ρ1 => ArD K W ta ρ1 x fun ds ρ2 => P (d :: ds) ρ2) : ArD K W (tCons te ta) ρ x P := fun σ F H Q s q w =>
  h σ F H _ s (fun d ρ1 v F1 H1 p1 s1 r1 => p1 σ F1 H1 _ s1.sym (fun ds ρ2 vs F2 H2 p2 s2 r2 => q (d :: ds) ρ2 (v :: vs) F2 H2 p2 (s1.trans s2) ⟨v, vs, rfl, r1.mono s2.exF, r2⟩)
    fun c ρ' cls dd F' H' px st xo => w c ρ' cls dd F' H' px (s1.trans st) xo) w
/-! ### tests -/
theorem t_test {te : TE} {P : Bool → En → Prop} (h : EvD K W te ρ x fun d ρ1 => ∃ b, d = .bl b ∧ P b ρ1) : TtD K W (tTest te) ρ x P := fun σ F H Q s q w =>
  h σ F H _ s (fun d ρ1 v F1 H1 p1 s1 r1 => by
    obtain ⟨b, rfl, p⟩ := p1
    have e : v = .bl b := r1
    exact ⟨b, e, q b ρ1 F1 H1 p s1⟩) w
theorem t_B {te : TE} {P : Bool → En → Prop} (h : EvD K W te ρ x fun d ρ1 => ∃ b, d = .bl b ∧ P b ρ1) : TtD K W (tB te) ρ x P := fun σ F H Q s q w =>
  h σ F H _ s (fun d ρ1 v F1 H1 p1 s1 r1 => by
    obtain ⟨b, rfl, p⟩ := p1
    have e : v = .bl b := r1
    exact ⟨b, e, q b ρ1 F1 H1 p s1⟩) w
theorem t_and {t u : TT} {P : Bool → En → Prop} (h : TtD K W t ρ x fun b ρ1 => (b = true → TtD K W u ρ1 x P) ∧ (b = false → P false ρ1)) : TtD K W (tAnd t u) ρ x P := fun σ F H Q s q w =>
  h σ F H _ s (fun b ρ1 F1 H1 p1 s1 => by
    cases b with
    | true => exact p1.1 rfl σ F1 H1 Q s1.sym (fun b ρ2 F2 H2 p2 s2 => q b ρ2 F2 H2 p2 (s1.trans s2)) fun c ρ' cls dd F' H' px st xo => w c ρ' cls dd F' H' px (s1.trans st) xo
    | false => exact q false ρ1 F1 H1 (p1.2 rfl) s1) w
theorem t_or {t u : TT} {P : Bool → En → Prop} (h : TtD K W t ρ x fun b ρ1 => (b = true → P true ρ1) ∧ (b = false → TtD K W u ρ1 x P)) : TtD K W (tOr t u) ρ x P := fun σ F H Q s q w =>
  h σ F H _ s (fun b ρ1 F1 H1 p1 s1 => by
    cases b with
    | true => exact q true ρ1 F1 H1 (p1.1 rfl) s1
    | false => exact p1.2 rfl σ F1 H1 Q s1.sym (fun b ρ2 F2 H2 p2 s2 => q b ρ2 F2 H2 p2 (s1.trans s2)) fun c ρ' cls dd F' H' px st xo => w c ρ' cls dd F' H' px (s1.trans st) xo) w
theorem t_not {t : TT} {P : Bool → En → Prop} (h : TtD K W t ρ x fun b ρ1 => P (!b) ρ1) : TtD K W (tNot t) ρ x P := fun σ F H Q s q w =>
  h σ F H _ s (fun b ρ1 F1 H1 p1 s1 => q (!b) ρ1 F1 H1 p1 s1) w
theorem e_if {t : TT} {ta tb : TE} {P : Dt → En → Prop} (h : TtD K W t ρ x fun b ρ1 => (b = true → EvD K W ta ρ1 x P) ∧ (b = false → EvD K W tb ρ1 x P)) : EvD K W (tIf t ta tb) ρ x P := fun σ F H Q s q w =>
  h σ F H _ s (fun b ρ1 F1 H1 p1 s1 => by
    cases b with
    | true => exact p1.1 rfl σ F1 H1 Q s1.sym (fun d ρ2 v F2 H2 p2 s2 => q d ρ2 v F2 H2 p2 (s1.trans s2)) fun c ρ' cls dd F' H' px st xo => w c ρ' cls dd F' H' px (s1.trans st) xo
    | false => exact p1.2 rfl σ F1 H1 Q s1.sym (fun d ρ2 v F2 H2 p2 s2 => q d ρ2 v F2 H2 p2 (s1.trans s2)) fun c ρ' cls dd F' H' px st xo => w c ρ' cls dd F' H' px (s1.trans st) xo) w
theorem e_andV {ta tb : TE} {P : Dt → En → Prop} (h : EvD K W ta ρ x fun d ρ1 => ∃ b, d = .bl b ∧ (b = true → EvD K W tb ρ1 x P) ∧ (b = false → P (.bl false) ρ1)) : EvD K W (tAndV ta tb) ρ x P := fun σ F H Q s q w =>
  h σ F H _ s (fun d ρ1 v F1 H1 p1 s1 r1 => by
    obtain ⟨b, rfl, p2, p3⟩ := p1
    have e : v = .bl b := r1
    refine ⟨b, e, ?_⟩
    cases b with
    | true => exact p2 rfl σ F1 H1 Q s1.sym (fun d ρ2 v F2 H2 p2 s2 => q d ρ2 v F2 H2 p2 (s1.trans s2)) fun c ρ' cls dd F' H' px st xo => w c ρ' cls dd F' H' px (s1.trans st) xo
    | false => exact q _ ρ1 _ F1 H1 (p3 rfl) s1 rfl) w
theorem e_orV {ta tb : TE} {P : Dt → En → Prop} (h : EvD K W ta ρ x fun d ρ1 => ∃ b, d = .bl b ∧ (b = true → P (.bl true) ρ1) ∧ (b = false → EvD K W tb ρ1 x P)) : EvD K W (tOrV ta tb) ρ x P := fun σ F H Q s q w =>
  h σ F H _ s (fun d ρ1 v F1 H1 p1 s1 r1 => by
    obtain ⟨b, rfl, p2, p3⟩ := p1
    have e : v = .bl b := r1
    refine ⟨b, e, ?_⟩
    cases b with
    | true => exact q _ ρ1 _ F1 H1 (p2 rfl) s1 rfl
    | false => exact p3 rfl σ F1 H1 Q s1.sym (fun d ρ2 v F2 H2 p2 s2 => q d ρ2 v F2 H2 p2 (s1.trans s2)) fun c ρ' cls dd F' H' px st xo => w c ρ' cls dd F' H' px (s1.trans st) xo) w
theorem e_notV {ta : TE} {P : Dt → En → Prop} (h : EvD K W ta ρ x fun d ρ1 => ∃ b, d = .bl b ∧ P (.bl (!b)) ρ1) : EvD K W (tNotV ta) ρ x P := fun σ F H Q s q w =>
  h σ F H _ s (fun d ρ1 v F1 H1 p1 s1 r1 => by
    obtain ⟨b, rfl, p⟩ := p1
    have e : v = .bl b := r1
    exact ⟨b, e, q _ ρ1 _ F1 H1 p s1 rfl⟩) w
theorem e_chain {r r' : R2} {ta tb tc : TE} {P : Dt → En → Prop}
    (h : EvD K W ta ρ x fun d ρ1 => EvD K W tb ρ1 x fun e ρ2 => OpD K r d e ρ2 fun z ρ3 => ∃ b, z = .bl b ∧ (b = true → EvD K W tc ρ3 x fun g ρ4 => OpD K r' e g ρ4 P) ∧ (b = false → P (.bl false) ρ3)) : EvD K W (tChain r r' ta tb tc) ρ x P := fun σ F H Q s q w =>
  h σ F H _ s (fun d ρ1 v F1 H1 p1 s1 r1 => p1 σ F1 H1 _ s1.sym (fun e ρ2 u F2 H2 p2 s2 r2 => p2 σ F2 H2 _ v u s2.sym (r1.mono s2.exF) r2 fun z ρ3 zv F3 H3 p3 s3 r3 => by
      obtain ⟨b, rfl, p4, p5⟩ := p3
      have e : zv = .bl b := r3
      refine ⟨b, e, ?_⟩
      cases b with
      | true => exact p4 rfl σ F3 H3 _ s3.sym (fun g ρ4 gv F4 H4 p6 s4 r4 => p6 σ F4 H4 Q u gv s4.sym ((r2.mono s3.exF).mono s4.exF) r4 fun d' ρ5 v' F5 H5 p7 s5 r5 => q d' ρ5 v' F5 H5 p7 ((((s1.trans s2).trans s3).trans s4).trans s5) r5) fun c ρ' cls dd F' H' px st xo => w c ρ' cls dd F' H' px (((s1.trans s2).trans s3).trans st) xo
      | false => exact q _ ρ3 _ F3 H3 (p5 rfl) ((s1.trans s2).trans s3) rfl)
    fun c ρ' cls dd F' H' px st xo => w c ρ' cls dd F' H' px (s1.trans st) xo) w
/-! ### statements -/
theorem s_seq {t u : TS} (h : StD K W t ρ { P with nx := fun ρ1 => StD K W u ρ1 P }) : StD K W (tSeq t u) ρ P := fun σ F H D s l =>
  h σ F H { D with nx := u D } s ⟨fun ρ' σ' F' H' p st => p σ' F' H' D st.sym (l.later st), l.rt, l.rn, l.bk, l.ct, l.ex⟩
theorem s_next (p : P.nx ρ) : StD K W tNext ρ P := fun σ F H D s l => l.nx ρ σ F H p (Step.refl s)
theorem s_imp {t : TS} {P' : Pd} (h : StD K W t ρ P) (h1 : ∀ ρ', P.nx ρ' → P'.nx ρ') (h2 : ∀ d ρ', P.rt d ρ' → P'.rt d ρ') (h2n : ∀ d ρ', P.rn d ρ' → P'.rn d ρ') (h3 : ∀ ρ', P.bk ρ' → P'.bk ρ') (h4 : ∀ ρ', P.ct ρ' → P'.ct ρ') (h5 : ∀ c ρ', P.ex c ρ' → P'.ex c ρ') : StD K W t ρ P' := fun σ F H D s l =>
  h σ F H D s ⟨fun a b c d p => l.nx a b c d (h1 _ p), fun a b c d e f p => l.rt a b c d e f (h2 _ _ p), fun a b c d e f p => l.rn a b c d e f (h2n _ _ p), fun a b c d p => l.bk a b c d (h3 _ p), fun a b c d p => l.ct a b c d (h4 _ p), fun a b c d e f g p => l.ex a b c d e f g (h5 _ _ p)⟩
theorem s_drop {te : TE} (h : EvD K W te ρ P.ex fun _ ρ1 => P.nx ρ1) : StD K W (tDrop te) ρ P := fun σ F H D s l =>
  h σ F H _ s (fun d ρ' v F' H' p st _ => l.nx ρ' σ F' H' p st) fun c ρ' cls dd F' H' p st xo => l.ex c ρ' cls dd σ F' H' p st xo
/-- no slot's own object is in hand -/
def Dt.real : Dt → Bool
  | .own _ => false
  | _ => true
theorem RepV.real {K : Frag} {F : Hp} {σ : L2.St} {d : Dt} {v : V} (h : RepV K F σ d v) (hr : d.real = true) : Rep K F d v := by
  cases d with
  | own i => cases hr
  | _ => exact h
theorem s_ret {te : TE} (h : EvD K W te ρ P.ex fun d ρ1 => d.real = true ∧ P.rt d ρ1) : StD K W (tRet te) ρ P := fun σ F H D s l =>
  h σ F H _ s (fun d ρ' v F' H' p st r => l.rt d ρ' v σ F' H' p.2 st (r.real p.1)) fun c ρ' cls dd F' H' p st xo => l.ex c ρ' cls dd σ F' H' p st xo
theorem s_retN (h : P.rt .non ρ) : StD K W tRetN ρ P := fun σ F H D s l => l.rt .non ρ .non σ F H h (Step.refl s) (by unfold Rep; rfl)
theorem s_if {c : TT} {t u : TS} (h : TtD K W c ρ P.ex fun b ρ1 => (b = true → StD K W t ρ1 P) ∧ (b = false → StD K W u ρ1 P)) : StD K W (tIfS c t u) ρ P := fun σ F H D s l =>
  h σ F H _ s (fun b ρ' F' H' p st => by
    cases b with
    | true => exact p.1 rfl σ F' H' D st.sym (l.later st)
    | false => exact p.2 rfl σ F' H' D st.sym (l.later st)) fun c ρ' cls dd F' H' p st xo => l.ex c ρ' cls dd σ F' H' p st xo
/-- a slot gets shared data -/
theorem Sym.set {i : Nat} {d : Dt} {v : V} (s : Sym K F H σ ρ) (hr : Rep K F d v) : Sym K F H (σ.set i (some v)) (ρ.set i (.sh d)) where
  ex := s.ex
  len := by rw [List.length_set, List.length_set]; exact s.len
  sh := fun j e h => by
    by_cases hj : i = j
    · subst hj
      have hi : i < ρ.length := by
        have := (List.getElem?_eq_some_iff.mp h).1
        rw [List.length_set] at this
        exact this
      rw [List.getElem?_set_self hi] at h
      cases h
      exact ⟨v, List.getElem?_set_self (by rw [s.len]; exact hi), hr⟩
    · rw [List.getElem?_set_ne hj] at h
      obtain ⟨u, a, b⟩ := s.sh j e h
      exact ⟨u, by rw [List.getElem?_set_ne hj]; exact a, b⟩
  ow := fun j l e h => by
    by_cases hj : i = j
    · subst hj
      have hi : i < ρ.length := by
        have := (List.getElem?_eq_some_iff.mp h).1
        rw [List.length_set] at this
        exact this
      rw [List.getElem?_set_self hi] at h
      cases h
    · rw [List.getElem?_set_ne hj] at h
      obtain ⟨p, a, b⟩ := s.ow j l e h
      exact ⟨p, by rw [List.getElem?_set_ne hj]; exact a, b⟩
  inj := fun j k l m e f p h1 h2 h3 h4 => by
    have hj : i ≠ j := fun z => by
      subst z
      have hi : i < ρ.length := by
        have := (List.getElem?_eq_some_iff.mp h1).1
        rw [List.length_set] at this
        exact this
      rw [List.getElem?_set_self hi] at h1
      cases h1
    have hk : i ≠ k := fun z => by
      subst z
      have hi : i < ρ.length := by
        have := (List.getElem?_eq_some_iff.mp h2).1
        rw [List.length_set] at this
        exact this
      rw [List.getElem?_set_self hi] at h2
      cases h2
    rw [List.getElem?_set_ne hj] at h1 h3
    rw [List.getElem?_set_ne hk] at h2 h4
    exact s.inj j k l m e f p h1 h2 h3 h4
theorem OwA.set {i : Nat} {d : Dt} {v : V} {a : Addr} (h : OwA (σ.set i (some v)) (ρ.set i (.sh d)) a) : OwA σ ρ a := by
  obtain ⟨j, l, e, h1, h2⟩ := h
  have hj : i ≠ j := fun z => by
    subst z
    have hi : i < ρ.length := by
      have := (List.getElem?_eq_some_iff.mp h1).1
      rw [List.length_set] at this
      exact this
    rw [List.getElem?_set_self hi] at h1
    cases h1
  rw [List.getElem?_set_ne hj] at h1 h2
  exact ⟨j, l, e, h1, h2⟩
theorem Step.set {i : Nat} {d : Dt} {v : V} (s : Sym K F H σ ρ) (hl : lent ρ i = false) (hr : Rep K F d v) : Step K σ ρ F H (σ.set i (some v)) (ρ.set i (.sh d)) F H :=
  ⟨s.set hr, Ex.refl F, fun _ _ h _ => h, fun _ h => .inl h.set, fun _ h => .inl h, fun _ h => h, fun j e h => by
    have hj : i ≠ j := fun z => by
      subst z
      exact lent_no hl h
    exact ⟨e, by rw [List.getElem?_set_ne hj]; exact h, by rw [List.getElem?_set_ne hj]⟩⟩
theorem s_set {te : TE} {i : Nat} (h : EvD K W te ρ P.ex fun d ρ1 => d.real = true ∧ lent ρ1 i = false ∧ P.nx (ρ1.set i (.sh d))) : StD K W (tAsg te (gName i)) ρ P := fun σ F H D s l =>
  h σ F H _ s (fun d ρ' v F' H' p st r => l.nx _ _ F' H' p.2.2 (st.trans (Step.set st.sym p.2.1 (r.real p.1)))) fun c ρ' cls dd F' H' p st xo => l.ex c ρ' cls dd σ F' H' p st xo
end
end DL
set_option Elab.async false
set_option linter.all false
set_option maxRecDepth 100000
set_option autoImplicit false
set_option maxHeartbeats 4000000
namespace DL
open PySem L2 Evl PyProof.Rows
/-! ### promises by data -/
structure Fsp where
  I : Type
  arg : I → List Dt
  pre : I → Prop
  post : I → Dt → Prop
  exc : I → Xc → Prop := fun _ _ => False
def DSp (K : Frag) (S : Fsp) : Sp := fun vs H Q E => ∃ (F : Hp) (i : S.I), Ex F H ∧ RepL K F (S.arg i) vs ∧ S.pre i ∧ (∀ d, S.post i d → ∀ v H', Ex H H' → Rep K (Fz F H H') d v → Q v H') ∧
  (∀ c, S.exc i c → ∀ cls dd H', Ex H H' → XOk K (Fz F H H') c cls dd → E cls dd H')
/-- the first argument is an object that the def changes -/
structure Osp where
  I : Type
  own : I → Dt
  arg : I → List Dt
  pre : I → Prop
  post : I → Dt → Dt → Prop
  exc : I → Xc → Dt → Prop := fun _ _ _ => False
def Bt (H H' : Hp) (p : Addr) : Prop := ∀ a o, H a = some o → a ≠ p → H' a = some o
def OSp (K : Frag) (S : Osp) : Sp := fun vs H Q E => ∃ (F : Hp) (i : S.I) (p : Addr) (us : List V), vs = .ref p :: us ∧ Ex F H ∧ F p = none ∧ Own K F H p (S.own i) ∧ RepL K F (S.arg i) us ∧ S.pre i ∧
  (∀ d o, S.post i d o → ∀ v H', Bt H H' p → Own K (Fz F H H') H' p o → Rep K (Fz F H H') d v → Q v H') ∧
  (∀ c o, S.exc i c o → ∀ cls dd H', Bt H H' p → Own K (Fz F H H') H' p o → XOk K (Fz F H H') c cls dd → E cls dd H')
def allReal (ds : List Dt) : Bool := ds.all Dt.real
theorem RepVL.real {K : Frag} {F : Hp} {σ : L2.St} : ∀ {ds : List Dt} {vs : List V}, RepVL K F σ ds vs → allReal ds = true → RepL K F ds vs
  | [], _, h, _ => by
    unfold RepL
    exact h
  | d :: ds, _, ⟨v, r, h1, h2, h3⟩, hr => by
    unfold allReal at hr
    rw [List.all_cons, Bool.and_eq_true] at hr
    subst h1
    exact repL_cons (h2.real hr.1) (RepVL.real h3 hr.2)
theorem Rep.real {K : Frag} {F : Hp} {d : Dt} {v : V} (h : Rep K F d v) : d.real = true := by
  cases d with
  | own i =>
    unfold Rep at h
    exact h.elim
  | _ => rfl
theorem Rep.toV {K : Frag} {F : Hp} {σ : L2.St} {d : Dt} {v : V} (h : Rep K F d v) : RepV K F σ d v := by
  cases d with
  | own i =>
    unfold Rep at h
    exact h.elim
  | _ => exact h
theorem XOk.mono {K : Frag} {F F' : Hp} {c : Xc} {cls : Value} {dd : Option Addr} (e : Ex F F') (h : XOk K F c cls dd) : XOk K F' c cls dd := by
  obtain ⟨h1, h2⟩ := h
  refine ⟨h1, ?_⟩
  rcases h2 with h2 | ⟨a, xs, h3, h4, h5, h6⟩
  · exact .inl h2
  · exact .inr ⟨a, xs, h3, e _ _ h4, h5, h6.mono e⟩
section
variable {K : Frag} {W : WX} {σ σ1 : L2.St} {ρ ρ1 : En} {F F1 H H1 : Hp} {x : PX}
theorem e_call {S : Fsp} {ta : TA} {P : Dt → En → Prop} (h : ArD K W ta ρ x fun ds ρ1 => ∃ i, ds = S.arg i ∧ allReal ds = true ∧ S.pre i ∧ (∀ d, S.post i d → P d ρ1) ∧ ∀ c, S.exc i c → x c ρ1) :
    EvD K W (tCallS (DSp K S) (WE W) ta) ρ x P := fun σ F H Q s q w =>
  h σ F H _ s (fun ds ρ1 vs F1 H1 p s1 r => by
    obtain ⟨i, rfl, hr, hp, hk, hx⟩ := p
    exact ⟨F1, i, s1.sym.ex, r.real hr, hp, fun d pd v H' e rd => q d ρ1 v _ H' (hk d pd) (s1.trans (Step.grow s1.sym e)) rd.toV, fun c pc cls dd H' e xo => w c ρ1 cls dd _ H' (hx c pc) (s1.trans (Step.grow s1.sym e)) xo⟩) w
/-- what a lent object's change is for the caller -/
theorem Step.lend {i : Nat} {l : Bool} {d o : Dt} {p : Addr} (s : Sym K F H σ ρ) (hi : ρ[i]? = some (.ow l d)) (hp : σ[i]? = some (some (.ref p))) (b : Bt H H1 p) (ho : Own K (Fz F H H1) H1 p o) : Step K σ ρ F H σ (ρ.set i (.ow l o)) (Fz F H H1) H1 := by
  obtain ⟨p', a', b', c'⟩ := s.ow i l d hi
  have ep : p' = p := by
    rw [a'] at hp
    have z := Option.some.inj (Option.some.inj hp)
    injection z
  subst ep
  have hil : i < ρ.length := (List.getElem?_eq_some_iff.mp hi).1
  have exF : Ex F (Fz F H H1) := fz_ex s.ex
  have np : ∀ a u, F a = some u → a ≠ p' := fun a u e z => by
    subst z
    rw [b'] at e
    cases e
  obtain ⟨ob, hob⟩ : ∃ ob, H p' = some ob := by
    cases q : H p' with
    | none => exact absurd q c'.there
    | some ob => exact ⟨ob, rfl⟩
  have exH : Ex (Fz F H H1) H1 := fun a u e => by
    cases q : H a with
    | none =>
      rw [fz_new q] at e
      exact e
    | some w =>
      rw [fz_old q] at e
      exact b a u (s.ex a u e) (np a u e)
  exact {
    sym := {
      ex := exH
      len := by rw [List.length_set]; exact s.len
      sh := fun j e h => by
        by_cases hj : i = j
        · subst hj
          rw [List.getElem?_set_self hil] at h
          cases h
        · rw [List.getElem?_set_ne hj] at h
          obtain ⟨v, a, r⟩ := s.sh j e h
          exact ⟨v, a, r.mono exF⟩
      ow := fun j m e h => by
        by_cases hj : i = j
        · subst hj
          rw [List.getElem?_set_self hil] at h
          cases h
          exact ⟨p', a', by rw [fz_old hob]; exact b', ho⟩
        · rw [List.getElem?_set_ne hj] at h
          obtain ⟨q, a, r, c⟩ := s.ow j m e h
          have ne : q ≠ p' := fun z => by
            subst z
            exact hj (s.inj i j l m d e q hi h a' a)
          cases hq : H q with
          | none => exact absurd hq c.there
          | some u => exact ⟨q, a, by rw [fz_old hq]; exact r, c.mono exF (by rw [hq]; exact b q u hq ne)⟩
      inj := fun j k m n e f q h1 h2 h3 h4 => by
        have t : ∀ {j : Nat} {m : Bool} {e : Dt}, (ρ.set i (.ow l o))[j]? = some (.ow m e) → ∃ m e, ρ[j]? = some (.ow m e) := fun {j m e} h => by
          by_cases hj : i = j
          · subst hj
            exact ⟨l, d, hi⟩
          · rw [List.getElem?_set_ne hj] at h
            exact ⟨m, e, h⟩
        obtain ⟨m', e', h1'⟩ := t h1
        obtain ⟨n', f', h2'⟩ := t h2
        exact s.inj j k m' n' e' f' q h1' h2' h3 h4 }
    exF := exF
    keep := fun a u h n => b a u h fun z => by
      subst z
      exact n ⟨i, l, d, hi, hp⟩
    own := fun a h => .inl (h.of_write hi)
    new := fun a h => by
      cases q : H a with
      | none => exact .inr (.inl rfl)
      | some u =>
        rw [fz_old q] at h
        exact .inl h
    all := fun a h => by
      by_cases e : a = p'
      · rw [e]
        exact ho.there
      · cases q : H a with
        | none => exact absurd q h
        | some u => rw [b a u q e]; exact fun z => nomatch z
    stay := fun j e h => by
      by_cases hj : i = j
      · subst hj
        rw [hi] at h
        cases h
        exact ⟨o, List.getElem?_set_self hil, rfl⟩
      · exact ⟨e, by rw [List.getElem?_set_ne hj]; exact h, rfl⟩ }
/-- f(t, ..): t is a slot's own object -/
theorem e_callO {S : Osp} {ta : TA} {P : Dt → En → Prop} (h : ArD K W ta ρ x fun ds ρ1 => ∃ (j : Nat) (l : Bool) (d : Dt) (es : List Dt) (i : S.I), ds = .own j :: es ∧ ρ1[j]? = some (.ow l d) ∧ d = S.own i ∧ es = S.arg i ∧ allReal es = true ∧ S.pre i ∧
      (∀ r o, S.post i r o → P r (ρ1.set j (.ow l o))) ∧ ∀ c o, S.exc i c o → x c (ρ1.set j (.ow l o))) :
    EvD K W (tCallS (OSp K S) (WE W) ta) ρ x P := fun σ F H Q s q w =>
  h σ F H _ s (fun ds ρ1 vs F1 H1 p s1 r => by
    obtain ⟨j, l, d, es, i, rfl, hj, rfl, rfl, hr, hp, hk, hx⟩ := p
    obtain ⟨v, us, rfl, rv, rs⟩ := r
    obtain ⟨a, e1, e2, e3⟩ := s1.sym.ow j l _ hj
    have ev : v = .ref a := by
      have z : σ[j]? = some (some v) := rv
      rw [e1] at z
      exact (Option.some.inj (Option.some.inj z)).symm
    subst ev
    exact ⟨F1, i, a, us, rfl, s1.sym.ex, e2, e3, rs.real hr, hp, fun r o pd v H' b ow rd => q r _ v _ H' (hk r o pd) (s1.trans (Step.lend s1.sym hj e1 b ow)) rd.toV,
      fun c o pc cls dd H' b ow xo => w c _ cls dd _ H' (hx c o pc) (s1.trans (Step.lend s1.sym hj e1 b ow)) xo⟩) w
end
/-! ### a def from its body -/
def st0 (n : Nat) (ds : List Dt) : En := ds.map Sl.sh ++ List.replicate (n - ds.length) Sl.no
theorem sym0 {K : Frag} {F H : Hp} {N : List Str} {ds : List Dt} {vs : List V} (e : Ex F H) (r : RepL K F ds vs) : Sym K F H (L2.start N vs) (st0 N.length ds) where
  ex := e
  len := by
    unfold L2.start st0
    rw [List.length_append, List.length_append, List.length_map, List.length_map, List.length_replicate, List.length_replicate, r.length]
  sh := fun i d h => by
    have hl := r.length
    have hi : i < ds.length := by
      unfold st0 at h
      by_cases hi : i < ds.length
      · exact hi
      · rw [List.getElem?_append_right (by rw [List.length_map]; omega), List.getElem?_replicate] at h
        split at h <;> cases h
    unfold st0 at h
    rw [List.getElem?_append_left (by rw [List.length_map]; exact hi), List.getElem?_map] at h
    cases q : ds[i]? with
    | none =>
      rw [q] at h
      cases h
    | some d' =>
      rw [q] at h
      cases h
      obtain ⟨v, e1, e2⟩ := r.get q
      refine ⟨v, ?_, e2⟩
      unfold L2.start
      rw [List.getElem?_append_left (by rw [List.length_map]; omega), List.getElem?_map, e1]
      rfl
  ow := fun i l d h => by
    exfalso
    unfold st0 at h
    by_cases hi : i < ds.length
    · rw [List.getElem?_append_left (by rw [List.length_map]; exact hi), List.getElem?_map] at h
      cases q : ds[i]? with
      | none =>
        rw [q] at h
        cases h
      | some d' =>
        rw [q] at h
        cases h
    · rw [List.getElem?_append_right (by rw [List.length_map]; omega), List.getElem?_replicate] at h
      split at h <;> cases h
  inj := fun i j l m d e p h => by
    exfalso
    unfold st0 at h
    by_cases hi : i < ds.length
    · rw [List.getElem?_append_left (by rw [List.length_map]; exact hi), List.getElem?_map] at h
      cases q : ds[i]? with
      | none =>
        rw [q] at h
        cases h
      | some d' =>
        rw [q] at h
        cases h
    · rw [List.getElem?_append_right (by rw [List.length_map]; omega), List.getElem?_replicate] at h
      split at h <;> cases h
theorem noOw {n : Nat} {ds : List Dt} {σ : L2.St} {a : Addr} : ¬ OwA σ (st0 n ds) a := fun h => by
  obtain ⟨i, l, d, h, _⟩ := h
  unfold st0 at h
  by_cases hi : i < ds.length
  · rw [List.getElem?_append_left (by rw [List.length_map]; exact hi), List.getElem?_map] at h
    cases q : ds[i]? with
    | none =>
      rw [q] at h
      cases h
    | some d' =>
      rw [q] at h
      cases h
  · rw [List.getElem?_append_right (by rw [List.length_map]; omega), List.getElem?_replicate] at h
    split at h <;> cases h
theorem Step.out {K : Frag} {σ σ' : L2.St} {ρ ρ' : En} {F F' H H' : Hp} (s : Step K σ ρ F H σ' ρ' F' H') (eF : Ex F H) (hn : ∀ a, F' a ≠ none → ¬ OwA σ ρ a) : Ex F' (Fz F H H') := fun a o e => by
  cases q : H a with
  | none =>
    rw [fz_new q]
    exact s.sym.ex a o e
  | some u =>
    rw [fz_old q]
    rcases s.new a (by rw [e]; exact fun z => nomatch z) with z | z | z
    · cases r : F a with
      | none => exact absurd r z
      | some w =>
        rw [s.exF a w r] at e
        exact e
    · rw [q] at z
      cases z
    · exact absurd z (hn a (by rw [e]; exact fun z => nomatch z))
section
variable {P : Program} {w : World} {K : Frag} {mg : Str → Option Value} {base : Heap} {x qual : Str} {params : Arguments} {body : List Stmt} {scope : Scope} {dvs : List V} {kws : List (Str × V)} {f : Addr} {fd : FuncData}
/-- the context of a body that may raise -/
abbrev cxB (P : Program) (w : World) (K : Frag) (mg : Str → Option Value) (base : Heap) (N : List Str) (qual : Str) (scope : Scope) (f : Addr) (cdv : Value) (A : Around) (outer : List PySem.Env) (s : Shared) (H : Hp) (E : XK) : Cx := cxOf (L2.CX P w) P w K mg base N qual scope f cdv A outer s H E
/-- what is raised at a body's level -/
abbrev wE (E : XK) : WX := fun cls d _ H => E cls d H
theorem fn_body {S : Fsp} {N ps : List Str} {k : Nat} (F : FunD K x qual params body scope dvs kws f fd) (sc : FnScope N ps scope) (hl : ∀ i, (S.arg i).length = ps.length)
    (hb : ∀ (cdv : Value) (A : Around) (outer : List PySem.Env) (s : Shared) (H : Hp) (E : XK), Room k (A.deeper (envOfC qual scope s.heap.objs.size f cdv)) → Takes (cxB P w K mg base N qual scope f cdv A outer s H E) (wE E) → PassesOwn (model P w) (cxB P w K mg base N qual scope f cdv A outer s H E).A (cxB P w K mg base N qual scope f cdv A outer s H E).env (cxB P w K mg base N qual scope f cdv A outer s H E).xe →
      ∃ t, PSs (cxB P w K mg base N qual scope f cdv A outer s H E) body t ∧ ∀ i, S.pre i → ∀ Z : Pd, (∀ ρ, S.post i .non → Z.nx ρ) → (∀ d ρ, S.post i d → Z.rt d ρ) → (∀ c ρ, S.exc i c → Z.ex c ρ) → StD K (wE E) t (st0 N.length (S.arg i)) Z) : FnOk P w K mg base (L2.CX P w) (k + 1) f fd ps (DSp K S) := by
  refine F.ok sc (fun vs H Q E h => ?_) (fun cdv A outer s H vs Q E hr h => ?_)
  · obtain ⟨G, i, _, r, _⟩ := h
    rw [r.length, hl]
  · obtain ⟨G, i, ex, r, hp, hq, hx⟩ := h
    obtain ⟨t, ht, hd⟩ := hb cdv A outer s H E hr (takes_of rfl rfl rfl rfl) (passes_of rfl)
    refine ⟨t, ht, hd i hp { nx := fun _ => S.post i .non, rt := fun d _ => S.post i d, ex := fun c _ => S.exc i c } (fun _ h => h) (fun _ _ h => h) (fun _ _ h => h) _ G H _ (sym0 ex r) ⟨fun ρ' σ' F' H' p st => ?_, fun d ρ' v σ' F' H' p st rd => ?_, fun _ _ _ _ _ _ p => p.elim, fun _ _ _ _ p => p.elim, fun _ _ _ _ p => p.elim, fun c ρ' cls dd σ' F' H' p st xo => ?_⟩⟩
    · exact hq .non p .non H' (fun a o e => st.keep a o e noOw) (by unfold Rep; rfl)
    · exact hq d p v H' (fun a o e => st.keep a o e noOw) (rd.mono (st.out ex fun _ _ => noOw))
    · exact hx c p cls dd H' (fun a o e => st.keep a o e noOw) (xo.mono (st.out ex fun _ _ => noOw))
/-- .. that hands back a new object -/
def NSp (K : Frag) (S : Fsp) : Sp := fun vs H Q E => ∃ (F : Hp) (i : S.I), Ex F H ∧ RepL K F (S.arg i) vs ∧ S.pre i ∧ (∀ d, S.post i d → ∀ p o H', Ex H H' → H' p = none → Own K (Fz F H H') (upd H' p o) p d → Q (.ref p) (upd H' p o)) ∧
  (∀ c, S.exc i c → ∀ cls dd H', Ex H H' → XOk K (Fz F H H') c cls dd → E cls dd H')
def del1 (H : Hp) (p : Addr) : Hp := fun a => if a = p then none else H a
theorem upd_del1 {H : Hp} {p : Addr} {o : HO} (h : H p = some o) : upd (del1 H p) p o = H := by
  funext a
  by_cases e : a = p
  · subst e
    rw [upd_same, h]
  · rw [upd_ne e]
    exact if_neg e
theorem fn_bodyN {S : Fsp} {N ps : List Str} {k : Nat} (F : FunD K x qual params body scope dvs kws f fd) (sc : FnScope N ps scope) (hl : ∀ i, (S.arg i).length = ps.length)
    (hb : ∀ (cdv : Value) (A : Around) (outer : List PySem.Env) (s : Shared) (H : Hp) (E : XK), Room k (A.deeper (envOfC qual scope s.heap.objs.size f cdv)) → Takes (cxB P w K mg base N qual scope f cdv A outer s H E) (wE E) → PassesOwn (model P w) (cxB P w K mg base N qual scope f cdv A outer s H E).A (cxB P w K mg base N qual scope f cdv A outer s H E).env (cxB P w K mg base N qual scope f cdv A outer s H E).xe →
      ∃ t, PSs (cxB P w K mg base N qual scope f cdv A outer s H E) body t ∧ ∀ i, S.pre i → ∀ Z : Pd, (∀ d ρ, S.post i d → Z.rn d ρ) → (∀ c ρ, S.exc i c → Z.ex c ρ) → StD K (wE E) t (st0 N.length (S.arg i)) Z) : FnOk P w K mg base (L2.CX P w) (k + 1) f fd ps (NSp K S) := by
  refine F.ok sc (fun vs H Q E h => ?_) (fun cdv A outer s H vs Q E hr h => ?_)
  · obtain ⟨G, i, _, r, _⟩ := h
    rw [r.length, hl]
  · obtain ⟨G, i, ex, r, hp, hq, hx⟩ := h
    obtain ⟨t, ht, hd⟩ := hb cdv A outer s H E hr (takes_of rfl rfl rfl rfl) (passes_of rfl)
    refine ⟨t, ht, hd i hp { nx := fun _ => False, rt := fun _ _ => False, rn := fun d _ => S.post i d, ex := fun c _ => S.exc i c } (fun _ _ h => h) (fun _ _ h => h) _ G H _ (sym0 ex r) ⟨fun ρ' σ' F' H' p st => p.elim, fun d ρ' v σ' F' H' p st rd => p.elim, fun d ρ' p σ' F' H' pd st hf ho ow => ?_, fun _ _ _ _ p => p.elim, fun _ _ _ _ p => p.elim, fun c ρ' cls dd σ' F' H' p st xo => ?_⟩⟩
    · have hn : H p = none := by
        rcases ow with ow | ow
        · rcases st.own p ow with z | z
          · exact absurd z noOw
          · exact z
        · exact ow
      obtain ⟨o, hpo⟩ : ∃ o, H' p = some o := by
        cases q : H' p with
        | none => exact absurd q ho.there
        | some o => exact ⟨o, rfl⟩
      have e1 : Ex H (del1 H' p) := fun a u e => by
        have ne : a ≠ p := ne_of_none e hn
        show (if a = p then none else H' a) = some u
        rw [if_neg ne]
        exact st.keep a u e noOw
      have e2 : Ex F' (Fz G H (del1 H' p)) := fun a u e => by
        have ne : a ≠ p := fun z => by
          subst z
          rw [hf] at e
          cases e
        have e3 := st.out ex (fun _ _ => noOw) a u e
        cases q : H a with
        | none =>
          rw [fz_new q] at e3 ⊢
          show (if a = p then none else H' a) = some u
          rw [if_neg ne]
          exact e3
        | some w =>
          rw [fz_old q] at e3 ⊢
          exact e3
      have e4 := upd_del1 hpo
      have key := hq d pd p o (del1 H' p) e1 (if_pos rfl) (by rw [e4]; exact ho.mono e2 rfl)
      rw [e4] at key
      exact key
    · exact hx c p cls dd H' (fun a o e => st.keep a o e noOw) (xo.mono (st.out ex fun _ _ => noOw))
/-- .. whose first argument is an object that it changes -/
def st1 (n : Nat) (o : Dt) (ds : List Dt) : En := .ow true o :: st0 (n - 1) ds
theorem sym1 {K : Frag} {F H : Hp} {n : Str} {N : List Str} {p : Addr} {o : Dt} {ds : List Dt} {vs : List V} (e : Ex F H) (hp : F p = none) (ho : Own K F H p o) (r : RepL K F ds vs) : Sym K F H (L2.start (n :: N) (.ref p :: vs)) (st1 (n :: N).length o ds) := by
  have s0 : Sym K F H (L2.start N vs) (st0 N.length ds) := sym0 e r
  have e1 : L2.start (n :: N) (.ref p :: vs) = some (.ref p) :: L2.start N vs := by
    unfold L2.start
    simp
  have e2 : st1 (n :: N).length o ds = .ow true o :: st0 N.length ds := rfl
  have no : ∀ {i : Nat} {l : Bool} {d : Dt}, (st0 N.length ds)[i]? ≠ some (.ow l d) := fun {i l d} z => by
    obtain ⟨q, h1, _⟩ := s0.ow i l d z
    exact noOw ⟨i, l, d, z, h1⟩
  rw [e1, e2]
  exact {
    ex := e
    len := by rw [List.length_cons, List.length_cons, s0.len]
    sh := fun i d h => by
      cases i with
      | zero => cases h
      | succ i => exact s0.sh i d (by simpa using h)
    ow := fun i l d h => by
      cases i with
      | zero =>
        cases h
        exact ⟨p, rfl, hp, ho⟩
      | succ i => exact absurd (by simpa using h) (no (i := i) (l := l) (d := d))
    inj := fun i j l m d e q h1 h2 h3 h4 => by
      cases i with
      | zero =>
        cases j with
        | zero => rfl
        | succ j => exact absurd (by simpa using h2) (no (i := j) (l := m) (d := e))
      | succ i => exact absurd (by simpa using h1) (no (i := i) (l := l) (d := d)) }
theorem ow1 {n : Nat} {o : Dt} {ds : List Dt} {σ : L2.St} {p a : Addr} (h : OwA (some (.ref p) :: σ) (st1 n o ds) a) : a = p := by
  obtain ⟨i, l, d, h1, h2⟩ := h
  cases i with
  | zero =>
    have z := Option.some.inj (Option.some.inj h2)
    injection z with z
    exact z.symm
  | succ i => exact absurd ⟨i, l, d, by simpa [st1] using h1, by simpa using h2⟩ (noOw (n := n - 1) (ds := ds) (σ := σ) (a := a))
theorem fn_bodyO {S : Osp} {n : Str} {N ps : List Str} {k : Nat} (F : FunD K x qual params body scope dvs kws f fd) (sc : FnScope (n :: N) ps scope) (hl : ∀ i, (S.arg i).length + 1 = ps.length)
    (hb : ∀ (cdv : Value) (A : Around) (outer : List PySem.Env) (s : Shared) (H : Hp) (E : XK), Room k (A.deeper (envOfC qual scope s.heap.objs.size f cdv)) → Takes (cxB P w K mg base (n :: N) qual scope f cdv A outer s H E) (wE E) → PassesOwn (model P w) (cxB P w K mg base (n :: N) qual scope f cdv A outer s H E).A (cxB P w K mg base (n :: N) qual scope f cdv A outer s H E).env (cxB P w K mg base (n :: N) qual scope f cdv A outer s H E).xe →
      ∃ t, PSs (cxB P w K mg base (n :: N) qual scope f cdv A outer s H E) body t ∧ ∀ i, S.pre i → ∀ Z : Pd, (∀ o ρ, ρ[0]? = some (.ow true o) → S.post i .non o → Z.nx ρ) → (∀ d o ρ, ρ[0]? = some (.ow true o) → S.post i d o → Z.rt d ρ) → (∀ c o ρ, ρ[0]? = some (.ow true o) → S.exc i c o → Z.ex c ρ) → StD K (wE E) t (st1 (n :: N).length (S.own i) (S.arg i)) Z) : FnOk P w K mg base (L2.CX P w) (k + 1) f fd ps (OSp K S) := by
  refine F.ok sc (fun vs H Q E h => ?_) (fun cdv A outer s H vs Q E hr h => ?_)
  · obtain ⟨G, i, p, us, rfl, _, _, _, r, _⟩ := h
    rw [List.length_cons, r.length, hl]
  · obtain ⟨G, i, p, us, rfl, ex, hp, ho, r, hpre, hq, hx⟩ := h
    obtain ⟨t, ht, hd⟩ := hb cdv A outer s H E hr (takes_of rfl rfl rfl rfl) (passes_of rfl)
    have e1 : L2.start (n :: N) (.ref p :: us) = some (.ref p) :: L2.start N us := by
      unfold L2.start
      simp
    have key : ∀ {σ' : L2.St} {ρ' : En} {F' H' : Hp} {o : Dt}, Step K (L2.start (n :: N) (.ref p :: us)) (st1 (n :: N).length (S.own i) (S.arg i)) G H σ' ρ' F' H' → ρ'[0]? = some (.ow true o) → Bt H H' p ∧ Own K (Fz G H H') H' p o ∧ Ex F' (Fz G H H') := fun {σ' ρ' F' H' o} st h0 => by
      rw [e1] at st
      obtain ⟨q, h1, h2, h3⟩ := st.sym.ow 0 true o h0
      obtain ⟨d', g1, g2⟩ := st.stay 0 (S.own i) rfl
      have eq : q = p := by
        rw [h1] at g2
        have z := Option.some.inj (Option.some.inj g2)
        injection z
      subst eq
      have ex' : Ex F' (Fz G H H') := st.out ex fun a ha z => by
        rw [ow1 z] at ha
        exact ha h2
      exact ⟨fun a u e ne => st.keep a u e fun z => ne (ow1 z), h3.mono ex' rfl, ex'⟩
    refine ⟨t, ht, hd i hpre { nx := fun ρ => ∃ o, ρ[0]? = some (.ow true o) ∧ S.post i .non o, rt := fun d ρ => ∃ o, ρ[0]? = some (.ow true o) ∧ S.post i d o, ex := fun c ρ => ∃ o, ρ[0]? = some (.ow true o) ∧ S.exc i c o } (fun o _ h0 h => ⟨o, h0, h⟩) (fun _ o _ h0 h => ⟨o, h0, h⟩) (fun _ o _ h0 h => ⟨o, h0, h⟩) _ G H _ (sym1 ex hp ho r) ⟨fun ρ' σ' F' H' z st => ?_, fun d ρ' v σ' F' H' z st rd => ?_, fun _ _ _ _ _ _ p => p.elim, fun _ _ _ _ p => p.elim, fun _ _ _ _ p => p.elim, fun c ρ' cls dd σ' F' H' z st xo => ?_⟩⟩
    · obtain ⟨o, h0, po⟩ := z
      obtain ⟨k1, k2, k3⟩ := key st h0
      exact hq .non o po .non H' k1 k2 (by unfold Rep; rfl)
    · obtain ⟨o, h0, po⟩ := z
      obtain ⟨k1, k2, k3⟩ := key st h0
      exact hq d o po v H' k1 k2 (rd.mono k3)
    · obtain ⟨o, h0, po⟩ := z
      obtain ⟨k1, k2, k3⟩ := key st h0
      exact hx c o po cls dd H' k1 k2 (xo.mono k3)
end
end DL
set_option Elab.async false
set_option linter.all false
set_option maxRecDepth 100000
set_option autoImplicit false
set_option maxHeartbeats 4000000
namespace DL
open PySem L2 Evl PyProof.Rows
/-! ### operators for all kinds of values -/
def rAddS : R2 := fun x y H Q => ∃ i j, x = .str i ∧ y = .str j ∧ i.length + j.length ≤ sizeLine ∧ Q (.str (i ++ j)) H
def rAddU (K : Frag) : R2 := fun x y H Q => (rI0 fun i j => .int (i + j)) x y H Q ∨ (rAddS x y H Q ∨ (rCat x y H Q ∨ rCatA K x y H Q))
def strMul (x : Str) (n : Int) : Str := ⟨(List.replicate n.toNat x.cps).foldl (· ++ ·) #[]⟩
def rMulS : R2 := fun x y H Q => ∃ z n, x = .str z ∧ y = .int n ∧ 0 ≤ n ∧ n ≤ 100000 ∧ z.length ≤ 100 ∧ Q (.str (strMul z n)) H
def rMulU : R2 := fun x y H Q => (rI CMul fun i j => .int (i * j)) x y H Q ∨ ((rI CMulW fun i j => .int (i * j)) x y H Q ∨ (rMulS x y H Q ∨ rRep x y H Q))
def rEqP (K : Frag) : R2 := fun x y H Q => ∃ d e, Dp K H x d ∧ Dp K H y e ∧ d.plain = true ∧ e.plain = true ∧ d.depth ≤ 64 ∧ Q (.bl (PyData.eqv d e)) H
def rNeP (K : Frag) : R2 := fun x y H Q => ∃ d e, Dp K H x d ∧ Dp K H y e ∧ d.plain = true ∧ e.plain = true ∧ d.depth ≤ 64 ∧ Q (.bl (!PyData.eqv d e)) H
def rEqU (K : Frag) : R2 := fun x y H Q => rEq x y H Q ∨ rEqP K x y H Q
def rNeU (K : Frag) : R2 := fun x y H Q => rNe x y H Q ∨ rNeP K x y H Q
def rIsU : R2 := fun x y H Q => (y = .non ∧ Q (.bl (decide (x = .non))) H) ∨ rIsB x y H Q
def rIsNotU : R2 := fun x y H Q => (y = .non ∧ Q (.bl (!decide (x = .non))) H) ∨ rNotB x y H Q
section
variable {X : Cx}
theorem mulS_len (x : Str) : ∀ n : Nat, ((List.replicate n x.cps).foldl (· ++ ·) #[] : Array Nat).size = x.length * n := by
  have key : ∀ (n : Nat) (a : Array Nat), ((List.replicate n x.cps).foldl (· ++ ·) a).size = a.size + x.length * n := by
    intro n
    induction n with
    | zero => intro a; simp
    | succ n ih =>
      intro a
      rw [List.replicate_succ, List.foldl_cons, ih, Array.size_append, Nat.mul_succ]
      show a.size + x.length + x.length * n = _
      omega
  intro n
  rw [key n #[]]
  simp
theorem op_mulS : OpR X (binaryOp .Mult) rMulS := by
  intro pins s σ H x y v u Q I rx ry h
  obtain ⟨z, n, rfl, rfl, h0, h1, h2, q⟩ := h
  obtain ⟨t, rfl⟩ := rx
  obtain ⟨t', rfl⟩ := ry
  have hz : sizeLine = 16777216 := sizeLine_eq
  have hlen : z.length * n.toNat ≤ 100 * 100000 := Nat.mul_le_mul h2 (by omega)
  have hl : Builtin.Str.tooLong (z.length * n.toNat) = false := by
    unfold Builtin.Str.tooLong
    simp only [decide_eq_false_iff_not]
    omega
  refine PySem.P.mul_str (by rw [decide_eq_false (by omega), decide_eq_false (by omega)]; rfl) (fun g1 g2 => ?_) (fun _ _ => hl) ?_
  · have g3 : (1 : Int) ≤ n := by omega
    have g4 : (100000 : Int) ≤ (2 ^ 63 - 1) / n := by
      refine Int.le_ediv_of_mul_le (by omega) ?_
      have : (100000 : Int) * n ≤ 100000 * 100000 := Int.mul_le_mul_of_nonneg_left h1 (by omega)
      omega
    omega
  · by_cases c : n < 1
    · rw [if_pos c]
      have e : n = 0 := by omega
      subst e
      refine ⟨Nat.zero_le _, ?_⟩
      exact ⟨.str (strMul z 0), H, I.tok _, ⟨_, rfl⟩, q⟩
    · rw [if_neg c]
      by_cases c2 : (n == 1 || z.length == 0) = true
      · rw [if_pos c2]
        have e : strMul z n = z := by
          rw [Bool.or_eq_true] at c2
          rcases c2 with c2 | c2
          · have e1 : n = 1 := by simpa using c2
            subst e1
            unfold strMul
            show (⟨#[] ++ z.cps⟩ : Str) = z
            simp
          · have e1 : z.cps = #[] := Array.eq_empty_of_size_eq_zero (by simpa [Str.length] using c2)
            have e2 : (strMul z n).cps = #[] := Array.eq_empty_of_size_eq_zero (by
              unfold strMul
              rw [mulS_len]
              have : z.length = 0 := by simpa using c2
              rw [this]
              omega)
            obtain ⟨a⟩ := z
            have e3 : a = #[] := e1
            subst e3
            show (⟨(strMul ⟨#[]⟩ n).cps⟩ : Str) = ⟨#[]⟩
            rw [e2]
        show EP X pins σ Q (.str z t) _
        exact ⟨.str z, H, I, ⟨_, rfl⟩, by rw [← e]; exact q⟩
      · rw [if_neg c2]
        refine ⟨?_, ?_⟩
        · show (⟨(List.replicate n.toNat z.cps).foldl (· ++ ·) #[]⟩ : Str).length ≤ sizeLine
          show ((List.replicate n.toNat z.cps).foldl (· ++ ·) #[] : Array Nat).size ≤ sizeLine
          rw [mulS_len]
          omega
        · exact ⟨.str (strMul z n), H, I.tok _, ⟨_, rfl⟩, q⟩
theorem op_addU : OpR X (binaryOp .Add) (rAddU X.K) := op_add.or (op_add_str.or (op_cat.or op_catA))
theorem op_mulU : OpR X (binaryOp .Mult) rMulU := op_mul.or (op_mulW.or (op_mulS.or op_rep))
theorem op_eqP (hu : X.A.units + 64 < cLine) : OpR X (compareOp .Eq) (rEqP X.K) := by
  intro pins s σ H x y v u Q I rx ry h
  obtain ⟨d, e, hd, he, sd, se, hz, q⟩ := h
  obtain ⟨as, r1⟩ := Dp.reads I d x v hd rx
  obtain ⟨bs, r2⟩ := Dp.reads I e y u he ry
  exact SeqAt.eq_plain r1 r2 sd se (by have := Nat.min_le_left d.depth e.depth; omega) ⟨.bl _, H, I, rfl, q⟩
theorem op_neP (hu : X.A.units + 64 < cLine) : OpR X (compareOp .NotEq) (rNeP X.K) := by
  intro pins s σ H x y v u Q I rx ry h
  obtain ⟨d, e, hd, he, sd, se, hz, q⟩ := h
  obtain ⟨as, r1⟩ := Dp.reads I d x v hd rx
  obtain ⟨bs, r2⟩ := Dp.reads I e y u he ry
  exact SeqAt.ne_plain r1 r2 sd se (by have := Nat.min_le_left d.depth e.depth; omega) ⟨.bl _, H, I, rfl, q⟩
theorem op_eqU (hu : X.A.units + 64 < cLine) : OpR X (compareOp .Eq) (rEqU X.K) := op_eq.or (op_eqP hu)
theorem op_neU (hu : X.A.units + 64 < cLine) : OpR X (compareOp .NotEq) (rNeU X.K) := op_ne.or (op_neP hu)
theorem op_isU : OpR X (compareOp .Is) rIsU := op_isN.or op_isBl
theorem op_isNotU : OpR X (compareOp .IsNot) rIsNotU := op_notN.or op_notBl
end
section
variable {K : Frag} {W : WX} {σ σ1 : L2.St} {ρ ρ1 : En} {F F1 H H1 : Hp} {x : PX} {P : Dt → En → Prop}
theorem o_add {i j : Int} (p : P (.int (i + j)) ρ) : OpD K (rAddU K) (.int i) (.int j) ρ P := fun σ F H Q u v s e f q => by
  cases e
  cases f
  exact .inl ⟨i, j, rfl, rfl, q _ _ _ F H p (Step.refl s) rfl⟩
theorem o_addS {i j : Str} (h : i.length + j.length ≤ 1000000) (p : P (.str (i ++ j)) ρ) : OpD K (rAddU K) (.str i) (.str j) ρ P := fun σ F H Q u v s e f q => by
  cases e
  cases f
  exact .inr (.inl ⟨i, j, rfl, rfl, Nat.le_trans h (by decide), q _ _ _ F H p (Step.refl s) rfl⟩)
theorem o_I0 {i j : Int} {g : Int → Int → Int} (p : P (.int (g i j)) ρ) : OpD K (rI0 fun i j => .int (g i j)) (.int i) (.int j) ρ P := fun σ F H Q u v s e f q => by
  cases e
  cases f
  exact ⟨i, j, rfl, rfl, q _ _ _ F H p (Step.refl s) rfl⟩
theorem o_B0 {i j : Int} {g : Int → Int → Bool} (p : P (.bl (g i j)) ρ) : OpD K (rI0 fun i j => .bl (g i j)) (.int i) (.int j) ρ P := fun σ F H Q u v s e f q => by
  cases e
  cases f
  exact ⟨i, j, rfl, rfl, q _ _ _ F H p (Step.refl s) rfl⟩
theorem o_I {i j : Int} {C : Int → Int → Prop} {g : Int → Int → Int} (h : C i j) (p : P (.int (g i j)) ρ) : OpD K (rI C fun i j => .int (g i j)) (.int i) (.int j) ρ P := fun σ F H Q u v s e f q => by
  cases e
  cases f
  exact ⟨i, j, rfl, rfl, h, q _ _ _ F H p (Step.refl s) rfl⟩
theorem o_mul {i j : Int} (h : (-(2 ^ 64) < i ∧ i < 2 ^ 64) ∨ (-(2 ^ 64) < j ∧ j < 2 ^ 64)) (p : P (.int (i * j)) ρ) : OpD K rMulU (.int i) (.int j) ρ P := fun σ F H Q u v s e f q => by
  cases e
  cases f
  exact .inl ⟨i, j, rfl, rfl, h, q _ _ _ F H p (Step.refl s) rfl⟩
theorem o_mulW {i j : Int} (h : CMulW i j) (p : P (.int (i * j)) ρ) : OpD K rMulU (.int i) (.int j) ρ P := fun σ F H Q u v s e f q => by
  cases e
  cases f
  exact .inr (.inl ⟨i, j, rfl, rfl, h, q _ _ _ F H p (Step.refl s) rfl⟩)
theorem o_mulS {z : Str} {n : Int} (h0 : 0 ≤ n) (h1 : n ≤ 100000) (h2 : z.length ≤ 100) (p : P (.str (strMul z n)) ρ) : OpD K rMulU (.str z) (.int n) ρ P := fun σ F H Q u v s e f q => by
  cases e
  cases f
  exact .inr (.inr (.inl ⟨z, n, rfl, rfl, h0, h1, h2, q _ _ _ F H p (Step.refl s) rfl⟩))
theorem o_mod {i j : Int} (h : 0 < j) (p : P (.int (i % j)) ρ) : OpD K (rI (fun _ j => 0 < j) fun i j => .int (i % j)) (.int i) (.int j) ρ P := o_I h p
theorem o_fdiv {i j : Int} (h : 0 < j) (h2 : j < 2 ^ 200) (p : P (.int (i / j)) ρ) : OpD K (rI CDivW fun i j => .int (i / j)) (.int i) (.int j) ρ P := o_I (wide_div (b := 200) h (by omega) (by decide) (by decide)) p
theorem o_pow {i j : Int} (h : 0 ≤ j ∧ j ≤ 1000000 ∧ i.natAbs < 2 ^ 64) (p : P (.int (i ^ j.toNat)) ρ) : OpD K (rI CPow fun i j => .int (i ^ j.toNat)) (.int i) (.int j) ρ P := o_I h p
theorem o_eqI {i j : Int} (p : P (.bl (decide (i = j))) ρ) : OpD K (rEqU K) (.int i) (.int j) ρ P := fun σ F H Q u v s e f q => by
  cases e
  cases f
  refine .inl ⟨rfl, ?_⟩
  have z : decide (V.int i = V.int j) = decide (i = j) := by rw [Bool.eq_iff_iff]; simp
  rw [z]
  exact q _ _ _ F H p (Step.refl s) rfl
theorem o_neI {i j : Int} (p : P (.bl (!decide (i = j))) ρ) : OpD K (rNeU K) (.int i) (.int j) ρ P := fun σ F H Q u v s e f q => by
  cases e
  cases f
  refine .inl ⟨rfl, ?_⟩
  have z : decide (V.int i = V.int j) = decide (i = j) := by rw [Bool.eq_iff_iff]; simp
  rw [z]
  exact q _ _ _ F H p (Step.refl s) rfl
theorem o_eqB {i j : Bool} (p : P (.bl (decide (i = j))) ρ) : OpD K (rEqU K) (.bl i) (.bl j) ρ P := fun σ F H Q u v s e f q => by
  cases e
  cases f
  refine .inl ⟨rfl, ?_⟩
  have z : decide (V.bl i = V.bl j) = decide (i = j) := by rw [Bool.eq_iff_iff]; simp
  rw [z]
  exact q _ _ _ F H p (Step.refl s) rfl
theorem o_neB {i j : Bool} (p : P (.bl (!decide (i = j))) ρ) : OpD K (rNeU K) (.bl i) (.bl j) ρ P := fun σ F H Q u v s e f q => by
  cases e
  cases f
  refine .inl ⟨rfl, ?_⟩
  have z : decide (V.bl i = V.bl j) = decide (i = j) := by rw [Bool.eq_iff_iff]; simp
  rw [z]
  exact q _ _ _ F H p (Step.refl s) rfl
theorem o_eqS {i j : Str} (p : P (.bl (decide (i = j))) ρ) : OpD K (rEqU K) (.str i) (.str j) ρ P := fun σ F H Q u v s e f q => by
  cases e
  cases f
  refine .inl ⟨rfl, ?_⟩
  have z : decide (V.str i = V.str j) = decide (i = j) := by rw [Bool.eq_iff_iff]; simp
  rw [z]
  exact q _ _ _ F H p (Step.refl s) rfl
theorem o_neS {i j : Str} (p : P (.bl (!decide (i = j))) ρ) : OpD K (rNeU K) (.str i) (.str j) ρ P := fun σ F H Q u v s e f q => by
  cases e
  cases f
  refine .inl ⟨rfl, ?_⟩
  have z : decide (V.str i = V.str j) = decide (i = j) := by rw [Bool.eq_iff_iff]; simp
  rw [z]
  exact q _ _ _ F H p (Step.refl s) rfl
theorem o_isB {i j : Bool} (p : P (.bl (decide (i = j))) ρ) : OpD K rIsU (.bl i) (.bl j) ρ P := fun σ F H Q u v s e f q => by
  cases e
  cases f
  exact .inr ⟨i, j, rfl, rfl, q _ _ _ F H p (Step.refl s) rfl⟩
theorem o_isNotB {i j : Bool} (p : P (.bl (!decide (i = j))) ρ) : OpD K rIsNotU (.bl i) (.bl j) ρ P := fun σ F H Q u v s e f q => by
  cases e
  cases f
  exact .inr ⟨i, j, rfl, rfl, q _ _ _ F H p (Step.refl s) rfl⟩
def Dt.isNon : Dt → Bool
  | .non => true
  | _ => false
theorem RepV.non_iff {d : Dt} {v : V} (h : RepV K F σ d v) (hr : d.real = true) : decide (v = .non) = d.isNon := by
  have h := h.real hr
  cases d with
  | own i => cases hr
  | non =>
    unfold Rep at h
    subst h
    rfl
  | bl _ => unfold Rep at h; subst h; rfl
  | int _ => unfold Rep at h; subst h; rfl
  | str _ => unfold Rep at h; subst h; rfl
  | ty _ => unfold Rep at h; subst h; rfl
  | ref _ => unfold Rep at h; subst h; rfl
  | lst _ => unfold Rep at h; obtain ⟨a, xs, rfl, _⟩ := h; rfl
  | tup _ => unfold Rep at h; obtain ⟨a, xs, rfl, _⟩ := h; rfl
  | dic _ _ => unfold Rep at h; obtain ⟨a, xs, rfl, _⟩ := h; rfl
  | ins _ _ _ => unfold Rep at h; obtain ⟨a, dx, xs, rfl, _⟩ := h; rfl
  | exn _ _ _ _ _ => unfold Rep at h; rw [h.1]; rfl
theorem o_isN {d : Dt} (hr : d.real = true) (p : P (.bl d.isNon) ρ) : OpD K rIsU d .non ρ P := fun σ F H Q u v s e f q => by
  cases f
  refine .inl ⟨rfl, ?_⟩
  rw [e.non_iff hr]
  exact q _ _ _ F H p (Step.refl s) rfl
theorem o_isNotN {d : Dt} (hr : d.real = true) (p : P (.bl (!d.isNon)) ρ) : OpD K rIsNotU d .non ρ P := fun σ F H Q u v s e f q => by
  cases f
  refine .inl ⟨rfl, ?_⟩
  rw [e.non_iff hr]
  exact q _ _ _ F H p (Step.refl s) rfl
/-! ### subscripts -/
def rIxU (K : Frag) : R2 := fun x y H Q => rIxL K x y H Q ∨ (rIxT K x y H Q ∨ rIxS x y H Q)
theorem ix_seqU {X : Cx} : IxR X (rIxU X.K) := by
  intro value slice pins s σ H x y v u Q I rx ry h hs
  rcases h with h | h | h
  · exact ix_list value slice pins s σ H x y v u Q I rx ry h hs
  · exact ix_tup value slice pins s σ H x y v u Q I rx ry h hs
  · exact ix_str value slice pins s σ H x y v u Q I rx ry h hs
theorem atI_rep {ds : List Dt} {xs : List V} {i : Int} {d : Dt} (r : RepL K F ds xs) (h : atI ds i = some d) : ∃ v, atI xs i = some v ∧ Rep K F d v := by
  unfold atI at h ⊢
  rw [r.length]
  cases e : ixN ds.length i with
  | none =>
    rw [e] at h
    cases h
  | some j =>
    rw [e] at h
    exact r.get h
theorem o_ixL {ds : List Dt} {i : Int} {d : Dt} (h : atI ds i = some d) (p : P d ρ) : OpD K (rIxU K) (.lst ds) (.int i) ρ P := fun σ F H Q u v s e f q => by
  cases f
  have e' : Rep K F (.lst ds) u := e
  unfold Rep at e'
  obtain ⟨a, xs, rfl, h1, h2⟩ := e'
  obtain ⟨z, z1, z2⟩ := atI_rep h2 h
  exact .inl ⟨a, xs, i, z, rfl, rfl, ex_l s.ex h1, z1, q d ρ z F H p (Step.refl s) z2.toV⟩
theorem o_ixT {ds : List Dt} {i : Int} {d : Dt} (h : atI ds i = some d) (p : P d ρ) : OpD K (rIxU K) (.tup ds) (.int i) ρ P := fun σ F H Q u v s e f q => by
  cases f
  have e' : Rep K F (.tup ds) u := e
  unfold Rep at e'
  obtain ⟨a, xs, rfl, h1, h2⟩ := e'
  obtain ⟨z, z1, z2⟩ := atI_rep h2 h
  exact .inr (.inl ⟨a, xs, i, z, rfl, rfl, ex_t s.ex h1, z1, q d ρ z F H p (Step.refl s) z2.toV⟩)
theorem o_ixO {k : Nat} {l : Bool} {ds : List Dt} {i : Int} {d : Dt} (hk : ρ[k]? = some (.ow l (.lst ds))) (h : atI ds i = some d) (p : P d ρ) : OpD K (rIxU K) (.own k) (.int i) ρ P := fun σ F H Q u v s e f q => by
  cases f
  obtain ⟨a, e1, e2, xs, e3, e4⟩ := s.ow k l _ hk
  have eu : u = .ref a := by
    have z : σ[k]? = some (some u) := e
    rw [e1] at z
    exact (Option.some.inj (Option.some.inj z)).symm
  subst eu
  obtain ⟨z, z1, z2⟩ := atI_rep e4 h
  exact .inl ⟨a, xs, i, z, rfl, rfl, sq_of e3, z1, q d ρ z F H p (Step.refl s) z2.toV⟩
theorem o_ixS {z : Str} {i : Int} {c : Nat} (hz : z.length ≤ 1000000) (h : atI z.cps.toList i = some c) (p : P (.str ⟨#[c]⟩) ρ) : OpD K (rIxU K) (.str z) (.int i) ρ P := fun σ F H Q u v s e f q => by
  cases e
  cases f
  exact .inr (.inr ⟨z, i, c, rfl, rfl, Nat.le_trans hz (by decide), h, q _ _ _ F H p (Step.refl s) rfl⟩)
/-! ### slices -/
def rSlU (K : Frag) : V → Option Int → Option Int → Hp → VK → Prop := fun x lo hi H Q => rSlS x lo hi H Q ∨ (rSlL K x lo hi H Q ∨ rSlT K x lo hi H Q)
end
end DL
set_option Elab.async false
set_option linter.all false
set_option maxRecDepth 100000
set_option autoImplicit false
set_option maxHeartbeats 4000000
namespace DL
open PySem L2 Evl PyProof.Rows
section
variable {X : Cx}
theorem sl_u : SlR X (rSlU X.K) := sl_str.or (sl_list.or sl_tup)
end
section
variable {K : Frag} {W : WX} {σ σ1 : L2.St} {ρ ρ1 : En} {F F1 H H1 : Hp} {x : PX} {P : Dt → En → Prop}
/-! ### slices -/
def PtD (K : Frag) (W : WX) (tp : TO) (ρ : En) (x : PX) (P : Option Int → En → Prop) : Prop :=
  ∀ (σ : L2.St) (F H : Hp) (Q : Option Int → Hp → Prop), Sym K F H σ ρ → (∀ b ρ' F' H', P b ρ' → Step K σ ρ F H σ ρ' F' H' → Q b H') →
    (∀ c ρ' cls dd F' H', x c ρ' → Step K σ ρ F H σ ρ' F' H' → XOk K F' c cls dd → W cls dd σ H') → tp σ H Q
theorem p_none {P : Option Int → En → Prop} (p : P none ρ) : PtD K W tNoPart ρ x P := fun σ F H Q s q _ => q none ρ F H p (Step.refl s)
theorem p_some {te : TE} {P : Option Int → En → Prop} (h : EvD K W te ρ x fun d ρ1 => ∃ i, d = .int i ∧ P (some i) ρ1) : PtD K W (tPart te) ρ x P := fun σ F H Q s q w =>
  h σ F H _ s (fun d ρ1 v F1 H1 p1 s1 r1 => by
    obtain ⟨i, rfl, p⟩ := p1
    have e : v = .int i := r1
    exact ⟨i, e, q (some i) ρ1 F1 H1 p s1⟩) w
def SlD (K : Frag) (r : V → Option Int → Option Int → Hp → VK → Prop) (d : Dt) (lo hi : Option Int) (ρ : En) (P : Dt → En → Prop) : Prop :=
  ∀ (σ : L2.St) (F H : Hp) (Q : VK) (u : V), Sym K F H σ ρ → RepV K F σ d u → (∀ d' ρ' v' F' H', P d' ρ' → Step K σ ρ F H σ ρ' F' H' → RepV K F' σ d' v' → Q v' H') → r u lo hi H Q
theorem e_sl {r : V → Option Int → Option Int → Hp → VK → Prop} {te : TE} {tl th : TO} (h : EvD K W te ρ x fun d ρ1 => PtD K W tl ρ1 x fun lo ρ2 => PtD K W th ρ2 x fun hi ρ3 => SlD K r d lo hi ρ3 P) : EvD K W (L2.tSl r te tl th) ρ x P := fun σ F H Q s q w =>
  h σ F H _ s (fun d ρ1 v F1 H1 p1 s1 r1 => p1 σ F1 H1 _ s1.sym (fun lo ρ2 F2 H2 p2 s2 => p2 σ F2 H2 _ s2.sym (fun hi ρ3 F3 H3 p3 s3 => p3 σ F3 H3 Q v s3.sym ((r1.mono s2.exF).mono s3.exF) fun d' ρ4 v' F4 H4 p4 s4 r4 => q d' ρ4 v' F4 H4 p4 (((s1.trans s2).trans s3).trans s4) r4)
      fun c ρ' cls dd F' H' px st xo => w c ρ' cls dd F' H' px ((s1.trans s2).trans st) xo)
    fun c ρ' cls dd F' H' px st xo => w c ρ' cls dd F' H' px (s1.trans st) xo) w
theorem l_str {z : Str} {lo hi : Option Int} (hz : z.length ≤ 1000000) (p : P (.str (cutS z lo hi)) ρ) : SlD K (rSlU K) (.str z) lo hi ρ P := fun σ F H Q u s e q => by
  cases e
  exact .inl ⟨z, rfl, Nat.le_trans hz (by decide), q _ _ _ F H p (Step.refl s) rfl⟩
/-! ### built-in functions -/
theorem c_abs {i : Int} (p : P (.int (if i < 0 then -i else i)) ρ) : CaD K (fun xs H Q => ∃ i, xs = [.int i] ∧ Q (.int (if i < 0 then -i else i)) H) [.int i] ρ P := fun σ F H Q us s r q => by
  obtain ⟨v, _, rfl, rv, rfl⟩ := r
  have e : v = .int i := rv
  subst e
  exact ⟨i, rfl, q _ _ _ F H p (Step.refl s) rfl⟩
def rIntU : List V → Hp → VK → Prop := fun xs H Q => (∃ i, xs = [.int i] ∧ Q (.int i) H) ∨ ∃ k, xs = [.bl k] ∧ Q (.int (if k then 1 else 0)) H
theorem call_intU {X : Cx} : CallR X (.type "int") rIntU := call_int1
theorem c_int {i : Int} (p : P (.int i) ρ) : CaD K rIntU [.int i] ρ P := fun σ F H Q us s r q => by
  obtain ⟨v, _, rfl, rv, rfl⟩ := r
  have e : v = .int i := rv
  subst e
  exact .inl ⟨i, rfl, q _ _ _ F H p (Step.refl s) rfl⟩
def rLenU (K : Frag) : List V → Hp → VK → Prop := fun xs H Q => (∃ p ys, xs = [.ref p] ∧ (SqL K H p ys ∨ SqT K H p ys) ∧ Q (.int ys.length) H) ∨ ((∃ z, xs = [.str z] ∧ z.length ≤ sizeLine ∧ Q (.int z.length) H) ∨ ∃ a kvs, xs = [V.ref a] ∧ H a = some (.dK kvs) ∧ Q (.int kvs.length) H)
theorem call_lenU {X : Cx} : CallR X (.builtin "len") (rLenU X.K) := call_len_seq.or (call_len_str.or call_lenD)
theorem c_lenS {z : Str} (hz : z.length ≤ 1000000) (p : P (.int z.length) ρ) : CaD K (rLenU K) [.str z] ρ P := fun σ F H Q us s r q => by
  obtain ⟨v, _, rfl, rv, rfl⟩ := r
  have e : v = .str z := rv
  subst e
  exact .inr (.inl ⟨z, rfl, Nat.le_trans hz (by decide), q _ _ _ F H p (Step.refl s) rfl⟩)
theorem c_lenL {ds : List Dt} (p : P (.int ds.length) ρ) : CaD K (rLenU K) [.lst ds] ρ P := fun σ F H Q us s r q => by
  obtain ⟨v, _, rfl, rv, rfl⟩ := r
  have e : Rep K F (.lst ds) v := rv
  unfold Rep at e
  obtain ⟨a, xs, rfl, h1, h2⟩ := e
  refine .inl ⟨a, xs, rfl, .inl (ex_l s.ex h1), ?_⟩
  rw [h2.length]
  exact q _ _ _ F H p (Step.refl s) rfl
theorem c_lenT {ds : List Dt} (p : P (.int ds.length) ρ) : CaD K (rLenU K) [.tup ds] ρ P := fun σ F H Q us s r q => by
  obtain ⟨v, _, rfl, rv, rfl⟩ := r
  have e : Rep K F (.tup ds) v := rv
  unfold Rep at e
  obtain ⟨a, xs, rfl, h1, h2⟩ := e
  refine .inl ⟨a, xs, rfl, .inr (ex_t s.ex h1), ?_⟩
  rw [h2.length]
  exact q _ _ _ F H p (Step.refl s) rfl
theorem c_lenO {k : Nat} {l : Bool} {ds : List Dt} (hk : ρ[k]? = some (.ow l (.lst ds))) (p : P (.int ds.length) ρ) : CaD K (rLenU K) [.own k] ρ P := fun σ F H Q us s r q => by
  obtain ⟨v, _, rfl, rv, rfl⟩ := r
  obtain ⟨a, e1, e2, xs, e3, e4⟩ := s.ow k l _ hk
  have eu : v = .ref a := by
    have z : σ[k]? = some (some v) := rv
    rw [e1] at z
    exact (Option.some.inj (Option.some.inj z)).symm
  subst eu
  refine .inl ⟨a, xs, rfl, .inl (sq_of e3), ?_⟩
  rw [e4.length]
  exact q _ _ _ F H p (Step.refl s) rfl
/-- the built-in type of data -/
def Dt.tyN : Dt → Option String
  | .non => some "NoneType"
  | .bl _ => some "bool"
  | .int _ => some "int"
  | .str _ => some "str"
  | .lst _ => some "list"
  | .tup _ => some "tuple"
  | .dic _ _ => some "dict"
  | _ => none
theorem tyX_of {d : Dt} {v : V} {T : String} (h : Rep K F d v) (e : Ex F H) (ht : d.tyN = some T) : TyX K H v (.type T) := by
  cases d with
  | non => unfold Rep at h; subst h; cases ht; exact .base .non
  | bl b => unfold Rep at h; subst h; cases ht; exact .base (.bl b)
  | int b => unfold Rep at h; subst h; cases ht; exact .base (.int b)
  | str b => unfold Rep at h; subst h; cases ht; exact .base (.str b)
  | lst ds =>
    unfold Rep at h
    obtain ⟨a, xs, rfl, h1, _⟩ := h
    cases ht
    rcases h1 with (h1 | ⟨o, h1⟩) | h1
    · exact .base (.lst (e _ _ h1))
    · exact .base (.frz (e _ _ h1))
    · obtain ⟨o, its, n, h2, h3, _⟩ := h1
      exact .kList h2 h3
  | tup ds =>
    unfold Rep at h
    obtain ⟨a, xs, rfl, h1, _⟩ := h
    cases ht
    rcases h1 with (h1 | ⟨o, h1⟩) | h1
    · exact .base (.tup (e _ _ h1))
    · exact .fTuple (e _ _ h1)
    · obtain ⟨o, its, n, h2, h3, _⟩ := h1
      exact .kTuple h2 h3
  | dic ks ds =>
    unfold Rep at h
    obtain ⟨a, xs, rfl, h1, _⟩ := h
    cases ht
    rcases h1 with h1 | ⟨o, h1⟩
    · exact .base (.dK (e _ _ h1))
    · exact .fDict (e _ _ h1)
  | _ => cases ht
theorem c_isi {d : Dt} {T n : String} {b : Bool} (ht : d.tyN = some T) (hk : kitB T n = some b) (p : P (.bl b) ρ) : CaD K (rIsi K) [d, .ty n] ρ P := fun σ F H Q us s r q => by
  obtain ⟨v, _, rfl, rv, w, _, rfl, rw', rfl⟩ := r
  have e : w = .ty n := rw'
  subst e
  have hr : d.real = true := by
    cases d with
    | own i => cases ht
    | _ => rfl
  exact ⟨v, .ty n, .type T, .type n, b, rfl, .ty n, tyX_of (rv.real hr) s.ex ht, kit_ty hk, q _ _ _ F H p (Step.refl s) rfl⟩
/-! ### methods of texts -/
def MtD (K : Frag) (r : V → List V → Hp → VK → Prop) (d : Dt) (ds : List Dt) (ρ : En) (P : Dt → En → Prop) : Prop :=
  ∀ (σ : L2.St) (F H : Hp) (Q : VK) (u : V) (us : List V), Sym K F H σ ρ → RepV K F σ d u → RepVL K F σ ds us → (∀ d' ρ' v' F' H', P d' ρ' → Step K σ ρ F H σ ρ' F' H' → RepV K F' σ d' v' → Q v' H') → r u us H Q
theorem e_bmS {r : V → List V → Hp → VK → Prop} {to : TE} {ta : TA} (h : EvD K W to ρ x fun d ρ1 => (∃ z, d = .str z) ∧ ArD K W ta ρ1 x fun ds ρ2 => MtD K r d ds ρ2 P) : EvD K W (tBM K "str" r to ta) ρ x P := fun σ F H Q s q w =>
  h σ F H _ s (fun d ρ1 v F1 H1 p1 s1 r1 => by
    obtain ⟨⟨z, rfl⟩, p1⟩ := p1
    have e : v = .str z := r1
    subst e
    exact ⟨rfl, p1 σ F1 H1 _ s1.sym (fun ds ρ2 vs F2 H2 p2 s2 r2 => p2 σ F2 H2 Q _ vs s2.sym (r1.mono s2.exF) r2 fun d' ρ3 v' F3 H3 p3 s3 r3 => q d' ρ3 v' F3 H3 p3 ((s1.trans s2).trans s3) r3)
      fun c ρ' cls dd F' H' px st xo => w c ρ' cls dd F' H' px (s1.trans st) xo⟩) w
def rStripC : V → List V → Hp → VK → Prop := fun x xs H Q => ∃ a b, x = .str a ∧ xs = [.str b] ∧ a.length ≤ sizeLine ∧ Q (.str (Txt.stripChars a b)) H
theorem mt_stripC {X : Cx} : MtR X "str.strip" rStripC := mt_stripChars
theorem m_stripC {a b : Str} (ha : a.length ≤ 1000000) (p : P (.str (Txt.stripChars a b)) ρ) : MtD K rStripC (.str a) [.str b] ρ P := fun σ F H Q u us s e r q => by
  cases e
  obtain ⟨v, _, rfl, rv, rfl⟩ := r
  have e : v = .str b := rv
  subst e
  exact ⟨a, b, rfl, rfl, Nat.le_trans ha (by decide), q _ _ _ F H p (Step.refl s) rfl⟩
/-! ### displays -/
theorem fz_at {p : Addr} {o : HO} (h : H p = none) : Fz F H (upd H p o) p = some o := by rw [fz_new h]; exact upd_same
theorem e_tup {ta : TA} (h : ArD K W ta ρ x fun ds ρ1 => allReal ds = true ∧ ds.length ≤ 100000 ∧ P (.tup ds) ρ1) : EvD K W (tTup ta) ρ x P := fun σ F H Q s q w =>
  h σ F H _ s (fun ds ρ1 vs F1 H1 p s1 r => by
    obtain ⟨hr, hl, p⟩ := p
    have rr := r.real hr
    refine ⟨sz_of (by rw [rr.length]; exact hl), fun a ha => ?_⟩
    have g : Ex H1 (upd H1 a (.tup vs)) := Ex.new ha
    refine q (.tup ds) ρ1 (.ref a) _ _ p (s1.trans (Step.grow s1.sym g)) ?_
    show Rep K (Fz F1 H1 (upd H1 a (.tup vs))) (.tup ds) (.ref a)
    unfold Rep
    exact ⟨a, vs, rfl, st_of (fz_at ha), rr.mono (fz_ex s1.sym.ex)⟩) w
theorem e_lst {ta : TA} (h : ArD K W ta ρ x fun ds ρ1 => allReal ds = true ∧ ds.length ≤ 100000 ∧ P (.lst ds) ρ1) : EvD K W (tLst ta) ρ x P := fun σ F H Q s q w =>
  h σ F H _ s (fun ds ρ1 vs F1 H1 p s1 r => by
    obtain ⟨hr, hl, p⟩ := p
    have rr := r.real hr
    refine ⟨sz_of (by rw [rr.length]; exact hl), fun a ha => ?_⟩
    have g : Ex H1 (upd H1 a (.lst vs)) := Ex.new ha
    refine q (.lst ds) ρ1 (.ref a) _ _ p (s1.trans (Step.grow s1.sym g)) ?_
    show Rep K (Fz F1 H1 (upd H1 a (.lst vs))) (.lst ds) (.ref a)
    unfold Rep
    exact ⟨a, vs, rfl, sq_of (fz_at ha), rr.mono (fz_ex s1.sym.ex)⟩) w
/-! ### a new object in a slot -/
/-- an expression that makes a new object; it is not frozen -/
def EvN (K : Frag) (W : WX) (te : TE) (ρ : En) (x : PX) (P : Dt → En → Prop) : Prop :=
  ∀ (σ : L2.St) (F H : Hp) (Q : VK), Sym K F H σ ρ → (∀ d ρ' p o F' H', P d ρ' → Step K σ ρ F H σ ρ' F' H' → H' p = none → Own K F' (upd H' p o) p d → Q (.ref p) (upd H' p o)) →
    (∀ c ρ' cls dd F' H', x c ρ' → Step K σ ρ F H σ ρ' F' H' → XOk K F' c cls dd → W cls dd σ H') → te σ H Q
theorem ex_free {p : Addr} (e : Ex F H) (h : H p = none) : F p = none := by
  cases q : F p with
  | none => rfl
  | some o =>
    rw [e p o q] at h
    cases h
theorem OwA.of_take {i : Nat} {d : Dt} {p a : Addr} (h : OwA (σ.set i (some (.ref p))) (ρ.set i (.ow false d)) a) : OwA σ ρ a ∨ a = p := by
  obtain ⟨j, l, e, h1, h2⟩ := h
  by_cases hj : i = j
  · subst hj
    have hs : i < σ.length := by
      have := (List.getElem?_eq_some_iff.mp h2).1
      rw [List.length_set] at this
      exact this
    rw [List.getElem?_set_self hs] at h2
    have z := Option.some.inj (Option.some.inj h2)
    injection z with z
    exact .inr z.symm
  · rw [List.getElem?_set_ne hj] at h1 h2
    exact .inl ⟨j, l, e, h1, h2⟩
theorem Sym.more {p : Addr} {o : HO} (s : Sym K F H σ ρ) (hp : H p = none) : Sym K F (upd H p o) σ ρ := by
  have g : Ex H (upd H p o) := Ex.new hp
  exact ⟨s.ex.trans g, s.len, s.sh, fun i l d h => by
    obtain ⟨q, a, b, c⟩ := s.ow i l d h
    cases e : H q with
    | none => exact absurd e c.there
    | some u => exact ⟨q, a, b, c.mono (Ex.refl F) (by rw [g q u e, e])⟩, s.inj⟩
theorem Step.take {i : Nat} {d : Dt} {p : Addr} {o : HO} (s : Sym K F H σ ρ) (hl : lent ρ i = false) (hp : H p = none) (ho : Own K F (upd H p o) p d) : Step K σ ρ F H (σ.set i (some (.ref p))) (ρ.set i (.ow false d)) F (upd H p o) where
  sym := (s.more hp).take (ex_free s.ex hp) (fun j l e h1 h2 => by
    obtain ⟨q, a, b, c⟩ := s.ow j l e h1
    rw [h2] at a
    have z := Option.some.inj (Option.some.inj a)
    injection z with z
    subst z
    exact c.there hp) ho
  exF := Ex.refl F
  keep := fun a u h _ => Ex.new hp a u h
  own := fun a h => by
    rcases h.of_take with y | y
    · exact .inl y
    · rw [y]
      exact .inr hp
  new := fun a h => .inl h
  all := fun a h => by
    cases q : H a with
    | none => exact absurd q h
    | some u => rw [Ex.new hp a u q]; exact fun z => nomatch z
  stay := fun j e z => by
    have hj : i ≠ j := fun y => by
      subst y
      exact lent_no hl z
    exact ⟨e, by rw [List.getElem?_set_ne hj]; exact z, by rw [List.getElem?_set_ne hj]⟩
theorem s_own {te : TE} {i : Nat} {P : Pd} (h : EvN K W te ρ P.ex fun d ρ1 => lent ρ1 i = false ∧ P.nx (ρ1.set i (.ow false d))) : StD K W (tAsg te (gName i)) ρ P := fun σ F H D s l =>
  h σ F H _ s (fun d ρ' p o F' H' pp st hp ho => l.nx _ _ F' _ pp.2 (st.trans (Step.take st.sym pp.1 hp ho))) fun c ρ' cls dd F' H' p st xo => l.ex c ρ' cls dd σ F' H' p st xo
theorem n_lst {ta : TA} (h : ArD K W ta ρ x fun ds ρ1 => allReal ds = true ∧ ds.length ≤ 100000 ∧ P (.lst ds) ρ1) : EvN K W (tLst ta) ρ x P := fun σ F H Q s q w =>
  h σ F H _ s (fun ds ρ1 vs F1 H1 p s1 r => by
    obtain ⟨hr, hl, p⟩ := p
    have rr := r.real hr
    exact ⟨sz_of (by rw [rr.length]; exact hl), fun a ha => q (.lst ds) ρ1 a (.lst vs) F1 H1 p s1 ha ⟨vs, upd_same, rr⟩⟩) w
/-- a new object that is frozen at once -/
theorem rep_own {p : Addr} {o : HO} {d : Dt} (h : Own K F (upd H p o) p d) (hp : H p = none) (e : Ex F H) : Rep K (Fz F H (upd H p o)) d (.ref p) := by
  have f := fz_at (F := F) (o := o) hp
  have m : Ex F (Fz F H (upd H p o)) := fz_ex e
  cases d with
  | lst ds =>
    obtain ⟨xs, h1, h2⟩ := h
    rw [upd_same] at h1
    cases h1
    unfold Rep
    exact ⟨p, xs, rfl, sq_of f, h2.mono m⟩
  | dic ks ds =>
    obtain ⟨xs, h1, h2, h3⟩ := h
    rw [upd_same] at h1
    cases h1
    unfold Rep
    exact ⟨p, xs, rfl, .inl f, h2, h3.mono m⟩
  | ins C fs ds =>
    obtain ⟨dx, xs, h1, h2, h3⟩ := h
    rw [upd_same] at h1
    cases h1
    unfold Rep
    exact ⟨p, dx, xs, rfl, f, h2, h3.mono m⟩
  | _ => exact h.elim
theorem e_new {te : TE} (h : EvN K W te ρ x P) : EvD K W te ρ x P := fun σ F H Q s q w =>
  h σ F H Q s (fun d ρ' p o F' H' pp st hp ho => q d ρ' (.ref p) _ _ pp (st.trans (Step.grow st.sym (Ex.new hp))) (rep_own ho hp st.sym.ex).toV) w
/-! ### a slot's own object is frozen -/
theorem Step.freeze {i : Nat} {d : Dt} (s : Sym K F H σ ρ) (hi : ρ[i]? = some (.ow false d)) : ∃ F', Step K σ ρ F H σ (ρ.set i (.sh d)) F' H := by
  obtain ⟨p, a, b, c⟩ := s.ow i false d hi
  have hil : i < ρ.length := (List.getElem?_eq_some_iff.mp hi).1
  obtain ⟨o, ho⟩ : ∃ o, H p = some o := by
    cases q : H p with
    | none => exact absurd q c.there
    | some o => exact ⟨o, rfl⟩
  have m : Ex F (upd F p o) := Ex.new b
  have hr : Rep K (upd F p o) d (.ref p) := by
    cases d with
    | lst ds =>
      obtain ⟨xs, h1, h2⟩ := c
      rw [ho] at h1
      cases h1
      unfold Rep
      exact ⟨p, xs, rfl, sq_of upd_same, h2.mono m⟩
    | dic ks ds =>
      obtain ⟨xs, h1, h2, h3⟩ := c
      rw [ho] at h1
      cases h1
      unfold Rep
      exact ⟨p, xs, rfl, .inl upd_same, h2, h3.mono m⟩
    | ins C fs ds =>
      obtain ⟨dx, xs, h1, h2, h3⟩ := c
      rw [ho] at h1
      cases h1
      unfold Rep
      exact ⟨p, dx, xs, rfl, upd_same, h2, h3.mono m⟩
    | _ => exact c.elim
  refine ⟨upd F p o, ?_⟩
  exact {
    sym := {
      ex := fun q u e => by
        by_cases z : q = p
        · subst z
          rw [upd_same] at e
          cases e
          exact ho
        · rw [upd_ne z] at e
          exact s.ex q u e
      len := by rw [List.length_set]; exact s.len
      sh := fun j e h => by
        by_cases hj : i = j
        · subst hj
          rw [List.getElem?_set_self hil] at h
          cases h
          exact ⟨_, a, hr⟩
        · rw [List.getElem?_set_ne hj] at h
          obtain ⟨v, e1, e2⟩ := s.sh j e h
          exact ⟨v, e1, e2.mono m⟩
      ow := fun j l e h => by
        by_cases hj : i = j
        · subst hj
          rw [List.getElem?_set_self hil] at h
          cases h
        · rw [List.getElem?_set_ne hj] at h
          obtain ⟨q, e1, e2, e3⟩ := s.ow j l e h
          have ne : q ≠ p := fun z => by
            subst z
            exact hj (s.inj i j false l d e q hi h a e1)
          exact ⟨q, e1, by rw [upd_ne ne]; exact e2, e3.mono m rfl⟩
      inj := fun j k l n e f q h1 h2 h3 h4 => by
        have t : ∀ {j : Nat} {l : Bool} {e : Dt}, (ρ.set i (.sh d))[j]? = some (.ow l e) → ρ[j]? = some (.ow l e) := fun {j l e} h => by
          by_cases hj : i = j
          · subst hj
            rw [List.getElem?_set_self hil] at h
            cases h
          · rw [List.getElem?_set_ne hj] at h
            exact h
        exact s.inj j k l n e f q (t h1) (t h2) h3 h4 }
    exF := m
    keep := fun _ _ h _ => h
    own := fun q h => by
      obtain ⟨j, l, e, h1, h2⟩ := h
      have hj : i ≠ j := fun z => by
        subst z
        rw [List.getElem?_set_self hil] at h1
        cases h1
      rw [List.getElem?_set_ne hj] at h1
      exact .inl ⟨j, l, e, h1, h2⟩
    new := fun q h => by
      by_cases z : q = p
      · subst z
        exact .inr (.inr ⟨i, false, d, hi, a⟩)
      · rw [upd_ne z] at h
        exact .inl h
    all := fun _ h => h
    stay := fun j e h => by
      have hj : i ≠ j := fun z => by
        subst z
        rw [hi] at h
        cases h
      exact ⟨e, by rw [List.getElem?_set_ne hj]; exact h, rfl⟩ }
theorem s_freeze {t : TS} {P : Pd} (i : Nat) {d : Dt} (hi : ρ[i]? = some (.ow false d)) (h : StD K W t (ρ.set i (.sh d)) P) : StD K W t ρ P := fun σ F H D s l => by
  obtain ⟨F', st⟩ := Step.freeze s hi
  exact h σ F' H D st.sym (l.later st)
theorem e_freeze {te : TE} (i : Nat) {d : Dt} (hi : ρ[i]? = some (.ow false d)) (h : EvD K W te (ρ.set i (.sh d)) x P) : EvD K W te ρ x P := fun σ F H Q s q w => by
  obtain ⟨F1, st⟩ := Step.freeze s hi
  exact h σ F1 H Q st.sym (fun d ρ' v F' H' p st' => q d ρ' v F' H' p (st.trans st')) fun c ρ' cls dd F' H' p st' => w c ρ' cls dd F' H' p (st.trans st')
/-! ### stores -/
def SeD (K : Frag) (r : TSet) (o i d : Dt) (ρ : En) (P : En → Prop) : Prop :=
  ∀ (σ : L2.St) (F H : Hp) (Q : Hp → Prop) (u v z : V), Sym K F H σ ρ → RepV K F σ o u → RepV K F σ i v → Rep K F d z → (∀ ρ' F' H', P ρ' → Step K σ ρ F H σ ρ' F' H' → Q H') → r u v z H Q
theorem s_put {te to ti : TE} {r : TSet} {P : Pd} (h : EvD K W te ρ P.ex fun d ρ1 => d.real = true ∧ EvD K W to ρ1 P.ex fun o ρ2 => EvD K W ti ρ2 P.ex fun i ρ3 => SeD K r o i d ρ3 P.nx) : StD K W (tAsg te (gSub to ti r)) ρ P := fun σ F H D s l =>
  h σ F H _ s (fun d ρ1 v F1 H1 p1 s1 r1 => by
    obtain ⟨hr, p1⟩ := p1
    refine p1 σ F1 H1 _ s1.sym (fun o ρ2 u F2 H2 p2 s2 r2 => p2 σ F2 H2 _ s2.sym (fun i ρ3 y F3 H3 p3 s3 r3 => p3 σ F3 H3 _ u y v s3.sym (r2.mono s3.exF) r3 (((r1.real hr).mono s2.exF).mono s3.exF) fun ρ4 F4 H4 p4 s4 => l.nx ρ4 σ F4 H4 p4 (((s1.trans s2).trans s3).trans s4)) ?_) ?_
    · exact fun c ρ' cls dd F' H' px st xo => l.ex c ρ' cls dd σ F' H' px ((s1.trans s2).trans st) xo
    · exact fun c ρ' cls dd F' H' px st xo => l.ex c ρ' cls dd σ F' H' px (s1.trans st) xo) fun c ρ' cls dd F' H' p st xo => l.ex c ρ' cls dd σ F' H' p st xo
theorem RepL.set {ds : List Dt} {xs : List V} {d : Dt} {v : V} (j : Nat) (r : RepL K F ds xs) (h : Rep K F d v) : RepL K F (ds.set j d) (xs.set j v) := by
  induction ds generalizing xs j with
  | nil =>
    unfold RepL at r
    subst r
    exact repL_nil
  | cons c ds ih =>
    unfold RepL at r
    obtain ⟨u, us, rfl, r1, r2⟩ := r
    cases j with
    | zero => exact repL_cons h r2
    | succ j => exact repL_cons r1 (ih j r2)
theorem w_lst {k : Nat} {l : Bool} {ds : List Dt} {i : Int} {j : Nat} {d : Dt} {P : En → Prop} (hk : ρ[k]? = some (.ow l (.lst ds))) (hj : ixN ds.length i = some j) (p : P (ρ.set k (.ow l (.lst (ds.set j d))))) : SeD K rSetL (.own k) (.int i) d ρ P := fun σ F H Q u v z s e f g q => by
  cases f
  obtain ⟨a, e1, e2, xs, e3, e4⟩ := s.ow k l _ hk
  have eu : u = .ref a := by
    have z : σ[k]? = some (some u) := e
    rw [e1] at z
    exact (Option.some.inj (Option.some.inj z)).symm
  subst eu
  refine ⟨a, xs, i, j, rfl, rfl, e3, by rw [e4.length]; exact hj, ?_⟩
  exact q _ F _ p (Step.write s hk e1 ⟨xs.set j z, upd_same, e4.set j g⟩)
theorem e_callN {S : Fsp} {ta : TA} (h : ArD K W ta ρ x fun ds ρ1 => ∃ i, ds = S.arg i ∧ allReal ds = true ∧ S.pre i ∧ (∀ d, S.post i d → P d ρ1) ∧ ∀ c, S.exc i c → x c ρ1) :
    EvN K W (tCallS (NSp K S) (WE W) ta) ρ x P := fun σ F H Q s q w =>
  h σ F H _ s (fun ds ρ1 vs F1 H1 p s1 r => by
    obtain ⟨i, rfl, hr, hp, hk, hx⟩ := p
    exact ⟨F1, i, s1.sym.ex, r.real hr, hp, fun d pd a o H' e ha ho => q d ρ1 a o _ H' (hk d pd) (s1.trans (Step.grow s1.sym e)) ha ho, fun c pc cls dd H' e xo => w c ρ1 cls dd _ H' (hx c pc) (s1.trans (Step.grow s1.sym e)) xo⟩) w
theorem Step.more {p : Addr} {o : HO} (s : Sym K F H σ ρ) (hp : H p = none) : Step K σ ρ F H σ ρ F (upd H p o) :=
  ⟨s.more hp, Ex.refl F, fun a u h _ => Ex.new hp a u h, fun _ h => .inl h, fun _ h => .inl h, fun a h => by
    cases q : H a with
    | none => exact absurd q h
    | some u => rw [Ex.new hp a u q]; exact (fun z => nomatch z), fun _ d h => ⟨d, h, rfl⟩⟩
/-- return of a new object -/
theorem s_retNew {te : TE} {P : Pd} (h : EvN K W te ρ P.ex fun d ρ1 => P.rn d ρ1) : StD K W (tRet te) ρ P := fun σ F H D s l =>
  h σ F H _ s (fun d ρ' p o F' H' pp st hp ho => l.rn d ρ' p σ F' _ pp (st.trans (Step.more st.sym hp)) (ex_free st.sym.ex hp) ho (.inr (by
    cases q : H p with
    | none => rfl
    | some u => exact absurd hp (st.all p (by rw [q]; exact fun z => nomatch z))))) fun c ρ' cls dd F' H' p st xo => l.ex c ρ' cls dd σ F' H' p st xo
/-- return of a slot's own object -/
theorem s_retOwn {i : Nat} {d : Dt} {P : Pd} (hi : ρ[i]? = some (.ow false d)) (p : P.rn d ρ) : StD K W (tRet (tVar i)) ρ P := fun σ F H D s l => by
  obtain ⟨a, e1, e2, e3⟩ := s.ow i false d hi
  exact ⟨.ref a, e1, l.rn d ρ a σ F H p (Step.refl s) e2 e3 (.inl ⟨i, false, d, hi, e1⟩)⟩
/-! ### loops -/
/-! ### forgetting -/
def Sl.ln : Sl → Bool
  | .ow true _ => true
  | _ => false
inductive Fg : En → En → Prop where
  | nil : Fg [] []
  | keep {a : Sl} {r s : En} (h : Fg r s) : Fg (a :: r) (a :: s)
  | drop {a : Sl} {r s : En} (h : Fg r s) (ha : a.ln = false := by rfl) : Fg (a :: r) (.no :: s)
theorem Fg.refl : ∀ ρ : En, Fg ρ ρ
  | [] => .nil
  | _ :: r => .keep (Fg.refl r)
theorem Fg.get {r s : En} (h : Fg r s) : ∀ i : Nat, s[i]? = r[i]? ∨ (s[i]? = some .no ∧ ∃ a, r[i]? = some a ∧ a.ln = false) := by
  induction h with
  | nil => exact fun i => .inl rfl
  | keep _ ih =>
    intro i
    cases i with
    | zero => exact .inl rfl
    | succ i => simpa using ih i
  | @drop a r s _ ha ih =>
    intro i
    cases i with
    | zero => exact .inr ⟨rfl, a, rfl, ha⟩
    | succ i => simpa using ih i
theorem Fg.len {r s : En} (h : Fg r s) : s.length = r.length := by
  induction h with
  | nil => rfl
  | keep _ ih => rw [List.length_cons, List.length_cons, ih]
  | drop _ _ ih => rw [List.length_cons, List.length_cons, ih]
theorem Step.forget {ρ' : En} (s : Sym K F H σ ρ) (g : Fg ρ ρ') : Step K σ ρ F H σ ρ' F H where
  sym := {
    ex := s.ex
    len := by rw [g.len]; exact s.len
    sh := fun i d h => by
      rcases g.get i with e | ⟨e, _⟩
      · exact s.sh i d (e ▸ h)
      · rw [e] at h
        cases h
    ow := fun i l d h => by
      rcases g.get i with e | ⟨e, _⟩
      · exact s.ow i l d (e ▸ h)
      · rw [e] at h
        cases h
    inj := fun i j l m d e p h1 h2 => by
      rcases g.get i with z | ⟨z, _⟩
      · rcases g.get j with y | ⟨y, _⟩
        · exact s.inj i j l m d e p (z ▸ h1) (y ▸ h2)
        · rw [y] at h2
          cases h2
      · rw [z] at h1
        cases h1 }
  exF := Ex.refl F
  keep := fun _ _ h _ => h
  own := fun a h => by
    obtain ⟨i, l, d, h1, h2⟩ := h
    rcases g.get i with z | ⟨z, _⟩
    · exact .inl ⟨i, l, d, z ▸ h1, h2⟩
    · rw [z] at h1
      cases h1
  new := fun _ h => .inl h
  all := fun _ h => h
  stay := fun i d h => by
    rcases g.get i with z | ⟨z, a, e, hl⟩
    · exact ⟨d, z ▸ h, rfl⟩
    · rw [h] at e
      cases e
      cases hl
theorem s_forget {t : TS} {P : Pd} {ρ' : En} (g : Fg ρ ρ') (h : StD K W t ρ' P) : StD K W t ρ P := fun σ F H D s l => h σ F H D (Step.forget s g).sym (l.later (Step.forget s g))
/-- a loop's body: what its ends are -/
def upFg (I : En → Prop) : En → Prop := fun ρ => ∃ ρ', Fg ρ ρ' ∧ I ρ'
def Pd.loop (P : Pd) (I : En → Prop) (B : En → Prop) : Pd := { nx := upFg I, rt := P.rt, rn := P.rn, bk := B, ct := upFg I, ex := P.ex }
structure LoopZ (Z Z' : Pd) (I : En → Prop) (B : En → Prop) : Prop where
  nx : ∀ ρ ρ', Fg ρ ρ' → I ρ' → Z'.nx ρ
  ct : ∀ ρ ρ', Fg ρ ρ' → I ρ' → Z'.ct ρ
  bk : ∀ ρ, B ρ → Z'.bk ρ
  rt : ∀ d ρ, Z.rt d ρ → Z'.rt d ρ
  rn : ∀ d ρ, Z.rn d ρ → Z'.rn d ρ
  ex : ∀ c ρ, Z.ex c ρ → Z'.ex c ρ
theorem loopZ {Z : Pd} {I B : En → Prop} : LoopZ Z (Z.loop I B) I B := ⟨fun _ ρ' g p => ⟨ρ', g, p⟩, fun _ ρ' g p => ⟨ρ', g, p⟩, fun _ h => h, fun _ _ h => h, fun _ _ h => h, fun _ _ h => h⟩
/-- for k in range(n) -/
theorem s_forR {ta : TA} {j : Nat} {tb : TS} {P : Pd} (h : ArD K W ta ρ P.ex fun ds ρ1 => ∃ (n : Int), ds = [.int n] ∧ -100000 ≤ n ∧ n ≤ 100000 ∧ ∃ I : Nat → En → Prop, I 0 ρ1 ∧
      (∀ (i : Nat) ρ', (i : Int) < n → I i ρ' → lent ρ' j = false ∧ StD K W tb (ρ'.set j (.sh (.int i))) (P.loop (I (i + 1)) P.nx)) ∧ ∀ ρ', I n.toNat ρ' → P.nx ρ') :
    StD K W (tFor (iRng1 ta) (gName j) tb) ρ P := fun σ F H D s l =>
  h σ F H _ s (fun ds ρ1 vs F1 H1 p s1 r => by
    obtain ⟨n, rfl, hn1, hn, I, h0, hs, hd⟩ := p
    obtain ⟨v, _, rfl, rv, rfl⟩ := r
    have e : v = .int n := rv
    subst e
    refine ⟨n, rfl, by omega, by omega, for_range (lo := 0) (n := n.toNat) (fun i σ' H' => ∃ F' ρ', I i ρ' ∧ Step K σ ρ1 F1 H1 σ' ρ' F' H') ⟨F1, ρ1, h0, Step.refl s1.sym⟩ (fun i σ' H' hi ⟨F', ρ', p, st⟩ => ?_)
          fun σ' H' ⟨F', ρ', p, st⟩ => l.nx ρ' σ' F' H' (hd ρ' p) (s1.trans st)⟩
    obtain ⟨hl, hb⟩ := hs i ρ' (by omega) p
    have e0 : (0 : Int) + (i : Int) = (i : Int) := Int.zero_add _
    show tb _ (σ'.set j (some (.int ((0 : Int) + (i : Int))))) H'
    rw [e0]
    have st2 := Step.set (i := j) (d := .int i) (v := .int i) st.sym hl (by unfold Rep; rfl)
    have all := (s1.trans st).trans st2
    refine hb _ F' H' _ st2.sym ⟨fun ρ2 σ2 F2 H2 ⟨ρ3, g3, p3⟩ t2 => ⟨F2, ρ3, p3, ((st.trans st2).trans t2).trans (Step.forget t2.sym g3)⟩, fun d ρ2 v σ2 F2 H2 p2 t2 r2 => l.rt d ρ2 v σ2 F2 H2 p2 (all.trans t2) r2, ((l.later all).rn), fun ρ2 σ2 F2 H2 p2 t2 => l.nx ρ2 σ2 F2 H2 p2 (all.trans t2),
      fun ρ2 σ2 F2 H2 ⟨ρ3, g3, p3⟩ t2 => ⟨F2, ρ3, p3, ((st.trans st2).trans t2).trans (Step.forget t2.sym g3)⟩, fun c ρ2 cls dd σ2 F2 H2 p2 t2 x2 => l.ex c ρ2 cls dd σ2 F2 H2 p2 (all.trans t2) x2⟩) fun c ρ' cls dd F' H' p st xo => l.ex c ρ' cls dd σ F' H' p st xo
/-! ### a statement and the rest -/
variable {Z : Pd} {te : TE} {u : TS}
theorem ss_set {i : Nat} (h : EvD K W te ρ Z.ex fun d ρ1 => d.real = true ∧ lent ρ1 i = false ∧ StD K W u (ρ1.set i (.sh d)) Z) : StD K W (tSeq (tAsg te (gName i)) u) ρ Z := s_seq (s_set h)
theorem ss_own {i : Nat} (h : EvN K W te ρ Z.ex fun d ρ1 => lent ρ1 i = false ∧ StD K W u (ρ1.set i (.ow false d)) Z) : StD K W (tSeq (tAsg te (gName i)) u) ρ Z := s_seq (s_own h)
theorem ss_drop (h : EvD K W te ρ Z.ex fun _ ρ1 => StD K W u ρ1 Z) : StD K W (tSeq (tDrop te) u) ρ Z := s_seq (s_drop h)
theorem ss_put {to ti : TE} {r : TSet} (h : EvD K W te ρ Z.ex fun d ρ1 => d.real = true ∧ EvD K W to ρ1 Z.ex fun o ρ2 => EvD K W ti ρ2 Z.ex fun i ρ3 => SeD K r o i d ρ3 fun ρ4 => StD K W u ρ4 Z) : StD K W (tSeq (tAsg te (gSub to ti r)) u) ρ Z := s_seq (s_put h)
theorem ss_next (h : StD K W u ρ Z) : StD K W (tSeq tNext u) ρ Z := s_seq (s_next h)
theorem ss_ret (h : EvD K W te ρ Z.ex fun d ρ1 => d.real = true ∧ Z.rt d ρ1) : StD K W (tSeq (tRet te) u) ρ Z := s_seq (s_ret h)
theorem ss_assoc {t v : TS} (h : StD K W (tSeq t (tSeq v u)) ρ Z) : StD K W (tSeq (tSeq t v) u) ρ Z := h
theorem ss_if {c : TT} {t v : TS} (h : TtD K W c ρ Z.ex fun b ρ1 => (b = true → StD K W (tSeq t u) ρ1 Z) ∧ (b = false → StD K W (tSeq v u) ρ1 Z)) : StD K W (tSeq (tIfS c t v) u) ρ Z := fun σ F H D s l =>
  h σ F H _ s (fun b ρ' F' H' p st => by
    cases b with
    | true => exact p.1 rfl σ F' H' D st.sym (l.later st)
    | false => exact p.2 rfl σ F' H' D st.sym (l.later st)) fun c ρ' cls dd F' H' p st xo => l.ex c ρ' cls dd σ F' H' p st xo
theorem ss_forR {ta : TA} {j : Nat} {tb : TS} (h : ArD K W ta ρ Z.ex fun ds ρ1 => ∃ (n : Int), ds = [.int n] ∧ -100000 ≤ n ∧ n ≤ 100000 ∧ ∃ I : Nat → En → Prop, I 0 ρ1 ∧
      (∀ (i : Nat) ρ', (i : Int) < n → I i ρ' → lent ρ' j = false ∧ ∀ Z', LoopZ Z Z' (I (i + 1)) (fun ρ2 => StD K W u ρ2 Z) → StD K W tb (ρ'.set j (.sh (.int i))) Z') ∧ ∀ ρ', I n.toNat ρ' → StD K W u ρ' Z) :
    StD K W (tSeq (tFor (iRng1 ta) (gName j) tb) u) ρ Z := s_seq (s_forR (fun σ F H Q s q w => h σ F H Q s (fun ds ρ1 vs F1 H1 ⟨n, e, h1, h2, I, h3, h4, h5⟩ => q ds ρ1 vs F1 H1 ⟨n, e, h1, h2, I, h3, fun i ρ' hi p => ⟨(h4 i ρ' hi p).1, (h4 i ρ' hi p).2 _ loopZ⟩, h5⟩) w))
end
end DL
set_option Elab.async false
set_option linter.all false
set_option maxRecDepth 100000
set_option autoImplicit false
set_option maxHeartbeats 4000000
namespace DL
open PySem L2 Evl PyProof.Rows
theorem len_app (x y : Str) : (x ++ y).length = x.length + y.length := by
  obtain ⟨a⟩ := x
  obtain ⟨b⟩ := y
  show (a ++ b).size = a.size + b.size
  exact Array.size_append
theorem kb_NoneType_bool : kitB "NoneType" "bool" = some false := by decide +kernel
theorem kb_NoneType_int : kitB "NoneType" "int" = some false := by decide +kernel
theorem kb_NoneType_str : kitB "NoneType" "str" = some false := by decide +kernel
theorem kb_NoneType_list : kitB "NoneType" "list" = some false := by decide +kernel
theorem kb_NoneType_tuple : kitB "NoneType" "tuple" = some false := by decide +kernel
theorem kb_NoneType_dict : kitB "NoneType" "dict" = some false := by decide +kernel
theorem kb_bool_bool : kitB "bool" "bool" = some true := by decide +kernel
theorem kb_bool_int : kitB "bool" "int" = some true := by decide +kernel
theorem kb_bool_str : kitB "bool" "str" = some false := by decide +kernel
theorem kb_bool_list : kitB "bool" "list" = some false := by decide +kernel
theorem kb_bool_tuple : kitB "bool" "tuple" = some false := by decide +kernel
theorem kb_bool_dict : kitB "bool" "dict" = some false := by decide +kernel
theorem kb_int_bool : kitB "int" "bool" = some false := by decide +kernel
theorem kb_int_int : kitB "int" "int" = some true := by decide +kernel
theorem kb_int_str : kitB "int" "str" = some false := by decide +kernel
theorem kb_int_list : kitB "int" "list" = some false := by decide +kernel
theorem kb_int_tuple : kitB "int" "tuple" = some false := by decide +kernel
theorem kb_int_dict : kitB "int" "dict" = some false := by decide +kernel
theorem kb_str_bool : kitB "str" "bool" = some false := by decide +kernel
theorem kb_str_int : kitB "str" "int" = some false := by decide +kernel
theorem kb_str_str : kitB "str" "str" = some true := by decide +kernel
theorem kb_str_list : kitB "str" "list" = some false := by decide +kernel
theorem kb_str_tuple : kitB "str" "tuple" = some false := by decide +kernel
theorem kb_str_dict : kitB "str" "dict" = some false := by decide +kernel
theorem kb_list_bool : kitB "list" "bool" = some false := by decide +kernel
theorem kb_list_int : kitB "list" "int" = some false := by decide +kernel
theorem kb_list_str : kitB "list" "str" = some false := by decide +kernel
theorem kb_list_list : kitB "list" "list" = some true := by decide +kernel
theorem kb_list_tuple : kitB "list" "tuple" = some false := by decide +kernel
theorem kb_list_dict : kitB "list" "dict" = some false := by decide +kernel
theorem kb_tuple_bool : kitB "tuple" "bool" = some false := by decide +kernel
theorem kb_tuple_int : kitB "tuple" "int" = some false := by decide +kernel
theorem kb_tuple_str : kitB "tuple" "str" = some false := by decide +kernel
theorem kb_tuple_list : kitB "tuple" "list" = some false := by decide +kernel
theorem kb_tuple_tuple : kitB "tuple" "tuple" = some true := by decide +kernel
theorem kb_tuple_dict : kitB "tuple" "dict" = some false := by decide +kernel
theorem kb_dict_bool : kitB "dict" "bool" = some false := by decide +kernel
theorem kb_dict_int : kitB "dict" "int" = some false := by decide +kernel
theorem kb_dict_str : kitB "dict" "str" = some false := by decide +kernel
theorem kb_dict_list : kitB "dict" "list" = some false := by decide +kernel
theorem kb_dict_tuple : kitB "dict" "tuple" = some false := by decide +kernel
theorem kb_dict_dict : kitB "dict" "dict" = some true := by decide +kernel
theorem len_one (c : Nat) : (⟨#[c]⟩ : Str).length = 1 := rfl
/-- a def of the module that keeps a promise -/
def FnG (P : Program) (w : World) (K : Frag) (mg : Str → Option Value) (base : Heap) (k : Nat) (x : Str) (ps : List Str) (sp : Sp) : Prop :=
  ∃ (f : Addr) (fd : FuncData), mg x = some (.ref f) ∧ PySem.W.keepIn K (.ref f) = true ∧ FnOk P w K mg base (L2.CX P w) k f fd ps sp ∧ Binds K fd ps []
/-- the law's end -/
theorem walk_W {l : PySem.W.OpenLaw} {n k : Nat} {q : Program} {loose : List Str} {XP : (Str → Option Value) → Heap → Prop} {YP : World → Heap → Prop} {d : DefRec} {x : Str}
    (hn : l.most = some n) (hn2 : n ≤ sizeLine) (hdf : d.params.defaults = []) (hr : Room k callerA)
    (F : ∀ (w : World) (mg : Str → Option Value) (fa : Addr) (h : Heap), YP w h → h.Ns mainGlobals mg → mg d.name = some (.ref fa) →
      ∃ (K : PySem.W.Frag) (fd : FuncData) (sp : Sp), K.In h ∧ (∀ (s : Shared) (u : Value), BindsTo s fd ⟨[u], []⟩ [(x, u)]) ∧
        (∀ (H : Hp) (a : Addr) (ns : List Int), ns.length ≤ n → Only H → SqL K H a (ns.map V.int) → sp [.ref a] H (fun v _ => v = .bl true) fun _ _ _ => False) ∧
        ∀ base : Heap, K.In base → base.Ns mainGlobals mg → FnOk l.prog w K mg base (L2.CX l.prog w) k fa fd [x] sp) :
    PySem.W.WalkO q loose XP YP l.row.toRowW d [] (fun f vs => PySem.call f vs) := by
  refine Att.attach_call hn hdf fun w s₀ s₁ mg mb fa o pm cd doc a vs ns G Y ho hd hcd hmg hobj hints hlen hg => ?_
  obtain ⟨K, fd, sp, KX, hb, hsp, hF⟩ := F w mg fa _ Y G.T.g hmg
  refine law_call KX G.T.g G.T.b G.T.builtins G.T.nolimit hg hobj hints (Nat.le_trans hlen hn2) hr hF hb (fun H hO hS => hsp H a ns hlen hO hS) fun H e s' h => ?_
  obtain ⟨_, _, _, _, _, _, _, _, _, _, _, _, z⟩ := h
  exact z.elim
section
variable {X : Cx} {k : Nat} {x : Str} {ps : List Str} {sp : Sp} {p pos : Pos} {e : Expr} {es : List Expr} {t : TA} {W : WX}
theorem pe_fn (G : FnG X.prog X.w X.K X.mg X.base k x ps sp) (hr : Room k X.A) (tk : Takes X W) (hg : Gl X x) (ha : PA X (e :: es) t) (hdb : (x == ("__debug__" : Str)) = false := by decide)
    (he : starEach (e :: es) X.env = (false, eval e X.env) :: starEach es X.env := by rfl) (hpl : (backTo pos (starEach es X.env)).any (·.1) = false := by rfl) : PE X (.Call (.Name x p) (e :: es) [] pos) (tCallS sp (WE W) t) := by
  obtain ⟨f, fd, h1, h2, h3, h4⟩ := G
  exact pe_callS h3 hr hg h1 h2 h4 (fun σ => passAt tk σ) ha hdb he hpl
theorem pe_gI {i : Int} (hg : Gl X x) (hm : ∃ t, X.mg x = some (.int i t)) (hd : (x == ("__debug__" : Str)) = false := by decide) : PE X (.Name x pos) (tC (.int i)) := by
  obtain ⟨t, h⟩ := hm
  exact pe_glob hg h ⟨t, rfl⟩ hd
theorem pe_gS {z : Str} (hg : Gl X x) (hm : ∃ t, X.mg x = some (.str z t)) (hd : (x == ("__debug__" : Str)) = false := by decide) : PE X (.Name x pos) (tC (.str z)) := by
  obtain ⟨t, h⟩ := hm
  exact pe_glob hg h ⟨t, rfl⟩ hd
theorem pt_tru {a : Expr} {ta : TE} (ha : PE X a ta) (he : ∀ whole, isTrue a X.env whole = (do let v ← whole; standAt a.pos; holding [v] (truthy v)) := by intro _; rfl) : PT X a (tTru X.K ta) := pt_truth ha he
end
section
variable {K : Frag} {W : WX} {ρ : En} {x : PX}
theorem e_strK {z : Str} {P : Dt → En → Prop} (p : ∀ z', z' = z → P (.str z') ρ) : EvD K W (tC (.str z)) ρ x P := e_str (p z rfl)
/-- a chain whose third part is plain -/
theorem e_chainC {f g : Int → Int → Bool} {ta tb tc : TE} {P : Dt → En → Prop} (h : EvD K W ta ρ x fun d ρ1 => ∃ i, d = .int i ∧ EvD K W tb ρ1 x fun e ρ2 => ∃ j, e = .int j ∧ ∃ k, (∀ P : Dt → En → Prop, P (.int k) ρ2 → EvD K W tc ρ2 x P) ∧ P (.bl (f i j && g j k)) ρ2) :
    EvD K W (tChain (rI0 fun i j => .bl (f i j)) (rI0 fun i j => .bl (g i j)) ta tb tc) ρ x P := by
  refine e_chain (e_imp h fun d ρ1 hd => ?_)
  obtain ⟨i, rfl, h2⟩ := hd
  refine e_imp h2 fun e ρ2 he => ?_
  obtain ⟨j, rfl, k, h3, h4⟩ := he
  refine o_B0 ⟨_, rfl, fun hb => ?_, fun hb => ?_⟩
  · rw [hb] at h4
    exact h3 _ (o_B0 (by rw [Bool.true_and] at h4; exact h4))
  · rw [hb, Bool.false_and] at h4
    exact h4
theorem e_andC {ta tb : TE} {P : Dt → En → Prop} (h : EvD K W ta ρ x fun d ρ1 => ∃ a, d = .bl a ∧ ∃ b, (∀ P : Dt → En → Prop, P (.bl b) ρ1 → EvD K W tb ρ1 x P) ∧ P (.bl (a && b)) ρ1) : EvD K W (tAndV ta tb) ρ x P := by
  refine e_andV (e_imp h fun d ρ1 hd => ?_)
  obtain ⟨a, rfl, b, h2, h3⟩ := hd
  refine ⟨a, rfl, fun hb => ?_, fun hb => ?_⟩
  · rw [hb, Bool.true_and] at h3
    exact h2 _ h3
  · rw [hb, Bool.false_and] at h3
    exact h3
/-- truth -/
def truD (ρ : En) : Dt → Option Bool
  | .non => some false
  | .bl b => some b
  | .int i => some (i != 0)
  | .lst ds => some !ds.isEmpty
  | .tup ds => some !ds.isEmpty
  | .own k => match ρ[k]? with
    | some (.ow _ (.lst ds)) => some !ds.isEmpty
    | _ => none
  | _ => none
theorem isEmpty_rep {F : Hp} {ds : List Dt} {xs : List V} (r : RepL K F ds xs) : (!xs.isEmpty) = !ds.isEmpty := by
  have h := r.length
  cases ds <;> cases xs <;> first | rfl | cases h
theorem t_tru {te : TE} {P : Bool → En → Prop} (h : EvD K W te ρ x fun d ρ1 => ∃ b, truD ρ1 d = some b ∧ P b ρ1) : TtD K W (tTru K te) ρ x P := fun σ F H Q s q w =>
  h σ F H _ s (fun d ρ1 v F1 H1 p1 s1 r1 => by
    obtain ⟨b, hb, p⟩ := p1
    refine ⟨b, ?_, q b ρ1 F1 H1 p s1⟩
    cases d with
    | non => cases r1; cases hb; rfl
    | bl z => cases r1; cases hb; rfl
    | int z => cases r1; cases hb; rfl
    | lst ds =>
      have e : Rep K F1 (.lst ds) v := r1
      unfold Rep at e
      obtain ⟨a, xs, rfl, h1, h2⟩ := e
      cases hb
      exact .inl ⟨xs, ex_l s1.sym.ex h1, (isEmpty_rep h2).symm⟩
    | tup ds =>
      have e : Rep K F1 (.tup ds) v := r1
      unfold Rep at e
      obtain ⟨a, xs, rfl, h1, h2⟩ := e
      cases hb
      exact .inr (.inl ⟨xs, ex_t s1.sym.ex h1, (isEmpty_rep h2).symm⟩)
    | own k =>
      have hb : (match ρ1[k]? with
        | some (.ow _ (.lst ds)) => some !ds.isEmpty
        | _ => none) = some b := hb
      cases e : ρ1[k]? with
      | none => rw [e] at hb; cases hb
      | some z =>
        rw [e] at hb
        cases z with
        | ow l d =>
          cases d with
          | lst ds =>
            cases hb
            obtain ⟨a, e1, e2, xs, e3, e4⟩ := s1.sym.ow k l _ e
            have eu : v = .ref a := by
              have z : σ[k]? = some (some v) := r1
              rw [e1] at z
              exact (Option.some.inj (Option.some.inj z)).symm
            subst eu
            exact .inl ⟨xs, sq_of e3, (isEmpty_rep e4).symm⟩
          | _ => cases hb
        | _ => cases hb
    | _ => cases hb) w
end
end DL
set_option Elab.async false
set_option linter.all false
set_option maxRecDepth 100000
set_option autoImplicit false
set_option maxHeartbeats 4000000
/-! texts as lists of signs -/
namespace DL
open PySem L2 PyProof.Rows
open TL (tl)
theorem tw_len {g : Nat → Bool} : ∀ {l : List Nat} {c : Nat}, c ∈ l → g c = false → (l.takeWhile g).length < l.length
  | a :: l, c, h, hg => by
    rw [List.takeWhile_cons]
    cases e : g a with
    | false => exact Nat.succ_pos _
    | true =>
      have hc : c ∈ l := by
        rcases List.mem_cons.mp h with z | z
        · subst z
          rw [e] at hg
          cases hg
        · exact z
      exact Nat.succ_lt_succ (tw_len hc hg)
theorem dw_nil {g : Nat → Bool} : ∀ {l : List Nat}, l.drop (l.takeWhile g).length = [] ↔ ∀ c ∈ l, g c = true
  | [] => by simp
  | a :: l => by
    rw [List.takeWhile_cons]
    cases e : g a with
    | false =>
      constructor
      · intro h
        simp at h
      · intro h
        rw [h a List.mem_cons_self] at e
        cases e
    | true =>
      show (a :: l).drop ((l.takeWhile g).length + 1) = [] ↔ _
      rw [List.drop_succ_cons, dw_nil (g := g) (l := l)]
      constructor
      · intro h c hc
        rcases List.mem_cons.mp hc with z | z
        · subst z
          exact e
        · exact h c z
      · exact fun h c hc => h c (List.mem_cons_of_mem _ hc)
theorem dw_head {g : Nat → Bool} : ∀ {l : List Nat} {a : Nat} {r : List Nat}, l.drop (l.takeWhile g).length = a :: r → g a = false
  | [], a, r, h => by simp at h
  | b :: l, a, r, h => by
    rw [List.takeWhile_cons] at h
    cases e : g b with
    | false =>
      rw [e] at h
      simp at h
      rw [← h.1]
      exact e
    | true =>
      rw [e] at h
      have h2 : (b :: l).drop ((l.takeWhile g).length + 1) = a :: r := h
      rw [List.drop_succ_cons] at h2
      exact dw_head h2
theorem strip_tl (g : Nat → Bool) (x : Str) : tl (Txt.stripBy g true true x) = ((tl x).drop ((tl x).takeWhile g).length).take ((tl x).length - (((tl x).drop ((tl x).takeWhile g).length).reverse.takeWhile g).length - ((tl x).takeWhile g).length) := by
  have hl := TL.len_tl x
  have e1 : PySem.stripLo g true x = ((tl x).takeWhile g).length := rfl
  have e2 : PySem.stripHi g true x (PySem.stripLo g true x) = (tl x).length - (((tl x).drop ((tl x).takeWhile g).length).reverse.takeWhile g).length := by
    show x.length - _ = _
    rw [hl]
    rfl
  unfold Txt.stripBy
  by_cases c : PySem.stripSame g true true x = true
  · rw [if_pos c]
    unfold PySem.stripSame at c
    rw [Bool.and_eq_true] at c
    obtain ⟨c1, c2⟩ := c
    have c1 : ((tl x).takeWhile g).length = 0 := by
      rw [e1] at c1
      simpa using c1
    rw [e2] at c2
    have c2 : (tl x).length - (((tl x).drop ((tl x).takeWhile g).length).reverse.takeWhile g).length = x.length := by simpa using c2
    rw [c2, hl, c1, List.drop_zero, Nat.sub_zero, List.take_length]
  · rw [if_neg c]
    unfold PySem.stripped
    rw [TL.tl_strSub, e1, ← e1, e2, e1]
theorem stripC_nil {x y : Str} : Txt.stripChars x y = "" ↔ ∀ c ∈ tl x, c ∈ tl y := by
  have hc : ∀ c, y.cps.contains c = true ↔ c ∈ tl y := fun c => by
    rw [Array.contains_iff_mem]
    exact Array.mem_toList_iff.symm
  have e0 : ∀ z : Str, z = "" ↔ tl z = [] := fun z => ⟨fun h => by rw [h]; rfl, fun h => TL.ext_tl (by rw [h]; rfl)⟩
  rw [e0]
  unfold Txt.stripChars
  rw [strip_tl]
  constructor
  · intro h c hcx
    rw [← hc]
    cases e : (tl x).drop ((tl x).takeWhile y.cps.contains).length with
    | nil => exact dw_nil.mp e c hcx
    | cons a r =>
      exfalso
      have ha := dw_head e
      have hm : a ∈ ((tl x).drop ((tl x).takeWhile y.cps.contains).length).reverse := by rw [e]; simp
      have hlt := tw_len hm ha
      rw [List.length_reverse] at hlt
      have hd : ((tl x).drop ((tl x).takeWhile y.cps.contains).length).length = (tl x).length - ((tl x).takeWhile y.cps.contains).length := List.length_drop
      have hz := congrArg List.length h
      rw [List.length_take] at hz
      simp only [List.length_nil] at hz
      omega
  · intro h
    have e : (tl x).drop ((tl x).takeWhile y.cps.contains).length = [] := dw_nil.mpr fun c hcx => (hc c).mpr (h c hcx)
    rw [e]
    simp
theorem atI_mem {α : Type} {l : List α} {i : Int} (h0 : 0 ≤ i) (h : i < l.length) : ∃ c, atI l i = some c ∧ c ∈ l := by
  have hk : i.toNat < l.length := by omega
  refine ⟨l[i.toNat], ?_, List.getElem_mem hk⟩
  unfold atI ixN
  rw [if_pos h0, if_pos h]
  exact List.getElem?_eq_getElem hk
theorem repL_ints {K : Frag} {F : Hp} : ∀ ns : List Int, RepL K F (ns.map Dt.int) (ns.map V.int)
  | [] => repL_nil
  | n :: ns => repL_cons (by unfold Rep; rfl) (repL_ints ns)
theorem tl_len (x : Str) : (tl x).length = x.length := (TL.len_tl x).symm
theorem tl_cut (z : Str) (lo hi : Option Int) : tl (cutS z lo hi) = ((tl z).drop (HT.sIx z.length 0 lo)).take (HT.sIx z.length z.length hi - HT.sIx z.length 0 lo) := rfl
theorem tl_one (c : Nat) : tl ⟨#[c]⟩ = [c] := rfl
theorem tl_mul (x : Str) (n : Int) : tl (strMul x n) = (List.replicate n.toNat (tl x)).flatten := by
  have key : ∀ (m : Nat) (a : Array Nat), ((List.replicate m x.cps).foldl (· ++ ·) a).toList = a.toList ++ (List.replicate m (tl x)).flatten := by
    intro m
    induction m with
    | zero => intro a; simp
    | succ m ih =>
      intro a
      rw [List.replicate_succ, List.foldl_cons, ih, Array.toList_append, List.replicate_succ, List.flatten_cons, List.append_assoc]
  show ((List.replicate n.toNat x.cps).foldl (· ++ ·) #[]).toList = _
  rw [key]
  simp
end DL
set_option Elab.async false
set_option linter.all false
set_option maxRecDepth 100000
set_option autoImplicit false
set_option maxHeartbeats 4000000
/-! exceptions of the program's own classes -/
namespace DL
open PySem L2 Evl PyProof.Rows
/-! ### what the head tells of a class -/
def eqO2 (a b : Option (Option Value)) : Bool := decide (a = b)
def oexB (K : Frag) (C : Addr) : Bool := match K.lookup C with
  | some ⟨.type c, _, .cls cd, sl⟩ => (match cd.mro, sl.toList with
    | .ref C' :: bm, [_, _, _, _, some (.builtin n), _] => decide (c = "type") && (decide (C' = C) && (decide (n = "ValueError.__new__") && (!cd.hasDel && (cd.hasDict && PySem.HandSPX.refsVE bm))))
    | _, _ => false)
  | _ => false
theorem oexB_ok {K : Frag} {C : Addr} (q : oexB K C = true) : ∃ nm q N bs bm sn sub ab col dd k0 k1 k2 k3 k5, K.lookup C = some (excClassObj nm q C N bs bm true sn sub ab col dd k0 k1 k2 k3 k5 "ValueError.__new__") ∧ PySem.HandSPX.refsVE bm = true := by
  unfold oexB at q
  split at q
  · rename_i c dd cd sl ho
    split at q
    · rename_i C' bm k0 k1 k2 k3 n k5 hm hs
      simp only [Bool.and_eq_true, decide_eq_true_eq, Bool.not_eq_true'] at q
      obtain ⟨rfl, rfl, rfl, hdel, hdct, hv⟩ := q
      obtain ⟨nm, bs, mro, ns, qn, hd, sn, sub, ab, col, del⟩ := cd
      dsimp only at hm hdel hdct
      subst hm hdel hdct
      have hsl : sl = #[k0, k1, k2, k3, some (.builtin "ValueError.__new__"), k5] := by
        obtain ⟨l⟩ := sl
        simp only at hs
        rw [hs]
      subst hsl
      exact ⟨nm, qn, ns, bs, bm, sn, sub, ab, col, dd, k0, k1, k2, k3, k5, ho, hv⟩
    · cases q
  · cases q
structure XcC (K : Frag) (C : Addr) : Prop where
  oex : OexC K C
  xf : XfC K C
  cl : (PySem.W.clsIn K C).isSome = true
  ha : PySem.W.findIn K (.ref C) "__class__" = some (some (.builtin "object.__class__"))
  hn : PySem.W.specialIn K (.builtin "object.__class__") "__get__" = some (some (.builtin "getset_descriptor.__get__"))
  ht : PySem.W.takesIn K (.builtin "object.__class__") = some true
  hm : PySem.W.mroIn K C (.type "object") = some true
def xcB (K : Frag) (C : Addr) : Bool := oexB K C && (eqO2 (PySem.W.findIn K (.ref C) "__setattr__") (some (some (.builtin "object.__setattr__"))) && (decide (PySem.W.typeIn K (.ref C) = some (.type "type")) && (PySem.W.keepIn K (.ref C) && (xfB K C &&
  ((PySem.W.clsIn K C).isSome && (eqO2 (PySem.W.findIn K (.ref C) "__class__") (some (some (.builtin "object.__class__"))) && (eqO2 (PySem.W.specialIn K (.builtin "object.__class__") "__get__") (some (some (.builtin "getset_descriptor.__get__"))) &&
    (decide (PySem.W.takesIn K (.builtin "object.__class__") = some true) && decide (PySem.W.mroIn K C (.type "object") = some true)))))))))
theorem band {a b : Bool} (h : (a && b) = true) : a = true ∧ b = true := Bool.and_eq_true_iff.mp h
theorem xcB_ok {K : Frag} {C : Addr} (h : xcB K C = true) : XcC K C := by
  obtain ⟨h1, h⟩ := band h
  obtain ⟨h2, h⟩ := band h
  obtain ⟨h3, h⟩ := band h
  obtain ⟨h4, h⟩ := band h
  obtain ⟨h5, h⟩ := band h
  obtain ⟨h6, h⟩ := band h
  obtain ⟨h7, h⟩ := band h
  obtain ⟨h8, h⟩ := band h
  obtain ⟨h9, h10⟩ := band h
  have x := xfB_ok h5
  exact ⟨⟨oexB_ok h1, of_decide_eq_true h2, x.exC, of_decide_eq_true h3, h4⟩, x, h6, of_decide_eq_true h7, of_decide_eq_true h8, of_decide_eq_true h9, of_decide_eq_true h10⟩
/-! ### __init__ with one field -/
def spX1 (C : Addr) (f : Str) : Sp := fun vs H Q _ => ∃ a v, vs = [.ref a, v] ∧ H a = some (exo a C none) ∧ ∀ dx, H dx = none → dx ≠ a → Q .non (upd (upd H dx (exd dx [(f, v)])) a (exo a C (some dx)))
def spX2 (C : Addr) (f g : Str) : Sp := fun vs H Q _ => ∃ a v u, vs = [.ref a, v, u] ∧ H a = some (exo a C none) ∧ ∀ dx, H dx = none → dx ≠ a → Q .non (upd (upd (upd H dx (exd dx [(f, v)])) a (exo a C (some dx))) dx (exd dx [(g, u), (f, v)]))
section
variable {P : Program} {w : World} {K : Frag} {mg : Str → Option Value} {base : Heap}
theorem ok_x1 {x qual fld p : Str} {params : Arguments} {body : List Stmt} {scope : Scope} {f C : Addr} {fd : FuncData} {p1 p2 p3 p4 : Pos} (F : FunD K x qual params body scope [] [] f fd) (S : FnScope ["self", p] ["self", p] scope)
    (hb : body = [.Assign [.Attribute (.Name "self" p1) fld p2] (.Name p p3) p4]) (T : XcC K C) (hno : PySem.W.findIn K (.ref C) fld = some none) (v0 : Vis scope "self") (v1 : Vis scope p) (d1 : (p == ("__debug__" : Str)) = false) (d2 : (p == ("__classdict__" : Str)) = false) :
    FnOk P w K mg base (L2.CX P w) 1 f fd ["self", p] (spX1 C fld) := by
  subst hb
  refine F.ok S (fun vs H Q E h => ?_) (fun cdv A outer s H vs Q E hr h => ?_)
  · obtain ⟨a, v, rfl, _⟩ := h
    rfl
  · obtain ⟨a, v, rfl, ha, k⟩ := h
    refine ⟨_, pss_one (ps_ost (pe_var (i := 0) rfl v0) (pe_var (i := 1) rfl v1 d1 d2)), ?_⟩
    exact ⟨v, rfl, _, rfl, a, C, rfl, T.oex, hno, .inl ⟨ha, fun dx h1 h2 => k dx h1 h2⟩⟩
theorem ok_x2 {x qual fl1 fl2 p q : Str} {params : Arguments} {body : List Stmt} {scope : Scope} {f C : Addr} {fd : FuncData} {p1 p2 p3 p4 q1 q2 q3 q4 : Pos} (F : FunD K x qual params body scope [] [] f fd) (S : FnScope ["self", p, q] ["self", p, q] scope)
    (hb : body = [.Assign [.Attribute (.Name "self" p1) fl1 p2] (.Name p p3) p4, .Assign [.Attribute (.Name "self" q1) fl2 q2] (.Name q q3) q4]) (T : XcC K C) (hn1 : PySem.W.findIn K (.ref C) fl1 = some none) (hn2 : PySem.W.findIn K (.ref C) fl2 = some none)
    (v0 : Vis scope "self") (v1 : Vis scope p) (v2 : Vis scope q) (d1 : (p == ("__debug__" : Str)) = false) (d2 : (p == ("__classdict__" : Str)) = false) (d3 : (q == ("__debug__" : Str)) = false) (d4 : (q == ("__classdict__" : Str)) = false) :
    FnOk P w K mg base (L2.CX P w) 1 f fd ["self", p, q] (spX2 C fl1 fl2) := by
  subst hb
  refine F.ok S (fun vs H Q E h => ?_) (fun cdv A outer s H vs Q E hr h => ?_)
  · obtain ⟨a, v, u, rfl, _⟩ := h
    rfl
  · obtain ⟨a, v, u, rfl, ha, k⟩ := h
    refine ⟨_, pss_cons (ps_ost (pe_var (i := 0) rfl v0) (pe_var (i := 1) rfl v1 d1 d2)) (pss_one (ps_ost (pe_var (i := 0) rfl v0) (pe_var (i := 2) rfl v2 d3 d4))), ?_⟩
    refine ⟨v, rfl, _, rfl, a, C, rfl, T.oex, hn1, .inl ⟨ha, fun dx h1 h2 => ?_⟩⟩
    exact ⟨u, rfl, _, rfl, a, C, rfl, T.oex, hn2, .inr ⟨dx, _, upd_same, by rw [upd_ne h2, upd_same], by show 1 ≤ 900; decide, k dx h1 h2⟩⟩
end
/-! ### raise -/
section
variable {X : Cx} {W : WX} {x : Str} {C fI : Addr} {e : Expr} {es : List Expr} {ta : TA} {p pos pos' : Pos} {k : Nat} {fd : FuncData} {ps : List Str} {sp : Sp}
/-- what is known of a class with __init__ -/
def XG (P : Program) (w : World) (K : Frag) (mg : Str → Option Value) (base : Heap) (x : Str) (C : Addr) (ps : List Str) (sp : Sp) : Prop :=
  mg x = some (.ref C) ∧ XcC K C ∧ ∃ (fI : Addr) (fd : FuncData), PySem.W.findIn K (.ref C) "__init__" = some (some (.ref fI)) ∧ PySem.W.typeIn K (.ref fI) = some (.type "function") ∧ FnOk P w K mg base (L2.CX P w) 1 fI fd ps sp ∧ Binds K fd ps []
def tRai (C : Addr) (sp : Sp) (W : WX) (ta : TA) : TS := fun _ σ H => tMkO C sp [] ta σ H fun cls d H' => W cls d σ H'
theorem ps_rai (G : XG X.prog X.w X.K X.mg X.base x C ps sp) (hc : X.calm = true) (tk : Takes X W) (hr : Room 2 X.A) (hg : Gl X x) (ha : PA X (e :: es) ta) (hdb : (x == ("__debug__" : Str)) = false := by decide)
    (he : starEach (e :: es) X.env = (false, eval e X.env) :: starEach es X.env := by rfl) (hpl : (backTo pos (starEach es X.env)).any (·.1) = false := by rfl) : PS X (.Raise (some (.Call (.Name x p) (e :: es) [] pos)) none pos') (tRai C sp W ta) := by
  obtain ⟨hm, T, fI, fd, iC, tI, F1, hb⟩ := G
  exact ps_raise hc tk (pmk_oex T.oex iC tI F1 hr hb .nil passL hg hm ha hdb he hpl)
/-- raise C() of a class without __init__ -/
def XN (K : Frag) (mg : Str → Option Value) (x : Str) (C : Addr) : Prop := mg x = some (.ref C) ∧ XcC K C ∧ PySem.W.excIn K C He.veBase "ValueError.__new__" = true
theorem pmk_own0 (G : XN X.K X.mg x C) (hg : Gl X x) (hdb : (x == ("__debug__" : Str)) = false := by decide) : PMk X (.Call (.Name x p) [] [] pos) (fun _ H Q => Q (.ref C) none H) := by
  obtain ⟨gC, T, q⟩ := G
  intro pins s σ H Q I h
  refine wpAny_Call_Name_kw (ld_glob I hg gC ?_ hdb)
  refine PySem.W.callWith_K0 I.kIn T.oex.kC ?_
  show wpAny _ _ (call (.ref C) []) _ _ _
  obtain ⟨bm, N, nm, qn, bs, hdct, sn, sub, ab, col, dd, k0, k1, k2, k3, k5, mN, hC, hN, hni, O⟩ := exc_obj I.kIn q
  refine wpAny_call_exc_subT PySem.F.excBase_ValueError O hC hN hni (fun h' e hm => ?_) (Nat.zero_le _)
  exact mk_of I hm (raises_own T.oex.exC T.oex.tyC) h (I.hok.gone hm.new)
def tRai0 (C : Addr) (W : WX) : TS := fun _ σ H => W (.ref C) none σ H
theorem ps_rai0 (G : XN X.K X.mg x C) (hc : X.calm = true) (tk : Takes X W) (hg : Gl X x) (hdb : (x == ("__debug__" : Str)) = false := by decide) : PS X (.Raise (some (.Call (.Name x p) [] [] pos)) none pos') (tRai0 C W) := ps_raise hc tk (pmk_own0 G hg hdb)
/-! ### try .. except X as n -/
def tTryAs (K : Frag) (c : Value) (i : Nat) (tb : WX → TS) (ts : Addr → Value → Option Addr → TS) (W : WX) : TS := fun D σ H => tb (wAs K c i ts W D) D σ H
theorem ps_tryA {n : Str} {c : Value} {i : Nat} {body suite : List Stmt} {b0 : Stmt} {np q q' : Pos} {tb : WX → TS} {ts : Addr → Value → Option Addr → TS} (hs : X.stack = X.env :: X.outer) (hf : X.env.frame = some X.env.locals) (hN : X.N.Nodup) (hi : X.N[i]? = some n) (hln : X.env.kindOf n = some .local) (hc : Names X x c) (tk : Takes X W)
    (hb : ∀ (W : WX) (pn : List (Addr × Obj)) (xe : Value → Shared → Prop), Takes (X.tr pn xe) W → PassesOwn (model X.prog X.w) X.A X.env xe → PSs (X.tr pn xe) body (tb W))
    (hsu : ∀ (a : Addr) (oe : Obj) (cls : Value) (d : Option Addr) (pn : List (Addr × Obj)), Zc cls d oe → (∃ vs, oe.data = .fields vs) → PSs (X.suite a ((a, oe) :: pn)) (b0 :: suite) (ts a cls d)) :
    PS X (.Try body [.ExceptHandler (some (.Name x np)) (some n) (b0 :: suite) q] [] [] q') (tTryAs X.K c i tb ts W) := ps_try_as hs hf hN hi hln hc tk hb hsu
/-! ### isinstance(e, T) in a suite -/
def rIsX (K : Frag) (a : Addr) (cls : Value) (d : Option Addr) : List V → Hp → VK → Prop := fun xs H Q => ∃ (c : V) (cv : Value) (D : Addr) (b : Bool), xs = [.ref a, c] ∧ ClsV c cv ∧ cls = .ref D ∧ XcC K D ∧ (d = none ∨ ∃ dd fs, d = some dd ∧ H dd = some (.xd fs)) ∧ PySem.W.kitOne K (.ref D) cv = some b ∧ Q (.bl b) H
theorem call_isX {a : Addr} {oe : Obj} {cls : Value} {d : Option Addr} {pn : List (Addr × Obj)} (hz : Zc cls d oe) (hf : ∃ vs, oe.data = .fields vs) : CallR (X.suite a ((a, oe) :: pn)) (.builtin "isinstance") (rIsX X.K a cls d) := by
  intro pins s σ H xs us Q I r h
  obtain ⟨c, cv, D, b, rfl, hcv, rfl, T, hd, e, q⟩ := h
  obtain ⟨u1, u2, rfl, r1, r2⟩ := vals2 r
  cases (show u1 = Value.ref a from r1)
  have ec := hcv.eq r2
  subst ec
  obtain ⟨hget, _⟩ := I.pin (a, oe) (List.mem_append.mpr (.inl List.mem_cons_self))
  obtain ⟨vs, hv⟩ := hf
  have nc : PySem.W.notCls oe = true := by
    unfold PySem.W.notCls
    rw [hv]
    all_goals rfl
  obtain ⟨od, J⟩ : ∃ od, PySem.W.InstAt s.heap a oe D od := by
    rcases hd with rfl | ⟨dd, fs, rfl, hx⟩
    · exact ⟨none, hget, hz.1, nc, by rw [hz.2]; trivial⟩
    · have hx2 : ObjOk X.prog X.w H s.heap dd (.xd fs) := I.hok dd _ hx
      obtain ⟨mA, ⟨od, es, ep, ho, _⟩, _⟩ := hx2
      exact ⟨some od, hget, hz.1, nc, by rw [hz.2]; exact ho⟩
  exact PySem.W.kia_one (PySem.W.kitx_exc T.cl T.xf.ga T.xf.gg T.xf.exC T.ha T.hn T.ht T.hm) I.kIn J e (fun z => nomatch z) fun tk => ⟨.bl b, H, I.kept (t' := tk) fun _ _ z => z, rfl, q⟩
def rIsS (K : Frag) (a : Addr) (cls : Value) (d : Option Addr) : List V → Hp → VK → Prop := fun xs H Q => rIsi K xs H Q ∨ rIsX K a cls d xs H Q
theorem call_isS {a : Addr} {oe : Obj} {cls : Value} {d : Option Addr} {pn : List (Addr × Obj)} (hz : Zc cls d oe) (hf : ∃ vs, oe.data = .fields vs) : CallR (X.suite a ((a, oe) :: pn)) (.builtin "isinstance") (rIsS X.K a cls d) := call_isi.or (call_isX hz hf)
end
/-! ### by data -/
section
variable {K : Frag} {W : WX} {σ σ1 : L2.St} {ρ ρ1 : En} {F F1 H H1 : Hp} {x : PX} {Z : Pd} {C : Addr} {f : Str}
theorem x_heap {a dx : Addr} {o o1 o2 o3 u : HO} (ha : H a = none) (hd : dx ≠ a) : upd (L2.del (upd (upd (upd H a o) dx o1) a o2) a) dx u = upd H dx u := by
  funext b
  by_cases e : b = dx
  · subst e
    rw [upd_same, upd_same]
  · rw [upd_ne e, upd_ne e]
    by_cases e2 : b = a
    · subst e2
      rw [L2.del_same, ha]
    · rw [L2.del_ne e2, upd_ne e2, upd_ne e, upd_ne e2]
theorem s_rai1 {te : TE} (h : EvD K W te ρ Z.ex fun d ρ1 => d.real = true ∧ Z.ex ⟨C, [f], [d]⟩ ρ1) : StD K W (tRai C (spX1 C f) W (tCons te tNil)) ρ Z := fun σ F H D s l =>
  h σ F H _ s (fun d ρ1 v F1 H1 p s1 r => by
    refine ⟨by show 1 ≤ 1000; decide, fun a ha => ⟨a, v, rfl, upd_same, fun dx hd hne => ?_⟩⟩
    rw [upd_ne hne] at hd
    refine ⟨rfl, dx, [(f, v)], upd_same, by rw [upd_ne hne, upd_same], hd, ?_⟩
    rw [x_heap (o3 := .lst []) ha hne]
    have st := s1.trans (Step.grow s1.sym (Ex.new (o := .xd [(f, v)]) hd))
    refine l.ex _ ρ1 _ _ σ _ _ p.2 st ⟨rfl, .inr ⟨dx, [v], rfl, fz_at hd, rfl, repL_cons ((r.real p.1).mono (fz_ex s1.sym.ex)) repL_nil⟩⟩) fun c ρ' cls dd F' H' p st xo => l.ex c ρ' cls dd σ F' H' p st xo
theorem x_heap2 {a dx : Addr} {o o1 o2 o4 u : HO} (ha : H a = none) (hd : dx ≠ a) : upd (L2.del (upd (upd (upd (upd H a o) dx o1) a o2) dx o4) a) dx u = upd H dx u := by
  funext b
  by_cases e : b = dx
  · subst e
    rw [upd_same, upd_same]
  · rw [upd_ne e, upd_ne e]
    by_cases e2 : b = a
    · subst e2
      rw [L2.del_same, ha]
    · rw [L2.del_ne e2, upd_ne e, upd_ne e2, upd_ne e, upd_ne e2]
theorem s_rai2 {g : Str} {te te2 : TE} (h : EvD K W te ρ Z.ex fun d ρ1 => d.real = true ∧ EvD K W te2 ρ1 Z.ex fun d2 ρ2 => d2.real = true ∧ Z.ex ⟨C, [g, f], [d2, d]⟩ ρ2) : StD K W (tRai C (spX2 C f g) W (tCons te (tCons te2 tNil))) ρ Z := fun σ F H D s l =>
  h σ F H _ s (fun d ρ1 v F1 H1 p s1 r => p.2 σ F1 H1 _ s1.sym (fun d2 ρ2 v2 F2 H2 p2 s2 r2 => by
    refine ⟨by show 2 ≤ 1000; decide, fun a ha => ⟨a, v, v2, rfl, upd_same, fun dx hd hne => ?_⟩⟩
    rw [upd_ne hne] at hd
    refine ⟨rfl, dx, [(g, v2), (f, v)], by rw [upd_ne hne.symm, upd_same], upd_same, hd, ?_⟩
    rw [x_heap2 ha hne]
    have st := (s1.trans s2).trans (Step.grow s2.sym (Ex.new (o := .xd [(g, v2), (f, v)]) hd))
    exact l.ex _ ρ2 _ _ σ _ _ p2.2 st ⟨rfl, .inr ⟨dx, [v2, v], rfl, fz_at hd, rfl, repL_cons ((r2.real p2.1).mono (fz_ex s2.sym.ex)) (repL_cons (((r.real p.1).mono s2.exF).mono (fz_ex s2.sym.ex)) repL_nil)⟩⟩)
      fun c ρ' cls dd F' H' p3 st xo => l.ex c ρ' cls dd σ F' H' p3 (s1.trans st) xo) fun c ρ' cls dd F' H' p st xo => l.ex c ρ' cls dd σ F' H' p st xo
theorem s_rai0 (h : Z.ex ⟨C, [], []⟩ ρ) : StD K W (tRai0 C W) ρ Z := fun σ F H D s l => l.ex _ ρ _ _ σ F H h (Step.refl s) ⟨rfl, .inl ⟨rfl, rfl⟩⟩
variable {u : TS}
theorem ss_rai1 {te : TE} (h : EvD K W te ρ Z.ex fun d ρ1 => d.real = true ∧ Z.ex ⟨C, [f], [d]⟩ ρ1) : StD K W (tSeq (tRai C (spX1 C f) W (tCons te tNil)) u) ρ Z := s_seq (s_rai1 h)
theorem ss_rai2 {g : Str} {te te2 : TE} (h : EvD K W te ρ Z.ex fun d ρ1 => d.real = true ∧ EvD K W te2 ρ1 Z.ex fun d2 ρ2 => d2.real = true ∧ Z.ex ⟨C, [g, f], [d2, d]⟩ ρ2) : StD K W (tSeq (tRai C (spX2 C f g) W (tCons te (tCons te2 tNil))) u) ρ Z := s_seq (s_rai2 h)
theorem ss_rai0 (h : Z.ex ⟨C, [], []⟩ ρ) : StD K W (tSeq (tRai0 C W) u) ρ Z := s_seq (s_rai0 h)
/-! the slot of the exception's name is emptied -/
theorem get_set_no {i j : Nat} {z : Sl} (h : (ρ.set i .no)[j]? = some z) (hz : z ≠ .no) : i ≠ j ∧ ρ[j]? = some z := by
  by_cases e : i = j
  · subst e
    have hi : i < ρ.length := by
      have := (List.getElem?_eq_some_iff.mp h).1
      rw [List.length_set] at this
      exact this
    rw [List.getElem?_set_self hi] at h
    exact absurd (Option.some.inj h).symm hz
  · rw [List.getElem?_set_ne e] at h
    exact ⟨e, h⟩
theorem Step.unset {i : Nat} (s : Sym K F H σ ρ) (hl : lent ρ i = false) : Step K σ ρ F H (σ.set i none) (ρ.set i .no) F H where
  sym := {
    ex := s.ex
    len := by rw [List.length_set, List.length_set]; exact s.len
    sh := fun j d h => by
      obtain ⟨e, h⟩ := get_set_no h (by intro z; cases z)
      obtain ⟨v, a, b⟩ := s.sh j d h
      exact ⟨v, by rw [List.getElem?_set_ne e]; exact a, b⟩
    ow := fun j l d h => by
      obtain ⟨e, h⟩ := get_set_no h (by intro z; cases z)
      obtain ⟨p, a, b⟩ := s.ow j l d h
      exact ⟨p, by rw [List.getElem?_set_ne e]; exact a, b⟩
    inj := fun j k l m d e p h1 h2 h3 h4 => by
      obtain ⟨e1, h1⟩ := get_set_no h1 (by intro z; cases z)
      obtain ⟨e2, h2⟩ := get_set_no h2 (by intro z; cases z)
      rw [List.getElem?_set_ne e1] at h3
      rw [List.getElem?_set_ne e2] at h4
      exact s.inj j k l m d e p h1 h2 h3 h4 }
  exF := Ex.refl F
  keep := fun _ _ h _ => h
  own := fun a h => by
    obtain ⟨j, l, d, h1, h2⟩ := h
    obtain ⟨e, h1⟩ := get_set_no h1 (by intro z; cases z)
    rw [List.getElem?_set_ne e] at h2
    exact .inl ⟨j, l, d, h1, h2⟩
  new := fun _ h => .inl h
  all := fun _ h => h
  stay := fun j d h => by
    have e : i ≠ j := fun z => by
      subst z
      exact lent_no hl h
    exact ⟨d, by rw [List.getElem?_set_ne e]; exact h, by rw [List.getElem?_set_ne e]⟩
def w0 : WX := fun _ _ _ _ => False
/-- behind a try's suite -/
def Pd.suite (Z : Pd) (i : Nat) : Pd := { nx := fun ρ => lent ρ i = false ∧ Z.nx (ρ.set i .no), rt := Z.rt, rn := Z.rn, bk := fun ρ => lent ρ i = false ∧ Z.bk (ρ.set i .no), ct := fun ρ => lent ρ i = false ∧ Z.ct (ρ.set i .no), ex := px0 }
def Pd.tryE (Z : Pd) (x : PX) : Pd := { nx := Z.nx, rt := Z.rt, rn := Z.rn, bk := Z.bk, ct := Z.ct, ex := x }
theorem s_tryA {c : Value} {i : Nat} {tb : WX → TS} {ts : Addr → Value → Option Addr → TS}
    (h : ∀ W', StD K W' (tb W') ρ (Z.tryE fun xc ρ' => ∃ b, PySem.W.exmOne K (.ref xc.C) c = some b ∧ (b = true → lent ρ' i = false ∧ ∀ a dd, StD K w0 (ts a (.ref xc.C) dd) (ρ'.set i (.sh (.exn a dd xc.C xc.fs xc.ds))) (Z.suite i)) ∧ (b = false → Z.ex xc ρ'))) :
    StD K W (tTryAs K c i tb ts W) ρ Z := fun σ F H D s l =>
  h (wAs K c i ts W D) σ F H D s ⟨l.nx, l.rt, l.rn, l.bk, l.ct, fun xc ρ' cls dd σ' F' H' p st xo => by
    obtain ⟨b, h1, h2, h3⟩ := p
    obtain ⟨e, xo2⟩ := id xo
    subst e
    refine ⟨b, h1, fun hb a ha => ?_, fun hb => l.ex xc ρ' _ _ σ' F' H' (h3 hb) st xo⟩
    obtain ⟨hl, hs⟩ := h2 hb
    have hr : Rep K F' (.exn a dd xc.C xc.fs xc.ds) (.ref a) := by
      unfold Rep
      exact ⟨rfl, xo2⟩
    have st2 := Step.set (i := i) st.sym hl hr
    have all := st.trans st2
    exact hs a dd _ F' H' _ st2.sym ⟨fun ρ2 σ2 F2 H2 p2 t2 => l.nx _ _ F2 H2 p2.2 ((all.trans t2).trans (Step.unset t2.sym p2.1)), (l.later all).rt, (l.later all).rn, fun ρ2 σ2 F2 H2 p2 t2 => l.bk _ _ F2 H2 p2.2 ((all.trans t2).trans (Step.unset t2.sym p2.1)),
      fun ρ2 σ2 F2 H2 p2 t2 => l.ct _ _ F2 H2 p2.2 ((all.trans t2).trans (Step.unset t2.sym p2.1)), fun _ _ _ _ _ _ _ p2 => p2.elim⟩⟩
theorem ss_tryA {c : Value} {i : Nat} {tb : WX → TS} {ts : Addr → Value → Option Addr → TS}
    (h : ∀ W', StD K W' (tb W') ρ ((({ Z with nx := fun ρ1 => StD K W u ρ1 Z } : Pd)).tryE fun xc ρ' => ∃ b, PySem.W.exmOne K (.ref xc.C) c = some b ∧ (b = true → lent ρ' i = false ∧ ∀ a dd, StD K w0 (ts a (.ref xc.C) dd) (ρ'.set i (.sh (.exn a dd xc.C xc.fs xc.ds))) (Pd.suite { Z with nx := fun ρ1 => StD K W u ρ1 Z } i)) ∧ (b = false → Z.ex xc ρ'))) :
    StD K W (tSeq (tTryAs K c i tb ts W) u) ρ Z := s_seq (s_tryA h)
/-- e.f in a suite -/
theorem e_xf {a : Addr} {dd : Option Addr} {te : TE} {P : Dt → En → Prop} (h : EvD K W te ρ x fun d ρ1 => ∃ fs ds v, d = .exn a dd C fs ds ∧ (fs.zip ds).lookup f = some v ∧ P v ρ1) : EvD K W (tXf a (.ref C) dd C f te) ρ x P := fun σ F H Q s q w =>
  h σ F H _ s (fun d ρ1 v F1 H1 p s1 r => by
    obtain ⟨fs, ds, z, rfl, hl, p⟩ := p
    have e : Rep K F1 (.exn a dd C fs ds) v := r
    unfold Rep at e
    obtain ⟨rfl, e2⟩ := e
    rcases e2 with ⟨e3, _⟩ | ⟨b, xs, rfl, e4, e5, e6⟩
    · subst e3
      cases hl
    · obtain ⟨y, hy1, hy2⟩ : ∃ y, (fs.zip xs).lookup f = some y ∧ Rep K F1 z y := by
        clear e4 e5 h q r p
        induction fs generalizing ds xs with
        | nil => cases hl
        | cons g fs ih =>
          cases ds with
          | nil => cases hl
          | cons d ds =>
            unfold RepL at e6
            obtain ⟨y, ys, rfl, r1, r2⟩ := e6
            have hl2 : (match f == g with | true => some d | false => (fs.zip ds).lookup f) = some z := hl
            show ∃ y', (match f == g with | true => some y | false => (fs.zip ys).lookup f) = some y' ∧ Rep K F1 z y'
            cases hfg : f == g with
            | true =>
              rw [hfg] at hl2
              cases hl2
              exact ⟨y, rfl, r1⟩
            | false =>
              rw [hfg] at hl2
              exact ih _ hl2 _ r2
      exact ⟨rfl, rfl, b, _, y, rfl, s1.sym.ex _ _ e4, hy1, q z ρ1 y F1 H1 p s1 hy2.toV⟩) w
theorem c_isX {a : Addr} {dd : Option Addr} {fs : List Str} {ds : List Dt} {C D : Addr} {b : Bool} {P : Dt → En → Prop} (T : XcC K C) (hk : PySem.W.kitOne K (.ref C) (.ref D) = some b) (p : P (.bl b) ρ) : CaD K (rIsS K a (.ref C) dd) [.exn a dd C fs ds, .ref D] ρ P := fun σ F H Q us s r q => by
  obtain ⟨v, _, rfl, rv, y, _, rfl, ry, rfl⟩ := r
  have e : Rep K F (.exn a dd C fs ds) v := rv
  unfold Rep at e
  obtain ⟨rfl, e2⟩ := e
  have e3 : y = .ref D := ry
  subst e3
  refine .inr ⟨.ref D, .ref D, C, b, rfl, .own D, rfl, T, ?_, hk, q _ _ _ F H p (Step.refl s) rfl⟩
  rcases e2 with ⟨_, e4⟩ | ⟨z, xs, e4, e5, _⟩
  · exact .inl e4
  · exact .inr ⟨z, _, e4, s.ex _ _ e5⟩
end
end DL
set_option Elab.async false
set_option linter.all false
set_option maxRecDepth 100000
set_option autoImplicit false
set_option maxHeartbeats 4000000
/-! order, loops, defaults, the head with more facts -/
namespace DL
open PySem L2 Evl PyProof.Rows
/-! ### the head -/
def obsE (n : Nat) (fa : List He.Fa) (fn : List He.DefD) (ex : List (Frag → Bool)) (g : Addr → Option Obj) : He.AlD × Bool := (He.obsDG n fa fn g, ex.all fun e => e (He.frG g (He.asD g n)))
def SaysE (fa : List He.Fa) (fn : List He.DefD) (ex : List (Frag → Bool)) (K : Frag) : Prop := He.SaysD fa fn K ∧ (ex.all fun e => e K) = true
def hookE (n : Nat) (fa : List He.Fa) (fn : List He.DefD) (ex : List (Frag → Bool)) : PySem.W.Hook where
  α := He.AlD × Bool
  obs := fun s => obsE n fa fn ex s.heap.get?
  val := fun _ => (He.valD fn, true)
  says := fun _ h => ∃ K : PySem.W.Frag, K.In h ∧ SaysE fa fn ex K
  of := fun _ _ e => ⟨_, He.frG_in, congrArg Prod.fst e, congrArg Prod.snd e⟩
  keeps := fun _ _ _ ⟨K, hK, c⟩ k => ⟨K, PySem.W.Frag.In.keeps hK k, c⟩
theorem obsE_eq {n : Nat} {fa : List He.Fa} {fn : List He.DefD} {ex : List (Frag → Bool)} {g : Addr → Option Obj} {s : Shared} (h : ∀ a, g a = s.heap.get? a) : obsE n fa fn ex g = (hookE n fa fn ex).obs s := by
  have e : g = s.heap.get? := funext h
  rw [e] <;> rfl
theorem SaysE.ex {fa : List He.Fa} {fn : List He.DefD} {ex : List (Frag → Bool)} {K : Frag} (c : SaysE fa fn ex K) (i : Nat) {f : Frag → Bool} (h : ex[i]? = some f := by rfl) : f K = true :=
  List.all_eq_true.mp c.2 f (List.mem_of_getElem? h)
/-! ### data as the model's data -/
mutual
def Dt.pd : Dt → Option PyData
  | .non => some .none
  | .bl b => some (.bool b)
  | .int i => some (.int i)
  | .str x => some (.str x)
  | .lst ds => (pdL ds).map .list
  | .tup ds => (pdL ds).map .tuple
  | _ => none
def pdL : List Dt → Option (List PyData)
  | [] => some []
  | d :: ds => match d.pd, pdL ds with
    | some p, some ps => some (p :: ps)
    | _, _ => none
end
theorem pdL_cons {d : Dt} {ds : List Dt} {ps : List PyData} (h : pdL (d :: ds) = some ps) : ∃ p qs, ps = p :: qs ∧ d.pd = some p ∧ pdL ds = some qs := by
  unfold pdL at h
  cases e : d.pd with
  | none => rw [e] at h; cases h
  | some p =>
    cases e2 : pdL ds with
    | none => rw [e, e2] at h; cases h
    | some qs =>
      rw [e, e2] at h
      cases h
      exact ⟨p, qs, rfl, rfl, rfl⟩
mutual
theorem Rep.dp {K : Frag} {F : Hp} : ∀ {d : Dt} {v : V} {p : PyData}, Rep K F d v → d.pd = some p → Dp K F v p
  | .non, v, p, h, e => by
    unfold Rep at h
    unfold Dt.pd at e
    cases h
    cases e
    exact .non
  | .bl b, v, p, h, e => by
    unfold Rep at h
    unfold Dt.pd at e
    cases h
    cases e
    exact .bl b
  | .int b, v, p, h, e => by
    unfold Rep at h
    unfold Dt.pd at e
    cases h
    cases e
    exact .int b
  | .str b, v, p, h, e => by
    unfold Rep at h
    unfold Dt.pd at e
    cases h
    cases e
    exact .str b
  | .lst ds, v, p, h, e => by
    unfold Rep at h
    unfold Dt.pd at e
    obtain ⟨a, xs, rfl, h1, h2⟩ := h
    cases e2 : pdL ds with
    | none => rw [e2] at e; cases e
    | some ps =>
      rw [e2] at e
      cases e
      exact .lst h1 (RepL.dp h2 e2)
  | .tup ds, v, p, h, e => by
    unfold Rep at h
    unfold Dt.pd at e
    obtain ⟨a, xs, rfl, h1, h2⟩ := h
    cases e2 : pdL ds with
    | none => rw [e2] at e; cases e
    | some ps =>
      rw [e2] at e
      cases e
      exact .tup h1 (RepL.dp h2 e2)
  | .ty _, _, _, _, e => by unfold Dt.pd at e; cases e
  | .ref _, _, _, _, e => by unfold Dt.pd at e; cases e
  | .dic _ _, _, _, _, e => by unfold Dt.pd at e; cases e
  | .ins _ _ _, _, _, _, e => by unfold Dt.pd at e; cases e
  | .exn _ _ _ _ _, _, _, _, e => by unfold Dt.pd at e; cases e
  | .own _, _, _, _, e => by unfold Dt.pd at e; cases e
theorem RepL.dp {K : Frag} {F : Hp} : ∀ {ds : List Dt} {vs : List V} {ps : List PyData}, RepL K F ds vs → pdL ds = some ps → DpAll K F vs ps
  | [], vs, ps, h, e => by
    unfold RepL at h
    unfold pdL at e
    cases h
    cases e
    exact .nil
  | d :: ds, vs, ps, h, e => by
    unfold RepL at h
    obtain ⟨v, r, rfl, h1, h2⟩ := h
    obtain ⟨p, qs, rfl, e1, e2⟩ := pdL_cons e
    exact .cons (Rep.dp h1 e1) (RepL.dp h2 e2)
end
mutual
theorem Dt.pd_plain : ∀ {d : Dt} {p : PyData}, d.pd = some p → p.plain = true
  | .non, p, e => by unfold Dt.pd at e; cases e; rfl
  | .bl b, p, e => by unfold Dt.pd at e; cases e; rfl
  | .int b, p, e => by unfold Dt.pd at e; cases e; rfl
  | .str b, p, e => by unfold Dt.pd at e; cases e; rfl
  | .lst ds, p, e => by
    unfold Dt.pd at e
    cases e2 : pdL ds with
    | none => rw [e2] at e; cases e
    | some ps =>
      rw [e2] at e
      cases e
      show PyData.plain (.list ps) = true
      unfold PyData.plain
      exact pdL_plain e2
  | .tup ds, p, e => by
    unfold Dt.pd at e
    cases e2 : pdL ds with
    | none => rw [e2] at e; cases e
    | some ps =>
      rw [e2] at e
      cases e
      show PyData.plain (.tuple ps) = true
      unfold PyData.plain
      exact pdL_plain e2
  | .ty _, _, e => by unfold Dt.pd at e; cases e
  | .ref _, _, e => by unfold Dt.pd at e; cases e
  | .dic _ _, _, e => by unfold Dt.pd at e; cases e
  | .ins _ _ _, _, e => by unfold Dt.pd at e; cases e
  | .exn _ _ _ _ _, _, e => by unfold Dt.pd at e; cases e
  | .own _, _, e => by unfold Dt.pd at e; cases e
theorem pdL_plain : ∀ {ds : List Dt} {ps : List PyData}, pdL ds = some ps → PyData.plainAll ps = true
  | [], ps, e => by unfold pdL at e; cases e; rfl
  | d :: ds, ps, e => by
    obtain ⟨p, qs, rfl, e1, e2⟩ := pdL_cons e
    unfold PyData.plainAll
    rw [Dt.pd_plain e1, pdL_plain e2]
    rfl
end
theorem pd_real {d : Dt} {p : PyData} (h : d.pd = some p) : d.real = true := by
  cases d with
  | own i => unfold Dt.pd at h; cases h
  | _ => rfl
/-! ### order -/
def rCmpU (f : Int → Int → Bool) (g : List Nat → List Nat → Bool) (h : PyData → PyData → Bool) (K : Frag) : R2 := fun x y H Q => (rI0 fun i j => .bl (f i j)) x y H Q ∨ ((∃ i j, x = .str i ∧ y = .str j ∧ Q (.bl (g i.cps.toList j.cps.toList)) H) ∨
  ∃ d e, Dp K H x d ∧ Dp K H y e ∧ PySem.W.alike d e = true ∧ d ≠ .none ∧ d.depth ≤ 64 ∧ Q (.bl (h d e)) H)
abbrev rLtU := rCmpU (fun i j => decide (i < j)) (fun a b => decide (a < b)) (fun d e => PySem.W.dataLt d e)
abbrev rLeU := rCmpU (fun i j => decide (i ≤ j)) (fun a b => !decide (b < a)) (fun d e => !PySem.W.dataLt e d)
abbrev rGtU := rCmpU (fun i j => decide (j < i)) (fun a b => decide (b < a)) (fun d e => PySem.W.dataLt e d)
abbrev rGeU := rCmpU (fun i j => decide (j ≤ i)) (fun a b => !decide (a < b)) (fun d e => !PySem.W.dataLt d e)
section
variable {X : Cx}
theorem op_ltU (hu : X.A.units + 64 < cLine) : OpR X (compareOp .Lt) (rLtU X.K) := op_lt.or (op_lt_str.or (by
  intro pins s σ H x y v u Q I rx ry h
  obtain ⟨d, e, hd, he, ha, hn, hz, q⟩ := h
  obtain ⟨as, r1⟩ := Dp.reads I d x v hd rx
  obtain ⟨bs, r2⟩ := Dp.reads I e y u he ry
  exact PySem.W.lt_data r1 r2 ha hn (by have := Nat.min_le_left d.depth e.depth; omega) ⟨.bl _, H, I, rfl, q⟩))
theorem op_leU (hu : X.A.units + 64 < cLine) : OpR X (compareOp .LtE) (rLeU X.K) := op_le.or (op_le_str.or (by
  intro pins s σ H x y v u Q I rx ry h
  obtain ⟨d, e, hd, he, ha, hn, hz, q⟩ := h
  obtain ⟨as, r1⟩ := Dp.reads I d x v hd rx
  obtain ⟨bs, r2⟩ := Dp.reads I e y u he ry
  exact PySem.W.le_data r1 r2 ha hn (by have := Nat.min_le_left d.depth e.depth; omega) ⟨.bl _, H, I, rfl, q⟩))
theorem op_gtU (hu : X.A.units + 64 < cLine) : OpR X (compareOp .Gt) (rGtU X.K) := op_gt.or (op_gt_str.or (by
  intro pins s σ H x y v u Q I rx ry h
  obtain ⟨d, e, hd, he, ha, hn, hz, q⟩ := h
  obtain ⟨as, r1⟩ := Dp.reads I d x v hd rx
  obtain ⟨bs, r2⟩ := Dp.reads I e y u he ry
  exact PySem.W.gt_data r1 r2 ha hn (by have := Nat.min_le_left d.depth e.depth; omega) ⟨.bl _, H, I, rfl, q⟩))
theorem op_geU (hu : X.A.units + 64 < cLine) : OpR X (compareOp .GtE) (rGeU X.K) := op_ge.or (op_ge_str.or (by
  intro pins s σ H x y v u Q I rx ry h
  obtain ⟨d, e, hd, he, ha, hn, hz, q⟩ := h
  obtain ⟨as, r1⟩ := Dp.reads I d x v hd rx
  obtain ⟨bs, r2⟩ := Dp.reads I e y u he ry
  exact PySem.W.ge_data r1 r2 ha hn (by have := Nat.min_le_left d.depth e.depth; omega) ⟨.bl _, H, I, rfl, q⟩))
/-! x in t -/
def rInP (K : Frag) (neg : Bool) : R2 := fun x y H Q => ∃ d es, Dp K H x d ∧ (Dp K H y (.list es) ∨ Dp K H y (.tuple es)) ∧ d.plain = true ∧ PyData.plainAll es = true ∧ d.depth ≤ 63 ∧ Q (.bl (neg != es.any fun z => PyData.eqv z d)) H
theorem bne_ff (b : Bool) : (false != b) = b := by cases b <;> rfl
theorem bne_tt (b : Bool) : (true != b) = !b := by cases b <;> rfl
theorem op_inP (hu : X.A.units + 64 < cLine) : OpR X (compareOp .In) (rInP X.K false) := by
  intro pins s σ H x y v u Q I rx ry h
  obtain ⟨d, es, hd, he, ha, hn, hz, q⟩ := h
  obtain ⟨as, r1⟩ := Dp.reads I d x v hd rx
  rw [bne_ff] at q
  rcases he with he | he
  · obtain ⟨bs, r2⟩ := Dp.reads I _ y u he ry
    exact SeqAt.in_list_data r2 r1 hn ha (by have := Nat.min_le_right (PyData.depthAll es) d.depth; omega) ⟨.bl _, H, I, rfl, q⟩
  · obtain ⟨bs, r2⟩ := Dp.reads I _ y u he ry
    exact SeqAt.in_tuple_data r2 r1 hn ha (by have := Nat.min_le_right (PyData.depthAll es) d.depth; omega) ⟨.bl _, H, I, rfl, q⟩
theorem op_notInP (hu : X.A.units + 64 < cLine) : OpR X (compareOp .NotIn) (rInP X.K true) := by
  intro pins s σ H x y v u Q I rx ry h
  obtain ⟨d, es, hd, he, ha, hn, hz, q⟩ := h
  obtain ⟨as, r1⟩ := Dp.reads I d x v hd rx
  rw [bne_tt] at q
  rcases he with he | he
  · obtain ⟨bs, r2⟩ := Dp.reads I _ y u he ry
    exact SeqAt.notIn_list_data r2 r1 hn ha (by have := Nat.min_le_right (PyData.depthAll es) d.depth; omega) ⟨.bl _, H, I, rfl, q⟩
  · obtain ⟨bs, r2⟩ := Dp.reads I _ y u he ry
    exact SeqAt.notIn_tuple_data r2 r1 hn ha (by have := Nat.min_le_right (PyData.depthAll es) d.depth; omega) ⟨.bl _, H, I, rfl, q⟩
end
section
variable {K : Frag} {W : WX} {σ σ1 : L2.St} {ρ ρ1 : En} {F F1 H H1 : Hp} {x : PX} {P : Dt → En → Prop}
theorem o_cmpI {f : Int → Int → Bool} {g : List Nat → List Nat → Bool} {h : PyData → PyData → Bool} {i j : Int} (p : P (.bl (f i j)) ρ) : OpD K (rCmpU f g h K) (.int i) (.int j) ρ P := fun σ F H Q u v s e f' q => by
  cases e
  cases f'
  exact .inl ⟨i, j, rfl, rfl, q _ _ _ F H p (Step.refl s) rfl⟩
theorem o_cmpS {f : Int → Int → Bool} {g : List Nat → List Nat → Bool} {h : PyData → PyData → Bool} {i j : Str} (p : P (.bl (g i.cps.toList j.cps.toList)) ρ) : OpD K (rCmpU f g h K) (.str i) (.str j) ρ P := fun σ F H Q u v s e f' q => by
  cases e
  cases f'
  exact .inr (.inl ⟨i, j, rfl, rfl, q _ _ _ F H p (Step.refl s) rfl⟩)
theorem o_cmpD {f : Int → Int → Bool} {g : List Nat → List Nat → Bool} {h : PyData → PyData → Bool} {a b : Dt} {d e : PyData} (ha : a.pd = some d) (hb : b.pd = some e) (hal : PySem.W.alike d e = true) (hn : d ≠ .none) (hz : d.depth ≤ 64) (p : P (.bl (h d e)) ρ) : OpD K (rCmpU f g h K) a b ρ P := fun σ F H Q u v s r1 r2 q =>
  .inr (.inr ⟨d, e, ((r1.real (pd_real ha)).mono s.ex).dp ha, ((r2.real (pd_real hb)).mono s.ex).dp hb, hal, hn, hz, q _ _ _ F H p (Step.refl s) rfl⟩)
theorem o_eqP {a b : Dt} {d e : PyData} (ha : a.pd = some d) (hb : b.pd = some e) (hz : d.depth ≤ 64) (p : P (.bl (PyData.eqv d e)) ρ) : OpD K (rEqU K) a b ρ P := fun σ F H Q u v s r1 r2 q =>
  .inr ⟨d, e, ((r1.real (pd_real ha)).mono s.ex).dp ha, ((r2.real (pd_real hb)).mono s.ex).dp hb, Dt.pd_plain ha, Dt.pd_plain hb, hz, q _ _ _ F H p (Step.refl s) rfl⟩
theorem o_neP {a b : Dt} {d e : PyData} (ha : a.pd = some d) (hb : b.pd = some e) (hz : d.depth ≤ 64) (p : P (.bl (!PyData.eqv d e)) ρ) : OpD K (rNeU K) a b ρ P := fun σ F H Q u v s r1 r2 q =>
  .inr ⟨d, e, ((r1.real (pd_real ha)).mono s.ex).dp ha, ((r2.real (pd_real hb)).mono s.ex).dp hb, Dt.pd_plain ha, Dt.pd_plain hb, hz, q _ _ _ F H p (Step.refl s) rfl⟩
theorem o_inL {neg : Bool} {a : Dt} {bs : List Dt} {d : PyData} {es : List PyData} (ha : a.pd = some d) (hb : pdL bs = some es) (hz : d.depth ≤ 63) (p : P (.bl (neg != es.any fun z => PyData.eqv z d)) ρ) : OpD K (rInP K neg) a (.lst bs) ρ P := fun σ F H Q u v s r1 r2 q =>
  ⟨d, es, ((r1.real (pd_real ha)).mono s.ex).dp ha, .inl (((r2.real rfl).mono s.ex).dp (show (Dt.lst bs).pd = _ by unfold Dt.pd; rw [hb]; rfl)), Dt.pd_plain ha, pdL_plain hb, hz, q _ _ _ F H p (Step.refl s) rfl⟩
theorem o_inT {neg : Bool} {a : Dt} {bs : List Dt} {d : PyData} {es : List PyData} (ha : a.pd = some d) (hb : pdL bs = some es) (hz : d.depth ≤ 63) (p : P (.bl (neg != es.any fun z => PyData.eqv z d)) ρ) : OpD K (rInP K neg) a (.tup bs) ρ P := fun σ F H Q u v s r1 r2 q =>
  ⟨d, es, ((r1.real (pd_real ha)).mono s.ex).dp ha, .inr (((r2.real rfl).mono s.ex).dp (show (Dt.tup bs).pd = _ by unfold Dt.pd; rw [hb]; rfl)), Dt.pd_plain ha, pdL_plain hb, hz, q _ _ _ F H p (Step.refl s) rfl⟩
theorem e_chainU {f1 f2 : Int → Int → Bool} {g1 g2 : List Nat → List Nat → Bool} {h1 h2 : PyData → PyData → Bool} {ta tb tc : TE} (h : EvD K W ta ρ x fun d ρ1 => ∃ i, d = .int i ∧ EvD K W tb ρ1 x fun e ρ2 => ∃ j, e = .int j ∧ ∃ k, (∀ P : Dt → En → Prop, P (.int k) ρ2 → EvD K W tc ρ2 x P) ∧ P (.bl (f1 i j && f2 j k)) ρ2) :
    EvD K W (tChain (rCmpU f1 g1 h1 K) (rCmpU f2 g2 h2 K) ta tb tc) ρ x P := by
  refine e_chain (e_imp h fun d ρ1 hd => ?_)
  obtain ⟨i, rfl, h2⟩ := hd
  refine e_imp h2 fun e ρ2 he => ?_
  obtain ⟨j, rfl, k, h3, h4⟩ := he
  refine o_cmpI ⟨_, rfl, fun hb => ?_, fun hb => ?_⟩
  · rw [hb] at h4
    exact h3 _ (o_cmpI (by rw [Bool.true_and] at h4; exact h4))
  · rw [hb, Bool.false_and] at h4
    exact h4
/-! ### while, op= -/
theorem s_while {c : TT} {tb : TS} {P : Pd} (I : Nat → En → Prop) (h0 : ∃ m, I m ρ)
    (hs : ∀ m ρ', I m ρ' → TtD K W c ρ' P.ex fun b ρ1 => (b = true → StD K W tb ρ1 (P.loop (fun ρ2 => ∃ m', m' < m ∧ I m' ρ2) P.nx)) ∧ (b = false → P.nx ρ1)) : StD K W (tWhile c tb) ρ P := fun σ F H D s l => by
  obtain ⟨m0, h0⟩ := h0
  refine ⟨fun m σ' H' => ∃ F' ρ', I m ρ' ∧ Step K σ ρ F H σ' ρ' F' H', ⟨m0, F, ρ, h0, Step.refl s⟩, ?_⟩
  rintro m σ' H' ⟨F', ρ', p, st⟩
  refine hs m ρ' p σ' F' H' _ st.sym (fun b ρ1 F1 H1 pb s1 => ?_) fun c ρ2 cls dd F2 H2 p2 s2 xo => l.ex c ρ2 cls dd σ' F2 H2 p2 (st.trans s2) xo
  have all := st.trans s1
  cases b with
  | false => exact l.nx ρ1 σ' F1 H1 (pb.2 rfl) all
  | true =>
    refine ⟨fun σ2 H2 => ∃ m', m' < m ∧ ∃ F2 ρ2, I m' ρ2 ∧ Step K σ ρ F H σ2 ρ2 F2 H2, fun _ _ h => h, ?_⟩
    exact pb.1 rfl σ' F1 H1 _ s1.sym ⟨fun ρ2 σ2 F2 H2 ⟨ρ3, g3, m', hm, p3⟩ t2 => ⟨m', hm, F2, ρ3, p3, (all.trans t2).trans (Step.forget t2.sym g3)⟩, (l.later all).rt, (l.later all).rn, (l.later all).nx,
      fun ρ2 σ2 F2 H2 ⟨ρ3, g3, m', hm, p3⟩ t2 => ⟨m', hm, F2, ρ3, p3, (all.trans t2).trans (Step.forget t2.sym g3)⟩, (l.later all).ex⟩
theorem s_aug {i : Nat} {d : Dt} {te : TE} {r : R2} {P : Pd} (hi : ρ[i]? = some (.sh d)) (h : EvD K W te ρ P.ex fun e ρ1 => ρ1[i]? = some (.sh d) ∧ OpD K r d e ρ1 fun z ρ2 => z.real = true ∧ lent ρ2 i = false ∧ P.nx (ρ2.set i (.sh z))) : StD K W (tAug i te r) ρ P := fun σ F H D s l => by
  obtain ⟨v, e1, e2⟩ := s.sh i d hi
  refine ⟨v, e1, h σ F H _ s (fun e ρ1 u F1 H1 p s1 r1 => ?_) fun c ρ' cls dd F' H' p st xo => l.ex c ρ' cls dd σ F' H' p st xo⟩
  exact p.2 σ F1 H1 _ v u s1.sym (e2.mono s1.exF).toV r1 fun z ρ2 w F2 H2 p2 s2 r2 => l.nx _ _ F2 H2 p2.2.2 ((s1.trans s2).trans (Step.set s2.sym p2.2.1 (r2.real p2.1)))
/-! ### for over lists, tuples, texts -/
theorem s_forL {te : TE} {j : Nat} {tb : TS} {P : Pd} (h : EvD K W te ρ P.ex fun d ρ1 => ∃ ds, d = .lst ds ∧ ∃ I : Nat → En → Prop, I 0 ρ1 ∧
      (∀ (i : Nat) ρ' z, ds[i]? = some z → I i ρ' → lent ρ' j = false ∧ StD K W tb (ρ'.set j (.sh z)) (P.loop (I (i + 1)) P.nx)) ∧ ∀ ρ', I ds.length ρ' → P.nx ρ') :
    StD K W (tFor (iList K te) (gName j) tb) ρ P := fun σ F H D s l =>
  h σ F H _ s (fun d ρ1 v F1 H1 p s1 r => by
    obtain ⟨ds, rfl, I, h0, hs, hd⟩ := p
    have e : Rep K F1 (.lst ds) v := r
    unfold Rep at e
    obtain ⟨a, xs, rfl, h1, h2⟩ := e
    refine ⟨a, rfl, ⟨xs, ex_l s1.sym.ex h1⟩, for_list (xs := xs) (fun i σ' H' => ∃ F' ρ', I i ρ' ∧ Step K σ ρ1 F1 H1 σ' ρ' F' H') ⟨F1, ρ1, h0, Step.refl s1.sym⟩ (fun i σ' H' _ ⟨F', ρ', p, st⟩ => ex_l st.sym.ex (ex_l st.exF h1)) (fun i z σ' H' hi ⟨F', ρ', p, st⟩ => ?_)
          fun σ' H' ⟨F', ρ', p, st⟩ => l.nx ρ' σ' F' H' (hd ρ' (by rw [← h2.length]; exact p)) (s1.trans st)⟩
    obtain ⟨z', hz⟩ : ∃ z', ds[i]? = some z' := by
      have hl : i < xs.length := (List.getElem?_eq_some_iff.mp hi).1
      rw [h2.length] at hl
      exact ⟨_, List.getElem?_eq_getElem hl⟩
    obtain ⟨z2, hz2, hr⟩ := h2.get hz
    rw [hi] at hz2
    cases hz2
    obtain ⟨hl, hb⟩ := hs i ρ' z' hz p
    have st2 := Step.set (i := j) (d := z') (v := z) st.sym hl (hr.mono st.exF)
    have all := (s1.trans st).trans st2
    exact hb _ F' H' _ st2.sym ⟨fun ρ2 σ2 F2 H2 ⟨ρ3, g3, p3⟩ t2 => ⟨F2, ρ3, p3, ((st.trans st2).trans t2).trans (Step.forget t2.sym g3)⟩, (l.later all).rt, (l.later all).rn, (l.later all).nx,
      fun ρ2 σ2 F2 H2 ⟨ρ3, g3, p3⟩ t2 => ⟨F2, ρ3, p3, ((st.trans st2).trans t2).trans (Step.forget t2.sym g3)⟩, (l.later all).ex⟩) fun c ρ' cls dd F' H' p st xo => l.ex c ρ' cls dd σ F' H' p st xo
theorem s_forT {te : TE} {j : Nat} {tb : TS} {P : Pd} (h : EvD K W te ρ P.ex fun d ρ1 => ∃ ds, d = .tup ds ∧ ∃ I : Nat → En → Prop, I 0 ρ1 ∧
      (∀ (i : Nat) ρ' z, ds[i]? = some z → I i ρ' → lent ρ' j = false ∧ StD K W tb (ρ'.set j (.sh z)) (P.loop (I (i + 1)) P.nx)) ∧ ∀ ρ', I ds.length ρ' → P.nx ρ') :
    StD K W (tFor (iTup K te) (gName j) tb) ρ P := fun σ F H D s l =>
  h σ F H _ s (fun d ρ1 v F1 H1 p s1 r => by
    obtain ⟨ds, rfl, I, h0, hs, hd⟩ := p
    have e : Rep K F1 (.tup ds) v := r
    unfold Rep at e
    obtain ⟨a, xs, rfl, h1, h2⟩ := e
    refine ⟨a, rfl, ⟨xs, ex_t s1.sym.ex h1⟩, for_tup (xs := xs) (fun i σ' H' => ∃ F' ρ', I i ρ' ∧ Step K σ ρ1 F1 H1 σ' ρ' F' H') ⟨F1, ρ1, h0, Step.refl s1.sym⟩ (fun i σ' H' _ ⟨F', ρ', p, st⟩ => ex_t st.sym.ex (ex_t st.exF h1)) (fun i z σ' H' hi ⟨F', ρ', p, st⟩ => ?_)
          fun σ' H' ⟨F', ρ', p, st⟩ => l.nx ρ' σ' F' H' (hd ρ' (by rw [← h2.length]; exact p)) (s1.trans st)⟩
    obtain ⟨z', hz⟩ : ∃ z', ds[i]? = some z' := by
      have hl : i < xs.length := (List.getElem?_eq_some_iff.mp hi).1
      rw [h2.length] at hl
      exact ⟨_, List.getElem?_eq_getElem hl⟩
    obtain ⟨z2, hz2, hr⟩ := h2.get hz
    rw [hi] at hz2
    cases hz2
    obtain ⟨hl, hb⟩ := hs i ρ' z' hz p
    have st2 := Step.set (i := j) (d := z') (v := z) st.sym hl (hr.mono st.exF)
    have all := (s1.trans st).trans st2
    exact hb _ F' H' _ st2.sym ⟨fun ρ2 σ2 F2 H2 ⟨ρ3, g3, p3⟩ t2 => ⟨F2, ρ3, p3, ((st.trans st2).trans t2).trans (Step.forget t2.sym g3)⟩, (l.later all).rt, (l.later all).rn, (l.later all).nx,
      fun ρ2 σ2 F2 H2 ⟨ρ3, g3, p3⟩ t2 => ⟨F2, ρ3, p3, ((st.trans st2).trans t2).trans (Step.forget t2.sym g3)⟩, (l.later all).ex⟩) fun c ρ' cls dd F' H' p st xo => l.ex c ρ' cls dd σ F' H' p st xo
theorem for_strs {z : Str} {g : TG} {tb : TS} {D : Ends} {σ : L2.St} {H : Hp} (Pv : Nat → L2.St → Hp → Prop) (h0 : Pv 0 σ H)
    (hs : ∀ i c σ H, z.cps[i]? = some c → Pv i σ H → g (.str ⟨#[c]⟩) σ H fun σ2 H2 => tb { D with nx := Pv (i + 1), ct := Pv (i + 1), bk := D.nx } σ2 H2) (hd : ∀ σ H, Pv z.cps.size σ H → D.nx σ H) :
    ∃ W : Nat → Nat → L2.St → Hp → Prop, (∃ m, W 0 m σ H) ∧ ∀ i m σ H, W i m σ H →
      ((Its z).stop i H ∧ D.nx σ H) ∨ ((Its z).go i H ∧ ∃ N : L2.St → Hp → Prop, (∀ σ' H', N σ' H' → ∃ m', m' < m ∧ W (i + 1) m' σ' H') ∧ ∀ x H', (Its z).yld i H x H' → g x σ H' fun σ2 H2 => tb { D with nx := N, ct := N, bk := D.nx } σ2 H2) := by
  refine ⟨fun i m σ H => m = z.cps.size - i ∧ i ≤ z.cps.size ∧ Pv i σ H, ⟨z.cps.size, by simp, Nat.zero_le _, h0⟩, ?_⟩
  rintro i m σ H ⟨rfl, hi, p⟩
  by_cases hlt : i < z.cps.size
  · refine .inr ⟨hlt, Pv (i + 1), fun σ' H' p' => ⟨z.cps.size - (i + 1), by omega, rfl, hlt, p'⟩, fun x H' y => ?_⟩
    obtain ⟨e, c, hc, hx⟩ := y
    subst e hx
    exact hs i c σ _ hc p
  · have e : i = z.cps.size := by omega
    subst e
    exact .inl ⟨Nat.le_refl _, hd σ H p⟩
theorem s_forS {te : TE} {j : Nat} {tb : TS} {P : Pd} (h : EvD K W te ρ P.ex fun d ρ1 => ∃ z, d = .str z ∧ ∃ I : Nat → En → Prop, I 0 ρ1 ∧
      (∀ (i : Nat) ρ' c, (TL.tl z)[i]? = some c → I i ρ' → lent ρ' j = false ∧ StD K W tb (ρ'.set j (.sh (.str ⟨#[c]⟩))) (P.loop (I (i + 1)) P.nx)) ∧ ∀ ρ', I (TL.tl z).length ρ' → P.nx ρ') :
    StD K W (tFor (iStr te) (gName j) tb) ρ P := fun σ F H D s l =>
  h σ F H _ s (fun d ρ1 v F1 H1 p s1 r => by
    obtain ⟨z, rfl, I, h0, hs, hd⟩ := p
    have e : v = .str z := r
    subst e
    refine ⟨z, rfl, for_strs (z := z) (fun i σ' H' => ∃ F' ρ', I i ρ' ∧ Step K σ ρ1 F1 H1 σ' ρ' F' H') ⟨F1, ρ1, h0, Step.refl s1.sym⟩ (fun i c σ' H' hi ⟨F', ρ', p, st⟩ => ?_)
          fun σ' H' ⟨F', ρ', p, st⟩ => l.nx ρ' σ' F' H' (hd ρ' (show I z.cps.toList.length ρ' by rw [Array.length_toList]; exact p)) (s1.trans st)⟩
    obtain ⟨hl, hb⟩ := hs i ρ' c (show z.cps.toList[i]? = _ by rw [Array.getElem?_toList]; exact hi) p
    have st2 := Step.set (i := j) (d := .str ⟨#[c]⟩) (v := .str ⟨#[c]⟩) st.sym hl (by unfold Rep; rfl)
    have all := (s1.trans st).trans st2
    exact hb _ F' H' _ st2.sym ⟨fun ρ2 σ2 F2 H2 ⟨ρ3, g3, p3⟩ t2 => ⟨F2, ρ3, p3, ((st.trans st2).trans t2).trans (Step.forget t2.sym g3)⟩, (l.later all).rt, (l.later all).rn, (l.later all).nx,
      fun ρ2 σ2 F2 H2 ⟨ρ3, g3, p3⟩ t2 => ⟨F2, ρ3, p3, ((st.trans st2).trans t2).trans (Step.forget t2.sym g3)⟩, (l.later all).ex⟩) fun c ρ' cls dd F' H' p st xo => l.ex c ρ' cls dd σ F' H' p st xo
/-! ### more built-ins -/
theorem m_sindex {a b : Str} {i : Nat} {rest : List Nat} (h : Builtin.Str.occurrences a b 0 a.length 1 = i :: rest) (p : P (.int (i : Nat)) ρ) : MtD K (fun x xs H Q => ∃ a b i rest, x = .str a ∧ xs = [.str b] ∧ Builtin.Str.occurrences a b 0 a.length 1 = i :: rest ∧ Q (.int (i : Nat)) H) (.str a) [.str b] ρ P := fun σ F H Q u us s e r q => by
  cases e
  obtain ⟨v, _, rfl, rv, rfl⟩ := r
  have e : v = .str b := rv
  subst e
  exact ⟨a, b, i, rest, rfl, rfl, h, q _ _ _ F H p (Step.refl s) rfl⟩
theorem c_strI {i : Int} (h : i.natAbs.log2 < 1920) (p : P (.str (toString i)) ρ) : CaD K (fun xs H Q => ∃ i, xs = [.int i] ∧ i.natAbs.log2 < 1920 ∧ Q (.str (toString i)) H) [.int i] ρ P := fun σ F H Q us s r q => by
  obtain ⟨v, _, rfl, rv, rfl⟩ := r
  have e : v = .int i := rv
  subst e
  exact ⟨i, rfl, h, q _ _ _ F H p (Step.refl s) rfl⟩
theorem c_max2 {i j : Int} (p : P (.int (if j > i then j else i)) ρ) : CaD K (fun xs H Q => ∃ i j, xs = [.int i, .int j] ∧ Q (.int (if j > i then j else i)) H) [.int i, .int j] ρ P := fun σ F H Q us s r q => by
  obtain ⟨v, _, rfl, rv, v2, _, rfl, rv2, rfl⟩ := r
  have e : v = .int i := rv
  have e2 : v2 = .int j := rv2
  subst e e2
  exact ⟨i, j, rfl, q _ _ _ F H p (Step.refl s) rfl⟩
theorem c_min2 {i j : Int} (p : P (.int (if j < i then j else i)) ρ) : CaD K (fun xs H Q => ∃ i j, xs = [.int i, .int j] ∧ Q (.int (if j < i then j else i)) H) [.int i, .int j] ρ P := fun σ F H Q us s r q => by
  obtain ⟨v, _, rfl, rv, v2, _, rfl, rv2, rfl⟩ := r
  have e : v = .int i := rv
  have e2 : v2 = .int j := rv2
  subst e e2
  exact ⟨i, j, rfl, q _ _ _ F H p (Step.refl s) rfl⟩
/-! ### defaults -/
theorem e_callD {S : Fsp} {ta : TA} {dvs : List V} {dds : List Dt} (hdv : ∀ F, RepL K F dds dvs) (h : ArD K W ta ρ x fun ds ρ1 => ∃ i, ds ++ dds = S.arg i ∧ allReal ds = true ∧ S.pre i ∧ (∀ d, S.post i d → P d ρ1) ∧ ∀ c, S.exc i c → x c ρ1) :
    EvD K W (tCallSD (DSp K S) dvs (WE W) ta) ρ x P := fun σ F H Q s q w =>
  h σ F H _ s (fun ds ρ1 vs F1 H1 p s1 r => by
    obtain ⟨i, hi, hr, hp, hk, hx⟩ := p
    exact ⟨F1, i, s1.sym.ex, hi ▸ (r.real hr).app (hdv F1), hp, fun d pd v H' e rd => q d ρ1 v _ H' (hk d pd) (s1.trans (Step.grow s1.sym e)) rd.toV, fun c pc cls dd H' e xo => w c ρ1 cls dd _ H' (hx c pc) (s1.trans (Step.grow s1.sym e)) xo⟩) w
variable {u : TS} {Z : Pd}
theorem ss_while {c : TT} {tb : TS} (I : Nat → En → Prop) (h0 : ∃ m, I m ρ)
    (hs : ∀ m ρ', I m ρ' → TtD K W c ρ' Z.ex fun b ρ1 => (b = true → ∀ Z', LoopZ Z Z' (fun ρ2 => ∃ m', m' < m ∧ I m' ρ2) (fun ρ2 => StD K W u ρ2 Z) → StD K W tb ρ1 Z') ∧ (b = false → StD K W u ρ1 Z)) : StD K W (tSeq (tWhile c tb) u) ρ Z :=
  s_seq (s_while I h0 fun m ρ' p σ F H Q s q w => hs m ρ' p σ F H Q s (fun b ρ1 F1 H1 pb => q b ρ1 F1 H1 ⟨fun e => pb.1 e _ loopZ, pb.2⟩) w)
theorem ss_aug {i : Nat} {d : Dt} {te : TE} {r : R2} (hi : ρ[i]? = some (.sh d)) (h : EvD K W te ρ Z.ex fun e ρ1 => ρ1[i]? = some (.sh d) ∧ OpD K r d e ρ1 fun z ρ2 => z.real = true ∧ lent ρ2 i = false ∧ StD K W u (ρ2.set i (.sh z)) Z) : StD K W (tSeq (tAug i te r) u) ρ Z := s_seq (s_aug hi h)
theorem ss_forL {te : TE} {j : Nat} {tb : TS} (h : EvD K W te ρ Z.ex fun d ρ1 => ∃ ds, d = .lst ds ∧ ∃ I : Nat → En → Prop, I 0 ρ1 ∧
      (∀ (i : Nat) ρ' z, ds[i]? = some z → I i ρ' → lent ρ' j = false ∧ ∀ Z', LoopZ Z Z' (I (i + 1)) (fun ρ2 => StD K W u ρ2 Z) → StD K W tb (ρ'.set j (.sh z)) Z') ∧ ∀ ρ', I ds.length ρ' → StD K W u ρ' Z) :
    StD K W (tSeq (tFor (iList K te) (gName j) tb) u) ρ Z := s_seq (s_forL (e_imp h fun d ρ1 ⟨ds, e, I, h3, h4, h5⟩ => ⟨ds, e, I, h3, fun i ρ' z hi p => ⟨(h4 i ρ' z hi p).1, (h4 i ρ' z hi p).2 _ loopZ⟩, h5⟩))
theorem ss_forT {te : TE} {j : Nat} {tb : TS} (h : EvD K W te ρ Z.ex fun d ρ1 => ∃ ds, d = .tup ds ∧ ∃ I : Nat → En → Prop, I 0 ρ1 ∧
      (∀ (i : Nat) ρ' z, ds[i]? = some z → I i ρ' → lent ρ' j = false ∧ ∀ Z', LoopZ Z Z' (I (i + 1)) (fun ρ2 => StD K W u ρ2 Z) → StD K W tb (ρ'.set j (.sh z)) Z') ∧ ∀ ρ', I ds.length ρ' → StD K W u ρ' Z) :
    StD K W (tSeq (tFor (iTup K te) (gName j) tb) u) ρ Z := s_seq (s_forT (e_imp h fun d ρ1 ⟨ds, e, I, h3, h4, h5⟩ => ⟨ds, e, I, h3, fun i ρ' z hi p => ⟨(h4 i ρ' z hi p).1, (h4 i ρ' z hi p).2 _ loopZ⟩, h5⟩))
theorem ss_forS {te : TE} {j : Nat} {tb : TS} (h : EvD K W te ρ Z.ex fun d ρ1 => ∃ z, d = .str z ∧ ∃ I : Nat → En → Prop, I 0 ρ1 ∧
      (∀ (i : Nat) ρ' c, (TL.tl z)[i]? = some c → I i ρ' → lent ρ' j = false ∧ ∀ Z', LoopZ Z Z' (I (i + 1)) (fun ρ2 => StD K W u ρ2 Z) → StD K W tb (ρ'.set j (.sh (.str ⟨#[c]⟩))) Z') ∧ ∀ ρ', I (TL.tl z).length ρ' → StD K W u ρ' Z) :
    StD K W (tSeq (tFor (iStr te) (gName j) tb) u) ρ Z := s_seq (s_forS (e_imp h fun d ρ1 ⟨ds, e, I, h3, h4, h5⟩ => ⟨ds, e, I, h3, fun i ρ' z hi p => ⟨(h4 i ρ' z hi p).1, (h4 i ρ' z hi p).2 _ loopZ⟩, h5⟩))
end
/-- a def of the module, some of whose parameters are filled from its defaults -/
def FnGD (P : Program) (w : World) (K : Frag) (mg : Str → Option Value) (base : Heap) (k : Nat) (x : Str) (ps : List Str) (sp : Sp) (dvs : List V) : Prop :=
  ∃ (f : Addr) (fd : FuncData) (ds : List Value), mg x = some (.ref f) ∧ PySem.W.keepIn K (.ref f) = true ∧ FnOk P w K mg base (L2.CX P w) k f fd ps sp ∧ Binds K fd ps ds ∧ Vals dvs ds
theorem pe_fnD {X : Cx} {k : Nat} {x : Str} {ps : List Str} {sp : Sp} {dvs : List V} {p pos : Pos} {e : Expr} {es : List Expr} {t : TA} {W : WX} (G : FnGD X.prog X.w X.K X.mg X.base k x ps sp dvs) (hr : Room k X.A) (tk : Takes X W) (hg : Gl X x) (ha : PA X (e :: es) t) (hdb : (x == ("__debug__" : Str)) = false := by decide)
    (he : starEach (e :: es) X.env = (false, eval e X.env) :: starEach es X.env := by rfl) (hpl : (backTo pos (starEach es X.env)).any (·.1) = false := by rfl) : PE X (.Call (.Name x p) (e :: es) [] pos) (tCallSD sp dvs (WE W) t) := by
  obtain ⟨f, fd, ds, h1, h2, h3, h4, h5⟩ := G
  exact pe_callSD h3 hr hg h1 h2 h4 h5 (fun σ => passAt tk σ) ha hdb he hpl
end DL
set_option Elab.async false
set_option linter.all false
set_option maxRecDepth 100000
set_option autoImplicit false
set_option maxHeartbeats 4000000
namespace DL
open PySem L2 Evl PyProof.Rows
/-! the same in an except suite: K by itself -/
section
variable {X : Cx} {K : Frag}
theorem op_addK (hK : X.K = K) : OpR X (binaryOp .Add) (rAddU K) := hK ▸ op_addU
theorem op_eqK (hK : X.K = K) (hu : X.A.units + 64 < cLine) : OpR X (compareOp .Eq) (rEqU K) := hK ▸ op_eqU hu
theorem op_neK (hK : X.K = K) (hu : X.A.units + 64 < cLine) : OpR X (compareOp .NotEq) (rNeU K) := hK ▸ op_neU hu
theorem op_ltK (hK : X.K = K) (hu : X.A.units + 64 < cLine) : OpR X (compareOp .Lt) (rLtU K) := hK ▸ op_ltU hu
theorem op_leK (hK : X.K = K) (hu : X.A.units + 64 < cLine) : OpR X (compareOp .LtE) (rLeU K) := hK ▸ op_leU hu
theorem op_gtK (hK : X.K = K) (hu : X.A.units + 64 < cLine) : OpR X (compareOp .Gt) (rGtU K) := hK ▸ op_gtU hu
theorem op_geK (hK : X.K = K) (hu : X.A.units + 64 < cLine) : OpR X (compareOp .GtE) (rGeU K) := hK ▸ op_geU hu
theorem op_inK (hK : X.K = K) (hu : X.A.units + 64 < cLine) : OpR X (compareOp .In) (rInP K false) := hK ▸ op_inP hu
theorem op_notInK (hK : X.K = K) (hu : X.A.units + 64 < cLine) : OpR X (compareOp .NotIn) (rInP K true) := hK ▸ op_notInP hu
theorem sl_K (hK : X.K = K) : SlR X (rSlU K) := hK ▸ sl_u
theorem call_isiK (hK : X.K = K) : CallR X (.builtin "isinstance") (rIsi K) := hK ▸ call_isi
theorem pi_listK {tg l : Expr} {tl : TE} (hK : X.K = K) (hl : PE X l tl) : PI X tg l (iList K tl) := hK ▸ pi_list hl
theorem pi_tupK {tg l : Expr} {tl : TE} (hK : X.K = K) (hl : PE X l tl) : PI X tg l (iTup K tl) := hK ▸ pi_tup hl
theorem pe_bm0K {o : Expr} {to : TE} {name : Str} {apos cpos : Pos} {T id : String} {r : V → List V → Hp → VK → Prop} (hK : X.K = K) (pa : PlainAttrs T) (slot : Slot T name id) (hty : typeOf (.builtin id) = pure (.type "method_descriptor")) (hm : MtR X id r) (ho : PE X o to)
    (hbase : attributeBase o name X.env (eval o X.env) = eval o X.env := by rfl) (hline : (apos.endLine == cpos.line) = true := by rfl) : PE X (.Call (.Attribute o name apos) [] [] cpos) (tBM0 K T r to) := hK ▸ pe_bm0 pa slot hty hm ho hbase hline
theorem pe_bmK {o e : Expr} {es : List Expr} {to : TE} {t : TA} {name : Str} {apos cpos : Pos} {T id : String} {r : V → List V → Hp → VK → Prop} (hK : X.K = K) (pa : PlainAttrs T) (slot : Slot T name id) (hty : typeOf (.builtin id) = pure (.type "method_descriptor")) (hm : MtR X id r) (ho : PE X o to) (ha : PA X (e :: es) t)
    (hbase : attributeBase o name X.env (eval o X.env) = eval o X.env := by rfl)
    (hfew : ((backTo cpos (starEach (e :: es) X.env)).all (fun x => !x.1) && (backToKw cpos (keywordEach [] X.env)).all (fun x => x.1.isSome)
      && decide ((e :: es).length + ([] : List Keyword).length + (if ([] : List Keyword).isEmpty then 0 else 1) < 30)) = true := by rfl)
    (hline : (apos.endLine == cpos.line) = true := by rfl) (hs : starEach (e :: es) X.env = (false, eval e X.env) :: starEach es X.env := by rfl) (hplain : (backTo cpos (starEach es X.env)).any (·.1) = false := by rfl) :
    PE X (.Call (.Attribute o name apos) (e :: es) [] cpos) (tBM K T r to t) := hK ▸ pe_bm pa slot hty hm ho ha hbase hfew hline hs hplain
theorem call_lenK (hK : X.K = K) : CallR X (.builtin "len") (rLenU K) := hK ▸ call_lenU
theorem ix_seqK (hK : X.K = K) : IxR X (rIxU K) := hK ▸ ix_seqU
theorem pt_truK (hK : X.K = K) {a : Expr} {ta : TE} (ha : PE X a ta) (he : ∀ whole, isTrue a X.env whole = (do let v ← whole; standAt a.pos; holding [v] (truthy v)) := by intro _; rfl) : PT X a (tTru K ta) := hK ▸ pt_tru ha he
end
section
variable {K : Frag} {W : WX} {σ σ1 : L2.St} {ρ ρ1 ρ2 : En} {F F1 F2 H H1 H2 H3 : Hp} {x : PX} {P : Dt → En → Prop}
/-- a new object that no slot owns is changed -/
theorem Step.side {p : Addr} (st : Step K σ ρ F H σ1 ρ2 F2 H2) (hp : H p = none) (hno : ¬ OwA σ1 ρ2 p) (hF : F2 p = none) (h2 : H2 p ≠ none) (h3 : H3 p ≠ none) (b : Bt H2 H3 p) : Step K σ ρ F H σ1 ρ2 (Fz F2 H2 H3) H3 := by
  have s := st.sym
  have exF : Ex F2 (Fz F2 H2 H3) := fz_ex s.ex
  have np : ∀ a u, F2 a = some u → a ≠ p := fun a u e z => by
    subst z
    rw [hF] at e
    cases e
  exact {
    sym := {
      ex := fun a u e => by
        cases q : H2 a with
        | none =>
          rw [fz_new q] at e
          exact e
        | some w =>
          rw [fz_old q] at e
          exact b a u (s.ex a u e) (np a u e)
      len := s.len
      sh := fun j e h => by
        obtain ⟨v, a, r⟩ := s.sh j e h
        exact ⟨v, a, r.mono exF⟩
      ow := fun j m e h => by
        obtain ⟨q, a, r, c⟩ := s.ow j m e h
        have ne : q ≠ p := fun z => by
          subst z
          exact hno ⟨j, m, e, h, a⟩
        cases hq : H2 q with
        | none => exact absurd hq c.there
        | some u => exact ⟨q, a, by rw [fz_old hq]; exact r, c.mono exF (by rw [hq]; exact b q u hq ne)⟩
      inj := s.inj }
    exF := st.exF.trans exF
    keep := fun a u h n => b a u (st.keep a u h n) fun z => by
      subst z
      rw [hp] at h
      cases h
    own := st.own
    new := fun a h => by
      cases q : H2 a with
      | none =>
        refine .inr (.inl ?_)
        cases e : H a with
        | none => rfl
        | some u => exact absurd q (st.all a (by rw [e]; exact fun z => nomatch z))
      | some u =>
        rw [fz_old q] at h
        exact st.new a h
    all := fun a h => by
      have ne : a ≠ p := fun z => by
        subst z
        exact h hp
      cases q : H2 a with
      | none => exact absurd q (st.all a h)
      | some u => rw [b a u q ne]; exact fun z => nomatch z
    stay := st.stay }
/-- f(g(..), ..): the first argument is a new object that f changes -/
theorem e_callNO {S : Osp} {te : TE} {ta : TA} (h : EvN K W te ρ x fun d ρ1 => ArD K W ta ρ1 x fun es ρ2 => ∃ (i : S.I), d = S.own i ∧ es = S.arg i ∧ allReal es = true ∧ S.pre i ∧
      (∀ r o, S.post i r o → P r ρ2) ∧ ∀ c o, S.exc i c o → x c ρ2) : EvD K W (tCallS (OSp K S) (WE W) (tCons te ta)) ρ x P := fun σ F H Q s q w =>
  h σ F H _ s (fun d ρ1 p o F1 H1 pa s1 hp ho => by
    have st1 := s1.trans (Step.more (o := o) s1.sym hp)
    have hpH : H p = none := by
      cases e : H p with
      | none => rfl
      | some u => exact absurd hp (s1.all p (by rw [e]; exact fun z => nomatch z))
    have nof : ∀ {F' H' : Hp} {ρ' : En}, Step K σ ρ1 F1 (upd H1 p o) σ ρ' F' H' → ¬ OwA σ ρ' p ∧ F' p = none ∧ H' p = some o := fun {F' H' ρ'} st => by
      have n1 : ¬ OwA σ ρ1 p := fun ⟨j, l, e, h1, h2⟩ => by
        obtain ⟨q, a, b, c⟩ := s1.sym.ow j l e h1
        rw [h2] at a
        have z := Option.some.inj (Option.some.inj a)
        injection z with z
        subst z
        exact c.there hp
      have h0 : upd H1 p o p = some o := upd_same
      refine ⟨fun z => ?_, ?_, st.keep p o h0 n1⟩
      · rcases st.own p z with y | y
        · exact n1 y
        · rw [h0] at y
          cases y
      · cases e : F' p with
        | none => rfl
        | some u =>
          rcases st.new p (by rw [e]; exact fun z => nomatch z) with y | y | y
          · exact absurd (ex_free s1.sym.ex hp) y
          · rw [h0] at y
            cases y
          · exact absurd y n1
    refine pa σ F1 _ _ (Step.more s1.sym hp).sym (fun es ρ2 us F2 H2 p2 s2 r2 => ?_) fun c ρ' cls dd F' H' px st xo => w c ρ' cls dd F' H' px (st1.trans st) xo
    obtain ⟨i, rfl, rfl, hr, hpre, hk, hx⟩ := p2
    obtain ⟨n1, n2, n3⟩ := nof s2
    have st2 := st1.trans s2
    have ho2 : Own K F2 H2 p (S.own i) := ho.mono s2.exF (by rw [n3, upd_same])
    refine ⟨F2, i, p, us, rfl, s2.sym.ex, n2, ho2, r2.real hr, hpre, fun r o' pd v H3 b ow rd => ?_, fun c o' pc cls dd H3 b ow xo => ?_⟩
    · exact q r ρ2 v _ H3 (hk r o' pd) (st2.side hpH n1 n2 (by rw [n3]; exact fun z => nomatch z) ow.there b) rd.toV
    · exact w c ρ2 cls dd _ H3 (hx c o' pc) (st2.side hpH n1 n2 (by rw [n3]; exact fun z => nomatch z) ow.there b) xo) w
/-- if c: ..: c is false -/
theorem ss_skip {c : TT} {t v : TS} {Z : Pd} {ρ' : En} (h : TtD K W c ρ Z.ex fun b ρ1 => b = false ∧ ρ1 = ρ') (k : StD K W v ρ' Z) : StD K W (tSeq (tIfS c t tNext) v) ρ Z :=
  ss_if fun σ F H Q s q w => h σ F H Q s (fun b ρ1 F1 H1 ⟨hb, hr⟩ => q b ρ1 F1 H1 ⟨fun e => absurd (hb.symm.trans e) (by decide), fun _ => hr ▸ ss_next k⟩) w
theorem s_skip {c : TT} {t : TS} {Z : Pd} (h : TtD K W c ρ Z.ex fun b ρ1 => b = false ∧ Z.nx ρ1) : StD K W (tIfS c t tNext) ρ Z :=
  s_if fun σ F H Q s q w => h σ F H Q s (fun b ρ1 F1 H1 ⟨hb, hr⟩ => q b ρ1 F1 H1 ⟨fun e => absurd (hb.symm.trans e) (by decide), fun _ => s_next hr⟩) w
theorem ss_join {t v : TS} {Z : Pd} (J : En → Prop) (h : StD K W t ρ { Z with nx := J }) (k : ∀ ρ', J ρ' → StD K W v ρ' Z) : StD K W (tSeq t v) ρ Z :=
  s_seq (s_imp h (fun ρ' j => k ρ' j) (fun _ _ z => z) (fun _ _ z => z) (fun _ z => z) (fun _ z => z) (fun _ _ z => z))
theorem u_neg {i : Int} (p : P (.int (-i)) ρ) : UnD K (rU fun i => .int (-i)) (.int i) ρ P := fun σ F H Q u s e q => by
  cases e
  exact ⟨i, rfl, q _ _ _ F H p (Step.refl s) rfl⟩
end
end DL
set_option Elab.async false
set_option linter.all false
set_option maxRecDepth 100000
set_option autoImplicit false
set_option maxHeartbeats 4000000
/-! figures and words: the plain law -/
namespace M12
open PySem
open TL (tl)
/-- figures -/
def dig (n : Nat) : List Nat := if h : n < 10 then [48 + n] else dig (n / 10) ++ [48 + n % 10]
termination_by n
decreasing_by omega
/-- words -/
def wrd (n : Nat) : List Nat := if h : n = 0 then [] else wrd ((n - 1) / 26) ++ [97 + (n - 1) % 26]
termination_by n
decreasing_by omega
theorem dig_lt {n : Nat} (h : n < 10) : dig n = [48 + n] := by rw [dig, dif_pos h]
theorem dig_ge {n : Nat} (h : ¬ n < 10) : dig n = dig (n / 10) ++ [48 + n % 10] := by rw [dig, dif_neg h]
theorem wrd_0 : wrd 0 = [] := by rw [wrd, dif_pos rfl]
theorem wrd_s {n : Nat} (h : n ≠ 0) : wrd n = wrd ((n - 1) / 26) ++ [97 + (n - 1) % 26] := by rw [wrd, dif_neg h]
def tx (l : List Nat) : Str := ⟨l.toArray⟩
theorem tl_tx (l : List Nat) : tl (tx l) = l := by
  show l.toArray.toList = l
  simp
theorem tx_tl (z : Str) : tx (tl z) = z := TL.ext_tl (tl_tx _)
theorem tx_inj {l m : List Nat} (h : tx l = tx m) : l = m := by rw [← tl_tx l, ← tl_tx m, h]
theorem tx_len (l : List Nat) : (tx l).length = l.length := by rw [← DL.tl_len, tl_tx]
theorem tx_app (l m : List Nat) : tx l ++ tx m = tx (l ++ m) := TL.ext_tl (by rw [TL.tl_append, tl_tx, tl_tx, tl_tx])
theorem tx_one (c : Nat) : (⟨#[c]⟩ : Str) = tx [c] := rfl
/-! str(n) -/
theorem toDigits_dig : ∀ n : Nat, (Nat.toDigits 10 n).map Char.toNat = dig n := by
  intro n
  induction n using Nat.strongRecOn with
  | _ n ih =>
    by_cases h : n < 10
    · rw [dig_lt h, Nat.toDigits_of_lt_base h]
      have : ∀ k, k < 10 → [Nat.digitChar k].map Char.toNat = [48 + k] := by decide
      exact this n h
    · rw [dig_ge h, Nat.toDigits_of_base_le (by omega) (by omega), List.map_append, ih (n / 10) (by omega)]
      have : ∀ k, k < 10 → [Nat.digitChar k].map Char.toNat = [48 + k] := by decide
      rw [this (n % 10) (by omega)]
theorem str_int {n : Nat} : (Str.ofString (toString (n : Int)) : Str) = tx (dig n) := by
  rw [Str.ofString_eq_toList]
  show (⟨((toString (n : Int)).toList.map Char.toNat).toArray⟩ : Str) = ⟨(dig n).toArray⟩
  have : (toString (n : Int)).toList = Nat.toDigits 10 n := by
    show (Nat.repr n).toList = _
    unfold Nat.repr
    simp
  rw [this, toDigits_dig]
/-! signs -/
theorem dig_mem {n : Nat} : ∀ c ∈ dig n, 48 ≤ c ∧ c < 58 := by
  induction n using Nat.strongRecOn with
  | _ n ih =>
    intro c hc
    by_cases h : n < 10
    · rw [dig_lt h] at hc
      simp at hc
      omega
    · rw [dig_ge h, List.mem_append] at hc
      rcases hc with hc | hc
      · exact ih (n / 10) (by omega) c hc
      · simp at hc
        omega
theorem wrd_mem {n : Nat} : ∀ c ∈ wrd n, 97 ≤ c ∧ c < 123 := by
  induction n using Nat.strongRecOn with
  | _ n ih =>
    intro c hc
    by_cases h : n = 0
    · subst h
      rw [wrd_0] at hc
      cases hc
    · rw [wrd_s h, List.mem_append] at hc
      rcases hc with hc | hc
      · exact ih _ (by omega) c hc
      · simp at hc
        omega
theorem dig_ne {n : Nat} : dig n ≠ [] := by
  by_cases h : n < 10
  · rw [dig_lt h]; simp
  · rw [dig_ge h]; simp
theorem wrd_ne {n : Nat} (h : n ≠ 0) : wrd n ≠ [] := by rw [wrd_s h]; simp
/-- the first figure -/
theorem dig_head {n : Nat} : ∃ c r, dig n = c :: r ∧ (c = 48 → r = []) := by
  induction n using Nat.strongRecOn with
  | _ n ih =>
    by_cases h : n < 10
    · rw [dig_lt h]
      exact ⟨_, _, rfl, fun _ => rfl⟩
    · rw [dig_ge h]
      obtain ⟨c, r, e, hc⟩ := ih (n / 10) (by omega)
      rw [e]
      refine ⟨c, r ++ [48 + n % 10], rfl, fun h48 => ?_⟩
      exfalso
      have hr := hc h48
      subst hr
      by_cases h2 : n / 10 < 10
      · rw [dig_lt h2] at e
        simp at e
        omega
      · rw [dig_ge h2] at e
        have := congrArg List.length e
        simp at this
        exact dig_ne this
theorem dig_len : ∀ (k n : Nat), n < 2 ^ k → (dig n).length ≤ k + 1 := by
  intro k
  induction k with
  | zero =>
    intro n h
    rw [dig_lt (by omega)]
    simp
  | succ k ih =>
    intro n h
    by_cases h1 : n < 10
    · rw [dig_lt h1]; simp
    · rw [dig_ge h1, List.length_append]
      have := ih (n / 10) (by rw [Nat.pow_succ] at h; omega)
      simp
      omega
theorem wrd_len : ∀ (k n : Nat), n < 2 ^ k → (wrd n).length ≤ k := by
  intro k
  induction k with
  | zero =>
    intro n h
    have : n = 0 := by omega
    subst this
    rw [wrd_0]
    simp
  | succ k ih =>
    intro n h
    by_cases h1 : n = 0
    · subst h1
      rw [wrd_0]
      simp
    · rw [wrd_s h1, List.length_append]
      have := ih ((n - 1) / 26) (by rw [Nat.pow_succ] at h; omega)
      simp
      omega
/-! reading -/
def val (b o k : Nat) (l : List Nat) : Nat := l.foldl (fun a c => a * b + (c - o) + k) 0
theorem val_snoc (b o k : Nat) (l : List Nat) (c : Nat) : val b o k (l ++ [c]) = val b o k l * b + (c - o) + k := by
  unfold val
  rw [List.foldl_append]
  rfl
theorem val_dig (n : Nat) : val 10 48 0 (dig n) = n := by
  induction n using Nat.strongRecOn with
  | _ n ih =>
    by_cases h : n < 10
    · rw [dig_lt h]
      show 0 * 10 + (48 + n - 48) + 0 = n
      omega
    · rw [dig_ge h, val_snoc, ih (n / 10) (by omega)]
      omega
theorem val_wrd (n : Nat) : val 26 97 1 (wrd n) = n := by
  induction n using Nat.strongRecOn with
  | _ n ih =>
    by_cases h : n = 0
    · subst h
      rw [wrd_0]
      rfl
    · rw [wrd_s h, val_snoc, ih _ (by omega)]
      omega
theorem wrd_val : ∀ l : List Nat, (∀ c ∈ l, 97 ≤ c ∧ c < 123) → wrd (val 26 97 1 l) = l := by
  intro l
  induction hn : l.length generalizing l with
  | zero =>
    intro _
    have : l = [] := List.length_eq_zero_iff.mp hn
    subst this
    exact wrd_0
  | succ k ih =>
    intro h
    have hne : l ≠ [] := fun z => by
      subst z
      cases hn
    obtain ⟨m, c, rfl⟩ : ∃ m c, l = m ++ [c] := ⟨l.dropLast, l.getLast hne, (List.dropLast_concat_getLast hne).symm⟩
    have hc := h c (by simp)
    have hm := ih m (by simpa using hn) fun d hd => h d (by simp [hd])
    rw [val_snoc, wrd_s (by omega)]
    have e1 : (val 26 97 1 m * 26 + (c - 97) + 1 - 1) / 26 = val 26 97 1 m := by omega
    have e2 : 97 + (val 26 97 1 m * 26 + (c - 97) + 1 - 1) % 26 = c := by omega
    rw [e1, e2, hm]
theorem val_lt : ∀ (l : List Nat), (∀ c ∈ l, 97 ≤ c ∧ c < 123) → val 26 97 1 l + 1 ≤ 32 ^ l.length := by
  intro l
  induction hn : l.length generalizing l with
  | zero =>
    intro _
    have : l = [] := List.length_eq_zero_iff.mp hn
    subst this
    decide
  | succ k ih =>
    intro h
    have hne : l ≠ [] := fun z => by
      subst z
      cases hn
    obtain ⟨m, c, rfl⟩ : ∃ m c, l = m ++ [c] := ⟨l.dropLast, l.getLast hne, (List.dropLast_concat_getLast hne).symm⟩
    have hc := h c (by simp)
    have hm := ih m (by simpa using hn) fun d hd => h d (by simp [hd])
    rw [val_snoc, Nat.pow_succ]
    omega
/-! words in order -/
def SLt (a b : List Nat) : Prop := a.length < b.length ∨ (a.length = b.length ∧ a < b)
theorem lt_app {a b : List Nat} (h : a.length = b.length) (hlt : a < b) (x y : List Nat) : a ++ x < b ++ y := by
  induction a generalizing b with
  | nil =>
    cases b with
    | nil => exact absurd hlt (by simp)
    | cons c b => cases h
  | cons d a ih =>
    cases b with
    | nil => cases h
    | cons c b =>
      rw [List.cons_lt_cons_iff] at hlt
      rw [List.cons_append, List.cons_append, List.cons_lt_cons_iff]
      rcases hlt with hlt | ⟨e, hlt⟩
      · exact .inl hlt
      · exact .inr ⟨e, ih (by simpa using h) hlt⟩
theorem lt_pre (p : List Nat) {x y : Nat} (h : x < y) : p ++ [x] < p ++ [y] := by
  induction p with
  | nil =>
    rw [List.nil_append, List.nil_append, List.cons_lt_cons_iff]
    exact .inl h
  | cons c p ih =>
    rw [List.cons_append, List.cons_append, List.cons_lt_cons_iff]
    exact .inr ⟨rfl, ih⟩
theorem wrd_order (n : Nat) (h : n ≠ 0) : SLt (wrd n) (wrd (n + 1)) := by
  induction n using Nat.strongRecOn with
  | _ n ih =>
    by_cases hr : (n - 1) % 26 < 25
    · have e1 : (n + 1 - 1) / 26 = (n - 1) / 26 := by omega
      have e2 : (n + 1 - 1) % 26 = (n - 1) % 26 + 1 := by omega
      rw [wrd_s h, wrd_s (n := n + 1) (by omega), e1, e2]
      exact .inr ⟨by simp, lt_pre _ (by omega)⟩
    · have e1 : (n + 1 - 1) / 26 = (n - 1) / 26 + 1 := by omega
      rw [wrd_s h, wrd_s (n := n + 1) (by omega), e1]
      by_cases hq : (n - 1) / 26 = 0
      · rw [hq, wrd_0]
        left
        have := wrd_ne (n := 0 + 1) (by omega)
        have h2 : 0 < (wrd (0 + 1)).length := List.length_pos_iff.mpr this
        simp only [List.length_append, List.length_cons, List.length_nil]
        omega
      · rcases ih _ (by omega) hq with z | ⟨z1, z2⟩
        · left
          simp only [List.length_append, List.length_cons, List.length_nil]
          omega
        · right
          exact ⟨by simp only [List.length_append, List.length_cons, List.length_nil]; omega, lt_app z1 z2 _ _⟩
theorem dataLt_pair {a b : List Nat} (h : SLt a b) : PySem.W.dataLt (.tuple [.int (a.length : Nat), .str (tx a)]) (.tuple [.int (b.length : Nat), .str (tx b)]) = true := by
  rw [PySem.W.dataLt_tuple]
  by_cases e : a.length = b.length
  · have hlt : a < b := by
      rcases h with h | h
      · omega
      · exact h.2
    rw [PySem.W.dataLt_all_yes (by rfl) (by show ((a.length : Int) == (b.length : Int)) = true; rw [e]; simp)]
    have hne : (tx a == tx b) = false := by
      rw [beq_eq_false_iff_ne]
      intro z
      have := tx_inj z
      subst this
      exact absurd hlt (List.lt_irrefl a)
    rw [PySem.W.dataLt_all_no (by rfl) (by show (tx a == tx b) = false; exact hne), PySem.W.dataLt_str]
    show decide (tl (tx a) < tl (tx b)) = true
    rw [tl_tx, tl_tx]
    exact decide_eq_true hlt
  · have hlt : a.length < b.length := by
      rcases h with h | h
      · exact h
      · exact absurd h.1 e
    rw [PySem.W.dataLt_all_no (by rfl) (by show ((a.length : Int) == (b.length : Int)) = false; rw [beq_eq_false_iff_ne]; omega), PySem.W.dataLt_int]
    exact decide_eq_true (by omega)
end M12
set_option Elab.async false
set_option linter.all false
set_option maxRecDepth 100000
set_option autoImplicit false
set_option maxHeartbeats 4000000
namespace T
open PySem L2 PyProof.Rows DL M12
local macro_rules | `(tactic| walk_at "dl1") => `(tactic| first
  | (with_reducible refine ss_set ?_)
  | (with_reducible refine ss_if ?_)
  | (with_reducible refine ss_drop ?_)
  | (with_reducible refine ss_put ?_)
  | (with_reducible refine ss_next ?_)
  | (with_reducible refine ss_ret ?_)
  | (with_reducible refine ss_assoc ?_)
  | ((with_reducible refine' ss_aug ?k1 ?_); (case k1 => rfl))
  | ((with_reducible refine' s_aug ?k1 ?_); (case k1 => rfl))
  | (with_reducible refine ss_rai1 ?_)
  | (with_reducible refine s_rai1 ?_)
  | (with_reducible refine ss_rai0 ?_)
  | (with_reducible refine s_rai0 ?_)
  | (with_reducible refine s_set ?_)
  | (with_reducible refine s_if ?_)
  | (with_reducible refine s_drop ?_)
  | (with_reducible refine s_ret ?_)
  | (with_reducible refine s_put ?_)
  | (with_reducible refine s_next ?_)
  | ((with_reducible refine' e_var ?k1 ?_); (case k1 => rfl))
  | ((with_reducible refine' e_own ?k1 ?_); (case k1 => rfl))
  | (with_reducible refine e_op ?_)
  | (with_reducible refine e_un ?_)
  | (with_reducible refine e_cb ?_)
  | (with_reducible refine a_nil ?_)
  | (with_reducible refine a_cons ?_)
  | (with_reducible refine e_int ?_)
  | (with_reducible refine e_str ?_)
  | (with_reducible refine e_bl ?_)
  | (with_reducible refine e_non ?_)
  | (with_reducible refine e_ty ?_)
  | (with_reducible refine e_ref ?_)
  | (with_reducible refine u_neg ?_)
  | (with_reducible refine e_andV ?_)
  | (with_reducible refine e_orV ?_)
  | (with_reducible refine e_notV ?_)
  | (with_reducible refine e_chainC ?_)
  | (with_reducible refine e_chainU ?_)
  | (with_reducible refine e_chain ?_)
  | (with_reducible refine e_if ?_)
  | (with_reducible refine e_sl ?_)
  | (with_reducible refine p_none ?_)
  | (with_reducible refine p_some ?_)
  | (with_reducible refine e_tup ?_)
  | (with_reducible refine e_lst ?_)
  | (with_reducible refine e_bmS ?_)
  | (with_reducible refine t_test ?_)
  | (with_reducible refine t_tru ?_)
  | (with_reducible refine t_and ?_)
  | (with_reducible refine t_or ?_)
  | (with_reducible refine t_not ?_)
  | (with_reducible refine o_add ?_)
  | (with_reducible refine o_I0 ?_)
  | (with_reducible refine o_B0 ?_)
  | (with_reducible refine o_cmpI ?_)
  | (with_reducible refine o_cmpS ?_)
  | (with_reducible refine o_eqI ?_)
  | (with_reducible refine o_neI ?_)
  | (with_reducible refine o_eqB ?_)
  | (with_reducible refine o_neB ?_)
  | (with_reducible refine o_eqS ?_)
  | (with_reducible refine o_neS ?_)
  | ((with_reducible refine o_isN ?k1 ?_); (case k1 => rfl))
  | ((with_reducible refine o_isNotN ?k1 ?_); (case k1 => rfl))
  | (with_reducible refine o_isB ?_)
  | (with_reducible refine o_isNotB ?_)
  | ((with_reducible refine' o_eqP ?k1 ?k2 ?k3 ?_); (case k1 => rfl); (case k2 => rfl); (case k3 => exact Nat.le_of_ble_eq_true rfl))
  | ((with_reducible refine' o_neP ?k1 ?k2 ?k3 ?_); (case k1 => rfl); (case k2 => rfl); (case k3 => exact Nat.le_of_ble_eq_true rfl))
  | ((with_reducible refine' o_inT ?k1 ?k2 ?k3 ?_); (case k1 => rfl); (case k2 => rfl); (case k3 => exact Nat.le_of_ble_eq_true rfl))
  | ((with_reducible refine' o_inL ?k1 ?k2 ?k3 ?_); (case k1 => rfl); (case k2 => rfl); (case k3 => exact Nat.le_of_ble_eq_true rfl))
  | (with_reducible refine c_max2 ?_)
  | (with_reducible refine c_min2 ?_)
  | (with_reducible refine c_abs ?_)
  | (with_reducible refine c_int ?_)
  | (with_reducible refine c_lenL ?_)
  | (with_reducible refine c_lenT ?_)
  | ((with_reducible refine' c_lenO ?k1 ?_); (case k1 => rfl))
  | ((with_reducible refine' o_ixO ?k1 ?k2 ?_); (case k1 => rfl); (case k2 => rfl))
  | ((with_reducible refine o_mul ?k1 ?_); (case k1 => omega))
  | ((with_reducible refine o_mod ?k1 ?_); (case k1 => omega))
  | ((with_reducible refine o_fdiv ?k1 ?k2 ?_); (case k1 => omega); (case k2 => omega))
  | ((with_reducible refine o_pow ?k1 ?_); (case k1 => exact ⟨by decide, by decide, by decide⟩))
  | ((with_reducible refine' w_lst ?k1 ?k2 ?_); (case k1 => rfl); (case k2 => rfl); dsimp only [List.set])
  | ((with_reducible refine c_lenS ?k1 ?_); (case k1 => omega))
  | ((with_reducible refine m_stripC ?k1 ?_); (case k1 => omega))
  | ((with_reducible refine l_str ?k1 ?_); (case k1 => omega))
  | ((with_reducible refine o_addS ?k1 ?_); (case k1 => (first | omega | (simp only [len_app, len_one]; omega))))
  | ((with_reducible refine' c_isi ?k1 ?k2 ?_); (case k1 => rfl); (case k2 => first | exact kb_NoneType_bool | exact kb_NoneType_int | exact kb_NoneType_str | exact kb_NoneType_list | exact kb_NoneType_tuple | exact kb_NoneType_dict | exact kb_bool_bool | exact kb_bool_int | exact kb_bool_str | exact kb_bool_list | exact kb_bool_tuple | exact kb_bool_dict | exact kb_int_bool | exact kb_int_int | exact kb_int_str | exact kb_int_list | exact kb_int_tuple | exact kb_int_dict | exact kb_str_bool | exact kb_str_int | exact kb_str_str | exact kb_str_list | exact kb_str_tuple | exact kb_str_dict | exact kb_list_bool | exact kb_list_int | exact kb_list_str | exact kb_list_list | exact kb_list_tuple | exact kb_list_dict | exact kb_tuple_bool | exact kb_tuple_int | exact kb_tuple_str | exact kb_tuple_list | exact kb_tuple_tuple | exact kb_tuple_dict | exact kb_dict_bool | exact kb_dict_int | exact kb_dict_str | exact kb_dict_list | exact kb_dict_tuple | exact kb_dict_dict))
  | (show (∃ z, Dt.str _ = .str z) ∧ _; refine ⟨⟨_, rfl⟩, ?_⟩)
  | (show getElem? _ _ = some (Sl.sh _) ∧ _; refine ⟨rfl, ?_⟩)
  | (show Dt.real _ = true ∧ lent _ _ = false ∧ _; refine ⟨rfl, rfl, ?_⟩; dsimp only [List.set])
  | (show Dt.real _ = true ∧ _; refine ⟨rfl, ?_⟩)
  | (show lent _ _ = false ∧ _; refine ⟨rfl, ?_⟩; dsimp only [List.set])
  | (show allReal _ = true ∧ _; refine ⟨rfl, Nat.le_of_ble_eq_true rfl, ?_⟩)
  | (show (true = true → _) ∧ (true = false → _); refine ⟨fun _ => ?_, fun h => nomatch h⟩)
  | (show (false = true → _) ∧ (false = false → _); refine ⟨(fun h => nomatch h), fun _ => ?_⟩)
  | (refine ⟨_, rfl, _, (fun P p => e_int p), ?_⟩)
  | (refine ⟨_, rfl, _, (fun P p => e_var rfl p), ?_⟩)
  | (refine ⟨_, rfl, ?_⟩)
  | fail "dl")
local macro_rules | `(tactic| walk_at "dl") => `(tactic| repeat' walk_at "dl1")
local macro_rules | `(tactic| walk_at "dls") => `(tactic| repeat' (first | walk_at "dl1" | (refine ⟨fun hb => ?_, fun hb => ?_⟩) | fail "dls"))
local macro_rules | `(tactic| walk_at "fg") => `(tactic| repeat (first | exact Fg.nil | (with_reducible refine Fg.keep ?_) | (refine Fg.drop ?_)))

def top (i : Nat) : Stmt := PySem.Challenge.pw_partlabels_k12_formats.main.body.getD i (.Pass ⟨0, 0, 0, 0⟩)
abbrev s_BadNumberu_initu : Stmt := inClass (top 3) 0
abbrev s_is_integer : Stmt := top 10
abbrev s_is_number : Stmt := top 11
abbrev s_digits_of : Stmt := top 12
abbrev s_word_of : Stmt := top 13
abbrev s_number_text : Stmt := top 14
abbrev s_read_number : Stmt := top 15
abbrev s_checked_text : Stmt := top 16
abbrev s_checked_number : Stmt := top 17
abbrev s_figures : Stmt := top 18
abbrev s_letters : Stmt := top 19
abbrev s_read_figures : Stmt := top 20
abbrev s_read_letters : Stmt := top 21
abbrev s_law_tape : Stmt := top 23
abbrev s_law_pick : Stmt := top 24
abbrev s_law_word : Stmt := top 25
abbrev s_law_number : Stmt := top 26
abbrev s_law_bad : Stmt := top 27
abbrev s_law_read : Stmt := top 28
abbrev s_law_spoilt : Stmt := top 29
abbrev s_law_long_word : Stmt := top 30
abbrev s_law : Stmt := top 31
theorem sc_BadNumberu_initu : FnScope ["self", "number"] ["self", "number"] (defScope s_BadNumberu_initu) := ⟨rfl, rfl, rfl, by decide +kernel, rfl, by decide +kernel, by decide +kernel⟩
theorem sc_is_integer : FnScope ["value", "low", "high"] ["value", "low", "high"] (defScope s_is_integer) := ⟨rfl, rfl, rfl, by decide +kernel, rfl, by decide +kernel, by decide +kernel⟩
theorem sc_is_number : FnScope ["value"] ["value"] (defScope s_is_number) := ⟨rfl, rfl, rfl, by decide +kernel, rfl, by decide +kernel, by decide +kernel⟩
theorem sc_digits_of : FnScope ["number", "found"] ["number"] (defScope s_digits_of) := ⟨rfl, rfl, rfl, by decide +kernel, rfl, by decide +kernel, by decide +kernel⟩
theorem sc_word_of : FnScope ["number", "found"] ["number"] (defScope s_word_of) := ⟨rfl, rfl, rfl, by decide +kernel, rfl, by decide +kernel, by decide +kernel⟩
theorem sc_number_text : FnScope ["form", "number"] ["form", "number"] (defScope s_number_text) := ⟨rfl, rfl, rfl, by decide +kernel, rfl, by decide +kernel, by decide +kernel⟩
theorem sc_read_number : FnScope ["form", "text", "signs", "found", "sign"] ["form", "text"] (defScope s_read_number) := ⟨rfl, rfl, rfl, by decide +kernel, rfl, by decide +kernel, by decide +kernel⟩
theorem sc_checked_text : FnScope ["form", "number"] ["form", "number"] (defScope s_checked_text) := ⟨rfl, rfl, rfl, by decide +kernel, rfl, by decide +kernel, by decide +kernel⟩
theorem sc_checked_number : FnScope ["form", "text", "found"] ["form", "text"] (defScope s_checked_number) := ⟨rfl, rfl, rfl, by decide +kernel, rfl, by decide +kernel, by decide +kernel⟩
theorem sc_figures : FnScope ["number"] ["number"] (defScope s_figures) := ⟨rfl, rfl, rfl, by decide +kernel, rfl, by decide +kernel, by decide +kernel⟩
theorem sc_letters : FnScope ["number"] ["number"] (defScope s_letters) := ⟨rfl, rfl, rfl, by decide +kernel, rfl, by decide +kernel, by decide +kernel⟩
theorem sc_read_figures : FnScope ["text"] ["text"] (defScope s_read_figures) := ⟨rfl, rfl, rfl, by decide +kernel, rfl, by decide +kernel, by decide +kernel⟩
theorem sc_read_letters : FnScope ["text"] ["text"] (defScope s_read_letters) := ⟨rfl, rfl, rfl, by decide +kernel, rfl, by decide +kernel, by decide +kernel⟩
theorem sc_law_tape : FnScope ["_law_script", "_law_k", "_law_cell"] ["_law_script", "_law_k"] (defScope s_law_tape) := ⟨rfl, rfl, rfl, by decide +kernel, rfl, by decide +kernel, by decide +kernel⟩
theorem sc_law_pick : FnScope ["_law_tape_here", "_law_many", "_law_digit", "_law_mixed"] ["_law_tape_here", "_law_many"] (defScope s_law_pick) := ⟨rfl, rfl, rfl, by decide +kernel, rfl, by decide +kernel, by decide +kernel⟩
theorem sc_law_word : FnScope ["_law_number_here", "_law_found", "_law_turn"] ["_law_number_here"] (defScope s_law_word) := ⟨rfl, rfl, rfl, by decide +kernel, rfl, by decide +kernel, by decide +kernel⟩
theorem sc_law_number : FnScope ["_law_tape_here", "_law_choice", "_law_power", "_law_turn"] ["_law_tape_here"] (defScope s_law_number) := ⟨rfl, rfl, rfl, by decide +kernel, rfl, by decide +kernel, by decide +kernel⟩
theorem sc_law_bad : FnScope ["_law_door", "_law_value", "e"] ["_law_door", "_law_value"] (defScope s_law_bad) := ⟨rfl, rfl, rfl, by decide +kernel, rfl, by decide +kernel, by decide +kernel⟩
theorem sc_law_read : FnScope ["_law_door", "_law_text", "e"] ["_law_door", "_law_text"] (defScope s_law_read) := ⟨rfl, rfl, rfl, by decide +kernel, rfl, by decide +kernel, by decide +kernel⟩
theorem sc_law_spoilt : FnScope ["_law_tape_here", "_law_text", "_law_at", "_law_sign"] ["_law_tape_here", "_law_text"] (defScope s_law_spoilt) := ⟨rfl, rfl, rfl, by decide +kernel, rfl, by decide +kernel, by decide +kernel⟩
theorem sc_law_long_word : FnScope ["_law_tape_here", "_law_word_here", "_law_number_here", "_law_turn", "_law_at"] ["_law_tape_here"] (defScope s_law_long_word) := ⟨rfl, rfl, rfl, by decide +kernel, rfl, by decide +kernel, by decide +kernel⟩
theorem sc_law : FnScope ["_law_script", "_law_tape_here", "_law_number_here", "_law_text", "_law_word_here", "_law_later", "_law_door", "_law_wrong", "_law_spoilt_here"] ["_law_script"] (defScope s_law) := ⟨rfl, rfl, rfl, by decide +kernel, rfl, by decide +kernel, by decide +kernel⟩
structure Tx (K : DL.Frag) (mg : Str → Option Value) : Prop where
  n_abs : mg "abs" = none
  n_bool : mg "bool" = none
  n_int : mg "int" = none
  n_isinstance : mg "isinstance" = none
  n_len : mg "len" = none
  n_max : mg "max" = none
  n_range : mg "range" = none
  n_str : mg "str" = none
  e_SIGNS : ∃ t, mg "SIGNS" = some (.str "abcdefghijklmnopqrstuvwxyz" t)
  e_FIGURES : ∃ t, mg "FIGURES" = some (.str "figures" t)
  e_LETTERS : ∃ t, mg "LETTERS" = some (.str "letters" t)
  e_DIGITS : ∃ t, mg "DIGITS" = some (.str "0123456789" t)
  e_NONE : ∃ t, mg "NONE" = some (.str "-" t)
  g_is_integer : mg "is_integer" = some (.ref (He.ga K "is_integer"))
  F_is_integer : ∃ fd, FunD K "is_integer" "is_integer" (defArgs s_is_integer) (defBody s_is_integer) (defScope s_is_integer) [V.non] [] (He.ga K "is_integer") fd
  g_is_number : mg "is_number" = some (.ref (He.ga K "is_number"))
  F_is_number : ∃ fd, FunD K "is_number" "is_number" (defArgs s_is_number) (defBody s_is_number) (defScope s_is_number) [] [] (He.ga K "is_number") fd
  g_digits_of : mg "digits_of" = some (.ref (He.ga K "digits_of"))
  F_digits_of : ∃ fd, FunD K "digits_of" "digits_of" (defArgs s_digits_of) (defBody s_digits_of) (defScope s_digits_of) [] [] (He.ga K "digits_of") fd
  g_word_of : mg "word_of" = some (.ref (He.ga K "word_of"))
  F_word_of : ∃ fd, FunD K "word_of" "word_of" (defArgs s_word_of) (defBody s_word_of) (defScope s_word_of) [] [] (He.ga K "word_of") fd
  g_number_text : mg "number_text" = some (.ref (He.ga K "number_text"))
  F_number_text : ∃ fd, FunD K "number_text" "number_text" (defArgs s_number_text) (defBody s_number_text) (defScope s_number_text) [] [] (He.ga K "number_text") fd
  g_read_number : mg "read_number" = some (.ref (He.ga K "read_number"))
  F_read_number : ∃ fd, FunD K "read_number" "read_number" (defArgs s_read_number) (defBody s_read_number) (defScope s_read_number) [] [] (He.ga K "read_number") fd
  g_checked_text : mg "checked_text" = some (.ref (He.ga K "checked_text"))
  F_checked_text : ∃ fd, FunD K "checked_text" "checked_text" (defArgs s_checked_text) (defBody s_checked_text) (defScope s_checked_text) [] [] (He.ga K "checked_text") fd
  g_checked_number : mg "checked_number" = some (.ref (He.ga K "checked_number"))
  F_checked_number : ∃ fd, FunD K "checked_number" "checked_number" (defArgs s_checked_number) (defBody s_checked_number) (defScope s_checked_number) [] [] (He.ga K "checked_number") fd
  g_figures : mg "figures" = some (.ref (He.ga K "figures"))
  F_figures : ∃ fd, FunD K "figures" "figures" (defArgs s_figures) (defBody s_figures) (defScope s_figures) [] [] (He.ga K "figures") fd
  g_letters : mg "letters" = some (.ref (He.ga K "letters"))
  F_letters : ∃ fd, FunD K "letters" "letters" (defArgs s_letters) (defBody s_letters) (defScope s_letters) [] [] (He.ga K "letters") fd
  g_read_figures : mg "read_figures" = some (.ref (He.ga K "read_figures"))
  F_read_figures : ∃ fd, FunD K "read_figures" "read_figures" (defArgs s_read_figures) (defBody s_read_figures) (defScope s_read_figures) [] [] (He.ga K "read_figures") fd
  g_read_letters : mg "read_letters" = some (.ref (He.ga K "read_letters"))
  F_read_letters : ∃ fd, FunD K "read_letters" "read_letters" (defArgs s_read_letters) (defBody s_read_letters) (defScope s_read_letters) [] [] (He.ga K "read_letters") fd
  g_law_tape : mg "_law_tape" = some (.ref (He.ga K "_law_tape"))
  F_law_tape : ∃ fd, FunD K "_law_tape" "_law_tape" (defArgs s_law_tape) (defBody s_law_tape) (defScope s_law_tape) [] [] (He.ga K "_law_tape") fd
  g_law_pick : mg "_law_pick" = some (.ref (He.ga K "_law_pick"))
  F_law_pick : ∃ fd, FunD K "_law_pick" "_law_pick" (defArgs s_law_pick) (defBody s_law_pick) (defScope s_law_pick) [] [] (He.ga K "_law_pick") fd
  g_law_word : mg "_law_word" = some (.ref (He.ga K "_law_word"))
  F_law_word : ∃ fd, FunD K "_law_word" "_law_word" (defArgs s_law_word) (defBody s_law_word) (defScope s_law_word) [] [] (He.ga K "_law_word") fd
  g_law_number : mg "_law_number" = some (.ref (He.ga K "_law_number"))
  F_law_number : ∃ fd, FunD K "_law_number" "_law_number" (defArgs s_law_number) (defBody s_law_number) (defScope s_law_number) [] [] (He.ga K "_law_number") fd
  g_law_bad : mg "_law_bad" = some (.ref (He.ga K "_law_bad"))
  F_law_bad : ∃ fd, FunD K "_law_bad" "_law_bad" (defArgs s_law_bad) (defBody s_law_bad) (defScope s_law_bad) [] [] (He.ga K "_law_bad") fd
  g_law_read : mg "_law_read" = some (.ref (He.ga K "_law_read"))
  F_law_read : ∃ fd, FunD K "_law_read" "_law_read" (defArgs s_law_read) (defBody s_law_read) (defScope s_law_read) [] [] (He.ga K "_law_read") fd
  g_law_spoilt : mg "_law_spoilt" = some (.ref (He.ga K "_law_spoilt"))
  F_law_spoilt : ∃ fd, FunD K "_law_spoilt" "_law_spoilt" (defArgs s_law_spoilt) (defBody s_law_spoilt) (defScope s_law_spoilt) [] [] (He.ga K "_law_spoilt") fd
  g_law_long_word : mg "_law_long_word" = some (.ref (He.ga K "_law_long_word"))
  F_law_long_word : ∃ fd, FunD K "_law_long_word" "_law_long_word" (defArgs s_law_long_word) (defBody s_law_long_word) (defScope s_law_long_word) [] [] (He.ga K "_law_long_word") fd
  g_law : mg "law" = some (.ref (He.ga K "law"))
  F_law : ∃ fd, FunD K "law" "law" (defArgs s_law) (defBody s_law) (defScope s_law) [] [] (He.ga K "law") fd
  g_PartError : mg "PartError" = some (.ref (He.ga K "PartError"))
  g_BadText : mg "BadText" = some (.ref (He.ga K "BadText"))
  x_BadText : XcC K (He.ga K "BadText")
  v_BadText : PySem.W.excIn K (He.ga K "BadText") He.veBase "ValueError.__new__" = true
  g_BadNumber : mg "BadNumber" = some (.ref (He.ga K "BadNumber"))
  x_BadNumber : XcC K (He.ga K "BadNumber")
  i_BadNumber : PySem.W.findIn K (.ref (He.ga K "BadNumber")) "__init__" = some (some (.ref (He.ma K (He.ga K "BadNumber") "__init__")))
  t_BadNumber : PySem.W.typeIn K (.ref (He.ma K (He.ga K "BadNumber") "__init__")) = some (.type "function")
  F_BadNumber : ∃ fd, FunD K "__init__" "BadNumber.__init__" (defArgs s_BadNumberu_initu) (defBody s_BadNumberu_initu) (defScope s_BadNumberu_initu) [] [] (He.ma K (He.ga K "BadNumber") "__init__") fd
  no_BadNumber_number : PySem.W.findIn K (.ref (He.ga K "BadNumber")) "number" = some none
  m_BadText_BadText : PySem.W.exmOne K (.ref (He.ga K "BadText")) (.ref (He.ga K "BadText")) = some true
  m_BadText_BadNumber : PySem.W.exmOne K (.ref (He.ga K "BadText")) (.ref (He.ga K "BadNumber")) = some false
  m_BadNumber_BadText : PySem.W.exmOne K (.ref (He.ga K "BadNumber")) (.ref (He.ga K "BadText")) = some false
  m_BadNumber_BadNumber : PySem.W.exmOne K (.ref (He.ga K "BadNumber")) (.ref (He.ga K "BadNumber")) = some true
  k_BadText_PartError : PySem.W.kitOne K (.ref (He.ga K "BadText")) (.ref (He.ga K "PartError")) = some true
  k_BadNumber_PartError : PySem.W.kitOne K (.ref (He.ga K "BadNumber")) (.ref (He.ga K "PartError")) = some true
section
variable {P : Program} {w : World} {K : DL.Frag} {mg : Str → Option Value} {base : Heap}
theorem G_BadText (T : Tx K mg) : XN K mg "BadText" (He.ga K "BadText") := ⟨T.g_BadText, T.x_BadText, T.v_BadText⟩
theorem G_BadNumber (T : Tx K mg) : XG P w K mg base "BadNumber" (He.ga K "BadNumber") ["self", "number"] (spX1 (He.ga K "BadNumber") "number") := by
  obtain ⟨fd, F⟩ := T.F_BadNumber
  exact ⟨T.g_BadNumber, T.x_BadNumber, _, fd, T.i_BadNumber, T.t_BadNumber, ok_x1 F sc_BadNumberu_initu rfl T.x_BadNumber T.no_BadNumber_number (.inl rfl) (.inl rfl) (by decide) (by decide), F.bindsN fun _ _ _ _ _ _ us hl => match us, hl with | [_, _], _ => rfl⟩
end
section
variable {P : Program} {w : World} {K : DL.Frag} {mg : Str → Option Value} {base : Heap}
/-! ### the tape -/
def tapeD (t : Int × Int) : Dt := .lst [.int t.1, .int t.2]
def tapeOk (t : Int × Int) : Prop := 0 ≤ t.1 ∧ 0 ≤ t.2 ∧ t.2 < 2 ^ 40
def sp_law_tape : Fsp where
  I := List Int × Int
  arg i := [.lst (i.1.map .int), .int i.2]
  pre i := 0 ≤ i.2 ∧ i.2 ≤ 1000 ∧ i.1.length ≤ 63
  post _ d := ∃ t, d = tapeD t ∧ tapeOk t
theorem atI_ints {ns : List Int} {k : Int} (h0 : 0 ≤ k) (h : k < ns.length) : ∃ n, atI (ns.map Dt.int) k = some (.int n) := by
  have hk : k.toNat < ns.length := by omega
  refine ⟨ns[k.toNat], ?_⟩
  unfold atI ixN
  rw [List.length_map, if_pos h0, if_pos h]
  show (ns.map Dt.int)[k.toNat]? = _
  rw [List.getElem?_map, List.getElem?_eq_getElem hk]
  rfl
theorem ok_law_tape (T : Tx K mg) : FnG P w K mg base 1 "_law_tape" ["_law_script", "_law_k"] (NSp K sp_law_tape) := by
  obtain ⟨fd, F⟩ := T.F_law_tape
  refine ⟨_, fd, T.g_law_tape, F.kp, fn_bodyN F sc_law_tape (fun _ => rfl) (fun cdv A outer s H E hr tk po => ?_), F.bindsN fun _ _ _ _ _ _ us hl => match us, hl with | [_, _], _ => rfl⟩
  refine ⟨_, (pss_cons (ps_set (i := 2) sc_law_tape.nd rfl (Or.inl rfl) (pe_ifExp (pt_cmpR (op_ltK (K := K) rfl hr.units) (pv 1) (pe_callB (call_lenK (K := K) rfl) (by rfl) T.n_len (by decide +kernel) (pa_cons (pv 0) pa_nil)) (nomark _)) (pe_ix (ix_seqK (K := K) rfl) (pv 0) (pv 1) (fun _ _ => rfl)) pe_int))
  (pss_one (ps_ret (pe_lst (pa_cons (pe_callB call_abs (by rfl) T.n_abs (by decide +kernel) (pa_cons (pv 2) pa_nil)) (pa_cons (pe_op (op_addK (K := K) rfl) (pe_op op_mulU pe_int (pv 1)) pe_int) pa_nil)))))), fun i hp Z hq hx => ?_⟩
  obtain ⟨ns, k⟩ := i
  obtain ⟨h0, h1, h2⟩ : 0 ≤ k ∧ k ≤ 1000 ∧ ns.length ≤ 63 := hp
  try dsimp only [cxB, cxOf]
  show StD K _ _ [.sh (.lst (ns.map .int)), .sh (.int k), .no] _
  clear tk po hr F
  have fin : ∀ c : Int, StD K (wE E) (tRet (tLst (tCons (tCB (fun xs H Q => ∃ i, xs = [V.int i] ∧ Q (V.int (if i < 0 then -i else i)) H) (tCons (tVar 2) tNil)) (tCons (tOp (rAddU K) (tOp rMulU (tC (V.int 7919)) (tVar 1)) (tC (V.int 104729))) tNil)))) [.sh (.lst (ns.map .int)), .sh (.int k), .sh (.int c)] Z := by
    intro c
    refine s_retNew (n_lst ?_)
    walk_at "dl"
    refine hq _ _ ⟨(if c < 0 then -c else c, 7919 * k + 104729), rfl, ?_, ?_, ?_⟩
    · show 0 ≤ (if c < 0 then -c else c)
      split <;> omega
    · show 0 ≤ 7919 * k + 104729
      omega
    · show 7919 * k + 104729 < 2 ^ 40
      omega
  walk_at "dl"
  refine ⟨fun hb => ?_, fun hb => ?_⟩
  · walk_at "dl"
    obtain ⟨n, hn⟩ := atI_ints h0 (show k < ns.length by simpa using hb)
    refine o_ixL hn ?_
    walk_at "dl1"
    exact fin n
  · walk_at "dl1"
    walk_at "dl1"
    exact fin 0
def sp_law_pick : Osp where
  I := (Int × Int) × Int
  own i := tapeD i.1
  arg i := [.int i.2]
  pre i := tapeOk i.1 ∧ 0 < i.2 ∧ i.2 < 2 ^ 200
  post i d o := ∃ r t, d = .int r ∧ o = tapeD t ∧ tapeOk t ∧ 0 ≤ r ∧ r < i.2
theorem ok_law_pick (T : Tx K mg) : FnG P w K mg base 1 "_law_pick" ["_law_tape_here", "_law_many"] (OSp K sp_law_pick) := by
  obtain ⟨fd, F⟩ := T.F_law_pick
  refine ⟨_, fd, T.g_law_pick, F.kp, fn_bodyO F sc_law_pick (fun _ => rfl) (fun cdv A outer s H E hr tk po => ?_), F.bindsN fun _ _ _ _ _ _ us hl => match us, hl with | [_, _], _ => rfl⟩
  refine ⟨_, (pss_cons (ps_if (pt_cmpR (op_geK (K := K) rfl hr.units) (pe_ix (ix_seqK (K := K) rfl) (pv 0) pe_int (fun _ _ => rfl)) (pe_op op_pow pe_int pe_int) (nomark _)) (pss_cons (ps_set (i := 2) sc_law_pick.nd rfl (Or.inl rfl) (pe_op op_mod (pe_callTy call_intU (by rfl) T.n_int (by decide +kernel) (pa_cons (pe_ix (ix_seqK (K := K) rfl) (pv 0) pe_int (fun _ _ => rfl)) pa_nil)) (pv 1)))
  (pss_cons (ps_asg (pe_op op_fdivW (pe_ix (ix_seqK (K := K) rfl) (pv 0) pe_int (fun _ _ => rfl)) (pv 1)) (pg_sub (pv 0) pe_int set_list))
  (pss_one (ps_ret (pv 2))))) pss_nil)
  (pss_cons (ps_asg (pe_op op_mod (pe_callTy call_intU (by rfl) T.n_int (by decide +kernel) (pa_cons (pe_op (op_addK (K := K) rfl) (pe_op (op_addK (K := K) rfl) (pe_op op_mulU (pe_ix (ix_seqK (K := K) rfl) (pv 0) pe_int (fun _ _ => rfl)) pe_int) (pe_op op_mulU (pe_ix (ix_seqK (K := K) rfl) (pv 0) pe_int (fun _ _ => rfl)) pe_int)) pe_int) pa_nil)) pe_int) (pg_sub (pv 0) pe_int set_list))
  (pss_cons (ps_set (i := 3) sc_law_pick.nd rfl (Or.inl rfl) (pe_op op_mod (pe_callTy call_intU (by rfl) T.n_int (by decide +kernel) (pa_cons (pe_op (op_addK (K := K) rfl) (pe_op (op_addK (K := K) rfl) (pe_op op_mulU (pe_ix (ix_seqK (K := K) rfl) (pv 0) pe_int (fun _ _ => rfl)) (pe_ix (ix_seqK (K := K) rfl) (pv 0) pe_int (fun _ _ => rfl))) (pe_op op_mulU (pe_ix (ix_seqK (K := K) rfl) (pv 0) pe_int (fun _ _ => rfl)) pe_int)) pe_int) pa_nil)) pe_int))
  (pss_one (ps_ret (pe_op op_mod (pe_callTy call_intU (by rfl) T.n_int (by decide +kernel) (pa_cons (pe_op op_fdivW (pv 3) pe_int) pa_nil)) (pv 1))))))), fun i hp Z hn hq hx => ?_⟩
  obtain ⟨⟨a, b⟩, m⟩ := i
  obtain ⟨⟨h0, h1, h2⟩, h3, h4⟩ : (0 ≤ a ∧ 0 ≤ b ∧ b < 2 ^ 40) ∧ 0 < m ∧ m < 2 ^ 200 := hp
  try dsimp only [cxB, cxOf]
  show StD K _ _ [.ow true (.lst [.int a, .int b]), .sh (.int m), .no, .no] _
  clear tk po hr F
  walk_at "dl"
  refine ⟨fun hb => ?_, fun hb => ?_⟩
  · walk_at "dl"
    refine hq _ _ _ rfl ⟨a % m, (a / m, b), rfl, rfl, ⟨Int.ediv_nonneg h0 (Int.le_of_lt h3), h1, h2⟩, Int.emod_nonneg _ (by omega), Int.emod_lt_of_pos _ h3⟩
  · have hb : a < 10 ^ 18 := by
      have z : (10 : Int) ^ (Int.toNat 18) = 10 ^ 18 := rfl
      rw [z] at hb
      simpa using hb
    walk_at "dl"
    refine hq _ _ _ rfl ⟨_, (a, (b * 48271 + a * 69621 + 11) % 2147483647), rfl, rfl, ⟨h0, Int.emod_nonneg _ (by decide), ?_⟩, Int.emod_nonneg _ (by omega), Int.emod_lt_of_pos _ h3⟩
    have := Int.emod_lt_of_pos (b * 48271 + a * 69621 + 11) (show (0 : Int) < 2147483647 by decide)
    show (b * 48271 + a * 69621 + 11) % 2147483647 < 2 ^ 40
    omega
/-- a draw -/
theorem e_pick {W : WX} {ρ : En} {x : PX} {j : Nat} {te : TE} {Q : Dt → En → Prop}
    (h : EvD K W te ρ x fun d ρ1 => ∃ m l t, d = .int m ∧ ρ1[j]? = some (.ow l (tapeD t)) ∧ tapeOk t ∧ 0 < m ∧ m < 2 ^ 200 ∧ ∀ r t', tapeOk t' → 0 ≤ r → r < m → Q (.int r) (ρ1.set j (.ow l (tapeD t'))))
    (hj : ∃ l d, ρ[j]? = some (.ow l d)) : EvD K W (tCallS (OSp K sp_law_pick) (WE W) (tCons (tVar j) (tCons te tNil))) ρ x Q := by
  obtain ⟨l0, d0, hj⟩ := hj
  refine e_callO (a_cons (e_own hj (a_cons (e_imp h fun d ρ1 hd => a_nil ?_))))
  obtain ⟨m, l, t, rfl, h1, h2, h3, h4, h5⟩ := hd
  exact ⟨j, l, _, _, (t, m), rfl, h1, rfl, rfl, rfl, ⟨h2, h3, h4⟩, fun r o ⟨r', t', e1, e2, e3, e4, e5⟩ => by subst e1 e2; exact h5 r' t' e3 e4 e5, fun _ _ z => z.elim⟩

/-! ### integers -/
def isInt (d : Dt) (lo : Int) (hi : Option Int) : Bool := match d with
  | .int n => decide (lo ≤ n) && (match hi with
    | none => true
    | some h => decide (n ≤ h))
  | _ => false
def hiD : Option Int → Dt
  | none => .non
  | some h => .int h
def sp_is_integer : Fsp where
  I := Dt × Int × Option Int
  arg i := [i.1, .int i.2.1, hiD i.2.2]
  pre i := i.1.tyN.isSome = true
  post i d := d = .bl (isInt i.1 i.2.1 i.2.2)
theorem fn_is_integer (T : Tx K mg) {fd : FuncData} (F : FunD K "is_integer" "is_integer" (defArgs s_is_integer) (defBody s_is_integer) (defScope s_is_integer) [V.non] [] (He.ga K "is_integer") fd) : FnOk P w K mg base (L2.CX P w) 1 (He.ga K "is_integer") fd ["value", "low", "high"] (DSp K sp_is_integer) := by
  refine fn_body F sc_is_integer (fun _ => rfl) (fun cdv A outer s H E hr tk po => ?_)
  refine ⟨_, (pss_one (ps_ret (pe_and (pe_callB (call_isiK (K := K) rfl) (by rfl) T.n_isinstance (by decide +kernel) (pa_cons (pv 0) (pa_cons (pe_bltn (v := .ty "int") (u := .type "int") (by rfl) T.n_int (by decide +kernel) rfl) pa_nil))) (pe_and (pe_not (pe_callB (call_isiK (K := K) rfl) (by rfl) T.n_isinstance (by decide +kernel) (pa_cons (pv 0) (pa_cons (pe_bltn (v := .ty "bool") (u := .type "bool") (by rfl) T.n_bool (by decide +kernel) rfl) pa_nil)))) (pe_and (pe_cmpR (op_leK (K := K) rfl hr.units) (pv 1) (pv 0) (nomark _)) (pe_one (pe_or (pe_cmpR op_isU (pv 2) pe_non (nomark _)) (pe_one (pe_cmpR (op_leK (K := K) rfl hr.units) (pv 0) (pv 2) (nomark _)))))))))), fun i hp Z hn hq hx => ?_⟩
  obtain ⟨d, lo, hi⟩ := i
  have hp : d.tyN.isSome = true := hp
  have hq : ∀ b ρ, b = isInt d lo hi → Z.rt (.bl b) ρ := fun b ρ e => hq _ ρ (by rw [e]; rfl)
  try dsimp only [cxB, cxOf]
  show StD K _ _ [.sh d, .sh (.int lo), .sh (hiD hi)] _
  clear tk po hr F
  cases d with
  | non => walk_at "dl"; exact hq _ _ rfl
  | bl b => walk_at "dl"; exact hq _ _ rfl
  | str b => walk_at "dl"; exact hq _ _ rfl
  | lst b => walk_at "dl"; exact hq _ _ rfl
  | tup b => walk_at "dl"; exact hq _ _ rfl
  | dic b c => walk_at "dl"; exact hq _ _ rfl
  | int n =>
    cases hi with
    | none =>
      dsimp only [hiD]
      walk_at "dls"
      all_goals refine hq _ _ ?_
      all_goals (unfold isInt; first | (simp_all; done) | (simp_all; intros; omega))
    | some h =>
      dsimp only [hiD]
      walk_at "dls"
      all_goals refine hq _ _ ?_
      all_goals (unfold isInt; first | (simp_all; done) | (simp_all; intros; omega))
  | _ => cases hp
theorem ok_is_integer_2 (T : Tx K mg) : FnGD P w K mg base 1 "is_integer" ["value", "low", "high"] (DSp K sp_is_integer) [V.non] := by
  obtain ⟨fd, F⟩ := T.F_is_integer
  obtain ⟨ds, h1, h2⟩ := F.binds1 (ps := ["value", "low", "high"]) 2 0 (by simp) rfl (fun _ _ _ _ _ _ _ us its hu hi => match us, its, hu, hi with | [_, _], [_], _, _ => ⟨_, rfl, rfl⟩)
  exact ⟨_, fd, ds, T.g_is_integer, F.kp, fn_is_integer T F, h2, h1⟩
theorem e_isInt {W : WX} {ρ : En} {x : PX} {ta : TA} {Q : Dt → En → Prop} (h : ArD K W ta ρ x fun ds ρ1 => ∃ d lo, ds = [d, .int lo] ∧ d.real = true ∧ d.tyN.isSome = true ∧ Q (.bl (isInt d lo none)) ρ1) : EvD K W (tCallSD (DSp K sp_is_integer) [V.non] (WE W) ta) ρ x Q := by
  refine e_callD (dds := [.non]) (fun F => repL_cons (by unfold Rep; rfl) repL_nil) (fun σ F H Q s q w => h σ F H Q s (fun ds ρ1 vs F1 H1 ⟨d, lo, e, hr, ht, hQ⟩ => q ds ρ1 vs F1 H1 ⟨(d, lo, none), by rw [e]; rfl, by rw [e]; unfold allReal; rw [List.all_cons, hr]; rfl, ht, fun z hz => by cases (show z = _ from hz); exact hQ, fun _ z => z.elim⟩) w)

end
end T
set_option Elab.async false
set_option linter.all false
set_option maxRecDepth 100000
set_option autoImplicit false
set_option maxHeartbeats 4000000
namespace T
open PySem L2 PyProof.Rows DL M12
local macro_rules | `(tactic| walk_at "dl1") => `(tactic| first
  | (with_reducible refine ss_set ?_)
  | (with_reducible refine ss_if ?_)
  | (with_reducible refine ss_drop ?_)
  | (with_reducible refine ss_put ?_)
  | (with_reducible refine ss_next ?_)
  | (with_reducible refine ss_ret ?_)
  | (with_reducible refine ss_assoc ?_)
  | ((with_reducible refine' ss_aug ?k1 ?_); (case k1 => rfl))
  | ((with_reducible refine' s_aug ?k1 ?_); (case k1 => rfl))
  | (with_reducible refine ss_rai1 ?_)
  | (with_reducible refine s_rai1 ?_)
  | (with_reducible refine ss_rai0 ?_)
  | (with_reducible refine s_rai0 ?_)
  | (with_reducible refine s_set ?_)
  | (with_reducible refine s_if ?_)
  | (with_reducible refine s_drop ?_)
  | (with_reducible refine s_ret ?_)
  | (with_reducible refine s_put ?_)
  | (with_reducible refine s_next ?_)
  | ((with_reducible refine' e_var ?k1 ?_); (case k1 => rfl))
  | ((with_reducible refine' e_own ?k1 ?_); (case k1 => rfl))
  | (with_reducible refine e_op ?_)
  | (with_reducible refine e_un ?_)
  | (with_reducible refine e_cb ?_)
  | (with_reducible refine a_nil ?_)
  | (with_reducible refine a_cons ?_)
  | (with_reducible refine e_int ?_)
  | (with_reducible refine e_str ?_)
  | (with_reducible refine e_bl ?_)
  | (with_reducible refine e_non ?_)
  | (with_reducible refine e_ty ?_)
  | (with_reducible refine e_ref ?_)
  | (with_reducible refine u_neg ?_)
  | (with_reducible refine e_andV ?_)
  | (with_reducible refine e_orV ?_)
  | (with_reducible refine e_notV ?_)
  | (with_reducible refine e_chainC ?_)
  | (with_reducible refine e_chainU ?_)
  | (with_reducible refine e_chain ?_)
  | (with_reducible refine e_if ?_)
  | (with_reducible refine e_sl ?_)
  | (with_reducible refine p_none ?_)
  | (with_reducible refine p_some ?_)
  | (with_reducible refine e_tup ?_)
  | (with_reducible refine e_lst ?_)
  | (with_reducible refine e_bmS ?_)
  | (with_reducible refine t_test ?_)
  | (with_reducible refine t_tru ?_)
  | (with_reducible refine t_and ?_)
  | (with_reducible refine t_or ?_)
  | (with_reducible refine t_not ?_)
  | (with_reducible refine o_add ?_)
  | (with_reducible refine o_I0 ?_)
  | (with_reducible refine o_B0 ?_)
  | (with_reducible refine o_cmpI ?_)
  | (with_reducible refine o_cmpS ?_)
  | (with_reducible refine o_eqI ?_)
  | (with_reducible refine o_neI ?_)
  | (with_reducible refine o_eqB ?_)
  | (with_reducible refine o_neB ?_)
  | (with_reducible refine o_eqS ?_)
  | (with_reducible refine o_neS ?_)
  | ((with_reducible refine o_isN ?k1 ?_); (case k1 => rfl))
  | ((with_reducible refine o_isNotN ?k1 ?_); (case k1 => rfl))
  | (with_reducible refine o_isB ?_)
  | (with_reducible refine o_isNotB ?_)
  | ((with_reducible refine' o_eqP ?k1 ?k2 ?k3 ?_); (case k1 => rfl); (case k2 => rfl); (case k3 => exact Nat.le_of_ble_eq_true rfl))
  | ((with_reducible refine' o_neP ?k1 ?k2 ?k3 ?_); (case k1 => rfl); (case k2 => rfl); (case k3 => exact Nat.le_of_ble_eq_true rfl))
  | ((with_reducible refine' o_inT ?k1 ?k2 ?k3 ?_); (case k1 => rfl); (case k2 => rfl); (case k3 => exact Nat.le_of_ble_eq_true rfl))
  | ((with_reducible refine' o_inL ?k1 ?k2 ?k3 ?_); (case k1 => rfl); (case k2 => rfl); (case k3 => exact Nat.le_of_ble_eq_true rfl))
  | (with_reducible refine c_max2 ?_)
  | (with_reducible refine c_min2 ?_)
  | (with_reducible refine c_abs ?_)
  | (with_reducible refine c_int ?_)
  | (with_reducible refine c_lenL ?_)
  | (with_reducible refine c_lenT ?_)
  | ((with_reducible refine' c_lenO ?k1 ?_); (case k1 => rfl))
  | ((with_reducible refine' o_ixO ?k1 ?k2 ?_); (case k1 => rfl); (case k2 => rfl))
  | ((with_reducible refine o_mul ?k1 ?_); (case k1 => omega))
  | ((with_reducible refine o_mod ?k1 ?_); (case k1 => omega))
  | ((with_reducible refine o_fdiv ?k1 ?k2 ?_); (case k1 => omega); (case k2 => omega))
  | ((with_reducible refine o_pow ?k1 ?_); (case k1 => exact ⟨by decide, by decide, by decide⟩))
  | ((with_reducible refine' w_lst ?k1 ?k2 ?_); (case k1 => rfl); (case k2 => rfl); dsimp only [List.set])
  | ((with_reducible refine c_lenS ?k1 ?_); (case k1 => omega))
  | ((with_reducible refine m_stripC ?k1 ?_); (case k1 => omega))
  | ((with_reducible refine l_str ?k1 ?_); (case k1 => omega))
  | ((with_reducible refine o_addS ?k1 ?_); (case k1 => (first | omega | (simp only [len_app, len_one]; omega))))
  | ((with_reducible refine' c_isi ?k1 ?k2 ?_); (case k1 => rfl); (case k2 => first | exact kb_NoneType_bool | exact kb_NoneType_int | exact kb_NoneType_str | exact kb_NoneType_list | exact kb_NoneType_tuple | exact kb_NoneType_dict | exact kb_bool_bool | exact kb_bool_int | exact kb_bool_str | exact kb_bool_list | exact kb_bool_tuple | exact kb_bool_dict | exact kb_int_bool | exact kb_int_int | exact kb_int_str | exact kb_int_list | exact kb_int_tuple | exact kb_int_dict | exact kb_str_bool | exact kb_str_int | exact kb_str_str | exact kb_str_list | exact kb_str_tuple | exact kb_str_dict | exact kb_list_bool | exact kb_list_int | exact kb_list_str | exact kb_list_list | exact kb_list_tuple | exact kb_list_dict | exact kb_tuple_bool | exact kb_tuple_int | exact kb_tuple_str | exact kb_tuple_list | exact kb_tuple_tuple | exact kb_tuple_dict | exact kb_dict_bool | exact kb_dict_int | exact kb_dict_str | exact kb_dict_list | exact kb_dict_tuple | exact kb_dict_dict))
  | (show (∃ z, Dt.str _ = .str z) ∧ _; refine ⟨⟨_, rfl⟩, ?_⟩)
  | (show getElem? _ _ = some (Sl.sh _) ∧ _; refine ⟨rfl, ?_⟩)
  | (show Dt.real _ = true ∧ lent _ _ = false ∧ _; refine ⟨rfl, rfl, ?_⟩; dsimp only [List.set])
  | (show Dt.real _ = true ∧ _; refine ⟨rfl, ?_⟩)
  | (show lent _ _ = false ∧ _; refine ⟨rfl, ?_⟩; dsimp only [List.set])
  | (show allReal _ = true ∧ _; refine ⟨rfl, Nat.le_of_ble_eq_true rfl, ?_⟩)
  | (show (true = true → _) ∧ (true = false → _); refine ⟨fun _ => ?_, fun h => nomatch h⟩)
  | (show (false = true → _) ∧ (false = false → _); refine ⟨(fun h => nomatch h), fun _ => ?_⟩)
  | (refine ⟨_, rfl, _, (fun P p => e_int p), ?_⟩)
  | (refine ⟨_, rfl, _, (fun P p => e_var rfl p), ?_⟩)
  | (refine ⟨_, rfl, ?_⟩)
  | fail "dl")
local macro_rules | `(tactic| walk_at "dl") => `(tactic| repeat' walk_at "dl1")
local macro_rules | `(tactic| walk_at "dls") => `(tactic| repeat' (first | walk_at "dl1" | (refine ⟨fun hb => ?_, fun hb => ?_⟩) | fail "dls"))
local macro_rules | `(tactic| walk_at "fg") => `(tactic| repeat (first | exact Fg.nil | (with_reducible refine Fg.keep ?_) | (refine Fg.drop ?_)))

section
variable {P : Program} {w : World} {K : DL.Frag} {mg : Str → Option Value} {base : Heap}

def sp_is_number : Fsp where
  I := Dt
  arg i := [i]
  pre i := i.real = true ∧ i.tyN.isSome = true
  post i d := d = .bl (isInt i 0 none)
theorem ok_is_number (T : Tx K mg) : FnG P w K mg base 2 "is_number" ["value"] (DSp K sp_is_number) := by
  have G_is_integer_2 := ok_is_integer_2 (P := P) (w := w) (base := base) T
  obtain ⟨fd, F⟩ := T.F_is_number
  refine ⟨_, fd, T.g_is_number, F.kp, fn_body F sc_is_number (fun _ => rfl) (fun cdv A outer s H E hr tk po => ?_), F.bindsN fun _ _ _ _ _ _ us hl => match us, hl with | [_], _ => rfl⟩
  refine ⟨_, (pss_one (ps_ret (pe_fnD G_is_integer_2 (hr.mono (by decide)) tk rfl (pa_cons (pv 0) (pa_cons pe_int pa_nil))))), fun (i : Dt) hp Z hn hq hx => ?_⟩
  try dsimp only [cxB, cxOf]
  show StD K _ _ [.sh i] _
  clear tk po hr F G_is_integer_2
  refine s_ret (e_isInt ?_)
  walk_at "dl1"
  walk_at "dl1"
  walk_at "dl1"
  walk_at "dl1"
  walk_at "dl1"
  exact ⟨_, _, rfl, hp.1, hp.2, rfl, hq _ _ rfl⟩

/-! ### figures -/
abbrev DG : Str := "0123456789"
abbrev SG : Str := "abcdefghijklmnopqrstuvwxyz"
theorem at_DG {i : Int} (h0 : 0 ≤ i) (h : i < 10) : atI DG.cps.toList i = some (48 + i.toNat) := by
  obtain ⟨n, rfl⟩ := Int.eq_ofNat_of_zero_le h0
  have : ∀ k, k < 10 → atI DG.cps.toList ((k : Nat) : Int) = some (48 + k) := by decide +kernel
  exact this n (by omega)
theorem at_SG {i : Int} (h0 : 0 ≤ i) (h : i < 26) : atI SG.cps.toList i = some (97 + i.toNat) := by
  obtain ⟨n, rfl⟩ := Int.eq_ofNat_of_zero_le h0
  have : ∀ k, k < 26 → atI SG.cps.toList ((k : Nat) : Int) = some (97 + k) := by decide +kernel
  exact this n (by omega)
def sp_digits_of : Fsp where
  I := Nat
  arg n := [.int (n : Nat)]
  pre n := n < 2 ^ 200
  post n d := d = .str (tx (dig n))
theorem ok_digits_of (T : Tx K mg) : FnG P w K mg base 1 "digits_of" ["number"] (DSp K sp_digits_of) := by
  obtain ⟨fd, F⟩ := T.F_digits_of
  refine ⟨_, fd, T.g_digits_of, F.kp, fn_body F sc_digits_of (fun _ => rfl) (fun cdv A outer s H E hr tk po => ?_), F.bindsN fun _ _ _ _ _ _ us hl => match us, hl with | [_], _ => rfl⟩
  refine ⟨_, (pss_cons (ps_set (i := 1) sc_digits_of.nd rfl (Or.inl rfl) (pe_ix (ix_seqK (K := K) rfl) (pe_gS rfl T.e_DIGITS) (pe_op op_mod (pv 0) pe_int) (fun _ _ => rfl)))
  (pss_cons (ps_while po (pt_cmpR (op_geK (K := K) rfl hr.units) (pv 0) pe_int (nomark _)) (pss_cons (ps_aug (i := 0) sc_digits_of.nd rfl (Or.inl rfl) pe_int iop_fdivW)
  (pss_one (ps_set (i := 1) sc_digits_of.nd rfl (Or.inl rfl) (pe_op (op_addK (K := K) rfl) (pe_ix (ix_seqK (K := K) rfl) (pe_gS rfl T.e_DIGITS) (pe_op op_mod (pv 0) pe_int) (fun _ _ => rfl)) (pv 1))))))
  (pss_one (ps_ret (pv 1))))), fun (n : Nat) (hp : n < 2 ^ 200) Z hn hq hx => ?_⟩
  have hq : ∀ ρ, Z.rt (.str (tx (dig n))) ρ := fun ρ => hq _ ρ rfl
  try dsimp only [cxB, cxOf]
  show StD K _ _ [.sh (.int (n : Nat)), .no] _
  clear tk po hr F
  walk_at "dl"
  refine o_ixS (by decide +kernel) (at_DG (Int.emod_nonneg _ (by decide)) (Int.emod_lt_of_pos _ (by decide))) ?_
  walk_at "dl1"
  refine ss_while (fun m ρ => ∃ t : List Nat, m * 2 ^ t.length ≤ n ∧ dig n = (if m < 10 then [] else dig (m / 10)) ++ [48 + m % 10] ++ t ∧ ρ = [.sh (.int (m : Nat)), .sh (.str (tx ([48 + m % 10] ++ t)))]) ⟨n, [], by simp, ?_, ?_⟩ ?_
  · by_cases h : n < 10
    · rw [dig_lt h, if_pos h, Nat.mod_eq_of_lt h]
      rfl
    · rw [dig_ge h, if_neg h]
      simp
  · have e : ((n : Int) % 10).toNat = n % 10 := by omega
    rw [e]
    rfl
  · rintro m _ ⟨t, h1, h2, rfl⟩
    walk_at "dl"
    refine ⟨fun hb Z' LZ => ?_, fun hb => ?_⟩
    · have hb : 10 ≤ m := by
        have := of_decide_eq_true hb
        omega
      have hlen : t.length < 200 := by
        rcases Nat.lt_or_ge t.length 200 with h | h
        · exact h
        · exfalso
          have h3 : 2 ^ 200 ≤ 2 ^ t.length := Nat.pow_le_pow_right (by decide) h
          have h4 : 1 * 2 ^ t.length ≤ m * 2 ^ t.length := Nat.mul_le_mul_right _ (by omega)
          omega
      walk_at "dl"
      refine o_ixS (by decide +kernel) (at_DG (Int.emod_nonneg _ (by decide)) (Int.emod_lt_of_pos _ (by decide))) ?_
      rw [tx_one]
      refine e_var rfl (o_addS (by rw [tx_len, tx_len]; simp; omega) ?_)
      walk_at "dl"
      refine LZ.nx _ _ (Fg.refl _) ⟨m / 10, by omega, [48 + m % 10] ++ t, ?_, ?_, ?_⟩
      · have e : (m / 10) * 2 ^ ([48 + m % 10] ++ t).length = (m / 10 * 2) * 2 ^ t.length := by
          rw [List.length_append, Nat.pow_add]
          simp [Nat.mul_assoc]
        rw [e]
        exact Nat.le_trans (Nat.mul_le_mul_right _ (by omega)) h1
      · rw [h2, if_neg (by omega : ¬ m < 10)]
        by_cases h : m / 10 < 10
        · rw [if_pos h, dig_lt h, Nat.mod_eq_of_lt h]
          simp
        · rw [if_neg h, dig_ge h]
          simp
      · have e1 : ((m : Int) / 10) = ((m / 10 : Nat) : Int) := by omega
        have e2 : (((m / 10 : Nat) : Int) % 10).toNat = m / 10 % 10 := by omega
        rw [e1, e2, tx_app]
    · have hb : m < 10 := by
        have := of_decide_eq_false hb
        omega
      walk_at "dl"
      rw [if_pos hb] at h2
      have e : dig n = [48 + m % 10] ++ t := by simpa using h2
      rw [← e]
      exact hq _

def sp_word_of : Fsp where
  I := Nat
  arg n := [.int (n : Nat)]
  pre n := n < 2 ^ 200
  post n d := d = .str (tx (wrd n))
theorem ok_word_of (T : Tx K mg) : FnG P w K mg base 1 "word_of" ["number"] (DSp K sp_word_of) := by
  obtain ⟨fd, F⟩ := T.F_word_of
  refine ⟨_, fd, T.g_word_of, F.kp, fn_body F sc_word_of (fun _ => rfl) (fun cdv A outer s H E hr tk po => ?_), F.bindsN fun _ _ _ _ _ _ us hl => match us, hl with | [_], _ => rfl⟩
  refine ⟨_, (pss_cons (ps_set (i := 1) sc_word_of.nd rfl (Or.inl rfl) pe_str)
  (pss_cons (ps_while po (pt_cmpR (op_gtK (K := K) rfl hr.units) (pv 0) pe_int (nomark _)) (pss_cons (ps_aug (i := 0) sc_word_of.nd rfl (Or.inl rfl) pe_int iop_sub)
  (pss_cons (ps_set (i := 1) sc_word_of.nd rfl (Or.inl rfl) (pe_op (op_addK (K := K) rfl) (pe_ix (ix_seqK (K := K) rfl) (pe_gS rfl T.e_SIGNS) (pe_op op_mod (pv 0) (pe_callB (call_lenK (K := K) rfl) (by rfl) T.n_len (by decide +kernel) (pa_cons (pe_gS rfl T.e_SIGNS) pa_nil))) (fun _ _ => rfl)) (pv 1)))
  (pss_one (ps_aug (i := 0) sc_word_of.nd rfl (Or.inl rfl) (pe_callB (call_lenK (K := K) rfl) (by rfl) T.n_len (by decide +kernel) (pa_cons (pe_gS rfl T.e_SIGNS) pa_nil)) iop_fdivW)))))
  (pss_one (ps_ret (pv 1))))), fun (n : Nat) (hp : n < 2 ^ 200) Z hn hq hx => ?_⟩
  have hq : ∀ ρ, Z.rt (.str (tx (wrd n))) ρ := fun ρ => hq _ ρ rfl
  try dsimp only [cxB, cxOf]
  show StD K _ _ [.sh (.int (n : Nat)), .no] _
  clear tk po hr F
  have l26 : SG.length = 26 := by decide +kernel
  walk_at "dl1"
  walk_at "dl1"
  walk_at "dl1"
  refine ss_while (fun m ρ => ∃ t : List Nat, m * 2 ^ t.length ≤ n ∧ wrd n = wrd m ++ t ∧ ρ = [.sh (.int (m : Nat)), .sh (.str (tx t))]) ⟨n, [], by simp, by simp, rfl⟩ ?_
  rintro m _ ⟨t, h1, h2, rfl⟩
  walk_at "dl"
  refine ⟨fun hb Z' LZ => ?_, fun hb => ?_⟩
  · have hb : 0 < m := by
      have := of_decide_eq_true hb
      omega
    have hlen : t.length < 200 := by
      rcases Nat.lt_or_ge t.length 200 with h | h
      · exact h
      · exfalso
        have h3 : 2 ^ 200 ≤ 2 ^ t.length := Nat.pow_le_pow_right (by decide) h
        have h4 : 1 * 2 ^ t.length ≤ m * 2 ^ t.length := Nat.mul_le_mul_right _ (by omega)
        omega
    have e0 : ((m : Int) - 1) = ((m - 1 : Nat) : Int) := by omega
    walk_at "dl"
    rw [e0]
    refine c_lenS (by rw [l26]; decide) ?_
    rw [l26]
    refine o_mod (by decide) ?_
    refine o_ixS (by decide +kernel) (at_SG (Int.emod_nonneg _ (by decide)) (Int.emod_lt_of_pos _ (by decide))) ?_
    rw [tx_one]
    refine e_var rfl (o_addS (by rw [tx_len, tx_len]; simp; omega) ?_)
    walk_at "dl"
    refine c_lenS (by rw [l26]; decide) ?_
    rw [l26]
    walk_at "dl"
    refine LZ.nx _ _ (Fg.refl _) ⟨(m - 1) / 26, by omega, [97 + (m - 1) % 26] ++ t, ?_, ?_, ?_⟩
    · have e : ((m - 1) / 26) * 2 ^ ([97 + (m - 1) % 26] ++ t).length = ((m - 1) / 26 * 2) * 2 ^ t.length := by
        rw [List.length_append, Nat.pow_add]
        simp [Nat.mul_assoc]
      rw [e]
      exact Nat.le_trans (Nat.mul_le_mul_right _ (by omega)) h1
    · rw [h2, wrd_s (by omega : m ≠ 0)]
      simp
    · have e1 : (((m - 1 : Nat) : Int) / 26) = (((m - 1) / 26 : Nat) : Int) := by omega
      have e2 : ((((m - 1 : Nat)) : Int) % 26).toNat = (m - 1) % 26 := by omega
      rw [tx_app]
      show [Sl.sh (Dt.int (((m - 1 : Nat) : Int) / 26)), Sl.sh (Dt.str (tx ([97 + (((m - 1 : Nat) : Int) % 26).toNat] ++ t)))] = _
      rw [e1, e2]
  · have hb : m = 0 := by
      have := of_decide_eq_false hb
      omega
    subst hb
    walk_at "dl"
    rw [wrd_0] at h2
    have e : wrd n = t := by simpa using h2
    rw [← e]
    exact hq _
/-! ### number_text -/
def fmS (fig : Bool) : Str := if fig then "figures" else "letters"
def ntx (fig : Bool) (n : Nat) : List Nat := if fig then dig n else if n = 0 then [45] else wrd n
def sp_number_text : Fsp where
  I := Bool × Nat
  arg i := [.str (fmS i.1), .int (i.2 : Nat)]
  pre i := i.2 < 2 ^ 200
  post i d := d = .str (tx (ntx i.1 i.2))
theorem ok_number_text (T : Tx K mg) : FnG P w K mg base 2 "number_text" ["form", "number"] (DSp K sp_number_text) := by
  have G_digits_of := ok_digits_of (P := P) (w := w) (base := base) T
  have G_word_of := ok_word_of (P := P) (w := w) (base := base) T
  obtain ⟨fd, F⟩ := T.F_number_text
  refine ⟨_, fd, T.g_number_text, F.kp, fn_body F sc_number_text (fun _ => rfl) (fun cdv A outer s H E hr tk po => ?_), F.bindsN fun _ _ _ _ _ _ us hl => match us, hl with | [_, _], _ => rfl⟩
  refine ⟨_, (pss_cons (ps_if (pt_cmpR (op_eqK (K := K) rfl hr.units) (pv 0) (pe_gS rfl T.e_FIGURES) (nomark _)) (pss_one (ps_ret (pe_fn G_digits_of (hr.mono (by decide)) tk rfl (pa_cons (pv 1) pa_nil)))) pss_nil)
  (pss_one (ps_ret (pe_ifExp (pt_cmpR (op_eqK (K := K) rfl hr.units) (pv 1) pe_int (nomark _)) (pe_gS rfl T.e_NONE) (pe_fn G_word_of (hr.mono (by decide)) tk rfl (pa_cons (pv 1) pa_nil)))))), fun i hp Z hn hq hx => ?_⟩
  obtain ⟨fig, n⟩ := i
  have hp : n < 2 ^ 200 := hp
  have hq : ∀ ρ, Z.rt (.str (tx (ntx fig n))) ρ := fun ρ => hq _ ρ rfl
  try dsimp only [cxB, cxOf]
  show StD K _ _ [.sh (.str (fmS fig)), .sh (.int (n : Nat))] _
  clear tk po hr F G_digits_of G_word_of
  have c1 : decide (fmS fig = "figures") = fig := by cases fig <;> decide +kernel
  walk_at "dl"
  rw [c1]
  refine ⟨fun hb => ?_, fun hb => ?_⟩
  · subst hb
    refine ss_ret (e_call ?_)
    walk_at "dl"
    exact ⟨rfl, hp, fun d e => by cases (show d = _ from e); exact ⟨rfl, hq _⟩, fun _ z => z.elim⟩
  · subst hb
    walk_at "dl"
    refine ⟨fun hb => ?_, fun hb => ?_⟩
    · have hb : n = 0 := by
        have := of_decide_eq_true hb
        omega
      subst hb
      walk_at "dl"
      exact hq _
    · have hb : n ≠ 0 := by
        have := of_decide_eq_false hb
        omega
      refine e_call ?_
      walk_at "dl"
      refine ⟨rfl, hp, fun d e => ?_, fun _ z => z.elim⟩
      cases (show d = _ from e)
      have e2 : ntx false n = wrd n := by
        unfold ntx
        rw [if_neg (by decide), if_neg hb]
      rw [e2] at hq
      exact ⟨rfl, hq _⟩

/-! ### read_number -/
def sgL (fig : Bool) : List Nat := TL.tl (if fig then DG else SG)
def vlN (fig : Bool) (l : List Nat) : Nat := if fig then val 10 48 0 l else val 26 97 1 l
/-- what a text says -/
def rdN (fig : Bool) (l : List Nat) : Option Nat :=
  if fig = false ∧ l = [45] then some 0
  else if l = [] ∨ (∃ c ∈ l, c ∉ sgL fig) ∨ (fig = true ∧ l.head? = some 48 ∧ 1 < l.length) then none
  else some (vlN fig l)
def oD : Option Nat → Dt
  | none => .non
  | some n => .int (n : Nat)
def sp_read_number : Fsp where
  I := Bool × List Nat
  arg i := [.str (fmS i.1), .str (tx i.2)]
  pre i := i.2.length ≤ 10000
  post i d := d = oD (rdN i.1 i.2)
theorem sg_mem (fig : Bool) {c : Nat} : c ∈ sgL fig ↔ (if fig then 48 ≤ c ∧ c < 58 else 97 ≤ c ∧ c < 123) := by
  cases fig with
  | true =>
    have h : sgL true = [48, 49, 50, 51, 52, 53, 54, 55, 56, 57] := by decide +kernel
    rw [h, if_pos rfl]
    simp only [List.mem_cons, List.not_mem_nil, or_false]
    omega
  | false =>
    have h : sgL false = [97, 98, 99, 100, 101, 102, 103, 104, 105, 106, 107, 108, 109, 110, 111, 112, 113, 114, 115, 116, 117, 118, 119, 120, 121, 122] := by decide +kernel
    rw [h, if_neg (by decide)]
    simp only [List.mem_cons, List.not_mem_nil, or_false]
    omega
theorem occ_DG {c : Nat} (h : 48 ≤ c ∧ c < 58) : Builtin.Str.occurrences DG (tx [c]) 0 DG.length 1 = [c - 48] := by
  have : ∀ k, k < 10 → Builtin.Str.occurrences DG (tx [48 + k]) 0 DG.length 1 = [k] := by decide +kernel
  have e := this (c - 48) (by omega)
  rw [show 48 + (c - 48) = c by omega] at e
  exact e
theorem occ_SG {c : Nat} (h : 97 ≤ c ∧ c < 123) : Builtin.Str.occurrences SG (tx [c]) 0 SG.length 1 = [c - 97] := by
  have : ∀ k, k < 26 → Builtin.Str.occurrences SG (tx [97 + k]) 0 SG.length 1 = [k] := by decide +kernel
  have e := this (c - 97) (by omega)
  rw [show 97 + (c - 97) = c by omega] at e
  exact e
theorem strip_sg (fig : Bool) (l : List Nat) : (Txt.stripChars (tx l) (if fig then DG else SG) = "") ↔ ¬ ∃ c ∈ l, c ∉ sgL fig := by
  rw [stripC_nil, tl_tx]
  unfold sgL
  constructor
  · rintro h ⟨c, h1, h2⟩
    exact h2 (h c h1)
  · intro h c hc
    exact Classical.byContradiction fun z => h ⟨c, hc, z⟩
theorem val_take {b o k : Nat} {l : List Nat} {i c : Nat} (h : l[i]? = some c) : val b o k (l.take (i + 1)) = val b o k (l.take i) * b + (c - o) + k := by
  rw [List.take_succ, h, ← val_snoc]
  rfl
theorem ok_read_number (T : Tx K mg) : FnG P w K mg base 1 "read_number" ["form", "text"] (DSp K sp_read_number) := by
  obtain ⟨fd, F⟩ := T.F_read_number
  refine ⟨_, fd, T.g_read_number, F.kp, fn_body F sc_read_number (fun _ => rfl) (fun cdv A outer s H E hr tk po => ?_), F.bindsN fun _ _ _ _ _ _ us hl => match us, hl with | [_, _], _ => rfl⟩
  refine ⟨_, (pss_cons (ps_if (PW.pt (pw_and (pt_cmpR (op_eqK (K := K) rfl hr.units) (pv 0) (pe_gS rfl T.e_LETTERS) (nomark _)) (pw_and1 (pt_cmpR (op_eqK (K := K) rfl hr.units) (pv 1) (pe_gS rfl T.e_NONE) (nomark _))))) (pss_one (ps_ret pe_int)) pss_nil)
  (pss_cons (ps_set (i := 2) sc_read_number.nd rfl (Or.inl rfl) (pe_ifExp (pt_cmpR (op_eqK (K := K) rfl hr.units) (pv 0) (pe_gS rfl T.e_FIGURES) (nomark _)) (pe_gS rfl T.e_DIGITS) (pe_gS rfl T.e_SIGNS)))
  (pss_cons (ps_if (PW.pt (pw_or (pt_cmpR (op_eqK (K := K) rfl hr.units) (pv 1) pe_str (nomark _)) (pw_or (pt_cmpR (op_neK (K := K) rfl hr.units) (pe_bmK (K := K) rfl PySem.F.plainAttrs_str PySem.F.slot_str_strip PySem.F.type_str_strip mt_stripC (pv 1) (pa_cons (pv 2) pa_nil)) pe_str (nomark _)) (pw_or1 (PW.pt (pw_and (pt_cmpR (op_eqK (K := K) rfl hr.units) (pv 0) (pe_gS rfl T.e_FIGURES) (nomark _)) (pw_and (pt_cmpR (op_eqK (K := K) rfl hr.units) (pe_ix (ix_seqK (K := K) rfl) (pv 1) pe_int (fun _ _ => rfl)) pe_str (nomark _)) (pw_and1 (pt_cmpR (op_gtK (K := K) rfl hr.units) (pe_callB (call_lenK (K := K) rfl) (by rfl) T.n_len (by decide +kernel) (pa_cons (pv 1) pa_nil)) pe_int (nomark _)))))))))) (pss_one (ps_ret pe_non)) pss_nil)
  (pss_cons (ps_set (i := 3) sc_read_number.nd rfl (Or.inl rfl) pe_int)
  (pss_cons (ps_for po rfl (pi_str (pv 1)) (pg_name (i := 4) sc_read_number.nd rfl (Or.inl rfl)) (pss_one (ps_set (i := 3) sc_read_number.nd rfl (Or.inl rfl) (pe_op (op_addK (K := K) rfl) (pe_op (op_addK (K := K) rfl) (pe_op op_mulU (pv 3) (pe_callB (call_lenK (K := K) rfl) (by rfl) T.n_len (by decide +kernel) (pa_cons (pv 2) pa_nil))) (pe_bmK (K := K) rfl PySem.F.plainAttrs_str PySem.F.slot_str_index PySem.F.type_str_index mt_sindex (pv 2) (pa_cons (pv 4) pa_nil))) (pe_ifExp (pt_cmpR (op_eqK (K := K) rfl hr.units) (pv 0) (pe_gS rfl T.e_FIGURES) (nomark _)) pe_int pe_int)))))
  (pss_one (ps_ret (pv 3)))))))), fun i hp Z hn hq hx => ?_⟩
  obtain ⟨fig, l⟩ := i
  have hp : l.length ≤ 10000 := hp
  have hq : ∀ o ρ, o = rdN fig l → Z.rt (oD o) ρ := fun o ρ e => hq _ ρ (by rw [e]; rfl)
  try dsimp only [cxB, cxOf]
  show StD K _ _ [.sh (.str (fmS fig)), .sh (.str (tx l)), .no, .no, .no] _
  clear tk po hr F
  have c1 : decide (fmS fig = "figures") = fig := by cases fig <;> decide +kernel
  have c2 : decide (fmS fig = "letters") = !fig := by cases fig <;> decide +kernel
  have hl := tx_len l
  have t0 : decide (tx l = "") = decide (l = []) := by
    rw [decide_eq_decide]
    constructor
    · intro h
      have := congrArg TL.tl h
      rw [tl_tx] at this
      exact this
    · intro h
      rw [h]
      rfl
  have t45 : decide (tx l = "-") = decide (l = [45]) := by
    rw [decide_eq_decide]
    constructor
    · intro h
      have := congrArg TL.tl h
      rw [tl_tx] at this
      exact this
    · intro h
      rw [h]
      decide +kernel
  have ts := strip_sg fig l
  have at0 : ∀ {c : Nat} {r : List Nat}, l = c :: r → atI (tx l).cps.toList 0 = some c := fun {c r} e => by
    have e2 : (tx l).cps.toList = c :: r := (tl_tx l).trans e
    rw [e2]
    unfold atI ixN
    rw [if_pos (by decide), if_pos (by simp only [List.length_cons]; omega)]
    rfl
  have e48 : ∀ c : Nat, decide ((⟨#[c]⟩ : Str) = "0") = decide (c = 48) := fun c => by
    rw [decide_eq_decide]
    constructor
    · intro h
      have := congrArg TL.tl h
      have e2 : [c] = [48] := this
      simpa using e2
    · intro h
      rw [h]
      decide +kernel
  have l10 : (DG : Str).length = 10 := by decide +kernel
  have l26 : (SG : Str).length = 26 := by decide +kernel
  cases fig with
  | true =>
    rw [if_pos rfl] at ts
    walk_at "dl"
    rw [t0]
    refine ⟨fun hb => ?_, fun hb => ?_⟩
    · walk_at "dl"
      refine hq none _ ?_
      unfold rdN
      rw [if_neg (by simp), if_pos (.inl (of_decide_eq_true hb))]
    · have h0 : l ≠ [] := of_decide_eq_false hb
      walk_at "dl"
      by_cases hs : ∃ c ∈ l, c ∉ sgL true
      · rw [decide_eq_false (mt ts.mp (fun z => z hs))]
        walk_at "dl"
        refine hq none _ ?_
        unfold rdN
        rw [if_neg (by simp), if_pos (.inr (.inl hs))]
      · rw [decide_eq_true (ts.mpr hs)]
        walk_at "dl"
        obtain ⟨c, r, hcr⟩ := List.exists_cons_of_ne_nil h0
        refine o_ixS (by omega) (at0 hcr) ?_
        walk_at "dl"
        rw [e48]
        have main : ¬ (l.head? = some 48 ∧ 1 < l.length) → ∀ ρ, ρ = [Sl.sh (.str (fmS true)), Sl.sh (.str (tx l)), Sl.sh (.str DG), Sl.no, Sl.no] → StD K (wE E) (tSeq tNext (tSeq (tAsg (tC (V.int 0)) (gName 3)) (tSeq (tFor (iStr (tVar 1)) (gName 4) (tAsg (tOp (rAddU K) (tOp (rAddU K) (tOp rMulU (tVar 3) (tCB (rLenU K) (tCons (tVar 2) tNil))) (tBM K "str" (fun x xs H Q => ∃ a b i rest, x = V.str a ∧ xs = [V.str b] ∧ Builtin.Str.occurrences a b 0 a.length 1 = i :: rest ∧ Q (V.int ↑i) H) (tVar 2) (tCons (tVar 4) tNil))) (tIf (tTest (tOp (rEqU K) (tVar 0) (tC (V.str (Str.ofString "figures"))))) (tC (V.int 0)) (tC (V.int 1)))) (gName 3))) (tRet (tVar 3))))) ρ Z := by
          rintro hm _ rfl
          walk_at "dl"
          refine ss_forS (e_var rfl ⟨tx l, rfl, fun k ρ => ρ = [.sh (.str (fmS true)), .sh (.str (tx l)), .sh (.str DG), .sh (.int (vlN true (l.take k) : Nat)), .no], rfl, ?_, ?_⟩)
          · rintro k _ c hk rfl
            rw [tl_tx] at hk
            refine ⟨rfl, fun Y LY => ?_⟩
            have hc : c ∈ sgL true := Classical.byContradiction fun z => hs ⟨c, List.mem_of_getElem? hk, z⟩
            rw [sg_mem, if_pos rfl] at hc
            dsimp only [List.set]
            walk_at "dl"
            rw [l10]
            refine m_sindex (occ_DG hc) ?_
            walk_at "dl"
            have e : ((vlN true (l.take (k + 1)) : Nat) : Int) = (vlN true (l.take k) : Int) * ((10 : Nat) : Int) + ((c - 48 : Nat) : Int) + 0 := congrArg Int.ofNat (val_take hk)
            refine LY.nx _ _ ?_ rfl
            rw [e]
            walk_at "fg"
          · rintro _ rfl
            walk_at "dl"
            refine hq (some _) _ ?_
            unfold rdN
            rw [if_neg (by simp), if_neg (by rintro (z | z | ⟨_, z⟩); exact h0 z; exact hs z; exact hm z), tl_tx, List.take_length]
        refine ⟨fun hb2 => ?_, fun hb2 => ?_⟩
        · have hc : c = 48 := of_decide_eq_true hb2
          walk_at "dl"
          refine ⟨fun hb3 => ?_, fun hb3 => ?_⟩
          · have hlen := of_decide_eq_true hb3
            walk_at "dl"
            refine hq none _ ?_
            unfold rdN
            rw [if_neg (by simp), if_pos (.inr (.inr ⟨rfl, by rw [hcr, hc]; rfl, by omega⟩))]
          · have hlen := of_decide_eq_false hb3
            exact main (fun z => by omega) _ rfl
        · have hc : c ≠ 48 := of_decide_eq_false hb2
          refine ⟨(fun h => nomatch h), fun _ => main (fun z => ?_) _ rfl⟩
          have := z.1
          rw [hcr] at this
          exact hc (by simpa using this)
  | false =>
    rw [if_neg (by decide)] at ts
    walk_at "dl"
    rw [t45]
    by_cases h45 : l = [45]
    · rw [decide_eq_true h45]
      walk_at "dl"
      refine hq (some 0) _ ?_
      unfold rdN
      rw [if_pos ⟨rfl, h45⟩]
    · rw [decide_eq_false h45]
      walk_at "dl"
      rw [t0]
      refine ⟨fun hb => ?_, fun hb => ?_⟩
      · walk_at "dl"
        refine hq none _ ?_
        unfold rdN
        rw [if_neg (fun z => h45 z.2), if_pos (.inl (of_decide_eq_true hb))]
      · have h0 : l ≠ [] := of_decide_eq_false hb
        walk_at "dl"
        by_cases hs : ∃ c ∈ l, c ∉ sgL false
        · rw [decide_eq_false (mt ts.mp (fun z => z hs))]
          walk_at "dl"
          refine hq none _ ?_
          unfold rdN
          rw [if_neg (fun z => h45 z.2), if_pos (.inr (.inl hs))]
        · rw [decide_eq_true (ts.mpr hs)]
          walk_at "dl"
          refine ss_forS (e_var rfl ⟨tx l, rfl, fun k ρ => ρ = [.sh (.str (fmS false)), .sh (.str (tx l)), .sh (.str SG), .sh (.int (vlN false (l.take k) : Nat)), .no], rfl, ?_, ?_⟩)
          · rintro k _ c hk rfl
            rw [tl_tx] at hk
            refine ⟨rfl, fun Y LY => ?_⟩
            have hc : c ∈ sgL false := Classical.byContradiction fun z => hs ⟨c, List.mem_of_getElem? hk, z⟩
            rw [sg_mem, if_neg (by decide)] at hc
            dsimp only [List.set]
            walk_at "dl"
            rw [l26]
            refine m_sindex (occ_SG hc) ?_
            walk_at "dl"
            have e : ((vlN false (l.take (k + 1)) : Nat) : Int) = (vlN false (l.take k) : Int) * ((26 : Nat) : Int) + ((c - 97 : Nat) : Int) + 1 := congrArg Int.ofNat (val_take hk)
            refine LY.nx _ _ ?_ rfl
            rw [e]
            walk_at "fg"
          · rintro _ rfl
            walk_at "dl"
            refine hq (some _) _ ?_
            unfold rdN
            rw [if_neg (fun z => h45 z.2), if_neg (by rintro (z | z | ⟨z, _⟩); exact h0 z; exact hs z; cases z), tl_tx, List.take_length]

/-! ### the doors -/
theorem isInt_num {d : Dt} (h : isInt d 0 none = true) : ∃ n : Nat, d = .int (n : Nat) := by
  cases d with
  | int i =>
    have h2 : (decide (0 ≤ i) && true) = true := h
    rw [Bool.and_true] at h2
    obtain ⟨n, rfl⟩ := Int.eq_ofNat_of_zero_le (of_decide_eq_true h2)
    exact ⟨n, rfl⟩
  | _ => cases h
abbrev cBN (K : DL.Frag) : Addr := He.ga K "BadNumber"
abbrev cBT (K : DL.Frag) : Addr := He.ga K "BadText"
def dSm (d : Dt) : Prop := ∀ n : Nat, d = .int (n : Nat) → n < 2 ^ 200
def sp_checked_text (K : DL.Frag) : Fsp where
  I := Bool × Dt
  arg i := [.str (fmS i.1), i.2]
  pre i := i.2.real = true ∧ i.2.tyN.isSome = true ∧ dSm i.2
  post i d := ∃ n : Nat, i.2 = .int (n : Nat) ∧ d = .str (tx (ntx i.1 n))
  exc i c := isInt i.2 0 none = false ∧ c = ⟨cBN K, ["number"], [i.2]⟩
theorem ok_checked_text (T : Tx K mg) : FnG P w K mg base 3 "checked_text" ["form", "number"] (DSp K (sp_checked_text K)) := by
  have G_is_number := ok_is_number (P := P) (w := w) (base := base) T
  have G_number_text := ok_number_text (P := P) (w := w) (base := base) T
  have G_BadNumber := G_BadNumber (P := P) (w := w) (base := base) T
  obtain ⟨fd, F⟩ := T.F_checked_text
  refine ⟨_, fd, T.g_checked_text, F.kp, fn_body F sc_checked_text (fun _ => rfl) (fun cdv A outer s H E hr tk po => ?_), F.bindsN fun _ _ _ _ _ _ us hl => match us, hl with | [_, _], _ => rfl⟩
  refine ⟨_, (pss_cons (ps_if (pt_not (pt_truK (K := K) rfl (pe_fn G_is_number (hr.mono (by decide)) tk rfl (pa_cons (pv 1) pa_nil)))) (pss_one (ps_rai G_BadNumber rfl tk (hr.mono (by decide)) rfl (pa_cons (pv 1) pa_nil))) pss_nil)
  (pss_one (ps_ret (pe_fn G_number_text (hr.mono (by decide)) tk rfl (pa_cons (pv 0) (pa_cons (pv 1) pa_nil)))))), fun i hp Z hn hq hx => ?_⟩
  obtain ⟨fig, d⟩ := i
  obtain ⟨h1, h2, h3⟩ : d.real = true ∧ d.tyN.isSome = true ∧ dSm d := hp
  try dsimp only [cxB, cxOf]
  show StD K _ _ [.sh (.str (fmS fig)), .sh d] _
  clear tk po hr F G_is_number G_number_text G_BadNumber
  refine ss_if (t_not (t_tru (e_call ?_)))
  walk_at "dl"
  refine ⟨(by unfold allReal; rw [List.all_cons, h1]; rfl), ⟨h1, h2⟩, fun z e => ?_, fun _ z => z.elim⟩
  cases (show z = _ from e)
  refine ⟨_, rfl, fun hb => ?_, fun hb => ?_⟩
  · have hb : isInt d 0 none = false := by simpa using hb
    walk_at "dl1"
    walk_at "dl1"
    exact ⟨h1, hx _ _ ⟨hb, rfl⟩⟩
  · have hb : isInt d 0 none = true := by simpa using hb
    obtain ⟨n, rfl⟩ := isInt_num hb
    walk_at "dl1"
    refine s_ret (e_call ?_)
    walk_at "dl"
    exact ⟨(fig, n), rfl, rfl, h3 n rfl, fun z e => by cases (show z = _ from e); exact ⟨rfl, hq _ _ ⟨n, rfl, rfl⟩⟩, fun _ z => z.elim⟩
def sp_form (K : DL.Frag) (fig : Bool) : Fsp where
  I := Dt
  arg i := [i]
  pre i := i.real = true ∧ i.tyN.isSome = true ∧ dSm i
  post i d := ∃ n : Nat, i = .int (n : Nat) ∧ d = .str (tx (ntx fig n))
  exc i c := isInt i 0 none = false ∧ c = ⟨cBN K, ["number"], [i]⟩
theorem ok_figures (T : Tx K mg) : FnG P w K mg base 4 "figures" ["number"] (DSp K (sp_form K true)) := by
  have G_checked_text := ok_checked_text (P := P) (w := w) (base := base) T
  obtain ⟨fd, F⟩ := T.F_figures
  refine ⟨_, fd, T.g_figures, F.kp, fn_body F sc_figures (fun _ => rfl) (fun cdv A outer s H E hr tk po => ?_), F.bindsN fun _ _ _ _ _ _ us hl => match us, hl with | [_], _ => rfl⟩
  refine ⟨_, (pss_one (ps_ret (pe_fn G_checked_text (hr.mono (by decide)) tk rfl (pa_cons (pe_gS rfl T.e_FIGURES) (pa_cons (pv 0) pa_nil))))), fun (d : Dt) hp Z hn hq hx => ?_⟩
  try dsimp only [cxB, cxOf]
  show StD K _ _ [.sh d] _
  clear tk po hr F G_checked_text
  refine s_ret (e_call ?_)
  walk_at "dl"
  exact ⟨(true, d), rfl, (by unfold allReal; rw [List.all_cons, List.all_cons, hp.1]; rfl), hp, fun z e => ⟨by obtain ⟨n, _, e⟩ := e; rw [e]; rfl, hq _ _ e⟩, fun c e => hx _ _ e⟩
theorem ok_letters (T : Tx K mg) : FnG P w K mg base 4 "letters" ["number"] (DSp K (sp_form K false)) := by
  have G_checked_text := ok_checked_text (P := P) (w := w) (base := base) T
  obtain ⟨fd, F⟩ := T.F_letters
  refine ⟨_, fd, T.g_letters, F.kp, fn_body F sc_letters (fun _ => rfl) (fun cdv A outer s H E hr tk po => ?_), F.bindsN fun _ _ _ _ _ _ us hl => match us, hl with | [_], _ => rfl⟩
  refine ⟨_, (pss_one (ps_ret (pe_fn G_checked_text (hr.mono (by decide)) tk rfl (pa_cons (pe_gS rfl T.e_LETTERS) (pa_cons (pv 0) pa_nil))))), fun (d : Dt) hp Z hn hq hx => ?_⟩
  try dsimp only [cxB, cxOf]
  show StD K _ _ [.sh d] _
  clear tk po hr F G_checked_text
  refine s_ret (e_call ?_)
  walk_at "dl"
  exact ⟨(false, d), rfl, (by unfold allReal; rw [List.all_cons, List.all_cons, hp.1]; rfl), hp, fun z e => ⟨by obtain ⟨n, _, e⟩ := e; rw [e]; rfl, hq _ _ e⟩, fun c e => hx _ _ e⟩
def sp_checked_number (K : DL.Frag) : Fsp where
  I := Bool × List Nat
  arg i := [.str (fmS i.1), .str (tx i.2)]
  pre i := i.2.length ≤ 10000
  post i d := ∃ n, rdN i.1 i.2 = some n ∧ d = .int (n : Nat)
  exc i c := rdN i.1 i.2 = none ∧ c = ⟨cBT K, [], []⟩
theorem ok_checked_number (T : Tx K mg) : FnG P w K mg base 2 "checked_number" ["form", "text"] (DSp K (sp_checked_number K)) := by
  have G_read_number := ok_read_number (P := P) (w := w) (base := base) T
  have G_BadText := G_BadText T
  obtain ⟨fd, F⟩ := T.F_checked_number
  refine ⟨_, fd, T.g_checked_number, F.kp, fn_body F sc_checked_number (fun _ => rfl) (fun cdv A outer s H E hr tk po => ?_), F.bindsN fun _ _ _ _ _ _ us hl => match us, hl with | [_, _], _ => rfl⟩
  refine ⟨_, (pss_cons (ps_set (i := 2) sc_checked_number.nd rfl (Or.inl rfl) (pe_fn G_read_number (hr.mono (by decide)) tk rfl (pa_cons (pv 0) (pa_cons (pv 1) pa_nil))))
  (pss_cons (ps_if (pt_cmpR op_isU (pv 2) pe_non (nomark _)) (pss_one (ps_rai0 G_BadText rfl tk rfl)) pss_nil)
  (pss_one (ps_ret (pv 2))))), fun i hp Z hn hq hx => ?_⟩
  obtain ⟨fig, l⟩ := i
  try dsimp only [cxB, cxOf]
  show StD K _ _ [.sh (.str (fmS fig)), .sh (.str (tx l)), .no] _
  clear tk po hr F G_read_number G_BadText
  refine ss_set (e_call ?_)
  walk_at "dl"
  refine ⟨(fig, l), rfl, rfl, hp, fun z e => ?_, fun _ z => z.elim⟩
  cases (show z = _ from e)
  cases hr : rdN fig l with
  | none =>
    refine ⟨rfl, rfl, ?_⟩
    show StD K _ _ [.sh (.str (fmS fig)), .sh (.str (tx l)), .sh .non] _
    walk_at "dl"
    exact hx _ _ ⟨hr, rfl⟩
  | some n =>
    refine ⟨rfl, rfl, ?_⟩
    show StD K _ _ [.sh (.str (fmS fig)), .sh (.str (tx l)), .sh (.int (n : Nat))] _
    walk_at "dl"
    exact hq _ _ ⟨n, hr, rfl⟩
def sp_back (K : DL.Frag) (fig : Bool) : Fsp where
  I := List Nat
  arg i := [.str (tx i)]
  pre i := i.length ≤ 10000
  post i d := ∃ n, rdN fig i = some n ∧ d = .int (n : Nat)
  exc i c := rdN fig i = none ∧ c = ⟨cBT K, [], []⟩
theorem ok_read_figures (T : Tx K mg) : FnG P w K mg base 3 "read_figures" ["text"] (DSp K (sp_back K true)) := by
  have G_checked_number := ok_checked_number (P := P) (w := w) (base := base) T
  obtain ⟨fd, F⟩ := T.F_read_figures
  refine ⟨_, fd, T.g_read_figures, F.kp, fn_body F sc_read_figures (fun _ => rfl) (fun cdv A outer s H E hr tk po => ?_), F.bindsN fun _ _ _ _ _ _ us hl => match us, hl with | [_], _ => rfl⟩
  refine ⟨_, (pss_one (ps_ret (pe_fn G_checked_number (hr.mono (by decide)) tk rfl (pa_cons (pe_gS rfl T.e_FIGURES) (pa_cons (pv 0) pa_nil))))), fun (l : List Nat) hp Z hn hq hx => ?_⟩
  try dsimp only [cxB, cxOf]
  show StD K _ _ [.sh (.str (tx l))] _
  clear tk po hr F G_checked_number
  refine s_ret (e_call ?_)
  walk_at "dl"
  exact ⟨(true, l), rfl, rfl, hp, fun z e => ⟨by obtain ⟨n, _, e⟩ := e; rw [e]; rfl, hq _ _ e⟩, fun c e => hx _ _ e⟩
theorem ok_read_letters (T : Tx K mg) : FnG P w K mg base 3 "read_letters" ["text"] (DSp K (sp_back K false)) := by
  have G_checked_number := ok_checked_number (P := P) (w := w) (base := base) T
  obtain ⟨fd, F⟩ := T.F_read_letters
  refine ⟨_, fd, T.g_read_letters, F.kp, fn_body F sc_read_letters (fun _ => rfl) (fun cdv A outer s H E hr tk po => ?_), F.bindsN fun _ _ _ _ _ _ us hl => match us, hl with | [_], _ => rfl⟩
  refine ⟨_, (pss_one (ps_ret (pe_fn G_checked_number (hr.mono (by decide)) tk rfl (pa_cons (pe_gS rfl T.e_LETTERS) (pa_cons (pv 0) pa_nil))))), fun (l : List Nat) hp Z hn hq hx => ?_⟩
  try dsimp only [cxB, cxOf]
  show StD K _ _ [.sh (.str (tx l))] _
  clear tk po hr F G_checked_number
  refine s_ret (e_call ?_)
  walk_at "dl"
  exact ⟨(false, l), rfl, rfl, hp, fun z e => ⟨by obtain ⟨n, _, e⟩ := e; rw [e]; rfl, hq _ _ e⟩, fun c e => hx _ _ e⟩

end
end T
set_option Elab.async false
set_option linter.all false
set_option maxRecDepth 100000
set_option autoImplicit false
set_option maxHeartbeats 4000000
namespace T
open PySem L2 PyProof.Rows DL M12
local macro_rules | `(tactic| walk_at "dl1") => `(tactic| first
  | (with_reducible refine ss_set ?_)
  | (with_reducible refine ss_if ?_)
  | (with_reducible refine ss_drop ?_)
  | (with_reducible refine ss_put ?_)
  | (with_reducible refine ss_next ?_)
  | (with_reducible refine ss_ret ?_)
  | (with_reducible refine ss_assoc ?_)
  | ((with_reducible refine' ss_aug ?k1 ?_); (case k1 => rfl))
  | ((with_reducible refine' s_aug ?k1 ?_); (case k1 => rfl))
  | (with_reducible refine ss_rai1 ?_)
  | (with_reducible refine s_rai1 ?_)
  | (with_reducible refine ss_rai0 ?_)
  | (with_reducible refine s_rai0 ?_)
  | (with_reducible refine s_set ?_)
  | (with_reducible refine s_if ?_)
  | (with_reducible refine s_drop ?_)
  | (with_reducible refine s_ret ?_)
  | (with_reducible refine s_put ?_)
  | (with_reducible refine s_next ?_)
  | ((with_reducible refine' e_var ?k1 ?_); (case k1 => rfl))
  | ((with_reducible refine' e_own ?k1 ?_); (case k1 => rfl))
  | (with_reducible refine e_op ?_)
  | (with_reducible refine e_un ?_)
  | (with_reducible refine e_cb ?_)
  | (with_reducible refine a_nil ?_)
  | (with_reducible refine a_cons ?_)
  | (with_reducible refine e_int ?_)
  | (with_reducible refine e_str ?_)
  | (with_reducible refine e_bl ?_)
  | (with_reducible refine e_non ?_)
  | (with_reducible refine e_ty ?_)
  | (with_reducible refine e_ref ?_)
  | (with_reducible refine u_neg ?_)
  | (with_reducible refine e_andV ?_)
  | (with_reducible refine e_orV ?_)
  | (with_reducible refine e_notV ?_)
  | (with_reducible refine e_chainC ?_)
  | (with_reducible refine e_chainU ?_)
  | (with_reducible refine e_chain ?_)
  | (with_reducible refine e_if ?_)
  | (with_reducible refine e_sl ?_)
  | (with_reducible refine p_none ?_)
  | (with_reducible refine p_some ?_)
  | (with_reducible refine e_tup ?_)
  | (with_reducible refine e_lst ?_)
  | (with_reducible refine e_bmS ?_)
  | (with_reducible refine t_test ?_)
  | (with_reducible refine t_tru ?_)
  | (with_reducible refine t_and ?_)
  | (with_reducible refine t_or ?_)
  | (with_reducible refine t_not ?_)
  | (with_reducible refine o_add ?_)
  | (with_reducible refine o_I0 ?_)
  | (with_reducible refine o_B0 ?_)
  | (with_reducible refine o_cmpI ?_)
  | (with_reducible refine o_cmpS ?_)
  | (with_reducible refine o_eqI ?_)
  | (with_reducible refine o_neI ?_)
  | (with_reducible refine o_eqB ?_)
  | (with_reducible refine o_neB ?_)
  | (with_reducible refine o_eqS ?_)
  | (with_reducible refine o_neS ?_)
  | ((with_reducible refine o_isN ?k1 ?_); (case k1 => rfl))
  | ((with_reducible refine o_isNotN ?k1 ?_); (case k1 => rfl))
  | (with_reducible refine o_isB ?_)
  | (with_reducible refine o_isNotB ?_)
  | ((with_reducible refine' o_eqP ?k1 ?k2 ?k3 ?_); (case k1 => rfl); (case k2 => rfl); (case k3 => exact Nat.le_of_ble_eq_true rfl))
  | ((with_reducible refine' o_neP ?k1 ?k2 ?k3 ?_); (case k1 => rfl); (case k2 => rfl); (case k3 => exact Nat.le_of_ble_eq_true rfl))
  | ((with_reducible refine' o_inT ?k1 ?k2 ?k3 ?_); (case k1 => rfl); (case k2 => rfl); (case k3 => exact Nat.le_of_ble_eq_true rfl))
  | ((with_reducible refine' o_inL ?k1 ?k2 ?k3 ?_); (case k1 => rfl); (case k2 => rfl); (case k3 => exact Nat.le_of_ble_eq_true rfl))
  | (with_reducible refine c_max2 ?_)
  | (with_reducible refine c_min2 ?_)
  | (with_reducible refine c_abs ?_)
  | (with_reducible refine c_int ?_)
  | (with_reducible refine c_lenL ?_)
  | (with_reducible refine c_lenT ?_)
  | ((with_reducible refine' c_lenO ?k1 ?_); (case k1 => rfl))
  | ((with_reducible refine' o_ixO ?k1 ?k2 ?_); (case k1 => rfl); (case k2 => rfl))
  | ((with_reducible refine o_mul ?k1 ?_); (case k1 => omega))
  | ((with_reducible refine o_mod ?k1 ?_); (case k1 => omega))
  | ((with_reducible refine o_fdiv ?k1 ?k2 ?_); (case k1 => omega); (case k2 => omega))
  | ((with_reducible refine o_pow ?k1 ?_); (case k1 => exact ⟨by decide, by decide, by decide⟩))
  | ((with_reducible refine' w_lst ?k1 ?k2 ?_); (case k1 => rfl); (case k2 => rfl); dsimp only [List.set])
  | ((with_reducible refine c_lenS ?k1 ?_); (case k1 => omega))
  | ((with_reducible refine m_stripC ?k1 ?_); (case k1 => omega))
  | ((with_reducible refine l_str ?k1 ?_); (case k1 => omega))
  | ((with_reducible refine o_addS ?k1 ?_); (case k1 => (first | omega | (simp only [len_app, len_one]; omega))))
  | ((with_reducible refine' c_isi ?k1 ?k2 ?_); (case k1 => rfl); (case k2 => first | exact kb_NoneType_bool | exact kb_NoneType_int | exact kb_NoneType_str | exact kb_NoneType_list | exact kb_NoneType_tuple | exact kb_NoneType_dict | exact kb_bool_bool | exact kb_bool_int | exact kb_bool_str | exact kb_bool_list | exact kb_bool_tuple | exact kb_bool_dict | exact kb_int_bool | exact kb_int_int | exact kb_int_str | exact kb_int_list | exact kb_int_tuple | exact kb_int_dict | exact kb_str_bool | exact kb_str_int | exact kb_str_str | exact kb_str_list | exact kb_str_tuple | exact kb_str_dict | exact kb_list_bool | exact kb_list_int | exact kb_list_str | exact kb_list_list | exact kb_list_tuple | exact kb_list_dict | exact kb_tuple_bool | exact kb_tuple_int | exact kb_tuple_str | exact kb_tuple_list | exact kb_tuple_tuple | exact kb_tuple_dict | exact kb_dict_bool | exact kb_dict_int | exact kb_dict_str | exact kb_dict_list | exact kb_dict_tuple | exact kb_dict_dict))
  | (show (∃ z, Dt.str _ = .str z) ∧ _; refine ⟨⟨_, rfl⟩, ?_⟩)
  | (show getElem? _ _ = some (Sl.sh _) ∧ _; refine ⟨rfl, ?_⟩)
  | (show Dt.real _ = true ∧ lent _ _ = false ∧ _; refine ⟨rfl, rfl, ?_⟩; dsimp only [List.set])
  | (show Dt.real _ = true ∧ _; refine ⟨rfl, ?_⟩)
  | (show lent _ _ = false ∧ _; refine ⟨rfl, ?_⟩; dsimp only [List.set])
  | (show allReal _ = true ∧ _; refine ⟨rfl, Nat.le_of_ble_eq_true rfl, ?_⟩)
  | (show (true = true → _) ∧ (true = false → _); refine ⟨fun _ => ?_, fun h => nomatch h⟩)
  | (show (false = true → _) ∧ (false = false → _); refine ⟨(fun h => nomatch h), fun _ => ?_⟩)
  | (refine ⟨_, rfl, _, (fun P p => e_int p), ?_⟩)
  | (refine ⟨_, rfl, _, (fun P p => e_var rfl p), ?_⟩)
  | (refine ⟨_, rfl, ?_⟩)
  | fail "dl")
local macro_rules | `(tactic| walk_at "dl") => `(tactic| repeat' walk_at "dl1")
local macro_rules | `(tactic| walk_at "dls") => `(tactic| repeat' (first | walk_at "dl1" | (refine ⟨fun hb => ?_, fun hb => ?_⟩) | fail "dls"))
local macro_rules | `(tactic| walk_at "fg") => `(tactic| repeat (first | exact Fg.nil | (with_reducible refine Fg.keep ?_) | (refine Fg.drop ?_)))

section
variable {P : Program} {w : World} {K : DL.Frag} {mg : Str → Option Value} {base : Heap}
def sp_law_word : Fsp where
  I := Nat
  arg n := [.int (n : Nat)]
  pre n := n < 2 ^ 150
  post n d := d = .str (tx (ntx false n))
theorem ok_law_word (T : Tx K mg) : FnG P w K mg base 1 "_law_word" ["_law_number_here"] (DSp K sp_law_word) := by
  obtain ⟨fd, F⟩ := T.F_law_word
  refine ⟨_, fd, T.g_law_word, F.kp, fn_body F sc_law_word (fun _ => rfl) (fun cdv A outer s H E hr tk po => ?_), F.bindsN fun _ _ _ _ _ _ us hl => match us, hl with | [_], _ => rfl⟩
  refine ⟨_, (pss_cons (ps_if (pt_cmpR (op_eqK (K := K) rfl hr.units) (pv 0) pe_int (nomark _)) (pss_one (ps_ret pe_str)) pss_nil)
  (pss_cons (ps_set (i := 1) sc_law_word.nd rfl (Or.inl rfl) pe_str)
  (pss_cons (ps_for po rfl (pi_range1 rfl T.n_range (pa_cons pe_int pa_nil)) (pg_name (i := 2) sc_law_word.nd rfl (Or.inl rfl)) (pss_one (ps_if (pt_cmpR (op_gtK (K := K) rfl hr.units) (pv 0) pe_int (nomark _)) (pss_cons (ps_set (i := 1) sc_law_word.nd rfl (Or.inl rfl) (pe_op (op_addK (K := K) rfl) (pe_ix (ix_seqK (K := K) rfl) pe_str (pe_op op_mod (pe_callTy call_intU (by rfl) T.n_int (by decide +kernel) (pa_cons (pe_op op_sub (pv 0) pe_int) pa_nil)) pe_int) (fun _ _ => rfl)) (pv 1)))
  (pss_one (ps_set (i := 0) sc_law_word.nd rfl (Or.inl rfl) (pe_op op_fdivW (pe_op op_sub (pv 0) pe_int) pe_int)))) pss_nil)))
  (pss_one (ps_ret (pv 1)))))), fun (n : Nat) (hp : n < 2 ^ 150) Z hn hq hx => ?_⟩
  have hq : ∀ ρ, Z.rt (.str (tx (ntx false n))) ρ := fun ρ => hq _ ρ rfl
  try dsimp only [cxB, cxOf]
  show StD K _ _ [.sh (.int (n : Nat)), .no, .no] _
  clear tk po hr F
  walk_at "dl"
  refine ⟨fun hb => ?_, fun hb => ?_⟩
  · have hb : n = 0 := by
      have := of_decide_eq_true hb
      omega
    subst hb
    walk_at "dl"
    exact hq _
  · have hb : n ≠ 0 := by
      have := of_decide_eq_false hb
      omega
    have e2 : ntx false n = wrd n := by
      unfold ntx
      rw [if_neg (by decide), if_neg hb]
    rw [e2] at hq
    walk_at "dl1"
    walk_at "dl1"
    walk_at "dl1"
    walk_at "dl1"
    refine ss_forR ?_
    walk_at "dl"
    refine ⟨by decide, by decide, fun k ρ => ∃ (m : Nat) (t : List Nat), m * 16 ^ k ≤ n ∧ t.length ≤ k ∧ wrd n = wrd m ++ t ∧ ρ = [.sh (.int (m : Nat)), .sh (.str (tx t)), .no], ⟨n, [], by simp, by simp, by simp, rfl⟩, ?_, ?_⟩
    · rintro k _ hk ⟨m, t, h1, h2, h3, rfl⟩
      refine ⟨rfl, fun Y LY => ?_⟩
      dsimp only [List.set]
      walk_at "dl"
      refine ⟨fun hb => ?_, fun hb => ?_⟩
      · have hb : 0 < m := by
          have := of_decide_eq_true hb
          omega
        have e0 : ((m : Int) - 1) = ((m - 1 : Nat) : Int) := by omega
        walk_at "dl"
        rw [e0]
        refine o_ixS (by decide +kernel) (at_SG (Int.emod_nonneg _ (by decide)) (Int.emod_lt_of_pos _ (by decide))) ?_
        rw [tx_one]
        refine e_var rfl (o_addS (by rw [tx_len, tx_len]; simp; omega) ?_)
        walk_at "dl"
        refine LY.nx _ _ ?_ ⟨(m - 1) / 26, [97 + (m - 1) % 26] ++ t, ?_, by simp; omega, ?_, rfl⟩
        · have e1 : (((m - 1 : Nat) : Int) / 26) = (((m - 1) / 26 : Nat) : Int) := by omega
          have e2 : ((((m - 1 : Nat)) : Int) % 26).toNat = (m - 1) % 26 := by omega
          rw [tx_app, e0, e1, e2]
          walk_at "fg"
        · rw [Nat.pow_succ]
          have : (m - 1) / 26 * (16 ^ k * 16) = ((m - 1) / 26 * 16) * 16 ^ k := by rw [Nat.mul_comm (16 ^ k), Nat.mul_assoc]
          rw [this]
          exact Nat.le_trans (Nat.mul_le_mul_right _ (by omega)) h1
        · rw [h3, wrd_s (by omega : m ≠ 0)]
          simp
      · have hb : m = 0 := by
          have := of_decide_eq_false hb
          omega
        subst hb
        walk_at "dl"
        refine LY.nx _ _ ?_ ⟨0, t, by simp, by omega, h3, rfl⟩
        walk_at "fg"
    · rintro _ ⟨m, t, h1, h2, h3, rfl⟩
      walk_at "dl"
      have hm : m = 0 := by
        rcases Nat.eq_zero_or_pos m with h | h
        · exact h
        · exfalso
          have h4 : 1 * 16 ^ 40 ≤ m * 16 ^ 40 := Nat.mul_le_mul_right _ h
          have h5 : m * 16 ^ 40 ≤ n := h1
          omega
      subst hm
      rw [wrd_0] at h3
      have e : wrd n = t := by simpa using h3
      rw [← e]
      exact hq _
/-! a number -/
def sp_law_number : Osp where
  I := Int × Int
  own i := tapeD i
  arg i := []
  pre i := tapeOk i
  post i d o := ∃ (n : Nat) (t : Int × Int), d = .int (n : Nat) ∧ o = tapeD t ∧ tapeOk t ∧ n < 2 ^ 140
theorem ok_law_number (T : Tx K mg) : FnG P w K mg base 2 "_law_number" ["_law_tape_here"] (OSp K sp_law_number) := by
  have G_law_pick := ok_law_pick (P := P) (w := w) (base := base) T
  obtain ⟨fd, F⟩ := T.F_law_number
  refine ⟨_, fd, T.g_law_number, F.kp, fn_bodyO F sc_law_number (fun _ => rfl) (fun cdv A outer s H E hr tk po => ?_), F.bindsN fun _ _ _ _ _ _ us hl => match us, hl with | [_], _ => rfl⟩
  refine ⟨_, (pss_cons (ps_set (i := 1) sc_law_number.nd rfl (Or.inl rfl) (pe_fn G_law_pick (hr.mono (by decide)) tk rfl (pa_cons (pv 0) (pa_cons pe_int pa_nil))))
  (pss_cons (ps_if (pt_cmpR (op_eqK (K := K) rfl hr.units) (pv 1) pe_int (nomark _)) (pss_one (ps_ret (pe_fn G_law_pick (hr.mono (by decide)) tk rfl (pa_cons (pv 0) (pa_cons pe_int pa_nil))))) pss_nil)
  (pss_cons (ps_if (pt_cmpR (op_eqK (K := K) rfl hr.units) (pv 1) pe_int (nomark _)) (pss_one (ps_ret (pe_op op_sub (pe_op op_pow pe_int pe_int) (pe_fn G_law_pick (hr.mono (by decide)) tk rfl (pa_cons (pv 0) (pa_cons (pe_op op_pow pe_int pe_int) pa_nil)))))) pss_nil)
  (pss_cons (ps_if (pt_cmpR (op_eqK (K := K) rfl hr.units) (pv 1) pe_int (nomark _)) (pss_one (ps_ret (pe_fn G_law_pick (hr.mono (by decide)) tk rfl (pa_cons (pv 0) (pa_cons (pe_op op_pow pe_int pe_int) pa_nil))))) pss_nil)
  (pss_cons (ps_set (i := 2) sc_law_number.nd rfl (Or.inl rfl) pe_int)
  (pss_cons (ps_for po rfl (pi_range1 rfl T.n_range (pa_cons (pe_fn G_law_pick (hr.mono (by decide)) tk rfl (pa_cons (pv 0) (pa_cons pe_int pa_nil))) pa_nil)) (pg_name (i := 3) sc_law_number.nd rfl (Or.inl rfl)) (pss_one (ps_set (i := 2) sc_law_number.nd rfl (Or.inl rfl) (pe_ifExp (pt_cmpR (op_eqK (K := K) rfl hr.units) (pv 1) pe_int (nomark _)) (pe_op (op_addK (K := K) rfl) (pe_op op_mulU (pv 2) pe_int) pe_int) (pe_op op_mulU (pv 2) pe_int)))))
  (pss_one (ps_ret (pe_callB (call_max2 rfl) (by rfl) T.n_max (by decide +kernel) (pa_cons pe_int (pa_cons (pe_op (op_addK (K := K) rfl) (pe_op op_sub (pv 2) pe_int) (pe_fn G_law_pick (hr.mono (by decide)) tk rfl (pa_cons (pv 0) (pa_cons pe_int pa_nil)))) pa_nil))))))))))), fun (t : Int × Int) (ht : tapeOk t) Z hn hq hx => ?_⟩
  have hq : ∀ (n : Int) (t' : Int × Int) (ρ : En), ρ[0]? = some (.ow true (tapeD t')) → tapeOk t' → 0 ≤ n → n < 2 ^ 140 → Z.rt (.int n) ρ := fun n t' ρ h h1 h2 h3 => hq _ _ ρ h ⟨n.toNat, t', by rw [Int.toNat_of_nonneg h2], rfl, h1, by omega⟩
  try dsimp only [cxB, cxOf]
  show StD K _ _ [.ow true (tapeD t), .no, .no, .no] _
  clear tk po hr F G_law_pick
  refine ss_set (e_pick ?_ ⟨_, _, rfl⟩)
  walk_at "dl1"
  refine ⟨_, _, _, rfl, rfl, ht, by decide, by decide, fun ch t1 ht1 c0 c1 => ?_⟩
  walk_at "dl"
  refine ⟨fun hb => ?_, fun hb => ?_⟩
  · refine ss_ret (e_pick ?_ ⟨_, _, rfl⟩)
    walk_at "dl1"
    refine ⟨_, _, _, rfl, rfl, ht1, by decide, by decide, fun r t2 ht2 r0 r1 => ⟨rfl, hq _ _ _ rfl ht2 r0 (by omega)⟩⟩
  walk_at "dl"
  refine ⟨fun hb => ?_, fun hb => ?_⟩
  · walk_at "dl"
    refine e_pick ?_ ⟨_, _, rfl⟩
    walk_at "dl"
    refine ⟨_, _, _, rfl, rfl, ht1, (by decide), (by decide), fun r t2 ht2 r0 r1 => ?_⟩
    walk_at "dl"
    have p1 : (10 : Int) ^ (Int.toNat 29) = 10 ^ 29 := rfl
    have p2 : (10 : Int) ^ (Int.toNat 6) = 10 ^ 6 := rfl
    rw [p2] at r1
    rw [p1]
    exact hq _ _ _ rfl ht2 (by omega) (by omega)
  walk_at "dl"
  refine ⟨fun hb => ?_, fun hb => ?_⟩
  · walk_at "dl1"
    refine e_pick ?_ ⟨_, _, rfl⟩
    walk_at "dl"
    refine ⟨_, _, _, rfl, rfl, ht1, (by decide), (by decide), fun r t2 ht2 r0 r1 => ?_⟩
    have p1 : (10 : Int) ^ (Int.toNat 29) = 10 ^ 29 := rfl
    rw [p1] at r1
    exact ⟨rfl, hq _ _ _ rfl ht2 (by omega) (by omega)⟩
  walk_at "dl"
  refine ss_forR (a_cons (e_pick ?_ ⟨_, _, rfl⟩))
  walk_at "dl1"
  refine ⟨_, _, _, rfl, rfl, ht1, by decide, by decide, fun tn t2 ht2 r0 r1 => ?_⟩
  walk_at "dl"
  refine ⟨by omega, by omega, fun k ρ => ∃ p : Int, 1 ≤ p ∧ p ≤ 32 ^ k ∧ ρ = [.ow true (tapeD t2), .sh (.int ch), .sh (.int p), .no], ⟨1, by decide, by decide, rfl⟩, ?_, ?_⟩
  · rintro k _ hk ⟨p, h1, h2, rfl⟩
    refine ⟨rfl, fun Y LY => ?_⟩
    dsimp only [List.set]
    walk_at "dl"
    have h3 : (32 : Int) ^ (k + 1) = 32 ^ k * 32 := Int.pow_succ 32 k
    refine ⟨fun hb => ?_, fun hb => ?_⟩
    · walk_at "dl"
      refine LY.nx _ _ ?_ ⟨p * 26 + 1, by omega, by omega, rfl⟩
      walk_at "fg"
    · walk_at "dl"
      refine LY.nx _ _ ?_ ⟨p * 10, by omega, by omega, rfl⟩
      walk_at "fg"
  · rintro _ ⟨p, h1, h2, rfl⟩
    refine s_ret (e_cb (a_cons (e_int (a_cons (e_op (e_op (e_var rfl (e_int (o_I0 (e_pick ?_ ⟨_, _, rfl⟩)))))))))) 
    walk_at "dl1"
    refine ⟨_, _, _, rfl, rfl, ht2, by decide, by decide, fun r t3 ht3 q0 q1 => ?_⟩
    walk_at "dl"
    have h4 : (32 : Int) ^ tn.toNat ≤ 32 ^ 19 := by
      have : (32 : Nat) ^ tn.toNat ≤ 32 ^ 19 := Nat.pow_le_pow_right (by decide) (by omega)
      exact_mod_cast this
    refine hq _ _ _ rfl ht3 ?_ ?_
    · split <;> omega
    · split <;> omega

/-! ### what is refused -/
theorem isInt_no {d : Dt} (h : isInt d 0 none = false) (n : Nat) : d ≠ .int (n : Nat) := fun e => by
  subst e
  have h2 : (decide ((0 : Int) ≤ (n : Nat)) && true) = false := h
  rw [Bool.and_true] at h2
  have := of_decide_eq_false h2
  omega
def badD (d : Dt) : Prop := d.real = true ∧ d.tyN.isSome = true ∧ isInt d 0 none = false ∧ ∃ p, d.pd = some p ∧ p.depth ≤ 64
def sp_law_bad : Fsp where
  I := Int × Dt
  arg i := [.int i.1, i.2]
  pre i := badD i.2
  post i d := d = .bl true
theorem ok_law_bad (T : Tx K mg) : FnG P w K mg base 5 "_law_bad" ["_law_door", "_law_value"] (DSp K sp_law_bad) := by
  have G_figures := ok_figures (P := P) (w := w) (base := base) T
  have G_letters := ok_letters (P := P) (w := w) (base := base) T
  obtain ⟨fd, F⟩ := T.F_law_bad
  refine ⟨_, fd, T.g_law_bad, F.kp, fn_body F sc_law_bad (fun _ => rfl) (fun cdv A outer s H E hr tk po => ?_), F.bindsN fun _ _ _ _ _ _ us hl => match us, hl with | [_, _], _ => rfl⟩
  refine ⟨_, (pss_cons (ps_tryA (i := 2) rfl rfl sc_law_bad.nd rfl rfl ⟨rfl, (by decide), .inl T.g_BadNumber⟩ tk (fun W2 pn xe tk2 po2 => (pss_one (ps_if (pt_cmpR (op_eqK (K := K) rfl hr.units) (pv 0) pe_int (nomark _)) (pss_one (ps_expr (pe_fn G_figures (hr.mono (by decide)) tk2 rfl (pa_cons (pv 1) pa_nil)))) (pss_one (ps_expr (pe_fn G_letters (hr.mono (by decide)) tk2 rfl (pa_cons (pv 1) pa_nil))))))) (fun a oe cls d pn hz hf => (pss_one (ps_ret (pe_and (pe_callB (call_isS hz hf) (by rfl) T.n_isinstance (by decide +kernel) (pa_cons (pv 2) (pa_cons (pe_glob (v := .ref (He.ga K "PartError")) rfl T.g_PartError rfl) pa_nil))) (pe_one (pe_cmpR (op_eqK (K := K) rfl hr.units) (pe_xf T.x_BadNumber.xf T.no_BadNumber_number hz hf (pv 2)) (pv 1) (nomark _))))))))
  (pss_one (ps_ret pe_bl))), fun i hp Z hn hq hx => ?_⟩
  obtain ⟨dr, d⟩ := i
  obtain ⟨h1, h2, h3, p, h4, h5⟩ : badD d := hp
  have hq : ∀ ρ, Z.rt (.bl true) ρ := fun ρ => hq _ ρ rfl
  try dsimp only [cxB, cxOf]
  show StD K _ _ [.sh (.int dr), .sh d, .no] _
  clear tk po hr F G_figures G_letters
  have har : allReal [d] = true := by unfold allReal; rw [List.all_cons, h1]; rfl
  have hsm : dSm d := fun n e => absurd e (isInt_no h3 n)
  refine ss_tryA fun W' => ?_
  refine s_if ?_
  walk_at "dl"
  refine ⟨fun hb => ?_, fun hb => ?_⟩
  all_goals
    refine s_drop (e_call ?_)
    walk_at "dl"
    refine ⟨har, ⟨h1, h2, hsm⟩, fun z e => ?_, fun c e => ?_⟩
    · obtain ⟨n, e1, _⟩ := e
      exact absurd e1 (isInt_no h3 n)
    · obtain ⟨_, rfl⟩ := e
      refine ⟨true, T.m_BadNumber_BadNumber, fun _ => ⟨rfl, fun a dd => ?_⟩, fun h => nomatch h⟩
      dsimp only [List.set]
      refine s_ret (e_andV (e_cb ?_))
      walk_at "dl"
      refine c_isX T.x_BadNumber T.k_BadNumber_PartError ?_
      walk_at "dl"
      refine e_xf (e_var rfl ⟨_, _, _, rfl, rfl, e_var rfl (o_eqP h4 h4 h5 ?_)⟩)
      rw [SeqAt.eqv_refl_plain p (Dt.pd_plain h4)]
      exact ⟨rfl, hq _⟩
def rdI (fig : Bool) (l : List Nat) : Int := match rdN fig l with
  | some n => (n : Nat)
  | none => -1
def sp_law_read : Fsp where
  I := Int × List Nat
  arg i := [.int i.1, .str (tx i.2)]
  pre i := i.2.length ≤ 10000
  post i d := d = .int (rdI (decide (i.1 = 0)) i.2)
theorem ok_law_read (T : Tx K mg) : FnG P w K mg base 4 "_law_read" ["_law_door", "_law_text"] (DSp K sp_law_read) := by
  have G_read_figures := ok_read_figures (P := P) (w := w) (base := base) T
  have G_read_letters := ok_read_letters (P := P) (w := w) (base := base) T
  obtain ⟨fd, F⟩ := T.F_law_read
  refine ⟨_, fd, T.g_law_read, F.kp, fn_body F sc_law_read (fun _ => rfl) (fun cdv A outer s H E hr tk po => ?_), F.bindsN fun _ _ _ _ _ _ us hl => match us, hl with | [_, _], _ => rfl⟩
  refine ⟨_, (pss_one (ps_tryA (i := 2) rfl rfl sc_law_read.nd rfl rfl ⟨rfl, (by decide), .inl T.g_BadText⟩ tk (fun W2 pn xe tk2 po2 => (pss_one (ps_ret (pe_ifExp (pt_cmpR (op_eqK (K := K) rfl hr.units) (pv 0) pe_int (nomark _)) (pe_fn G_read_figures (hr.mono (by decide)) tk2 rfl (pa_cons (pv 1) pa_nil)) (pe_fn G_read_letters (hr.mono (by decide)) tk2 rfl (pa_cons (pv 1) pa_nil)))))) (fun a oe cls d pn hz hf => (pss_one (ps_ret (pe_ifExp (pt_truK (K := K) rfl (pe_callB (call_isS hz hf) (by rfl) T.n_isinstance (by decide +kernel) (pa_cons (pv 2) (pa_cons (pe_glob (v := .ref (He.ga K "PartError")) rfl T.g_PartError rfl) pa_nil)))) (pe_un un_neg pe_int) (pe_un un_neg pe_int))))))), fun i hp Z hn hq hx => ?_⟩
  obtain ⟨dr, l⟩ := i
  have hp : l.length ≤ 10000 := hp
  have hq : ∀ i ρ, i = rdI (decide (dr = 0)) l → Z.rt (.int i) ρ := fun i ρ e => hq _ ρ (by rw [e]; rfl)
  try dsimp only [cxB, cxOf]
  show StD K _ _ [.sh (.int dr), .sh (.str (tx l)), .no] _
  clear tk po hr F G_read_figures G_read_letters
  refine s_tryA fun W' => ?_
  refine s_ret (e_if ?_)
  walk_at "dl"
  refine ⟨fun hb => ?_, fun hb => ?_⟩
  all_goals
    rw [hb] at hq
    refine e_call ?_
    walk_at "dl"
    refine ⟨rfl, hp, fun z e => ?_, fun c e => ?_⟩
    · obtain ⟨n, e1, rfl⟩ := e
      refine ⟨rfl, hq _ _ ?_⟩
      unfold rdI
      rw [e1]
    · obtain ⟨e1, rfl⟩ := e
      refine ⟨true, T.m_BadText_BadText, fun _ => ⟨rfl, fun a dd => ?_⟩, fun h => nomatch h⟩
      dsimp only [List.set]
      refine s_ret (e_if (t_tru (e_cb ?_)))
      walk_at "dl"
      refine c_isX T.x_BadText T.k_BadText_PartError ?_
      walk_at "dl"
      refine hq _ _ ?_
      unfold rdI
      rw [e1]
/-! ### a spoilt text -/
def sp_law_spoilt : Osp where
  I := (Int × Int) × List Nat
  own i := tapeD i.1
  arg i := [.str (tx i.2)]
  pre i := tapeOk i.1 ∧ i.2.length ≤ 1000
  post i d o := ∃ (l : List Nat) (t : Int × Int), d = .str (tx l) ∧ o = tapeD t ∧ tapeOk t ∧ l.length ≤ 5000
theorem ok_law_spoilt (T : Tx K mg) : FnG P w K mg base 2 "_law_spoilt" ["_law_tape_here", "_law_text"] (OSp K sp_law_spoilt) := by
  have G_law_pick := ok_law_pick (P := P) (w := w) (base := base) T
  obtain ⟨fd, F⟩ := T.F_law_spoilt
  refine ⟨_, fd, T.g_law_spoilt, F.kp, fn_bodyO F sc_law_spoilt (fun _ => rfl) (fun cdv A outer s H E hr tk po => ?_), F.bindsN fun _ _ _ _ _ _ us hl => match us, hl with | [_, _], _ => rfl⟩
  refine ⟨_, (pss_cons (ps_set (i := 2) sc_law_spoilt.nd rfl (Or.inl rfl) (pe_fn G_law_pick (hr.mono (by decide)) tk rfl (pa_cons (pv 0) (pa_cons (pe_op (op_addK (K := K) rfl) (pe_callB (call_lenK (K := K) rfl) (by rfl) T.n_len (by decide +kernel) (pa_cons (pv 1) pa_nil)) pe_int) pa_nil))))
  (pss_cons (ps_set (i := 3) sc_law_spoilt.nd rfl (Or.inl rfl) (pe_ix (ix_seqK (K := K) rfl) (pe_lst (pa_cons pe_str (pa_cons pe_str (pa_cons pe_str (pa_cons pe_str (pa_cons pe_str (pa_cons pe_str (pa_cons pe_str (pa_cons pe_str (pa_cons pe_str (pa_cons pe_str pa_nil))))))))))) (pe_fn G_law_pick (hr.mono (by decide)) tk rfl (pa_cons (pv 0) (pa_cons pe_int pa_nil))) (fun _ _ => rfl)))
  (pss_cons (ps_if (PW.pt (pw_and (pt_cmpR (op_eqK (K := K) rfl hr.units) (pv 1) pe_str (nomark _)) (pw_and1 (pt_cmpR (op_eqK (K := K) rfl hr.units) (pv 3) pe_str (nomark _))))) (pss_one (ps_ret pe_str)) pss_nil)
  (pss_one (ps_ret (pe_op (op_addK (K := K) rfl) (pe_op (op_addK (K := K) rfl) (pe_slice (sl_K (K := K) rfl) (pv 1) po_none (po_some (pv 2))) (pv 3)) (pe_slice (sl_K (K := K) rfl) (pv 1) (po_some (pv 2)) po_none))))))), fun i hp Z hn hq hx => ?_⟩
  obtain ⟨t, l⟩ := i
  obtain ⟨ht, hl⟩ : tapeOk t ∧ l.length ≤ 1000 := hp
  have hq : ∀ (z : Str) (t' : Int × Int) (ρ : En), ρ[0]? = some (.ow true (tapeD t')) → tapeOk t' → z.length ≤ 5000 → Z.rt (.str z) ρ := fun z t' ρ h h1 h2 => hq _ _ ρ h ⟨TL.tl z, t', by rw [tx_tl], rfl, h1, by rw [tl_len]; exact h2⟩
  try dsimp only [cxB, cxOf]
  show StD K _ _ [.ow true (tapeD t), .sh (.str (tx l)), .no, .no] _
  clear tk po hr F G_law_pick
  have hlx := tx_len l
  refine ss_set (e_pick ?_ ⟨_, _, rfl⟩)
  walk_at "dl"
  refine ⟨_, _, _, rfl, rfl, ht, by omega, by omega, fun at_ t1 ht1 a0 a1 => ?_⟩
  walk_at "dl1"
  refine ss_set (e_op (e_lst ?_))
  walk_at "dl"
  refine e_pick ?_ ⟨_, _, rfl⟩
  walk_at "dl1"
  refine ⟨_, _, _, rfl, rfl, ht1, by decide, by decide, fun sg t2 ht2 s0 s1 => ?_⟩
  obtain ⟨z, hz, hm⟩ := atI_mem (l := [Dt.str "A", .str " ", .str "-", .str ".", .str "_", .str "+", .str "1a", .str "a1", .str "{", .str "\n"]) s0 s1
  obtain ⟨y, rfl, hy⟩ : ∃ y : Str, z = .str y ∧ y.length ≤ 2 := by
    simp only [List.mem_cons, List.not_mem_nil, or_false] at hm
    rcases hm with h | h | h | h | h | h | h | h | h | h
    all_goals exact ⟨_, h, by decide +kernel⟩
  refine o_ixL hz ?_
  walk_at "dl"
  have fin : ∀ ρ, ρ = [Sl.ow true (tapeD t2), .sh (.str (tx l)), .sh (.int at_), .sh (.str y)] → StD K (wE E) (tRet (tOp (rAddU K) (tOp (rAddU K) (L2.tSl (rSlU K) (tVar 1) tNoPart (tPart (tVar 2))) (tVar 3)) (L2.tSl (rSlU K) (tVar 1) (tPart (tVar 2)) tNoPart))) ρ Z := by
    rintro _ rfl
    have l1 := cutS_length (tx l) none (some at_)
    have l2 := cutS_length (tx l) (some at_) none
    walk_at "dl"
    exact hq _ _ _ rfl ht2 (by simp only [len_app]; omega)
  refine ⟨fun hb => ?_, fun hb => ?_⟩
  · walk_at "dl"
    refine ⟨fun hb => ?_, fun hb => ?_⟩
    · walk_at "dl"
      exact hq _ _ _ rfl ht2 (by decide +kernel)
    · walk_at "dl1"
      exact fin _ rfl
  · refine ⟨(fun h => nomatch h), fun _ => ss_next (fin _ rfl)⟩

end
end T
set_option Elab.async false
set_option linter.all false
set_option maxRecDepth 100000
set_option autoImplicit false
set_option maxHeartbeats 4000000
namespace T
open PySem L2 PyProof.Rows DL M12
local macro_rules | `(tactic| walk_at "dl1") => `(tactic| first
  | (with_reducible refine ss_set ?_)
  | (with_reducible refine ss_if ?_)
  | (with_reducible refine ss_drop ?_)
  | (with_reducible refine ss_put ?_)
  | (with_reducible refine ss_next ?_)
  | (with_reducible refine ss_ret ?_)
  | (with_reducible refine ss_assoc ?_)
  | ((with_reducible refine' ss_aug ?k1 ?_); (case k1 => rfl))
  | ((with_reducible refine' s_aug ?k1 ?_); (case k1 => rfl))
  | (with_reducible refine ss_rai1 ?_)
  | (with_reducible refine s_rai1 ?_)
  | (with_reducible refine ss_rai0 ?_)
  | (with_reducible refine s_rai0 ?_)
  | (with_reducible refine s_set ?_)
  | (with_reducible refine s_if ?_)
  | (with_reducible refine s_drop ?_)
  | (with_reducible refine s_ret ?_)
  | (with_reducible refine s_put ?_)
  | (with_reducible refine s_next ?_)
  | ((with_reducible refine' e_var ?k1 ?_); (case k1 => rfl))
  | ((with_reducible refine' e_own ?k1 ?_); (case k1 => rfl))
  | (with_reducible refine e_op ?_)
  | (with_reducible refine e_un ?_)
  | (with_reducible refine e_cb ?_)
  | (with_reducible refine a_nil ?_)
  | (with_reducible refine a_cons ?_)
  | (with_reducible refine e_int ?_)
  | (with_reducible refine e_str ?_)
  | (with_reducible refine e_bl ?_)
  | (with_reducible refine e_non ?_)
  | (with_reducible refine e_ty ?_)
  | (with_reducible refine e_ref ?_)
  | (with_reducible refine u_neg ?_)
  | (with_reducible refine e_andV ?_)
  | (with_reducible refine e_orV ?_)
  | (with_reducible refine e_notV ?_)
  | (with_reducible refine e_chainC ?_)
  | (with_reducible refine e_chainU ?_)
  | (with_reducible refine e_chain ?_)
  | (with_reducible refine e_if ?_)
  | (with_reducible refine e_sl ?_)
  | (with_reducible refine p_none ?_)
  | (with_reducible refine p_some ?_)
  | (with_reducible refine e_tup ?_)
  | (with_reducible refine e_lst ?_)
  | (with_reducible refine e_bmS ?_)
  | (with_reducible refine t_test ?_)
  | (with_reducible refine t_tru ?_)
  | (with_reducible refine t_and ?_)
  | (with_reducible refine t_or ?_)
  | (with_reducible refine t_not ?_)
  | (with_reducible refine o_add ?_)
  | (with_reducible refine o_I0 ?_)
  | (with_reducible refine o_B0 ?_)
  | (with_reducible refine o_cmpI ?_)
  | (with_reducible refine o_cmpS ?_)
  | (with_reducible refine o_eqI ?_)
  | (with_reducible refine o_neI ?_)
  | (with_reducible refine o_eqB ?_)
  | (with_reducible refine o_neB ?_)
  | (with_reducible refine o_eqS ?_)
  | (with_reducible refine o_neS ?_)
  | ((with_reducible refine o_isN ?k1 ?_); (case k1 => rfl))
  | ((with_reducible refine o_isNotN ?k1 ?_); (case k1 => rfl))
  | (with_reducible refine o_isB ?_)
  | (with_reducible refine o_isNotB ?_)
  | ((with_reducible refine' o_eqP ?k1 ?k2 ?k3 ?_); (case k1 => rfl); (case k2 => rfl); (case k3 => exact Nat.le_of_ble_eq_true rfl))
  | ((with_reducible refine' o_neP ?k1 ?k2 ?k3 ?_); (case k1 => rfl); (case k2 => rfl); (case k3 => exact Nat.le_of_ble_eq_true rfl))
  | ((with_reducible refine' o_inT ?k1 ?k2 ?k3 ?_); (case k1 => rfl); (case k2 => rfl); (case k3 => exact Nat.le_of_ble_eq_true rfl))
  | ((with_reducible refine' o_inL ?k1 ?k2 ?k3 ?_); (case k1 => rfl); (case k2 => rfl); (case k3 => exact Nat.le_of_ble_eq_true rfl))
  | (with_reducible refine c_max2 ?_)
  | (with_reducible refine c_min2 ?_)
  | (with_reducible refine c_abs ?_)
  | (with_reducible refine c_int ?_)
  | (with_reducible refine c_lenL ?_)
  | (with_reducible refine c_lenT ?_)
  | ((with_reducible refine' c_lenO ?k1 ?_); (case k1 => rfl))
  | ((with_reducible refine' o_ixO ?k1 ?k2 ?_); (case k1 => rfl); (case k2 => rfl))
  | ((with_reducible refine o_mul ?k1 ?_); (case k1 => omega))
  | ((with_reducible refine o_mod ?k1 ?_); (case k1 => omega))
  | ((with_reducible refine o_fdiv ?k1 ?k2 ?_); (case k1 => omega); (case k2 => omega))
  | ((with_reducible refine o_pow ?k1 ?_); (case k1 => exact ⟨by decide, by decide, by decide⟩))
  | ((with_reducible refine' w_lst ?k1 ?k2 ?_); (case k1 => rfl); (case k2 => rfl); dsimp only [List.set])
  | ((with_reducible refine c_lenS ?k1 ?_); (case k1 => omega))
  | ((with_reducible refine m_stripC ?k1 ?_); (case k1 => omega))
  | ((with_reducible refine l_str ?k1 ?_); (case k1 => omega))
  | ((with_reducible refine o_addS ?k1 ?_); (case k1 => (first | omega | (simp only [len_app, len_one]; omega))))
  | ((with_reducible refine' c_isi ?k1 ?k2 ?_); (case k1 => rfl); (case k2 => first | exact kb_NoneType_bool | exact kb_NoneType_int | exact kb_NoneType_str | exact kb_NoneType_list | exact kb_NoneType_tuple | exact kb_NoneType_dict | exact kb_bool_bool | exact kb_bool_int | exact kb_bool_str | exact kb_bool_list | exact kb_bool_tuple | exact kb_bool_dict | exact kb_int_bool | exact kb_int_int | exact kb_int_str | exact kb_int_list | exact kb_int_tuple | exact kb_int_dict | exact kb_str_bool | exact kb_str_int | exact kb_str_str | exact kb_str_list | exact kb_str_tuple | exact kb_str_dict | exact kb_list_bool | exact kb_list_int | exact kb_list_str | exact kb_list_list | exact kb_list_tuple | exact kb_list_dict | exact kb_tuple_bool | exact kb_tuple_int | exact kb_tuple_str | exact kb_tuple_list | exact kb_tuple_tuple | exact kb_tuple_dict | exact kb_dict_bool | exact kb_dict_int | exact kb_dict_str | exact kb_dict_list | exact kb_dict_tuple | exact kb_dict_dict))
  | (show (∃ z, Dt.str _ = .str z) ∧ _; refine ⟨⟨_, rfl⟩, ?_⟩)
  | (show getElem? _ _ = some (Sl.sh _) ∧ _; refine ⟨rfl, ?_⟩)
  | (show Dt.real _ = true ∧ lent _ _ = false ∧ _; refine ⟨rfl, rfl, ?_⟩; dsimp only [List.set])
  | (show Dt.real _ = true ∧ _; refine ⟨rfl, ?_⟩)
  | (show lent _ _ = false ∧ _; refine ⟨rfl, ?_⟩; dsimp only [List.set])
  | (show allReal _ = true ∧ _; refine ⟨rfl, Nat.le_of_ble_eq_true rfl, ?_⟩)
  | (show (true = true → _) ∧ (true = false → _); refine ⟨fun _ => ?_, fun h => nomatch h⟩)
  | (show (false = true → _) ∧ (false = false → _); refine ⟨(fun h => nomatch h), fun _ => ?_⟩)
  | (refine ⟨_, rfl, _, (fun P p => e_int p), ?_⟩)
  | (refine ⟨_, rfl, _, (fun P p => e_var rfl p), ?_⟩)
  | (refine ⟨_, rfl, ?_⟩)
  | fail "dl")
local macro_rules | `(tactic| walk_at "dl") => `(tactic| repeat' walk_at "dl1")
local macro_rules | `(tactic| walk_at "dls") => `(tactic| repeat' (first | walk_at "dl1" | (refine ⟨fun hb => ?_, fun hb => ?_⟩) | fail "dls"))
local macro_rules | `(tactic| walk_at "fg") => `(tactic| repeat (first | exact Fg.nil | (with_reducible refine Fg.keep ?_) | (refine Fg.drop ?_)))

section
variable {P : Program} {w : World} {K : DL.Frag} {mg : Str → Option Value} {base : Heap}
/-! ### helpers -/
theorem e_form {W : WX} {ρ : En} {x : PX} {te : TE} {fig : Bool} {Q : Dt → En → Prop} (h : EvD K W te ρ x fun d ρ1 => ∃ n : Nat, d = .int (n : Nat) ∧ n < 2 ^ 200 ∧ Q (.str (tx (ntx fig n))) ρ1) : EvD K W (tCallS (DSp K (sp_form K fig)) (WE W) (tCons te tNil)) ρ x Q := by
  refine e_call (a_cons (e_imp h fun d ρ1 hd => a_nil ?_))
  obtain ⟨n, rfl, h1, h2⟩ := hd
  refine ⟨.int (n : Nat), rfl, rfl, ⟨rfl, rfl, fun m e => ?_⟩, fun d e => ?_, fun c e => ?_⟩
  · injection e with e
    omega
  · obtain ⟨m, e1, rfl⟩ := e
    injection e1 with e1
    have : m = n := by omega
    subst this
    exact h2
  · exact absurd rfl (isInt_no e.1 n)
theorem e_read {W : WX} {ρ : En} {x : PX} {ta : TA} {Q : Dt → En → Prop} (h : ArD K W ta ρ x fun ds ρ1 => ∃ i z, ds = [.int i, .str z] ∧ z.length ≤ 10000 ∧ Q (.int (rdI (decide (i = 0)) (TL.tl z))) ρ1) : EvD K W (tCallS (DSp K sp_law_read) (WE W) ta) ρ x Q := by
  refine e_call fun σ F H R s q w => h σ F H R s (fun ds ρ1 vs F1 H1 ⟨i, z, e, hz, hQ⟩ => q ds ρ1 vs F1 H1 ⟨(i, TL.tl z), ?_, ?_, ?_, ?_, fun _ y => y.elim⟩) w
  · rw [e]
    show _ = [Dt.int i, .str (tx (TL.tl z))]
    rw [tx_tl]
  · rw [e]
    rfl
  · show (TL.tl z).length ≤ 10000
    rw [tl_len]
    exact hz
  · intro d hd
    cases (show d = _ from hd)
    exact hQ
theorem e_spoilt {W : WX} {ρ : En} {x : PX} {j : Nat} {te : TE} {Q : Dt → En → Prop}
    (h : EvD K W te ρ x fun d ρ1 => ∃ y l t, d = .str y ∧ ρ1[j]? = some (.ow l (tapeD t)) ∧ tapeOk t ∧ y.length ≤ 1000 ∧ ∀ z t', tapeOk t' → z.length ≤ 5000 → Q (.str z) (ρ1.set j (.ow l (tapeD t'))))
    (hj : ∃ l d, ρ[j]? = some (.ow l d)) : EvD K W (tCallS (OSp K sp_law_spoilt) (WE W) (tCons (tVar j) (tCons te tNil))) ρ x Q := by
  obtain ⟨l0, d0, hj⟩ := hj
  refine e_callO (a_cons (e_own hj (a_cons (e_imp h fun d ρ1 hd => a_nil ?_))))
  obtain ⟨y, l, t, rfl, h1, h2, h3, h5⟩ := hd
  refine ⟨j, l, _, _, (t, TL.tl y), rfl, h1, rfl, ?_, rfl, ⟨h2, by show (TL.tl y).length ≤ 1000; rw [tl_len]; exact h3⟩, fun r o ⟨l', t', e1, e2, e3, e4⟩ => by subst e1 e2; exact h5 _ t' e3 (by rw [tx_len]; exact e4), fun _ _ z => z.elim⟩
  show _ = [Dt.str (tx (TL.tl y))]
  rw [tx_tl]
/-! ### what texts say -/
theorem rdI_none {fig : Bool} {l : List Nat} (h : l = [] ∨ (∃ c ∈ l, c ∉ sgL fig) ∨ (fig = true ∧ l.head? = some 48 ∧ 1 < l.length)) (h45 : ¬ (fig = false ∧ l = [45])) : rdI fig l = -1 := by
  unfold rdI rdN
  rw [if_neg h45, if_pos h]
theorem not_sg {fig : Bool} {c : Nat} (h : if fig then ¬ (48 ≤ c ∧ c < 58) else ¬ (97 ≤ c ∧ c < 123)) : c ∉ sgL fig := by
  rw [sg_mem]
  cases fig with
  | true => exact h
  | false => exact h
theorem rd_word {l : List Nat} (h0 : l ≠ []) (h : ∀ c ∈ l, 97 ≤ c ∧ c < 123) : rdN false l = some (val 26 97 1 l) := by
  unfold rdN
  rw [if_neg, if_neg]
  · rfl
  · rintro (z | ⟨c, h1, h2⟩ | ⟨z, _⟩)
    · exact h0 z
    · rw [sg_mem, if_neg (by decide)] at h2
      exact h2 (h c h1)
    · cases z
  · rintro ⟨_, z⟩
    have := h 45 (by rw [z]; simp)
    omega
theorem rdI_fig (n : Nat) : rdI true (ntx true n) = (n : Nat) := by
  have : rdN true (dig n) = some n := by
    unfold rdN
    rw [if_neg (by simp), if_neg]
    · show some (val 10 48 0 (dig n)) = _
      rw [val_dig]
    · rintro (z | ⟨c, h1, h2⟩ | ⟨_, z1, z2⟩)
      · exact dig_ne z
      · rw [sg_mem, if_pos rfl] at h2
        exact h2 (dig_mem c h1)
      · obtain ⟨c, r, e, hc⟩ := dig_head (n := n)
        rw [e] at z1 z2
        have : c = 48 := by simpa using z1
        rw [hc this] at z2
        simp at z2
  unfold rdI
  rw [show ntx true n = dig n from rfl, this]
theorem rdI_let (n : Nat) : rdI false (ntx false n) = (n : Nat) := by
  by_cases h : n = 0
  · subst h
    unfold rdI rdN
    rw [if_pos ⟨rfl, rfl⟩]
  · have e : ntx false n = wrd n := by
      unfold ntx
      rw [if_neg (by decide), if_neg h]
    unfold rdI
    rw [e, rd_word (wrd_ne h) wrd_mem, val_wrd]
theorem ntx_len {fig : Bool} {n : Nat} (h : n < 2 ^ 150) : (ntx fig n).length ≤ 200 := by
  unfold ntx
  split
  · have := dig_len 150 n h
    omega
  · split
    · decide
    · have := wrd_len 150 n h
      omega
theorem ntx_ne {fig : Bool} {n : Nat} : ntx fig n ≠ [] := by
  unfold ntx
  split
  · exact dig_ne
  · split
    · simp
    · rename_i h
      exact wrd_ne h
/-! ### long words -/
def sp_law_long_word : Osp where
  I := Int × Int
  own i := tapeD i
  arg i := []
  pre i := tapeOk i
  post i d o := d = .bl true ∧ ∃ t, o = tapeD t
theorem ok_law_long_word (T : Tx K mg) : FnG P w K mg base 5 "_law_long_word" ["_law_tape_here"] (OSp K sp_law_long_word) := by
  have G_law_pick := ok_law_pick (P := P) (w := w) (base := base) T
  have G_law_read := ok_law_read (P := P) (w := w) (base := base) T
  have G_letters := ok_letters (P := P) (w := w) (base := base) T
  have G_read_letters := ok_read_letters (P := P) (w := w) (base := base) T
  obtain ⟨fd, F⟩ := T.F_law_long_word
  refine ⟨_, fd, T.g_law_long_word, F.kp, fn_bodyO F sc_law_long_word (fun _ => rfl) (fun cdv A outer s H E hr tk po => ?_), F.bindsN fun _ _ _ _ _ _ us hl => match us, hl with | [_], _ => rfl⟩
  refine ⟨_, (pss_cons (ps_set (i := 1) sc_law_long_word.nd rfl (Or.inl rfl) pe_str)
  (pss_cons (ps_set (i := 2) sc_law_long_word.nd rfl (Or.inl rfl) pe_int)
  (pss_cons (ps_for po rfl (pi_range1 rfl T.n_range (pa_cons (pe_op (op_addK (K := K) rfl) pe_int (pe_fn G_law_pick (hr.mono (by decide)) tk rfl (pa_cons (pv 0) (pa_cons pe_int pa_nil)))) pa_nil)) (pg_name (i := 3) sc_law_long_word.nd rfl (Or.inl rfl)) (pss_cons (ps_set (i := 4) sc_law_long_word.nd rfl (Or.inl rfl) (pe_fn G_law_pick (hr.mono (by decide)) tk rfl (pa_cons (pv 0) (pa_cons pe_int pa_nil))))
  (pss_cons (ps_set (i := 1) sc_law_long_word.nd rfl (Or.inl rfl) (pe_op (op_addK (K := K) rfl) (pv 1) (pe_ix (ix_seqK (K := K) rfl) pe_str (pv 4) (fun _ _ => rfl))))
  (pss_one (ps_set (i := 2) sc_law_long_word.nd rfl (Or.inl rfl) (pe_op (op_addK (K := K) rfl) (pe_op (op_addK (K := K) rfl) (pe_op op_mulU (pv 2) pe_int) (pv 4)) pe_int))))))
  (pss_one (ps_ret (pe_and (pe_cmpR (op_eqK (K := K) rfl hr.units) (pe_fn G_law_read (hr.mono (by decide)) tk rfl (pa_cons pe_int (pa_cons (pv 1) pa_nil))) (pv 2) (nomark _)) (pe_one (pe_cmpR (op_eqK (K := K) rfl hr.units) (pe_fn G_letters (hr.mono (by decide)) tk rfl (pa_cons (pe_fn G_read_letters (hr.mono (by decide)) tk rfl (pa_cons (pv 1) pa_nil)) pa_nil)) (pv 1) (nomark _))))))))), fun (t : Int × Int) (ht : tapeOk t) Z hn hq hx => ?_⟩
  have hq : ∀ (t' : Int × Int) (ρ : En), ρ[0]? = some (.ow true (tapeD t')) → Z.rt (.bl true) ρ := fun t' ρ h => hq _ _ ρ h ⟨rfl, t', rfl⟩
  try dsimp only [cxB, cxOf]
  show StD K _ _ [.ow true (tapeD t), .no, .no, .no, .no] _
  clear tk po hr F G_law_pick G_law_read G_letters G_read_letters
  walk_at "dl"
  refine ss_forR (a_cons (e_op (e_int (e_pick ?_ ⟨_, _, rfl⟩))))
  walk_at "dl1"
  refine ⟨_, _, _, rfl, rfl, ht, by decide, by decide, fun tn t1 ht1 r0 r1 => ?_⟩
  walk_at "dl"
  refine ⟨by omega, by omega, fun k ρ => ∃ (t : Int × Int) (l : List Nat), tapeOk t ∧ l.length = k ∧ (∀ c ∈ l, 97 ≤ c ∧ c < 123) ∧ ρ = [.ow true (tapeD t), .sh (.str (tx l)), .sh (.int (val 26 97 1 l : Nat)), .no, .no], ⟨t1, [], ht1, rfl, (fun c hc => nomatch hc), rfl⟩, ?_, ?_⟩
  · rintro k _ hk ⟨t, l, ht, hl, hc, rfl⟩
    refine ⟨rfl, fun Y LY => ?_⟩
    dsimp only [List.set]
    refine ss_set (e_pick ?_ ⟨_, _, rfl⟩)
    walk_at "dl1"
    refine ⟨_, _, _, rfl, rfl, ht, by decide, by decide, fun a t2 ht2 a0 a1 => ?_⟩
    walk_at "dl"
    refine o_ixS (by decide +kernel) (at_SG a0 a1) ?_
    have hlx := tx_len l
    rw [tx_one]
    refine o_addS (by rw [tx_len, tx_len]; simp; omega) ?_
    walk_at "dl"
    refine LY.nx _ _ ?_ ⟨t2, l ++ [97 + a.toNat], ht2, by simp [hl], ?_, rfl⟩
    · have e : ((val 26 97 1 (l ++ [97 + a.toNat]) : Nat) : Int) = (val 26 97 1 l : Int) * 26 + a + 1 := by
        rw [val_snoc]
        omega
      rw [e, tx_app]
      walk_at "fg"
    · intro c hm
      rw [List.mem_append] at hm
      rcases hm with hm | hm
      · exact hc c hm
      · simp at hm
        omega
  · rintro _ ⟨t, l, ht, hl, hc, rfl⟩
    have h0 : l ≠ [] := fun z => by
      subst z
      simp at hl
      omega
    have hlx := tx_len l
    have e1 := rd_word h0 hc
    have e2 : rdI (decide ((1 : Int) = 0)) (TL.tl (tx l)) = (val 26 97 1 l : Nat) := by
      rw [tl_tx, show decide ((1 : Int) = 0) = false from rfl]
      unfold rdI
      rw [e1]
    refine s_ret (e_andV (e_op (e_read ?_)))
    walk_at "dl"
    refine ⟨_, _, rfl, (by rw [tx_len]; omega), ?_⟩
    rw [e2]
    walk_at "dl"
    try rw [decide_eq_true rfl]
    refine ⟨fun _ => ?_, (fun h => nomatch h)⟩
    refine e_op (e_form (e_call ?_))
    walk_at "dl"
    refine ⟨rfl, (by show l.length ≤ 10000; omega), fun d hd => ?_, fun c hc => ?_⟩
    · obtain ⟨n, h1, rfl⟩ := hd
      rw [e1] at h1
      cases h1
      have hv := val_lt l hc
      have hv2 : 32 ^ l.length ≤ 32 ^ 30 := Nat.pow_le_pow_right (by decide) (by omega)
      refine ⟨_, rfl, by omega, ?_⟩
      have hw := wrd_val l hc
      have hz : val 26 97 1 l ≠ 0 := fun z => by
        rw [z, wrd_0] at hw
        exact h0 hw.symm
      have e3 : ntx false (val 26 97 1 l) = l := by
        unfold ntx
        rw [if_neg (by decide), if_neg hz, hw]
      rw [e3]
      walk_at "dl"
      try rw [decide_eq_true rfl]
      exact hq _ _ rfl
    · have := hc.1
      rw [e1] at this
      cases this

/-! ### the law -/
def sp_law : Fsp where
  I := List Int
  arg ns := [.lst (ns.map .int)]
  pre ns := ns.length ≤ 63
  post _ d := d = .bl true
theorem bad_all {n : Nat} {k : Nat} {z : Dt} (h : ([.int (-1 - (n : Int)), .bl true, .bl false, .str "3", .str "a", .non, .lst [.int 3], .tup [.int 3]] : List Dt)[k]? = some z) : badD z := by
  have hm := List.mem_of_getElem? h
  simp only [List.mem_cons, List.not_mem_nil, or_false] at hm
  rcases hm with h | h | h | h | h | h | h | h
  all_goals subst h
  · refine ⟨rfl, rfl, ?_, _, rfl, Nat.le_of_ble_eq_true rfl⟩
    show (decide ((0 : Int) ≤ -1 - (n : Int)) && true) = false
    rw [Bool.and_true]
    exact decide_eq_false (by omega)
  all_goals exact ⟨rfl, rfl, rfl, _, rfl, Nat.le_of_ble_eq_true rfl⟩
theorem two_at {n : Nat} {i : Nat} (h : (i : Int) < 2) : atI [Dt.str (tx (ntx true n)), .str (tx (ntx false n))] (i : Int) = some (.str (tx (ntx (decide ((i : Int) = 0)) n))) := by
  have : i = 0 ∨ i = 1 := by omega
  rcases this with h | h
  · subst h; rfl
  · subst h; rfl
theorem ok_law (T : Tx K mg) {fd : FuncData} (F : FunD K "law" "law" (defArgs s_law) (defBody s_law) (defScope s_law) [] [] (He.ga K "law") fd) : FnOk P w K mg base (L2.CX P w) 6 (He.ga K "law") fd ["_law_script"] (DSp K sp_law) := by
  have G_law_tape := ok_law_tape (P := P) (w := w) (base := base) T
  have G_law_long_word := ok_law_long_word (P := P) (w := w) (base := base) T
  have G_law_number := ok_law_number (P := P) (w := w) (base := base) T
  have G_law_word := ok_law_word (P := P) (w := w) (base := base) T
  have G_law_bad := ok_law_bad (P := P) (w := w) (base := base) T
  have G_law_read := ok_law_read (P := P) (w := w) (base := base) T
  have G_law_spoilt := ok_law_spoilt (P := P) (w := w) (base := base) T
  have G_figures := ok_figures (P := P) (w := w) (base := base) T
  have G_letters := ok_letters (P := P) (w := w) (base := base) T
  refine fn_body F sc_law (fun _ => rfl) (fun cdv A outer s H E hr tk po => ?_)
  refine ⟨_, (pss_cons (ps_set (i := 1) sc_law.nd rfl (Or.inl rfl) (pe_fn G_law_tape (hr.mono (by decide)) tk rfl (pa_cons (pv 0) (pa_cons pe_int pa_nil))))
  (pss_cons (ps_if (pt_not (pt_truK (K := K) rfl (pe_fn G_law_long_word (hr.mono (by decide)) tk rfl (pa_cons (pe_fn G_law_tape (hr.mono (by decide)) tk rfl (pa_cons (pv 0) (pa_cons pe_int pa_nil))) pa_nil)))) (pss_one (ps_ret pe_bl)) pss_nil)
  (pss_cons (ps_set (i := 2) sc_law.nd rfl (Or.inl rfl) (pe_fn G_law_number (hr.mono (by decide)) tk rfl (pa_cons (pv 1) pa_nil)))
  (pss_cons (ps_set (i := 3) sc_law.nd rfl (Or.inl rfl) (pe_fn G_figures (hr.mono (by decide)) tk rfl (pa_cons (pv 2) pa_nil)))
  (pss_cons (ps_set (i := 4) sc_law.nd rfl (Or.inl rfl) (pe_fn G_letters (hr.mono (by decide)) tk rfl (pa_cons (pv 2) pa_nil)))
  (pss_cons (ps_if (PW.pt (pw_or (pt_cmpR (op_neK (K := K) rfl hr.units) (pv 3) (pe_callTy call_str_int (by rfl) T.n_str (by decide +kernel) (pa_cons (pv 2) pa_nil)) (nomark _)) (pw_or (pt_cmpR (op_neK (K := K) rfl hr.units) (pv 4) (pe_fn G_law_word (hr.mono (by decide)) tk rfl (pa_cons (pv 2) pa_nil)) (nomark _)) (pw_or (pt_cmpR (op_neK (K := K) rfl hr.units) (pe_fn G_figures (hr.mono (by decide)) tk rfl (pa_cons (pv 2) pa_nil)) (pv 3) (nomark _)) (pw_or1 (pt_cmpR (op_neK (K := K) rfl hr.units) (pe_fn G_letters (hr.mono (by decide)) tk rfl (pa_cons (pv 2) pa_nil)) (pv 4) (nomark _))))))) (pss_one (ps_ret pe_bl)) pss_nil)
  (pss_cons (ps_if (PW.pt (pw_or (pt_cmpR (op_neK (K := K) rfl hr.units) (pe_fn G_law_read (hr.mono (by decide)) tk rfl (pa_cons pe_int (pa_cons (pv 3) pa_nil))) (pv 2) (nomark _)) (pw_or1 (pt_cmpR (op_neK (K := K) rfl hr.units) (pe_fn G_law_read (hr.mono (by decide)) tk rfl (pa_cons pe_int (pa_cons (pv 4) pa_nil))) (pv 2) (nomark _))))) (pss_one (ps_ret pe_bl)) pss_nil)
  (pss_cons (ps_set (i := 5) sc_law.nd rfl (Or.inl rfl) (pe_fn G_letters (hr.mono (by decide)) tk rfl (pa_cons (pe_op (op_addK (K := K) rfl) (pv 2) pe_int) pa_nil)))
  (pss_cons (ps_if (PW.pt (pw_and (pt_cmpR (op_gtK (K := K) rfl hr.units) (pv 2) pe_int (nomark _)) (pw_and1 (pt_cmpR (op_leK (K := K) rfl hr.units) (pe_tup (pa_cons (pe_callB (call_lenK (K := K) rfl) (by rfl) T.n_len (by decide +kernel) (pa_cons (pv 5) pa_nil)) (pa_cons (pv 5) pa_nil))) (pe_tup (pa_cons (pe_callB (call_lenK (K := K) rfl) (by rfl) T.n_len (by decide +kernel) (pa_cons (pv 4) pa_nil)) (pa_cons (pv 4) pa_nil))) (nomark _))))) (pss_one (ps_ret pe_bl)) pss_nil)
  (pss_cons (ps_for po rfl (pi_range1 rfl T.n_range (pa_cons pe_int pa_nil)) (pg_name (i := 6) sc_law.nd rfl (Or.inl rfl)) (pss_cons (ps_for po rfl (pi_listK (K := K) rfl (pe_lst (pa_cons (pe_op op_sub (pe_un un_neg pe_int) (pv 2)) (pa_cons pe_bl (pa_cons pe_bl (pa_cons pe_str (pa_cons pe_str (pa_cons pe_non (pa_cons (pe_lst (pa_cons pe_int pa_nil)) (pa_cons (pe_tup (pa_cons pe_int pa_nil)) pa_nil)))))))))) (pg_name (i := 7) sc_law.nd rfl (Or.inl rfl)) (pss_one (ps_if (pt_not (pt_truK (K := K) rfl (pe_fn G_law_bad (hr.mono (by decide)) tk rfl (pa_cons (pv 6) (pa_cons (pv 7) pa_nil))))) (pss_one (ps_ret pe_bl)) pss_nil)))
  (pss_cons (ps_set (i := 8) sc_law.nd rfl (Or.inl rfl) (pe_fn G_law_spoilt (hr.mono (by decide)) tk rfl (pa_cons (pv 1) (pa_cons (pe_ix (ix_seqK (K := K) rfl) (pe_lst (pa_cons (pv 3) (pa_cons (pv 4) pa_nil))) (pv 6) (fun _ _ => rfl)) pa_nil))))
  (pss_cons (ps_if (PW.pt (pw_and (pt_cmpR (op_neK (K := K) rfl hr.units) (pe_bmK (K := K) rfl PySem.F.plainAttrs_str PySem.F.slot_str_strip PySem.F.type_str_strip mt_stripC (pv 8) (pa_cons pe_str pa_nil)) pe_str (nomark _)) (pw_and (pt_cmpR (op_neK (K := K) rfl hr.units) (pe_bmK (K := K) rfl PySem.F.plainAttrs_str PySem.F.slot_str_strip PySem.F.type_str_strip mt_stripC (pv 8) (pa_cons pe_str pa_nil)) pe_str (nomark _)) (pw_and1 (pt_cmpR (op_neK (K := K) rfl hr.units) (pv 8) pe_str (nomark _)))))) (pss_one (ps_if (pt_cmpR (op_neK (K := K) rfl hr.units) (pe_fn G_law_read (hr.mono (by decide)) tk rfl (pa_cons (pv 6) (pa_cons (pv 8) pa_nil))) (pe_un un_neg pe_int) (nomark _)) (pss_one (ps_ret pe_bl)) pss_nil)) pss_nil)
  (pss_one (ps_if (PW.pt (pw_or (pt_cmpR (op_neK (K := K) rfl hr.units) (pe_fn G_law_read (hr.mono (by decide)) tk rfl (pa_cons (pv 6) (pa_cons pe_str pa_nil))) (pe_un un_neg pe_int) (nomark _)) (pw_or1 (pt_cmpR (op_neK (K := K) rfl hr.units) (pe_fn G_law_read (hr.mono (by decide)) tk rfl (pa_cons (pv 6) (pa_cons (pe_op (op_addK (K := K) rfl) pe_str (pe_ix (ix_seqK (K := K) rfl) (pe_lst (pa_cons (pv 3) (pa_cons (pv 4) pa_nil))) (pv 6) (fun _ _ => rfl))) pa_nil))) (pe_un un_neg pe_int) (nomark _))))) (pss_one (ps_ret pe_bl)) pss_nil))))))
  (pss_cons (ps_if (PW.pt (pw_or (pt_cmpR (op_neK (K := K) rfl hr.units) (pe_fn G_law_read (hr.mono (by decide)) tk rfl (pa_cons pe_int (pa_cons (pe_op (op_addK (K := K) rfl) pe_str (pv 3)) pa_nil))) (pe_un un_neg pe_int) (nomark _)) (pw_or1 (pt_cmpR (op_neK (K := K) rfl hr.units) (pe_fn G_law_read (hr.mono (by decide)) tk rfl (pa_cons pe_int (pa_cons (pv 4) pa_nil))) (pe_un un_neg pe_int) (nomark _))))) (pss_one (ps_ret pe_bl)) pss_nil)
  (pss_cons (ps_if (PW.pt (pw_or (pt_cmpR (op_neK (K := K) rfl hr.units) (pe_fn G_law_read (hr.mono (by decide)) tk rfl (pa_cons pe_int (pa_cons (pv 3) pa_nil))) (pe_un un_neg pe_int) (nomark _)) (pw_or1 (pt_cmpR (op_neK (K := K) rfl hr.units) (pe_fn G_law_read (hr.mono (by decide)) tk rfl (pa_cons pe_int (pa_cons (pe_op (op_addK (K := K) rfl) pe_str (pv 3)) pa_nil))) (pe_un un_neg pe_int) (nomark _))))) (pss_one (ps_ret pe_bl)) pss_nil)
  (pss_one (ps_ret (pe_and (pe_cmpR (op_eqK (K := K) rfl hr.units) (pe_fn G_law_read (hr.mono (by decide)) tk rfl (pa_cons pe_int (pa_cons (pe_op (op_addK (K := K) rfl) (pe_op op_mulU pe_str pe_int) pe_str) pa_nil))) (pe_un un_neg pe_int) (nomark _)) (pe_and (pe_cmpR (op_eqK (K := K) rfl hr.units) (pe_fn G_law_read (hr.mono (by decide)) tk rfl (pa_cons pe_int (pa_cons pe_str pa_nil))) pe_int (nomark _)) (pe_one (pe_cmpR (op_eqK (K := K) rfl hr.units) (pe_fn G_law_read (hr.mono (by decide)) tk rfl (pa_cons pe_int (pa_cons pe_str pa_nil))) pe_int (nomark _))))))))))))))))))), fun (ns : List Int) (hp : ns.length ≤ 63) Z hn hq hx => ?_⟩
  try dsimp only [cxB, cxOf]
  show StD K _ _ [.sh (.lst (ns.map .int)), .no, .no, .no, .no, .no, .no, .no, .no] _
  clear tk po hr F G_law_tape G_law_long_word G_law_number G_law_word G_law_bad G_law_read G_law_spoilt G_figures G_letters
  have hfin : ∀ ρ, Z.rt (.bl true) ρ := fun ρ => hq _ _ rfl
  clear hn hq hx
  refine ss_own (e_callN ?_)
  walk_at "dl"
  refine ⟨(ns, 0), rfl, rfl, ⟨Int.le_refl 0, (by decide : (0 : Int) ≤ 1000), hp⟩, ?_, fun _ z => z.elim⟩
  rintro _ ⟨t, rfl, ht⟩
  walk_at "dl1"
  refine ss_if (t_not (t_tru (e_callNO (e_callN ?_))))
  walk_at "dl"
  refine ⟨(ns, 1), rfl, rfl, ⟨(by decide : (0 : Int) ≤ 1), (by decide : (1 : Int) ≤ 1000), hp⟩, ?_, fun _ z => z.elim⟩
  rintro _ ⟨t1, rfl, ht1⟩
  walk_at "dl1"
  refine ⟨t1, rfl, rfl, rfl, ht1, ?_, fun _ _ z => z.elim⟩
  rintro r o ⟨rfl, _⟩
  walk_at "dl"
  refine e_callO ?_
  walk_at "dl"
  refine ⟨1, _, _, _, t, rfl, rfl, rfl, rfl, rfl, ht, ?_, fun _ _ z => z.elim⟩
  rintro r o ⟨n, t2, rfl, rfl, ht2, hn⟩
  have hA := tx_len (ntx true n)
  have hB := tx_len (ntx false n)
  have hA2 := ntx_len (fig := true) (n := n) (by omega)
  have hB2 := ntx_len (fig := false) (n := n) (by omega)
  have hC := tx_len (ntx false (n + 1))
  have hC2 := ntx_len (fig := false) (n := n + 1) (by omega)
  have rA := rdI_fig n
  have rB := rdI_let n
  walk_at "dl"
  refine e_form ?_
  walk_at "dl1"
  refine ⟨n, rfl, by omega, ?_⟩
  walk_at "dl"
  refine e_form ?_
  walk_at "dl1"
  refine ⟨n, rfl, by omega, ?_⟩
  walk_at "dl"
  refine c_strI ?_ ?_
  · show n.log2 < 1920
    rcases Nat.eq_zero_or_pos n with h | h
    · subst h
      decide
    · exact (Nat.log2_lt (by omega)).mpr (Nat.lt_of_lt_of_le hn (Nat.pow_le_pow_right (by decide) (by decide)))
  walk_at "dl"
  rw [str_int, show ntx true n = dig n from rfl, decide_eq_true rfl]
  walk_at "dl"
  refine e_call ?_
  walk_at "dl"
  refine ⟨rfl, (by show n < 2 ^ 150; omega), fun d e => ?_, fun _ z => z.elim⟩
  cases (show d = _ from e)
  walk_at "dl"
  try rw [decide_eq_true rfl]
  walk_at "dl"
  refine e_form ?_
  walk_at "dl1"
  refine ⟨n, rfl, by omega, ?_⟩
  walk_at "dl"
  rw [show ntx true n = dig n from rfl, decide_eq_true rfl]
  walk_at "dl"
  refine e_form ?_
  walk_at "dl1"
  refine ⟨n, rfl, by omega, ?_⟩
  walk_at "dl"
  try rw [decide_eq_true rfl]
  walk_at "dl"
  refine e_read ?_
  walk_at "dl"
  refine ⟨_, _, rfl, (by rw [show dig n = ntx true n from rfl]; omega), ?_⟩
  rw [tl_tx, show decide ((0 : Int) = 0) = true from rfl, show dig n = ntx true n from rfl, rA]
  walk_at "dl"
  try rw [decide_eq_true rfl]
  walk_at "dl"
  refine e_read ?_
  walk_at "dl"
  refine ⟨_, _, rfl, (by omega), ?_⟩
  rw [tl_tx, show decide ((1 : Int) = 0) = false from rfl, rB]
  walk_at "dl"
  try rw [decide_eq_true rfl]
  walk_at "dl"
  refine e_form (e_op (e_var rfl (e_int (o_add ⟨n + 1, rfl, by omega, ?_⟩))))
  walk_at "dl1"
  have order : n ≠ 0 → PySem.W.dataLt (.tuple [.int ((tx (ntx false n)).length : Nat), .str (tx (ntx false n))]) (.tuple [.int ((tx (ntx false (n + 1))).length : Nat), .str (tx (ntx false (n + 1)))]) = true := fun h0 => by
    have e1 : ntx false n = wrd n := by
      unfold ntx
      rw [if_neg (by decide), if_neg h0]
    have e2 : ntx false (n + 1) = wrd (n + 1) := by
      unfold ntx
      rw [if_neg (by decide), if_neg (by omega)]
    rw [tx_len, tx_len, e1, e2]
    exact dataLt_pair (wrd_order n h0)
  refine ss_skip (ρ' := [.sh (.lst (ns.map .int)), .ow false (tapeD t2), .sh (.int (n : Nat)), .sh (.str (tx (ntx true n))), .sh (.str (tx (ntx false n))), .sh (.str (tx (ntx false (n + 1)))), .no, .no, .no]) ?_ ?_
  · walk_at "dl"
    refine ⟨fun hb => ?_, fun hb => ⟨rfl, rfl⟩⟩
    walk_at "dl"
    refine o_cmpD rfl rfl rfl (fun z => nomatch z) (Nat.le_of_ble_eq_true rfl) ?_
    refine ⟨_, rfl, ?_, rfl⟩
    have := of_decide_eq_true hb
    rw [order (by omega)]
    rfl
  refine ss_forR ?_
  walk_at "dl"
  refine ⟨by decide, by decide, fun _ ρ => ∃ t, tapeOk t ∧ ρ = [.sh (.lst (ns.map .int)), .ow false (tapeD t), .sh (.int (n : Nat)), .sh (.str (tx (ntx true n))), .sh (.str (tx (ntx false n))), .sh (.str (tx (ntx false (n + 1)))), .no, .no, .no], ⟨t2, ht2, rfl⟩, ?_, ?_⟩
  · rintro i _ hi ⟨t3, ht3, rfl⟩
    refine ⟨rfl, fun Y LY => ?_⟩
    dsimp only [List.set]
    have two := two_at (n := n) hi
    generalize hfig : decide ((i : Int) = 0) = fig at two
    have hl := ntx_len (fig := fig) (n := n) (by omega)
    have hlx := tx_len (ntx fig n)
    refine ss_forL (e_lst ?_)
    walk_at "dl"
    refine ⟨fun k ρ => ρ = [.sh (.lst (ns.map .int)), .ow false (tapeD t3), .sh (.int (n : Nat)), .sh (.str (tx (ntx true n))), .sh (.str (tx (ntx false n))), .sh (.str (tx (ntx false (n + 1)))), .sh (.int (i : Nat)), .no, .no], rfl, ?_, ?_⟩
    · rintro k _ z hz rfl
      refine ⟨rfl, fun Y2 LY2 => ?_⟩
      dsimp only [List.set]
      refine s_skip (t_not (t_tru (e_call ?_)))
      walk_at "dl"
      have hbad := bad_all hz
      refine ⟨((i : Int), z), rfl, (by unfold allReal; rw [List.all_cons, List.all_cons, hbad.1]; rfl), hbad, fun d e => ?_, fun _ y => y.elim⟩
      cases (show d = _ from e)
      refine ⟨true, rfl, rfl, LY2.nx _ _ ?_ rfl⟩
      walk_at "fg"
    · rintro _ rfl
      refine ss_set (e_spoilt (e_op (e_lst ?_)) ⟨_, _, rfl⟩)
      walk_at "dl"
      refine o_ixL two ⟨_, _, _, rfl, rfl, ht3, (by omega), fun z t4 ht4 hz => ?_⟩
      walk_at "dl1"
      have hzl : z.length = (TL.tl z).length := (tl_len z).symm
      refine ss_join (fun ρ => ρ = [.sh (.lst (ns.map .int)), .ow false (tapeD t4), .sh (.int (n : Nat)), .sh (.str (tx (ntx true n))), .sh (.str (tx (ntx false n))), .sh (.str (tx (ntx false (n + 1)))), .sh (.int (i : Nat)), .no, .sh (.str z)]) ?_ ?_
      · have k1 := strip_sg true (TL.tl z)
        have k2 := strip_sg false (TL.tl z)
        rw [tx_tl, if_pos rfl] at k1
        rw [tx_tl, if_neg (by decide)] at k2
        refine s_if (t_and ?_)
        walk_at "dl"
        refine ⟨fun h1 => ?_, fun h1 => ?_⟩
        · walk_at "dl"
          refine ⟨fun h2 => ?_, fun h2 => ?_⟩
          · walk_at "dl"
            refine ⟨fun h3 => ?_, fun h3 => s_next rfl⟩
            refine s_skip ?_
            refine t_test (e_op (e_read ?_))
            walk_at "dl"
            refine ⟨_, _, rfl, by omega, ?_⟩
            have h1 : Txt.stripChars z DG ≠ "" := by simpa using h1
            have h2 : Txt.stripChars z SG ≠ "" := by simpa using h2
            have h3 : z ≠ "-" := by simpa using h3
            have g1 : ∃ c ∈ TL.tl z, c ∉ sgL true := Classical.byContradiction fun y => h1 (k1.mpr y)
            have g2 : ∃ c ∈ TL.tl z, c ∉ sgL false := Classical.byContradiction fun y => h2 (k2.mpr y)
            have g3 : TL.tl z ≠ [45] := fun y => h3 (TL.ext_tl (by rw [y]; decide +kernel))
            rw [hfig, rdI_none (fig := fig) (.inr (.inl (by cases fig; exact g2; exact g1))) (fun y => g3 y.2)]
            walk_at "dl"
            exact ⟨rfl, rfl⟩
          · exact ⟨(fun h => nomatch h), fun _ => s_next rfl⟩
        · exact ⟨(fun h => nomatch h), fun _ => s_next rfl⟩
      · rintro _ rfl
        refine s_skip ?_
        refine t_or (t_test (e_op (e_read ?_)))
        walk_at "dl"
        refine ⟨_, _, rfl, by decide +kernel, ?_⟩
        rw [rdI_none (.inl (by decide +kernel)) (fun y => absurd y.2 (by decide +kernel))]
        walk_at "dl"
        try rw [decide_eq_true rfl]
        walk_at "dl"
        refine e_read ?_
        walk_at "dl"
        refine o_ixL two ?_
        refine o_addS (by rw [hlx, show (Str.ofString " ").length = 1 by decide +kernel]; omega) ?_
        walk_at "dl"
        refine ⟨_, _, rfl, by rw [len_app, hlx, show (Str.ofString " ").length = 1 by decide +kernel]; omega, ?_⟩
        rw [TL.tl_append, tl_tx, show TL.tl (Str.ofString " ") = [32] by decide +kernel, rdI_none (.inr (.inl ⟨32, by simp, not_sg (by split <;> omega)⟩)) (fun y => by have := y.2; simp at this)]
        walk_at "dl"
        try rw [decide_eq_true rfl]
        refine ⟨rfl, LY.nx _ _ ?_ ⟨t4, ht4, rfl⟩⟩
        walk_at "fg"
  · rintro _ ⟨t3, ht3, rfl⟩
    have m45 : ∀ fig, (45 : Nat) ∉ sgL fig := fun fig => not_sg (by split <;> omega)
    refine ss_skip (ρ' := [.sh (.lst (ns.map .int)), .ow false (tapeD t3), .sh (.int (n : Nat)), .sh (.str (tx (ntx true n))), .sh (.str (tx (ntx false n))), .sh (.str (tx (ntx false (n + 1)))), .no, .no, .no]) ?_ ?_
    · refine t_or (t_test (e_op (e_read ?_)))
      walk_at "dl"
      refine o_addS (by rw [hA, show (Str.ofString "0").length = 1 by decide +kernel]; omega) ?_
      walk_at "dl"
      refine ⟨_, _, rfl, by rw [len_app, hA, show (Str.ofString "0").length = 1 by decide +kernel]; omega, ?_⟩
      rw [TL.tl_append, tl_tx, show TL.tl (Str.ofString "0") = [48] by decide +kernel, show decide ((0 : Int) = 0) = true from rfl, rdI_none (.inr (.inr ⟨rfl, rfl, by have := List.length_pos_iff.mpr (ntx_ne (fig := true) (n := n)); simp only [List.length_append, List.length_cons, List.length_nil]; omega⟩)) (fun y => nomatch y.1)]
      walk_at "dl"
      try rw [decide_eq_true rfl]
      walk_at "dl"
      refine e_read ?_
      walk_at "dl"
      refine ⟨_, _, rfl, by omega, ?_⟩
      have hw : ∃ c ∈ ntx false n, c ∉ sgL true := by
        by_cases h : n = 0
        · subst h
          exact ⟨45, by decide, m45 true⟩
        · have e : ntx false n = wrd n := by
            unfold ntx
            rw [if_neg (by decide), if_neg h]
          rw [e]
          obtain ⟨c, r, hcr⟩ := List.exists_cons_of_ne_nil (wrd_ne h)
          have := wrd_mem (n := n) c (by rw [hcr]; simp)
          exact ⟨c, by rw [hcr]; simp, not_sg (by rw [if_pos rfl]; omega)⟩
      rw [tl_tx, show decide ((0 : Int) = 0) = true from rfl, rdI_none (.inr (.inl hw)) (fun y => nomatch y.1)]
      walk_at "dl"
      try rw [decide_eq_true rfl]
      exact ⟨rfl, rfl⟩
    refine ss_skip (ρ' := [.sh (.lst (ns.map .int)), .ow false (tapeD t3), .sh (.int (n : Nat)), .sh (.str (tx (ntx true n))), .sh (.str (tx (ntx false n))), .sh (.str (tx (ntx false (n + 1)))), .no, .no, .no]) ?_ ?_
    · refine t_or (t_test (e_op (e_read ?_)))
      walk_at "dl"
      refine ⟨_, _, rfl, by omega, ?_⟩
      have hd : ∃ c ∈ ntx true n, c ∉ sgL false := by
        obtain ⟨c, r, hcr⟩ := List.exists_cons_of_ne_nil (ntx_ne (fig := true) (n := n))
        have := dig_mem (n := n) c (by rw [show dig n = ntx true n from rfl, hcr]; simp)
        exact ⟨c, by rw [hcr]; simp, not_sg (by rw [if_neg (by decide)]; omega)⟩
      rw [tl_tx, show decide ((1 : Int) = 0) = false from rfl, rdI_none (.inr (.inl hd)) (fun y => by
        have h1 := dig_mem (n := n) 45 (by rw [show dig n = ntx true n from rfl, y.2]; simp)
        omega)]
      walk_at "dl"
      try rw [decide_eq_true rfl]
      walk_at "dl"
      refine e_read ?_
      walk_at "dl"
      refine o_addS (by rw [hA, show (Str.ofString "-").length = 1 by decide +kernel]; omega) ?_
      walk_at "dl"
      refine ⟨_, _, rfl, by rw [len_app, hA, show (Str.ofString "-").length = 1 by decide +kernel]; omega, ?_⟩
      rw [TL.tl_append, tl_tx, show TL.tl (Str.ofString "-") = [45] by decide +kernel, show decide ((0 : Int) = 0) = true from rfl, rdI_none (.inr (.inl ⟨45, by simp, m45 true⟩)) (fun y => nomatch y.1)]
      walk_at "dl"
      try rw [decide_eq_true rfl]
      exact ⟨rfl, rfl⟩
    have l1 : (Str.ofString "a").length = 1 := by decide +kernel
    have l2 : (strMul (Str.ofString "a") 3000).length = 3000 := by
      rw [← tl_len, tl_mul, show TL.tl (Str.ofString "a") = [97] by decide +kernel]
      simp
    have l3 : (Str.ofString "0").length = 1 := by decide +kernel
    walk_at "dl1"
    refine e_andV (e_op (e_read ?_))
    walk_at "dl"
    refine o_mulS (by decide) (by decide) (by omega) ?_
    walk_at "dl"
    refine ⟨_, _, rfl, by rw [len_app]; omega, ?_⟩
    rw [TL.tl_append, show TL.tl (Str.ofString "0") = [48] by decide +kernel, show decide ((1 : Int) = 0) = false from rfl, rdI_none (.inr (.inl ⟨48, by simp, not_sg (by rw [if_neg (by decide)]; omega)⟩)) (fun y => by
      have := congrArg List.length y.2
      rw [List.length_append, tl_len, l2] at this
      simp at this)]
    walk_at "dl"
    try rw [decide_eq_true rfl]
    walk_at "dl"
    refine e_read ?_
    walk_at "dl"
    refine ⟨_, _, rfl, by omega, ?_⟩
    rw [show rdI (decide ((0 : Int) = 0)) (TL.tl (Str.ofString "0")) = 0 from (by
      have := rdI_fig 0
      rw [show ntx true 0 = [48] by rw [show ntx true 0 = dig 0 from rfl, dig_lt (by decide)]] at this
      exact this)]
    walk_at "dl"
    refine e_read ?_
    walk_at "dl"
    refine ⟨_, _, rfl, by decide +kernel, ?_⟩
    rw [show rdI (decide ((1 : Int) = 0)) (TL.tl (Str.ofString "-")) = 0 from rdI_let 0]
    walk_at "dl"
    exact hfin _
def spL (K : DL.Frag) : Sp := DSp K sp_law
theorem spL_of {K : DL.Frag} {H : Hp} {a : Addr} {ns : List Int} (hl : ns.length ≤ 63) (hS : SqL K H a (ns.map V.int)) : spL K [.ref a] H (fun v _ => v = .bl true) fun _ _ _ => False := by
  refine ⟨H, ns, Evl.Ex.refl H, repL_cons ?_ repL_nil, hl, fun d hd v H' _ r => ?_, fun c z => z.elim⟩
  · unfold Rep
    exact ⟨a, _, rfl, hS, repL_ints ns⟩
  · cases (show d = _ from hd)
    unfold Rep at r
    exact r


end
def d_BadNumberu_initu : He.DefD := ⟨("BadNumber", some "__init__"), "__init__", "BadNumber.__init__", defArgs s_BadNumberu_initu, defBody s_BadNumberu_initu, defScope s_BadNumberu_initu, [], []⟩
def d_is_integer : He.DefD := ⟨("is_integer", none), "is_integer", "is_integer", defArgs s_is_integer, defBody s_is_integer, defScope s_is_integer, [.non], []⟩
def d_is_number : He.DefD := ⟨("is_number", none), "is_number", "is_number", defArgs s_is_number, defBody s_is_number, defScope s_is_number, [], []⟩
def d_digits_of : He.DefD := ⟨("digits_of", none), "digits_of", "digits_of", defArgs s_digits_of, defBody s_digits_of, defScope s_digits_of, [], []⟩
def d_word_of : He.DefD := ⟨("word_of", none), "word_of", "word_of", defArgs s_word_of, defBody s_word_of, defScope s_word_of, [], []⟩
def d_number_text : He.DefD := ⟨("number_text", none), "number_text", "number_text", defArgs s_number_text, defBody s_number_text, defScope s_number_text, [], []⟩
def d_read_number : He.DefD := ⟨("read_number", none), "read_number", "read_number", defArgs s_read_number, defBody s_read_number, defScope s_read_number, [], []⟩
def d_checked_text : He.DefD := ⟨("checked_text", none), "checked_text", "checked_text", defArgs s_checked_text, defBody s_checked_text, defScope s_checked_text, [], []⟩
def d_checked_number : He.DefD := ⟨("checked_number", none), "checked_number", "checked_number", defArgs s_checked_number, defBody s_checked_number, defScope s_checked_number, [], []⟩
def d_figures : He.DefD := ⟨("figures", none), "figures", "figures", defArgs s_figures, defBody s_figures, defScope s_figures, [], []⟩
def d_letters : He.DefD := ⟨("letters", none), "letters", "letters", defArgs s_letters, defBody s_letters, defScope s_letters, [], []⟩
def d_read_figures : He.DefD := ⟨("read_figures", none), "read_figures", "read_figures", defArgs s_read_figures, defBody s_read_figures, defScope s_read_figures, [], []⟩
def d_read_letters : He.DefD := ⟨("read_letters", none), "read_letters", "read_letters", defArgs s_read_letters, defBody s_read_letters, defScope s_read_letters, [], []⟩
def d_law_tape : He.DefD := ⟨("_law_tape", none), "_law_tape", "_law_tape", defArgs s_law_tape, defBody s_law_tape, defScope s_law_tape, [], []⟩
def d_law_pick : He.DefD := ⟨("_law_pick", none), "_law_pick", "_law_pick", defArgs s_law_pick, defBody s_law_pick, defScope s_law_pick, [], []⟩
def d_law_word : He.DefD := ⟨("_law_word", none), "_law_word", "_law_word", defArgs s_law_word, defBody s_law_word, defScope s_law_word, [], []⟩
def d_law_number : He.DefD := ⟨("_law_number", none), "_law_number", "_law_number", defArgs s_law_number, defBody s_law_number, defScope s_law_number, [], []⟩
def d_law_bad : He.DefD := ⟨("_law_bad", none), "_law_bad", "_law_bad", defArgs s_law_bad, defBody s_law_bad, defScope s_law_bad, [], []⟩
def d_law_read : He.DefD := ⟨("_law_read", none), "_law_read", "_law_read", defArgs s_law_read, defBody s_law_read, defScope s_law_read, [], []⟩
def d_law_spoilt : He.DefD := ⟨("_law_spoilt", none), "_law_spoilt", "_law_spoilt", defArgs s_law_spoilt, defBody s_law_spoilt, defScope s_law_spoilt, [], []⟩
def d_law_long_word : He.DefD := ⟨("_law_long_word", none), "_law_long_word", "_law_long_word", defArgs s_law_long_word, defBody s_law_long_word, defScope s_law_long_word, [], []⟩
def d_law : He.DefD := ⟨("law", none), "law", "law", defArgs s_law, defBody s_law, defScope s_law, [], []⟩
def fn : List He.DefD := [d_BadNumberu_initu, d_is_integer, d_is_number, d_digits_of, d_word_of, d_number_text, d_read_number, d_checked_text, d_checked_number, d_figures, d_letters, d_read_figures, d_read_letters, d_law_tape, d_law_pick, d_law_word, d_law_number, d_law_bad, d_law_read, d_law_spoilt, d_law_long_word, d_law]
def ex : List (DL.Frag → Bool) := [fun K => xcB K (He.ga K "BadText"), fun K => PySem.W.excIn K (He.ga K "BadText") He.veBase "ValueError.__new__", fun K => xcB K (He.ga K "BadNumber"), fun K => He.eqO (PySem.W.findIn K (.ref (He.ga K "BadNumber")) "__init__") (some (some (.ref (He.ma K (He.ga K "BadNumber") "__init__")))), fun K => decide (PySem.W.typeIn K (.ref (He.ma K (He.ga K "BadNumber") "__init__")) = some (.type "function")), fun K => He.eqO (PySem.W.findIn K (.ref (He.ga K "BadNumber")) "number") (some none), fun K => decide (PySem.W.exmOne K (.ref (He.ga K "BadText")) (.ref (He.ga K "BadText")) = some true), fun K => decide (PySem.W.exmOne K (.ref (He.ga K "BadText")) (.ref (He.ga K "BadNumber")) = some false), fun K => decide (PySem.W.exmOne K (.ref (He.ga K "BadNumber")) (.ref (He.ga K "BadText")) = some false), fun K => decide (PySem.W.exmOne K (.ref (He.ga K "BadNumber")) (.ref (He.ga K "BadNumber")) = some true), fun K => decide (PySem.W.kitOne K (.ref (He.ga K "BadText")) (.ref (He.ga K "PartError")) = some true), fun K => decide (PySem.W.kitOne K (.ref (He.ga K "BadNumber")) (.ref (He.ga K "PartError")) = some true)]
def fa : List He.Fa := [.free "abs", .free "bool", .free "int", .free "isinstance", .free "len", .free "max", .free "range", .free "str", .str "SIGNS" "abcdefghijklmnopqrstuvwxyz", .str "FIGURES" "figures", .str "LETTERS" "letters", .str "DIGITS" "0123456789", .str "NONE" "-", .glo "is_integer", .glo "is_number", .glo "digits_of", .glo "word_of", .glo "number_text", .glo "read_number", .glo "checked_text", .glo "checked_number", .glo "figures", .glo "letters", .glo "read_figures", .glo "read_letters", .glo "_law_tape", .glo "_law_pick", .glo "_law_word", .glo "_law_number", .glo "_law_bad", .glo "_law_read", .glo "_law_spoilt", .glo "_law_long_word", .glo "law", .glo "PartError", .glo "BadText", .glo "BadNumber"]
abbrev R : PySem.W.OpenRow := PySem.W.OpenLaw.row PySem.Challenge.rw_partlabels_k12_formats
abbrev hk : PySem.W.Hook := DL.hookE 4 fa fn ex
def ob (s : PySem.W.SharedT) : He.AlD × Bool := DL.obsE 4 fa fn ex (HandSHeadRun.getT s)
theorem ob_eq (s : PySem.W.SharedT) : ob s = hk.obs s.abs := DL.obsE_eq (HandSHeadRun.getT_eq s)
def loose : List PySem.Str := ["PartError", "BadText", "BadNumber", "SIGNS", "FIGURES", "LETTERS", "DIGITS", "NONE", "is_integer", "is_number", "digits_of", "word_of", "number_text", "read_number", "checked_text", "checked_number", "figures", "letters", "read_figures", "read_letters", "_law_tape", "_law_pick", "_law_word", "_law_number", "_law_bad", "_law_read", "_law_spoilt", "_law_long_word"]
set_option maxHeartbeats 0 in
theorem run (w : World) : HandSHeadRun.RunEq R (PySem.W.view R.prog [31]) hk ob 20000 loose w := by
  intro os
  kernel_rfl
theorem tx_of {K : DL.Frag} {h : Heap} {mg : Str → Option Value} (X : K.In h) (G : h.Ns mainGlobals mg) (c : DL.SaysE fa fn ex K) : Tx K mg :=
  ⟨He.free_ok X G (c.1.fact 0 (f := .free "abs") rfl),
    He.free_ok X G (c.1.fact 1 (f := .free "bool") rfl),
    He.free_ok X G (c.1.fact 2 (f := .free "int") rfl),
    He.free_ok X G (c.1.fact 3 (f := .free "isinstance") rfl),
    He.free_ok X G (c.1.fact 4 (f := .free "len") rfl),
    He.free_ok X G (c.1.fact 5 (f := .free "max") rfl),
    He.free_ok X G (c.1.fact 6 (f := .free "range") rfl),
    He.free_ok X G (c.1.fact 7 (f := .free "str") rfl),
    He.str_ok X G (c.1.fact 8 (f := .str "SIGNS" "abcdefghijklmnopqrstuvwxyz") rfl),
    He.str_ok X G (c.1.fact 9 (f := .str "FIGURES" "figures") rfl),
    He.str_ok X G (c.1.fact 10 (f := .str "LETTERS" "letters") rfl),
    He.str_ok X G (c.1.fact 11 (f := .str "DIGITS" "0123456789") rfl),
    He.str_ok X G (c.1.fact 12 (f := .str "NONE" "-") rfl),
    He.glo_ok X G (c.1.fact 13 (f := .glo "is_integer") rfl),
    c.1.def_ 1 (d := d_is_integer) rfl,
    He.glo_ok X G (c.1.fact 14 (f := .glo "is_number") rfl),
    c.1.def_ 2 (d := d_is_number) rfl,
    He.glo_ok X G (c.1.fact 15 (f := .glo "digits_of") rfl),
    c.1.def_ 3 (d := d_digits_of) rfl,
    He.glo_ok X G (c.1.fact 16 (f := .glo "word_of") rfl),
    c.1.def_ 4 (d := d_word_of) rfl,
    He.glo_ok X G (c.1.fact 17 (f := .glo "number_text") rfl),
    c.1.def_ 5 (d := d_number_text) rfl,
    He.glo_ok X G (c.1.fact 18 (f := .glo "read_number") rfl),
    c.1.def_ 6 (d := d_read_number) rfl,
    He.glo_ok X G (c.1.fact 19 (f := .glo "checked_text") rfl),
    c.1.def_ 7 (d := d_checked_text) rfl,
    He.glo_ok X G (c.1.fact 20 (f := .glo "checked_number") rfl),
    c.1.def_ 8 (d := d_checked_number) rfl,
    He.glo_ok X G (c.1.fact 21 (f := .glo "figures") rfl),
    c.1.def_ 9 (d := d_figures) rfl,
    He.glo_ok X G (c.1.fact 22 (f := .glo "letters") rfl),
    c.1.def_ 10 (d := d_letters) rfl,
    He.glo_ok X G (c.1.fact 23 (f := .glo "read_figures") rfl),
    c.1.def_ 11 (d := d_read_figures) rfl,
    He.glo_ok X G (c.1.fact 24 (f := .glo "read_letters") rfl),
    c.1.def_ 12 (d := d_read_letters) rfl,
    He.glo_ok X G (c.1.fact 25 (f := .glo "_law_tape") rfl),
    c.1.def_ 13 (d := d_law_tape) rfl,
    He.glo_ok X G (c.1.fact 26 (f := .glo "_law_pick") rfl),
    c.1.def_ 14 (d := d_law_pick) rfl,
    He.glo_ok X G (c.1.fact 27 (f := .glo "_law_word") rfl),
    c.1.def_ 15 (d := d_law_word) rfl,
    He.glo_ok X G (c.1.fact 28 (f := .glo "_law_number") rfl),
    c.1.def_ 16 (d := d_law_number) rfl,
    He.glo_ok X G (c.1.fact 29 (f := .glo "_law_bad") rfl),
    c.1.def_ 17 (d := d_law_bad) rfl,
    He.glo_ok X G (c.1.fact 30 (f := .glo "_law_read") rfl),
    c.1.def_ 18 (d := d_law_read) rfl,
    He.glo_ok X G (c.1.fact 31 (f := .glo "_law_spoilt") rfl),
    c.1.def_ 19 (d := d_law_spoilt) rfl,
    He.glo_ok X G (c.1.fact 32 (f := .glo "_law_long_word") rfl),
    c.1.def_ 20 (d := d_law_long_word) rfl,
    He.glo_ok X G (c.1.fact 33 (f := .glo "law") rfl),
    c.1.def_ 21 (d := d_law) rfl,
    He.glo_ok X G (c.1.fact 34 (f := .glo "PartError") rfl),
    He.glo_ok X G (c.1.fact 35 (f := .glo "BadText") rfl),
    xcB_ok (c.ex 0 rfl),
    c.ex 1 rfl,
    He.glo_ok X G (c.1.fact 36 (f := .glo "BadNumber") rfl),
    xcB_ok (c.ex 2 rfl),
    He.eqO_ok (c.ex 3 rfl),
    of_decide_eq_true (c.ex 4 rfl),
    c.1.def_ 0 (d := d_BadNumberu_initu) rfl,
    He.eqO_ok (c.ex 5 rfl),
    of_decide_eq_true (c.ex 6 rfl),
    of_decide_eq_true (c.ex 7 rfl),
    of_decide_eq_true (c.ex 8 rfl),
    of_decide_eq_true (c.ex 9 rfl),
    of_decide_eq_true (c.ex 10 rfl),
    of_decide_eq_true (c.ex 11 rfl)⟩
theorem facts {P : Program} {w : World} {K : DL.Frag} {h : Heap} {mg : Str → Option Value} {f : Addr} (X : K.In h) (G : h.Ns mainGlobals mg) (hfa : mg ("law" : Str) = some (.ref f)) (c : DL.SaysE fa fn ex K) :
    ∃ fd : FuncData, (∀ (s : Shared) (v : Value), BindsTo s fd ⟨[v], []⟩ [("_law_script", v)]) ∧ ∀ base : Heap, K.In base → base.Ns mainGlobals mg → FnOk P w K mg base (L2.CX P w) 6 f fd ["_law_script"] (DL.DSp K sp_law) := by
  have T := tx_of X G c
  obtain ⟨fd, F⟩ := T.F_law
  have e := hfa.symm.trans T.g_law
  cases e
  have b := FunD.bindsA (ps := ["_law_script"]) F fun _ _ _ _ _ _ us hl => match us, hl with | [_], _ => rfl
  exact ⟨fd, fun s v => b s [v] rfl, fun base _ _ => ok_law T F⟩
end T
open PySem PySem.W PySem.Calls PyProof.Rows
set_option maxHeartbeats 0 in
theorem PySem.Challenge.cw_partlabels_k12_formats_holds : PySem.Challenge.rw_partlabels_k12_formats.Holds := by
  w_on; o_law
  refine HandSHeadRun.head_any (r := OpenLaw.row PySem.Challenge.rw_partlabels_k12_formats) (q := view (OpenLaw.row PySem.Challenge.rw_partlabels_k12_formats).prog [31]) (H := T.hk) (ob := T.ob) (M := 20000) (loose := T.loose) (d := HandSHeadRun.topDef (OpenLaw.row PySem.Challenge.rw_partlabels_k12_formats).prog 31) (kwd := []) T.ob_eq
    (by kernel_rfl) (fun s => by kernel_rfl) T.run (by kernel_rfl) (by kernel_rfl) (by kernel_rfl) (by rfl) (by first | assumption | decide +kernel) (by decide +kernel) ⟨rfl, rfl, rfl, rfl, rfl, by decide +kernel⟩ ?hw ?hc
  case hw => w_witness2
  case hc =>
    refine DL.walk_W (l := PySem.Challenge.rw_partlabels_k12_formats) (n := 63) (k := 6) (x := "_law_script") rfl (by decide) (by kernel_rfl) ⟨rfl, by decide, by decide⟩ ?F
    intro w mg fa h Y G hmg0
    obtain ⟨K, KX, c⟩ := Y
    have hmg : mg ("law" : PySem.Str) = some (.ref fa) := by
      have e : (HandSHeadRun.topDef (OpenLaw.row PySem.Challenge.rw_partlabels_k12_formats).prog 31).name = ("law" : PySem.Str) := by kernel_rfl
      rw [← e]
      exact hmg0
    obtain ⟨fd, hb, hF⟩ := T.facts (P := (PySem.Challenge.rw_partlabels_k12_formats).prog) (w := w) KX G hmg c
    exact ⟨K, fd, T.spL K, KX, hb, fun H a ns hl _ hS => T.spL_of hl hS, hF⟩
#print axioms PySem.Challenge.cw_partlabels_k12_formats_holds
