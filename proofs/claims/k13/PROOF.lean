import PyProof.Rows.All
import Wide.All
import OpenK.AllK
import Wide.FinOn
import HandS.ForMost
import HandS.ForExc
import HandS.Wide
import HandS.Style
import HandS.TupLe
import HandS.TupAny
import HandS.IsInst
import HandS.StrMore
import HandS.Evl
import HandS.Defaults
import HandS.CallSlots
import HandS.Steps
import HandS.Head0
import HandS.Head1
import HandS.Head2
import HandS.HeadEnd
import HandS.HeadHook1
import HandS.HeadHook2
import KE.KStateDown
import PySem.Challenge.RW_partlabels_k13_names
set_option Elab.async false
set_option linter.all false
set_option maxRecDepth 100000
set_option autoImplicit false
set_option maxHeartbeats 4000000
/-! The layer of data: values as trees of data, statements as steps from data to data. -/
namespace DL
open PySem L2 Evl
abbrev Frag := PySem.W.Frag
inductive Dt where
  | non | bl (b : Bool) | int (i : Int) | str (x : Str) | ty (n : String) | ref (a : Addr)
  | lst (ds : List Dt) | tup (ds : List Dt) | dic (ks : List Key) (ds : List Dt) | ins (C : Addr) (fs : List Str) (ds : List Dt)
  | own (i : Nat)
mutual
def Rep (K : Frag) (F : Hp) : Dt → V → Prop
  | .non, v => v = .non
  | .bl b, v => v = .bl b
  | .int i, v => v = .int i
  | .str x, v => v = .str x
  | .ty n, v => v = .ty n
  | .ref a, v => v = .ref a
  | .lst ds, v => ∃ a xs, v = .ref a ∧ SqL K F a xs ∧ RepL K F ds xs
  | .tup ds, v => ∃ a xs, v = .ref a ∧ SqT K F a xs ∧ RepL K F ds xs
  | .dic ks ds, v => ∃ a xs, v = .ref a ∧ Rd F a (.dK (ks.zip xs)) ∧ ks.length = ds.length ∧ RepL K F ds xs
  | .ins C fs ds, v => ∃ a dx xs, v = .ref a ∧ F a = some (.ins C dx (fs.zip xs)) ∧ fs.length = ds.length ∧ RepL K F ds xs
  | .own _, _ => False
def RepL (K : Frag) (F : Hp) : List Dt → List V → Prop
  | [], vs => vs = []
  | d :: ds, vs => ∃ v r, vs = v :: r ∧ Rep K F d v ∧ RepL K F ds r
end
mutual
theorem Rep.mono {K : Frag} {F F' : Hp} (e : Ex F F') : ∀ {d : Dt} {v : V}, Rep K F d v → Rep K F' d v
  | .non, _, h => h
  | .bl _, _, h => h
  | .int _, _, h => h
  | .str _, _, h => h
  | .ty _, _, h => h
  | .ref _, _, h => h
  | .lst ds, _, h => by
    unfold Rep at h ⊢
    obtain ⟨a, xs, h1, h2, h3⟩ := h
    exact ⟨a, xs, h1, ex_l e h2, RepL.mono e h3⟩
  | .tup ds, _, h => by
    unfold Rep at h ⊢
    obtain ⟨a, xs, h1, h2, h3⟩ := h
    exact ⟨a, xs, h1, ex_t e h2, RepL.mono e h3⟩
  | .dic ks ds, _, h => by
    unfold Rep at h ⊢
    obtain ⟨a, xs, h1, h2, h3, h4⟩ := h
    exact ⟨a, xs, h1, ex_rd e h2, h3, RepL.mono e h4⟩
  | .ins C fs ds, _, h => by
    unfold Rep at h ⊢
    obtain ⟨a, dx, xs, h1, h2, h3, h4⟩ := h
    exact ⟨a, dx, xs, h1, e _ _ h2, h3, RepL.mono e h4⟩
  | .own _, _, h => by
    unfold Rep at h
    exact h.elim
theorem RepL.mono {K : Frag} {F F' : Hp} (e : Ex F F') : ∀ {ds : List Dt} {vs : List V}, RepL K F ds vs → RepL K F' ds vs
  | [], _, h => by
    unfold RepL at h ⊢
    exact h
  | d :: ds, _, h => by
    unfold RepL at h ⊢
    obtain ⟨v, r, h1, h2, h3⟩ := h
    exact ⟨v, r, h1, Rep.mono e h2, RepL.mono e h3⟩
end
theorem RepL.length {K : Frag} {F : Hp} : ∀ {ds : List Dt} {vs : List V}, RepL K F ds vs → vs.length = ds.length
  | [], _, h => by
    unfold RepL at h
    rw [h] <;> rfl
  | d :: ds, _, h => by
    unfold RepL at h
    obtain ⟨v, r, h1, h2, h3⟩ := h
    rw [h1, List.length_cons, List.length_cons, RepL.length h3]
theorem RepL.get {K : Frag} {F : Hp} : ∀ {ds : List Dt} {vs : List V} {i : Nat} {d : Dt}, RepL K F ds vs → ds[i]? = some d → ∃ v, vs[i]? = some v ∧ Rep K F d v
  | [], _, i, d, h, e => by simp at e
  | c :: ds, _, 0, d, h, e => by
    unfold RepL at h
    obtain ⟨v, r, h1, h2, h3⟩ := h
    simp at e
    subst e h1
    exact ⟨v, rfl, h2⟩
  | c :: ds, _, i + 1, d, h, e => by
    unfold RepL at h
    obtain ⟨v, r, h1, h2, h3⟩ := h
    subst h1
    obtain ⟨u, e1, e2⟩ := RepL.get (i := i) (d := d) h3 (by simpa using e)
    exact ⟨u, by simpa using e1, e2⟩
theorem RepL.app {K : Frag} {F : Hp} : ∀ {ds es : List Dt} {vs us : List V}, RepL K F ds vs → RepL K F es us → RepL K F (ds ++ es) (vs ++ us)
  | [], es, vs, us, h, g => by
    unfold RepL at h
    subst h
    exact g
  | d :: ds, es, vs, us, h, g => by
    unfold RepL at h
    obtain ⟨v, r, h1, h2, h3⟩ := h
    subst h1
    show RepL K F (d :: (ds ++ es)) (v :: (r ++ us))
    unfold RepL
    exact ⟨v, r ++ us, rfl, h2, RepL.app h3 g⟩
theorem repL_nil {K : Frag} {F : Hp} : RepL K F [] [] := by
  unfold RepL
  rfl
theorem repL_cons {K : Frag} {F : Hp} {d : Dt} {ds : List Dt} {v : V} {vs : List V} (h : Rep K F d v) (g : RepL K F ds vs) : RepL K F (d :: ds) (v :: vs) := by
  unfold RepL
  exact ⟨v, vs, rfl, h, g⟩
/-! ### slots -/
inductive Sl where
  | no | sh (d : Dt) | ow (l : Bool) (d : Dt)
abbrev En := List Sl
/-- what an owned object is -/
def Own (K : Frag) (F H : Hp) (p : Addr) : Dt → Prop
  | .lst ds => ∃ xs, H p = some (.lst xs) ∧ RepL K F ds xs
  | .dic ks ds => ∃ xs, H p = some (.dK (ks.zip xs)) ∧ ks.length = ds.length ∧ RepL K F ds xs
  | .ins C fs ds => ∃ dx xs, H p = some (.ins C dx (fs.zip xs)) ∧ fs.length = ds.length ∧ RepL K F ds xs
  | _ => False
theorem Own.mono {K : Frag} {F F' H H' : Hp} {p : Addr} (e : Ex F F') (h : H' p = H p) : ∀ {d : Dt}, Own K F H p d → Own K F' H' p d
  | .lst ds, ⟨xs, a, b⟩ => ⟨xs, h.trans a, b.mono e⟩
  | .dic ks ds, ⟨xs, a, b, c⟩ => ⟨xs, h.trans a, b, c.mono e⟩
  | .ins C fs ds, ⟨dx, xs, a, b, c⟩ => ⟨dx, xs, h.trans a, b, c.mono e⟩
theorem Own.there {K : Frag} {F H : Hp} {p : Addr} : ∀ {d : Dt}, Own K F H p d → H p ≠ none
  | .lst ds, ⟨xs, a, b⟩ => by rw [a]; exact fun z => nomatch z
  | .dic ks ds, ⟨xs, a, b, c⟩ => by rw [a]; exact fun z => nomatch z
  | .ins C fs ds, ⟨dx, xs, a, b, c⟩ => by rw [a]; exact fun z => nomatch z
def OwA (σ : L2.St) (ρ : En) (a : Addr) : Prop := ∃ (i : Nat) (l : Bool) (d : Dt), ρ[i]? = some (.ow l d) ∧ σ[i]? = some (some (.ref a))
structure Sym (K : Frag) (F H : Hp) (σ : L2.St) (ρ : En) : Prop where
  ex : Ex F H
  len : σ.length = ρ.length
  sh : ∀ (i : Nat) (d : Dt), ρ[i]? = some (.sh d) → ∃ v, σ[i]? = some (some v) ∧ Rep K F d v
  ow : ∀ (i : Nat) (l : Bool) (d : Dt), ρ[i]? = some (.ow l d) → ∃ p, σ[i]? = some (some (.ref p)) ∧ F p = none ∧ Own K F H p d
  inj : ∀ (i j : Nat) (l m : Bool) (d e : Dt) (p : Addr), ρ[i]? = some (.ow l d) → ρ[j]? = some (.ow m e) → σ[i]? = some (some (.ref p)) → σ[j]? = some (some (.ref p)) → i = j
/-- from one state to a later one -/
structure Step (K : Frag) (σ : L2.St) (ρ : En) (F H : Hp) (σ' : L2.St) (ρ' : En) (F' H' : Hp) : Prop where
  sym : Sym K F' H' σ' ρ'
  exF : Ex F F'
  keep : ∀ a o, H a = some o → ¬ OwA σ ρ a → H' a = some o
  own : ∀ a, OwA σ' ρ' a → OwA σ ρ a ∨ H a = none
  new : ∀ a, F' a ≠ none → F a ≠ none ∨ H a = none ∨ OwA σ ρ a
  all : ∀ a, H a ≠ none → H' a ≠ none
  stay : ∀ (i : Nat) (d : Dt), ρ[i]? = some (.ow true d) → ∃ d', ρ'[i]? = some (.ow true d') ∧ σ'[i]? = σ[i]?
section
variable {K : Frag} {σ σ1 σ2 : L2.St} {ρ ρ1 ρ2 : En} {F F1 F2 H H1 H2 : Hp}
theorem Step.refl (s : Sym K F H σ ρ) : Step K σ ρ F H σ ρ F H := ⟨s, Ex.refl F, fun _ _ h _ => h, fun _ h => .inl h, fun _ h => .inl h, fun _ h => h, fun _ d h => ⟨d, h, rfl⟩⟩
theorem Step.trans (a : Step K σ ρ F H σ1 ρ1 F1 H1) (b : Step K σ1 ρ1 F1 H1 σ2 ρ2 F2 H2) : Step K σ ρ F H σ2 ρ2 F2 H2 where
  sym := b.sym
  exF := a.exF.trans b.exF
  keep := fun x o h n => b.keep x o (a.keep x o h n) fun z => by
    rcases a.own x z with y | y
    · exact n y
    · rw [h] at y
      cases y
  own := fun x z => by
    rcases b.own x z with y | y
    · exact a.own x y
    · refine .inr ?_
      cases h : H x with
      | none => rfl
      | some o => exact absurd y (a.all x (by rw [h]; exact fun z => nomatch z))
  new := fun x z => by
    rcases b.new x z with y | y | y
    · exact a.new x y
    · refine .inr (.inl ?_)
      cases h : H x with
      | none => rfl
      | some o => exact absurd y (a.all x (by rw [h]; exact fun z => nomatch z))
    · rcases a.own x y with w | w
      · exact .inr (.inr w)
      · exact .inr (.inl w)
  all := fun x z => b.all x (a.all x z)
  stay := fun i d h => by
    obtain ⟨d1, h1, e1⟩ := a.stay i d h
    obtain ⟨d2, h2, e2⟩ := b.stay i d1 h1
    exact ⟨d2, h2, e2.trans e1⟩
/-- nothing but new objects; all of these are frozen -/
def Fz (F H H' : Hp) : Hp := fun a => match H a with
  | none => H' a
  | some _ => F a
theorem fz_old {a : Addr} {o : HO} (h : H a = some o) : Fz F H H1 a = F a := by unfold Fz; rw [h]
theorem fz_new {a : Addr} (h : H a = none) : Fz F H H1 a = H1 a := by unfold Fz; rw [h]
theorem fz_ex (h : Ex F H) : Ex F (Fz F H H1) := fun a o e => by rw [fz_old (h a o e)]; exact e
theorem fz_in (h : Ex F H) (g : Ex H H1) : Ex (Fz F H H1) H1 := fun a o e => by
  cases q : H a with
  | none =>
    rw [fz_new q] at e
    exact e
  | some u =>
    rw [fz_old q] at e
    exact g a o (h a o e)
theorem Sym.grow (s : Sym K F H σ ρ) (g : Ex H H1) : Sym K (Fz F H H1) H1 σ ρ where
  ex := fz_in s.ex g
  len := s.len
  sh := fun i d h => by
    obtain ⟨v, a, b⟩ := s.sh i d h
    exact ⟨v, a, b.mono (fz_ex s.ex)⟩
  ow := fun i l d h => by
    obtain ⟨p, a, b, c⟩ := s.ow i l d h
    cases q : H p with
    | none => exact absurd q c.there
    | some o => exact ⟨p, a, by rw [fz_old q]; exact b, c.mono (fz_ex s.ex) (by rw [q]; exact g p o q)⟩
  inj := s.inj
theorem Step.grow (s : Sym K F H σ ρ) (g : Ex H H1) : Step K σ ρ F H σ ρ (Fz F H H1) H1 where
  sym := s.grow g
  exF := fz_ex s.ex
  keep := fun a o h _ => g a o h
  own := fun a h => .inl h
  new := fun a h => by
    cases q : H a with
    | none => exact .inr (.inl rfl)
    | some o =>
      rw [fz_old q] at h
      exact .inl h
  all := fun a h => by
    cases q : H a with
    | none => exact absurd q h
    | some o => rw [g a o q]; exact fun z => nomatch z
  stay := fun _ d h => ⟨d, h, rfl⟩
/-- the object that the slot i owns is changed -/
theorem Sym.write {i : Nat} {l : Bool} {d d' : Dt} {p : Addr} {o : HO} (s : Sym K F H σ ρ) (hi : ρ[i]? = some (.ow l d)) (hp : σ[i]? = some (some (.ref p))) (new : Own K F (upd H p o) p d') : Sym K F (upd H p o) σ (ρ.set i (.ow l d')) := by
  obtain ⟨p', a, b, c⟩ := s.ow i l d hi
  have ep : p' = p := by
    rw [a] at hp
    have z := Option.some.inj (Option.some.inj hp)
    injection z
  subst ep
  have hil : i < ρ.length := (List.getElem?_eq_some_iff.mp hi).1
  exact {
    ex := Ex.mut s.ex b
    len := by rw [List.length_set]; exact s.len
    sh := fun j e h => by
      by_cases hj : i = j
      · subst hj
        rw [List.getElem?_set_self hil] at h
        cases h
      · rw [List.getElem?_set_ne hj] at h
        exact s.sh j e h
    ow := fun j m e h => by
      by_cases hj : i = j
      · subst hj
        rw [List.getElem?_set_self hil] at h
        cases h
        exact ⟨p', a, b, new⟩
      · rw [List.getElem?_set_ne hj] at h
        obtain ⟨q, a', b', c'⟩ := s.ow j m e h
        have ne : q ≠ p' := fun z => by
          subst z
          exact hj (s.inj i j l m d e q hi h a a')
        exact ⟨q, a', b', c'.mono (Ex.refl F) (upd_ne ne)⟩
    inj := fun j k m n e f q h1 h2 h3 h4 => by
      have t : ∀ {j : Nat} {m : Bool} {e : Dt}, (ρ.set i (.ow l d'))[j]? = some (.ow m e) → ∃ m e, ρ[j]? = some (.ow m e) := fun {j m e} h => by
        by_cases hj : i = j
        · subst hj
          exact ⟨l, d, hi⟩
        · rw [List.getElem?_set_ne hj] at h
          exact ⟨m, e, h⟩
      obtain ⟨m', e', h1'⟩ := t h1
      obtain ⟨n', f', h2'⟩ := t h2
      exact s.inj j k m' n' e' f' q h1' h2' h3 h4 }
theorem OwA.of_write {i : Nat} {l : Bool} {d d' : Dt} {a : Addr} (hi : ρ[i]? = some (.ow l d)) (h : OwA σ (ρ.set i (.ow l d')) a) : OwA σ ρ a := by
  obtain ⟨j, m, e, h1, h2⟩ := h
  by_cases hj : i = j
  · subst hj
    exact ⟨i, l, d, hi, h2⟩
  · rw [List.getElem?_set_ne hj] at h1
    exact ⟨j, m, e, h1, h2⟩
theorem Step.write {i : Nat} {l : Bool} {d d' : Dt} {p : Addr} {o : HO} (s : Sym K F H σ ρ) (hi : ρ[i]? = some (.ow l d)) (hp : σ[i]? = some (some (.ref p))) (new : Own K F (upd H p o) p d') : Step K σ ρ F H σ (ρ.set i (.ow l d')) F (upd H p o) where
  sym := s.write hi hp new
  exF := Ex.refl F
  keep := fun a u h n => by
    have ne : a ≠ p := fun z => by
      subst z
      exact n ⟨i, l, d, hi, hp⟩
    rw [upd_ne ne]
    exact h
  own := fun a h => .inl (h.of_write hi)
  new := fun a h => .inl h
  all := fun a h => by
    by_cases e : a = p
    · subst e
      rw [upd_same]
      exact fun z => nomatch z
    · rw [upd_ne e]
      exact h
  stay := fun j e h => by
    by_cases hj : i = j
    · subst hj
      rw [hi] at h
      cases h
      exact ⟨d', List.getElem?_set_self (List.getElem?_eq_some_iff.mp hi).1, rfl⟩
    · exact ⟨e, by rw [List.getElem?_set_ne hj]; exact h, rfl⟩
/-- a slot comes to own a new object -/
theorem Sym.take {i : Nat} {d : Dt} {p : Addr} (s : Sym K F H σ ρ) (hn : F p = none) (nw : ∀ (j : Nat) (l : Bool) (e : Dt), ρ[j]? = some (.ow l e) → σ[j]? ≠ some (some (.ref p))) (new : Own K F H p d) : Sym K F H (σ.set i (some (.ref p))) (ρ.set i (.ow false d)) := by
  have bound : ∀ {z : Sl}, (ρ.set i (.ow false d))[i]? = some z → i < ρ.length := fun {z} h => by
    have := (List.getElem?_eq_some_iff.mp h).1
    rw [List.length_set] at this
    exact this
  exact {
    ex := s.ex
    len := by rw [List.length_set, List.length_set]; exact s.len
    sh := fun j e h => by
      by_cases hj : i = j
      · subst hj
        rw [List.getElem?_set_self (bound h)] at h
        cases h
      · rw [List.getElem?_set_ne hj] at h
        obtain ⟨v, a, b⟩ := s.sh j e h
        exact ⟨v, by rw [List.getElem?_set_ne hj]; exact a, b⟩
    ow := fun j m e h => by
      by_cases hj : i = j
      · subst hj
        have hb := bound h
        rw [List.getElem?_set_self hb] at h
        cases h
        exact ⟨p, List.getElem?_set_self (by rw [s.len]; exact hb), hn, new⟩
      · rw [List.getElem?_set_ne hj] at h
        obtain ⟨q, a, b⟩ := s.ow j m e h
        exact ⟨q, by rw [List.getElem?_set_ne hj]; exact a, b⟩
    inj := fun j k m n e f q h1 h2 h3 h4 => by
      by_cases hj : i = j
      · by_cases hk : i = k
        · rw [← hj, ← hk]
        · subst hj
          have hb := bound h1
          rw [List.getElem?_set_self (by rw [s.len]; exact hb)] at h3
          have z := Option.some.inj (Option.some.inj h3)
          injection z with z
          subst z
          rw [List.getElem?_set_ne hk] at h2 h4
          exact absurd h4 (nw k n f h2)
      · by_cases hk : i = k
        · subst hk
          have hb := bound h2
          rw [List.getElem?_set_self (by rw [s.len]; exact hb)] at h4
          have z := Option.some.inj (Option.some.inj h4)
          injection z with z
          subst z
          rw [List.getElem?_set_ne hj] at h1 h3
          exact absurd h3 (nw j m e h1)
        · rw [List.getElem?_set_ne hj] at h1 h3
          rw [List.getElem?_set_ne hk] at h2 h4
          exact s.inj j k m n e f q h1 h2 h3 h4 }
end
def lent (ρ : En) (i : Nat) : Bool := match ρ[i]? with
  | some (.ow true _) => true
  | _ => false
theorem lent_no {ρ : En} {i : Nat} {d : Dt} (h : lent ρ i = false) : ρ[i]? ≠ some (.ow true d) := fun e => by
  unfold lent at h
  rw [e] at h
  cases h
end DL
set_option Elab.async false
set_option linter.all false
set_option maxRecDepth 100000
set_option autoImplicit false
set_option maxHeartbeats 4000000
namespace DL
open PySem L2 Evl
/-- a value in hand: data, or what a slot owns -/
def RepV (K : Frag) (F : Hp) (σ : L2.St) (d : Dt) (v : V) : Prop := match d with
  | .own i => σ[i]? = some (some v)
  | d => Rep K F d v
theorem RepV.mono {K : Frag} {F F' : Hp} {σ : L2.St} (e : Ex F F') {d : Dt} {v : V} (h : RepV K F σ d v) : RepV K F' σ d v := by
  cases d with
  | own i => exact h
  | _ => exact Rep.mono e h
/-- an exception: its class, its fields -/
structure Xc where
  C : Addr
  fs : List Str
  ds : List Dt
def XOk (K : Frag) (F : Hp) (x : Xc) (cls : Value) (dd : Option Addr) : Prop := cls = .ref x.C ∧ ((x.fs = [] ∧ dd = none) ∨ ∃ a xs, dd = some a ∧ F a = some (.xd (x.fs.zip xs)) ∧ x.fs.length = x.ds.length ∧ RepL K F x.ds xs)
abbrev PX := Xc → En → Prop
def px0 : PX := fun _ _ => False
/-- an expression: from data to data -/
def EvD (K : Frag) (W : WX) (te : TE) (ρ : En) (x : PX) (P : Dt → En → Prop) : Prop :=
  ∀ (σ : L2.St) (F H : Hp) (Q : VK), Sym K F H σ ρ → (∀ d ρ' v F' H', P d ρ' → Step K σ ρ F H σ ρ' F' H' → RepV K F' σ d v → Q v H') →
    (∀ c ρ' cls dd F' H', x c ρ' → Step K σ ρ F H σ ρ' F' H' → XOk K F' c cls dd → W cls dd σ H') → te σ H Q
/-- a test -/
def TtD (K : Frag) (W : WX) (tt : TT) (ρ : En) (x : PX) (P : Bool → En → Prop) : Prop :=
  ∀ (σ : L2.St) (F H : Hp) (Q : Bool → Hp → Prop), Sym K F H σ ρ → (∀ b ρ' F' H', P b ρ' → Step K σ ρ F H σ ρ' F' H' → Q b H') →
    (∀ c ρ' cls dd F' H', x c ρ' → Step K σ ρ F H σ ρ' F' H' → XOk K F' c cls dd → W cls dd σ H') → tt σ H Q
/-- arguments -/
def RepVL (K : Frag) (F : Hp) (σ : L2.St) : List Dt → List V → Prop
  | [], vs => vs = []
  | d :: ds, vs => ∃ v r, vs = v :: r ∧ RepV K F σ d v ∧ RepVL K F σ ds r
theorem RepVL.mono {K : Frag} {F F' : Hp} {σ : L2.St} (e : Ex F F') : ∀ {ds : List Dt} {vs : List V}, RepVL K F σ ds vs → RepVL K F' σ ds vs
  | [], _, h => h
  | d :: ds, _, ⟨v, r, h1, h2, h3⟩ => ⟨v, r, h1, h2.mono e, RepVL.mono e h3⟩
def ArD (K : Frag) (W : WX) (ta : TA) (ρ : En) (x : PX) (P : List Dt → En → Prop) : Prop :=
  ∀ (σ : L2.St) (F H : Hp) (Q : List V → Hp → Prop), Sym K F H σ ρ → (∀ ds ρ' vs F' H', P ds ρ' → Step K σ ρ F H σ ρ' F' H' → RepVL K F' σ ds vs → Q vs H') →
    (∀ c ρ' cls dd F' H', x c ρ' → Step K σ ρ F H σ ρ' F' H' → XOk K F' c cls dd → W cls dd σ H') → ta σ H Q
/-- an operation on two values, on one, on several -/
def OpD (K : Frag) (r : R2) (d e : Dt) (ρ : En) (P : Dt → En → Prop) : Prop :=
  ∀ (σ : L2.St) (F H : Hp) (Q : VK) (u v : V), Sym K F H σ ρ → RepV K F σ d u → RepV K F σ e v → (∀ d' ρ' v' F' H', P d' ρ' → Step K σ ρ F H σ ρ' F' H' → RepV K F' σ d' v' → Q v' H') → r u v H Q
def UnD (K : Frag) (r : V → Hp → VK → Prop) (d : Dt) (ρ : En) (P : Dt → En → Prop) : Prop :=
  ∀ (σ : L2.St) (F H : Hp) (Q : VK) (u : V), Sym K F H σ ρ → RepV K F σ d u → (∀ d' ρ' v' F' H', P d' ρ' → Step K σ ρ F H σ ρ' F' H' → RepV K F' σ d' v' → Q v' H') → r u H Q
def CaD (K : Frag) (r : List V → Hp → VK → Prop) (ds : List Dt) (ρ : En) (P : Dt → En → Prop) : Prop :=
  ∀ (σ : L2.St) (F H : Hp) (Q : VK) (us : List V), Sym K F H σ ρ → RepVL K F σ ds us → (∀ d' ρ' v' F' H', P d' ρ' → Step K σ ρ F H σ ρ' F' H' → RepV K F' σ d' v' → Q v' H') → r us H Q
structure Pd where
  nx : En → Prop
  rt : Dt → En → Prop
  rn : Dt → En → Prop := fun _ _ => False
  bk : En → Prop := fun _ => False
  ct : En → Prop := fun _ => False
  ex : PX := px0
/-- what follows a statement, for data -/
structure Lk (K : Frag) (W : WX) (D : Ends) (P : Pd) (σ : L2.St) (ρ : En) (F H : Hp) : Prop where
  nx : ∀ ρ' σ' F' H', P.nx ρ' → Step K σ ρ F H σ' ρ' F' H' → D.nx σ' H'
  rt : ∀ d ρ' v σ' F' H', P.rt d ρ' → Step K σ ρ F H σ' ρ' F' H' → Rep K F' d v → D.rt v H'
  rn : ∀ d ρ' p σ' F' H', P.rn d ρ' → Step K σ ρ F H σ' ρ' F' H' → F' p = none → Own K F' H' p d → (OwA σ' ρ' p ∨ H p = none) → D.rt (.ref p) H'
  bk : ∀ ρ' σ' F' H', P.bk ρ' → Step K σ ρ F H σ' ρ' F' H' → D.bk σ' H'
  ct : ∀ ρ' σ' F' H', P.ct ρ' → Step K σ ρ F H σ' ρ' F' H' → D.ct σ' H'
  ex : ∀ c ρ' cls dd σ' F' H', P.ex c ρ' → Step K σ ρ F H σ' ρ' F' H' → XOk K F' c cls dd → W cls dd σ' H'
/-- a statement, a block -/
def StD (K : Frag) (W : WX) (ts : TS) (ρ : En) (P : Pd) : Prop := ∀ (σ : L2.St) (F H : Hp) (D : Ends), Sym K F H σ ρ → Lk K W D P σ ρ F H → ts D σ H
section
variable {K : Frag} {W : WX} {σ σ1 : L2.St} {ρ ρ1 : En} {F F1 H H1 : Hp} {x : PX} {D : Ends} {P : Pd}
theorem Lk.later (l : Lk K W D P σ ρ F H) (s : Step K σ ρ F H σ1 ρ1 F1 H1) : Lk K W D P σ1 ρ1 F1 H1 :=
  ⟨fun _ _ _ _ p t => l.nx _ _ _ _ p (s.trans t), fun _ _ _ _ _ _ p t => l.rt _ _ _ _ _ _ p (s.trans t), fun _ _ q _ _ _ p t f o w => l.rn _ _ _ _ _ _ p (s.trans t) f o (by
    rcases w with w | w
    · exact .inl w
    · refine .inr ?_
      cases e : H q with
      | none => rfl
      | some u => exact absurd w (s.all q (by rw [e]; exact fun z => nomatch z))), fun _ _ _ _ p t => l.bk _ _ _ _ p (s.trans t), fun _ _ _ _ p t => l.ct _ _ _ _ p (s.trans t), fun _ _ _ _ _ _ _ p t => l.ex _ _ _ _ _ _ _ p (s.trans t)⟩
/-! ### expressions -/
theorem e_var {i : Nat} {d : Dt} {P : Dt → En → Prop} (h : ρ[i]? = some (.sh d)) (p : P d ρ) : EvD K W (tVar i) ρ x P := fun σ F H Q s q _ => by
  obtain ⟨v, e1, e2⟩ := s.sh i d h
  refine ⟨v, e1, q d ρ v F H p (Step.refl s) ?_⟩
  cases d with
  | own j =>
    unfold Rep at e2
    exact e2.elim
  | _ => exact e2
theorem e_own {i : Nat} {l : Bool} {d : Dt} {P : Dt → En → Prop} (h : ρ[i]? = some (.ow l d)) (p : P (.own i) ρ) : EvD K W (tVar i) ρ x P := fun σ F H Q s q _ => by
  obtain ⟨a, e1, _⟩ := s.ow i l d h
  exact ⟨_, e1, q (.own i) ρ _ F H p (Step.refl s) e1⟩
theorem e_int {i : Int} {P : Dt → En → Prop} (p : P (.int i) ρ) : EvD K W (tC (.int i)) ρ x P := fun σ F H Q s q _ => q _ _ _ F H p (Step.refl s) rfl
theorem e_str {z : Str} {P : Dt → En → Prop} (p : P (.str z) ρ) : EvD K W (tC (.str z)) ρ x P := fun σ F H Q s q _ => q _ _ _ F H p (Step.refl s) rfl
theorem e_bl {z : Bool} {P : Dt → En → Prop} (p : P (.bl z) ρ) : EvD K W (tC (.bl z)) ρ x P := fun σ F H Q s q _ => q _ _ _ F H p (Step.refl s) rfl
theorem e_non {P : Dt → En → Prop} (p : P .non ρ) : EvD K W (tC .non) ρ x P := fun σ F H Q s q _ => q _ _ _ F H p (Step.refl s) rfl
theorem e_ty {z : String} {P : Dt → En → Prop} (p : P (.ty z) ρ) : EvD K W (tC (.ty z)) ρ x P := fun σ F H Q s q _ => q _ _ _ F H p (Step.refl s) rfl
theorem e_ref {a : Addr} {P : Dt → En → Prop} (p : P (.ref a) ρ) : EvD K W (tC (.ref a)) ρ x P := fun σ F H Q s q _ => q _ _ _ F H p (Step.refl s) rfl
/-- a constant of the module that is data (written) -/
theorem e_wr {v : V} {d : Dt} {P : Dt → En → Prop} (h : ∀ F, Rep K F d v) (p : P d ρ) : EvD K W (tC v) ρ x P := fun σ F H Q s q _ => q d ρ v F H p (Step.refl s) (by
  have h1 := h F
  cases d with
  | own j =>
    unfold Rep at h1
    exact h1.elim
  | _ => exact h1)
theorem e_op {r : R2} {ta tb : TE} {P : Dt → En → Prop} (h : EvD K W ta ρ x fun d ρ1 => EvD K W tb ρ1 x fun e ρ2 => OpD K r d e ρ2 P) : EvD K W (tOp r ta tb) ρ x P := fun σ F H Q s q w =>
  h σ F H _ s (fun d ρ1 v F1 H1 p1 s1 r1 => p1 σ F1 H1 _ s1.sym (fun e ρ2 u F2 H2 p2 s2 r2 => p2 σ F2 H2 Q v u s2.sym (r1.mono s2.exF) r2 fun d' ρ3 v' F3 H3 p3 s3 r3 => q d' ρ3 v' F3 H3 p3 ((s1.trans s2).trans s3) r3)
    fun c ρ' cls dd F' H' px st xo => w c ρ' cls dd F' H' px (s1.trans st) xo) w
theorem e_un {r : V → Hp → VK → Prop} {ta : TE} {P : Dt → En → Prop} (h : EvD K W ta ρ x fun d ρ1 => UnD K r d ρ1 P) : EvD K W (tUn r ta) ρ x P := fun σ F H Q s q w =>
  h σ F H _ s (fun d ρ1 v F1 H1 p1 s1 r1 => p1 σ F1 H1 Q v s1.sym r1 fun d' ρ3 v' F3 H3 p3 s3 r3 => q d' ρ3 v' F3 H3 p3 (s1.trans s3) r3) w
theorem e_cb {r : List V → Hp → VK → Prop} {ta : TA} {P : Dt → En → Prop} (h : ArD K W ta ρ x fun ds ρ1 => CaD K r ds ρ1 P) : EvD K W (tCB r ta) ρ x P := fun σ F H Q s q w =>
  h σ F H _ s (fun ds ρ1 vs F1 H1 p1 s1 r1 => p1 σ F1 H1 Q vs s1.sym r1 fun d' ρ3 v' F3 H3 p3 s3 r3 => q d' ρ3 v' F3 H3 p3 (s1.trans s3) r3) w
theorem e_imp {te : TE} {P P' : Dt → En → Prop} (h : EvD K W te ρ x P) (g : ∀ d ρ', P d ρ' → P' d ρ') : EvD K W te ρ x P' := fun σ F H Q s q w => h σ F H Q s (fun d ρ' v F' H' p => q d ρ' v F' H' (g d ρ' p)) w
/-! ### arguments -/
theorem a_nil {P : List Dt → En → Prop} (p : P [] ρ) : ArD K W tNil ρ x P := fun σ F H Q s q _ => q [] ρ [] F H p (Step.refl s) rfl
theorem a_cons {te : TE} {ta : TA} {P : List Dt → En → Prop} (h : EvD K W te ρ x fun d ρ1 => ArD K W ta ρ1 x fun ds ρ2 => P (d :: ds) ρ2) : ArD K W (tCons te ta) ρ x P := fun σ F H Q s q w =>
  h σ F H _ s (fun d ρ1 v F1 H1 p1 s1 r1 => p1 σ F1 H1 _ s1.sym (fun ds ρ2 vs F2 H2 p2 s2 r2 => q (d :: ds) ρ2 (v :: vs) F2 H2 p2 (s1.trans s2) ⟨v, vs, rfl, r1.mono s2.exF, r2⟩)
    fun c ρ' cls dd F' H' px st xo => w c ρ' cls dd F' H' px (s1.trans st) xo) w
/-! ### tests -/
theorem t_test {te : TE} {P : Bool → En → Prop} (h : EvD K W te ρ x fun d ρ1 => ∃ b, d = .bl b ∧ P b ρ1) : TtD K W (tTest te) ρ x P := fun σ F H Q s q w =>
  h σ F H _ s (fun d ρ1 v F1 H1 p1 s1 r1 => by
    obtain ⟨b, rfl, p⟩ := p1
    have e : v = .bl b := r1
    exact ⟨b, e, q b ρ1 F1 H1 p s1⟩) w
theorem t_B {te : TE} {P : Bool → En → Prop} (h : EvD K W te ρ x fun d ρ1 => ∃ b, d = .bl b ∧ P b ρ1) : TtD K W (tB te) ρ x P := fun σ F H Q s q w =>
  h σ F H _ s (fun d ρ1 v F1 H1 p1 s1 r1 => by
    obtain ⟨b, rfl, p⟩ := p1
    have e : v = .bl b := r1
    exact ⟨b, e, q b ρ1 F1 H1 p s1⟩) w
theorem t_and {t u : TT} {P : Bool → En → Prop} (h : TtD K W t ρ x fun b ρ1 => (b = true → TtD K W u ρ1 x P) ∧ (b = false → P false ρ1)) : TtD K W (tAnd t u) ρ x P := fun σ F H Q s q w =>
  h σ F H _ s (fun b ρ1 F1 H1 p1 s1 => by
    cases b with
    | true => exact p1.1 rfl σ F1 H1 Q s1.sym (fun b ρ2 F2 H2 p2 s2 => q b ρ2 F2 H2 p2 (s1.trans s2)) fun c ρ' cls dd F' H' px st xo => w c ρ' cls dd F' H' px (s1.trans st) xo
    | false => exact q false ρ1 F1 H1 (p1.2 rfl) s1) w
theorem t_or {t u : TT} {P : Bool → En → Prop} (h : TtD K W t ρ x fun b ρ1 => (b = true → P true ρ1) ∧ (b = false → TtD K W u ρ1 x P)) : TtD K W (tOr t u) ρ x P := fun σ F H Q s q w =>
  h σ F H _ s (fun b ρ1 F1 H1 p1 s1 => by
    cases b with
    | true => exact q true ρ1 F1 H1 (p1.1 rfl) s1
    | false => exact p1.2 rfl σ F1 H1 Q s1.sym (fun b ρ2 F2 H2 p2 s2 => q b ρ2 F2 H2 p2 (s1.trans s2)) fun c ρ' cls dd F' H' px st xo => w c ρ' cls dd F' H' px (s1.trans st) xo) w
theorem t_not {t : TT} {P : Bool → En → Prop} (h : TtD K W t ρ x fun b ρ1 => P (!b) ρ1) : TtD K W (tNot t) ρ x P := fun σ F H Q s q w =>
  h σ F H _ s (fun b ρ1 F1 H1 p1 s1 => q (!b) ρ1 F1 H1 p1 s1) w
theorem e_if {t : TT} {ta tb : TE} {P : Dt → En → Prop} (h : TtD K W t ρ x fun b ρ1 => (b = true → EvD K W ta ρ1 x P) ∧ (b = false → EvD K W tb ρ1 x P)) : EvD K W (tIf t ta tb) ρ x P := fun σ F H Q s q w =>
  h σ F H _ s (fun b ρ1 F1 H1 p1 s1 => by
    cases b with
    | true => exact p1.1 rfl σ F1 H1 Q s1.sym (fun d ρ2 v F2 H2 p2 s2 => q d ρ2 v F2 H2 p2 (s1.trans s2)) fun c ρ' cls dd F' H' px st xo => w c ρ' cls dd F' H' px (s1.trans st) xo
    | false => exact p1.2 rfl σ F1 H1 Q s1.sym (fun d ρ2 v F2 H2 p2 s2 => q d ρ2 v F2 H2 p2 (s1.trans s2)) fun c ρ' cls dd F' H' px st xo => w c ρ' cls dd F' H' px (s1.trans st) xo) w
theorem e_andV {ta tb : TE} {P : Dt → En → Prop} (h : EvD K W ta ρ x fun d ρ1 => ∃ b, d = .bl b ∧ (b = true → EvD K W tb ρ1 x P) ∧ (b = false → P (.bl false) ρ1)) : EvD K W (tAndV ta tb) ρ x P := fun σ F H Q s q w =>
  h σ F H _ s (fun d ρ1 v F1 H1 p1 s1 r1 => by
    obtain ⟨b, rfl, p2, p3⟩ := p1
    have e : v = .bl b := r1
    refine ⟨b, e, ?_⟩
    cases b with
    | true => exact p2 rfl σ F1 H1 Q s1.sym (fun d ρ2 v F2 H2 p2 s2 => q d ρ2 v F2 H2 p2 (s1.trans s2)) fun c ρ' cls dd F' H' px st xo => w c ρ' cls dd F' H' px (s1.trans st) xo
    | false => exact q _ ρ1 _ F1 H1 (p3 rfl) s1 rfl) w
theorem e_orV {ta tb : TE} {P : Dt → En → Prop} (h : EvD K W ta ρ x fun d ρ1 => ∃ b, d = .bl b ∧ (b = true → P (.bl true) ρ1) ∧ (b = false → EvD K W tb ρ1 x P)) : EvD K W (tOrV ta tb) ρ x P := fun σ F H Q s q w =>
  h σ F H _ s (fun d ρ1 v F1 H1 p1 s1 r1 => by
    obtain ⟨b, rfl, p2, p3⟩ := p1
    have e : v = .bl b := r1
    refine ⟨b, e, ?_⟩
    cases b with
    | true => exact q _ ρ1 _ F1 H1 (p2 rfl) s1 rfl
    | false => exact p3 rfl σ F1 H1 Q s1.sym (fun d ρ2 v F2 H2 p2 s2 => q d ρ2 v F2 H2 p2 (s1.trans s2)) fun c ρ' cls dd F' H' px st xo => w c ρ' cls dd F' H' px (s1.trans st) xo) w
theorem e_notV {ta : TE} {P : Dt → En → Prop} (h : EvD K W ta ρ x fun d ρ1 => ∃ b, d = .bl b ∧ P (.bl (!b)) ρ1) : EvD K W (tNotV ta) ρ x P := fun σ F H Q s q w =>
  h σ F H _ s (fun d ρ1 v F1 H1 p1 s1 r1 => by
    obtain ⟨b, rfl, p⟩ := p1
    have e : v = .bl b := r1
    exact ⟨b, e, q _ ρ1 _ F1 H1 p s1 rfl⟩) w
theorem e_chain {r r' : R2} {ta tb tc : TE} {P : Dt → En → Prop}
    (h : EvD K W ta ρ x fun d ρ1 => EvD K W tb ρ1 x fun e ρ2 => OpD K r d e ρ2 fun z ρ3 => ∃ b, z = .bl b ∧ (b = true → EvD K W tc ρ3 x fun g ρ4 => OpD K r' e g ρ4 P) ∧ (b = false → P (.bl false) ρ3)) : EvD K W (tChain r r' ta tb tc) ρ x P := fun σ F H Q s q w =>
  h σ F H _ s (fun d ρ1 v F1 H1 p1 s1 r1 => p1 σ F1 H1 _ s1.sym (fun e ρ2 u F2 H2 p2 s2 r2 => p2 σ F2 H2 _ v u s2.sym (r1.mono s2.exF) r2 fun z ρ3 zv F3 H3 p3 s3 r3 => by
      obtain ⟨b, rfl, p4, p5⟩ := p3
      have e : zv = .bl b := r3
      refine ⟨b, e, ?_⟩
      cases b with
      | true => exact p4 rfl σ F3 H3 _ s3.sym (fun g ρ4 gv F4 H4 p6 s4 r4 => p6 σ F4 H4 Q u gv s4.sym ((r2.mono s3.exF).mono s4.exF) r4 fun d' ρ5 v' F5 H5 p7 s5 r5 => q d' ρ5 v' F5 H5 p7 ((((s1.trans s2).trans s3).trans s4).trans s5) r5) fun c ρ' cls dd F' H' px st xo => w c ρ' cls dd F' H' px (((s1.trans s2).trans s3).trans st) xo
      | false => exact q _ ρ3 _ F3 H3 (p5 rfl) ((s1.trans s2).trans s3) rfl)
    fun c ρ' cls dd F' H' px st xo => w c ρ' cls dd F' H' px (s1.trans st) xo) w
/-! ### statements -/
theorem s_seq {t u : TS} (h : StD K W t ρ { P with nx := fun ρ1 => StD K W u ρ1 P }) : StD K W (tSeq t u) ρ P := fun σ F H D s l =>
  h σ F H { D with nx := u D } s ⟨fun ρ' σ' F' H' p st => p σ' F' H' D st.sym (l.later st), l.rt, l.rn, l.bk, l.ct, l.ex⟩
theorem s_next (p : P.nx ρ) : StD K W tNext ρ P := fun σ F H D s l => l.nx ρ σ F H p (Step.refl s)
theorem s_imp {t : TS} {P' : Pd} (h : StD K W t ρ P) (h1 : ∀ ρ', P.nx ρ' → P'.nx ρ') (h2 : ∀ d ρ', P.rt d ρ' → P'.rt d ρ') (h2n : ∀ d ρ', P.rn d ρ' → P'.rn d ρ') (h3 : ∀ ρ', P.bk ρ' → P'.bk ρ') (h4 : ∀ ρ', P.ct ρ' → P'.ct ρ') (h5 : ∀ c ρ', P.ex c ρ' → P'.ex c ρ') : StD K W t ρ P' := fun σ F H D s l =>
  h σ F H D s ⟨fun a b c d p => l.nx a b c d (h1 _ p), fun a b c d e f p => l.rt a b c d e f (h2 _ _ p), fun a b c d e f p => l.rn a b c d e f (h2n _ _ p), fun a b c d p => l.bk a b c d (h3 _ p), fun a b c d p => l.ct a b c d (h4 _ p), fun a b c d e f g p => l.ex a b c d e f g (h5 _ _ p)⟩
theorem s_drop {te : TE} (h : EvD K W te ρ P.ex fun _ ρ1 => P.nx ρ1) : StD K W (tDrop te) ρ P := fun σ F H D s l =>
  h σ F H _ s (fun d ρ' v F' H' p st _ => l.nx ρ' σ F' H' p st) fun c ρ' cls dd F' H' p st xo => l.ex c ρ' cls dd σ F' H' p st xo
/-- no slot's own object is in hand -/
def Dt.real : Dt → Bool
  | .own _ => false
  | _ => true
theorem RepV.real {K : Frag} {F : Hp} {σ : L2.St} {d : Dt} {v : V} (h : RepV K F σ d v) (hr : d.real = true) : Rep K F d v := by
  cases d with
  | own i => cases hr
  | _ => exact h
theorem s_ret {te : TE} (h : EvD K W te ρ P.ex fun d ρ1 => d.real = true ∧ P.rt d ρ1) : StD K W (tRet te) ρ P := fun σ F H D s l =>
  h σ F H _ s (fun d ρ' v F' H' p st r => l.rt d ρ' v σ F' H' p.2 st (r.real p.1)) fun c ρ' cls dd F' H' p st xo => l.ex c ρ' cls dd σ F' H' p st xo
theorem s_retN (h : P.rt .non ρ) : StD K W tRetN ρ P := fun σ F H D s l => l.rt .non ρ .non σ F H h (Step.refl s) (by unfold Rep; rfl)
theorem s_if {c : TT} {t u : TS} (h : TtD K W c ρ P.ex fun b ρ1 => (b = true → StD K W t ρ1 P) ∧ (b = false → StD K W u ρ1 P)) : StD K W (tIfS c t u) ρ P := fun σ F H D s l =>
  h σ F H _ s (fun b ρ' F' H' p st => by
    cases b with
    | true => exact p.1 rfl σ F' H' D st.sym (l.later st)
    | false => exact p.2 rfl σ F' H' D st.sym (l.later st)) fun c ρ' cls dd F' H' p st xo => l.ex c ρ' cls dd σ F' H' p st xo
/-- a slot gets shared data -/
theorem Sym.set {i : Nat} {d : Dt} {v : V} (s : Sym K F H σ ρ) (hr : Rep K F d v) : Sym K F H (σ.set i (some v)) (ρ.set i (.sh d)) where
  ex := s.ex
  len := by rw [List.length_set, List.length_set]; exact s.len
  sh := fun j e h => by
    by_cases hj : i = j
    · subst hj
      have hi : i < ρ.length := by
        have := (List.getElem?_eq_some_iff.mp h).1
        rw [List.length_set] at this
        exact this
      rw [List.getElem?_set_self hi] at h
      cases h
      exact ⟨v, List.getElem?_set_self (by rw [s.len]; exact hi), hr⟩
    · rw [List.getElem?_set_ne hj] at h
      obtain ⟨u, a, b⟩ := s.sh j e h
      exact ⟨u, by rw [List.getElem?_set_ne hj]; exact a, b⟩
  ow := fun j l e h => by
    by_cases hj : i = j
    · subst hj
      have hi : i < ρ.length := by
        have := (List.getElem?_eq_some_iff.mp h).1
        rw [List.length_set] at this
        exact this
      rw [List.getElem?_set_self hi] at h
      cases h
    · rw [List.getElem?_set_ne hj] at h
      obtain ⟨p, a, b⟩ := s.ow j l e h
      exact ⟨p, by rw [List.getElem?_set_ne hj]; exact a, b⟩
  inj := fun j k l m e f p h1 h2 h3 h4 => by
    have hj : i ≠ j := fun z => by
      subst z
      have hi : i < ρ.length := by
        have := (List.getElem?_eq_some_iff.mp h1).1
        rw [List.length_set] at this
        exact this
      rw [List.getElem?_set_self hi] at h1
      cases h1
    have hk : i ≠ k := fun z => by
      subst z
      have hi : i < ρ.length := by
        have := (List.getElem?_eq_some_iff.mp h2).1
        rw [List.length_set] at this
        exact this
      rw [List.getElem?_set_self hi] at h2
      cases h2
    rw [List.getElem?_set_ne hj] at h1 h3
    rw [List.getElem?_set_ne hk] at h2 h4
    exact s.inj j k l m e f p h1 h2 h3 h4
theorem OwA.set {i : Nat} {d : Dt} {v : V} {a : Addr} (h : OwA (σ.set i (some v)) (ρ.set i (.sh d)) a) : OwA σ ρ a := by
  obtain ⟨j, l, e, h1, h2⟩ := h
  have hj : i ≠ j := fun z => by
    subst z
    have hi : i < ρ.length := by
      have := (List.getElem?_eq_some_iff.mp h1).1
      rw [List.length_set] at this
      exact this
    rw [List.getElem?_set_self hi] at h1
    cases h1
  rw [List.getElem?_set_ne hj] at h1 h2
  exact ⟨j, l, e, h1, h2⟩
theorem Step.set {i : Nat} {d : Dt} {v : V} (s : Sym K F H σ ρ) (hl : lent ρ i = false) (hr : Rep K F d v) : Step K σ ρ F H (σ.set i (some v)) (ρ.set i (.sh d)) F H :=
  ⟨s.set hr, Ex.refl F, fun _ _ h _ => h, fun _ h => .inl h.set, fun _ h => .inl h, fun _ h => h, fun j e h => by
    have hj : i ≠ j := fun z => by
      subst z
      exact lent_no hl h
    exact ⟨e, by rw [List.getElem?_set_ne hj]; exact h, by rw [List.getElem?_set_ne hj]⟩⟩
theorem s_set {te : TE} {i : Nat} (h : EvD K W te ρ P.ex fun d ρ1 => d.real = true ∧ lent ρ1 i = false ∧ P.nx (ρ1.set i (.sh d))) : StD K W (tAsg te (gName i)) ρ P := fun σ F H D s l =>
  h σ F H _ s (fun d ρ' v F' H' p st r => l.nx _ _ F' H' p.2.2 (st.trans (Step.set st.sym p.2.1 (r.real p.1)))) fun c ρ' cls dd F' H' p st xo => l.ex c ρ' cls dd σ F' H' p st xo
end
end DL
set_option Elab.async false
set_option linter.all false
set_option maxRecDepth 100000
set_option autoImplicit false
set_option maxHeartbeats 4000000
namespace DL
open PySem L2 Evl PyProof.Rows
/-! ### promises by data -/
structure Fsp where
  I : Type
  arg : I → List Dt
  pre : I → Prop
  post : I → Dt → Prop
  exc : I → Xc → Prop := fun _ _ => False
def DSp (K : Frag) (S : Fsp) : Sp := fun vs H Q E => ∃ (F : Hp) (i : S.I), Ex F H ∧ RepL K F (S.arg i) vs ∧ S.pre i ∧ (∀ d, S.post i d → ∀ v H', Ex H H' → Rep K (Fz F H H') d v → Q v H') ∧
  (∀ c, S.exc i c → ∀ cls dd H', Ex H H' → XOk K (Fz F H H') c cls dd → E cls dd H')
/-- the first argument is an object that the def changes -/
structure Osp where
  I : Type
  own : I → Dt
  arg : I → List Dt
  pre : I → Prop
  post : I → Dt → Dt → Prop
  exc : I → Xc → Dt → Prop := fun _ _ _ => False
def Bt (H H' : Hp) (p : Addr) : Prop := ∀ a o, H a = some o → a ≠ p → H' a = some o
def OSp (K : Frag) (S : Osp) : Sp := fun vs H Q E => ∃ (F : Hp) (i : S.I) (p : Addr) (us : List V), vs = .ref p :: us ∧ Ex F H ∧ F p = none ∧ Own K F H p (S.own i) ∧ RepL K F (S.arg i) us ∧ S.pre i ∧
  (∀ d o, S.post i d o → ∀ v H', Bt H H' p → Own K (Fz F H H') H' p o → Rep K (Fz F H H') d v → Q v H') ∧
  (∀ c o, S.exc i c o → ∀ cls dd H', Bt H H' p → Own K (Fz F H H') H' p o → XOk K (Fz F H H') c cls dd → E cls dd H')
def allReal (ds : List Dt) : Bool := ds.all Dt.real
theorem RepVL.real {K : Frag} {F : Hp} {σ : L2.St} : ∀ {ds : List Dt} {vs : List V}, RepVL K F σ ds vs → allReal ds = true → RepL K F ds vs
  | [], _, h, _ => by
    unfold RepL
    exact h
  | d :: ds, _, ⟨v, r, h1, h2, h3⟩, hr => by
    unfold allReal at hr
    rw [List.all_cons, Bool.and_eq_true] at hr
    subst h1
    exact repL_cons (h2.real hr.1) (RepVL.real h3 hr.2)
theorem Rep.real {K : Frag} {F : Hp} {d : Dt} {v : V} (h : Rep K F d v) : d.real = true := by
  cases d with
  | own i =>
    unfold Rep at h
    exact h.elim
  | _ => rfl
theorem Rep.toV {K : Frag} {F : Hp} {σ : L2.St} {d : Dt} {v : V} (h : Rep K F d v) : RepV K F σ d v := by
  cases d with
  | own i =>
    unfold Rep at h
    exact h.elim
  | _ => exact h
theorem XOk.mono {K : Frag} {F F' : Hp} {c : Xc} {cls : Value} {dd : Option Addr} (e : Ex F F') (h : XOk K F c cls dd) : XOk K F' c cls dd := by
  obtain ⟨h1, h2⟩ := h
  refine ⟨h1, ?_⟩
  rcases h2 with h2 | ⟨a, xs, h3, h4, h5, h6⟩
  · exact .inl h2
  · exact .inr ⟨a, xs, h3, e _ _ h4, h5, h6.mono e⟩
section
variable {K : Frag} {W : WX} {σ σ1 : L2.St} {ρ ρ1 : En} {F F1 H H1 : Hp} {x : PX}
theorem e_call {S : Fsp} {ta : TA} {P : Dt → En → Prop} (h : ArD K W ta ρ x fun ds ρ1 => ∃ i, ds = S.arg i ∧ allReal ds = true ∧ S.pre i ∧ (∀ d, S.post i d → P d ρ1) ∧ ∀ c, S.exc i c → x c ρ1) :
    EvD K W (tCallS (DSp K S) (WE W) ta) ρ x P := fun σ F H Q s q w =>
  h σ F H _ s (fun ds ρ1 vs F1 H1 p s1 r => by
    obtain ⟨i, rfl, hr, hp, hk, hx⟩ := p
    exact ⟨F1, i, s1.sym.ex, r.real hr, hp, fun d pd v H' e rd => q d ρ1 v _ H' (hk d pd) (s1.trans (Step.grow s1.sym e)) rd.toV, fun c pc cls dd H' e xo => w c ρ1 cls dd _ H' (hx c pc) (s1.trans (Step.grow s1.sym e)) xo⟩) w
/-- what a lent object's change is for the caller -/
theorem Step.lend {i : Nat} {l : Bool} {d o : Dt} {p : Addr} (s : Sym K F H σ ρ) (hi : ρ[i]? = some (.ow l d)) (hp : σ[i]? = some (some (.ref p))) (b : Bt H H1 p) (ho : Own K (Fz F H H1) H1 p o) : Step K σ ρ F H σ (ρ.set i (.ow l o)) (Fz F H H1) H1 := by
  obtain ⟨p', a', b', c'⟩ := s.ow i l d hi
  have ep : p' = p := by
    rw [a'] at hp
    have z := Option.some.inj (Option.some.inj hp)
    injection z
  subst ep
  have hil : i < ρ.length := (List.getElem?_eq_some_iff.mp hi).1
  have exF : Ex F (Fz F H H1) := fz_ex s.ex
  have np : ∀ a u, F a = some u → a ≠ p' := fun a u e z => by
    subst z
    rw [b'] at e
    cases e
  obtain ⟨ob, hob⟩ : ∃ ob, H p' = some ob := by
    cases q : H p' with
    | none => exact absurd q c'.there
    | some ob => exact ⟨ob, rfl⟩
  have exH : Ex (Fz F H H1) H1 := fun a u e => by
    cases q : H a with
    | none =>
      rw [fz_new q] at e
      exact e
    | some w =>
      rw [fz_old q] at e
      exact b a u (s.ex a u e) (np a u e)
  exact {
    sym := {
      ex := exH
      len := by rw [List.length_set]; exact s.len
      sh := fun j e h => by
        by_cases hj : i = j
        · subst hj
          rw [List.getElem?_set_self hil] at h
          cases h
        · rw [List.getElem?_set_ne hj] at h
          obtain ⟨v, a, r⟩ := s.sh j e h
          exact ⟨v, a, r.mono exF⟩
      ow := fun j m e h => by
        by_cases hj : i = j
        · subst hj
          rw [List.getElem?_set_self hil] at h
          cases h
          exact ⟨p', a', by rw [fz_old hob]; exact b', ho⟩
        · rw [List.getElem?_set_ne hj] at h
          obtain ⟨q, a, r, c⟩ := s.ow j m e h
          have ne : q ≠ p' := fun z => by
            subst z
            exact hj (s.inj i j l m d e q hi h a' a)
          cases hq : H q with
          | none => exact absurd hq c.there
          | some u => exact ⟨q, a, by rw [fz_old hq]; exact r, c.mono exF (by rw [hq]; exact b q u hq ne)⟩
      inj := fun j k m n e f q h1 h2 h3 h4 => by
        have t : ∀ {j : Nat} {m : Bool} {e : Dt}, (ρ.set i (.ow l o))[j]? = some (.ow m e) → ∃ m e, ρ[j]? = some (.ow m e) := fun {j m e} h => by
          by_cases hj : i = j
          · subst hj
            exact ⟨l, d, hi⟩
          · rw [List.getElem?_set_ne hj] at h
            exact ⟨m, e, h⟩
        obtain ⟨m', e', h1'⟩ := t h1
        obtain ⟨n', f', h2'⟩ := t h2
        exact s.inj j k m' n' e' f' q h1' h2' h3 h4 }
    exF := exF
    keep := fun a u h n => b a u h fun z => by
      subst z
      exact n ⟨i, l, d, hi, hp⟩
    own := fun a h => .inl (h.of_write hi)
    new := fun a h => by
      cases q : H a with
      | none => exact .inr (.inl rfl)
      | some u =>
        rw [fz_old q] at h
        exact .inl h
    all := fun a h => by
      by_cases e : a = p'
      · rw [e]
        exact ho.there
      · cases q : H a with
        | none => exact absurd q h
        | some u => rw [b a u q e]; exact fun z => nomatch z
    stay := fun j e h => by
      by_cases hj : i = j
      · subst hj
        rw [hi] at h
        cases h
        exact ⟨o, List.getElem?_set_self hil, rfl⟩
      · exact ⟨e, by rw [List.getElem?_set_ne hj]; exact h, rfl⟩ }
/-- f(t, ..): t is a slot's own object -/
theorem e_callO {S : Osp} {ta : TA} {P : Dt → En → Prop} (h : ArD K W ta ρ x fun ds ρ1 => ∃ (j : Nat) (l : Bool) (d : Dt) (es : List Dt) (i : S.I), ds = .own j :: es ∧ ρ1[j]? = some (.ow l d) ∧ d = S.own i ∧ es = S.arg i ∧ allReal es = true ∧ S.pre i ∧
      (∀ r o, S.post i r o → P r (ρ1.set j (.ow l o))) ∧ ∀ c o, S.exc i c o → x c (ρ1.set j (.ow l o))) :
    EvD K W (tCallS (OSp K S) (WE W) ta) ρ x P := fun σ F H Q s q w =>
  h σ F H _ s (fun ds ρ1 vs F1 H1 p s1 r => by
    obtain ⟨j, l, d, es, i, rfl, hj, rfl, rfl, hr, hp, hk, hx⟩ := p
    obtain ⟨v, us, rfl, rv, rs⟩ := r
    obtain ⟨a, e1, e2, e3⟩ := s1.sym.ow j l _ hj
    have ev : v = .ref a := by
      have z : σ[j]? = some (some v) := rv
      rw [e1] at z
      exact (Option.some.inj (Option.some.inj z)).symm
    subst ev
    exact ⟨F1, i, a, us, rfl, s1.sym.ex, e2, e3, rs.real hr, hp, fun r o pd v H' b ow rd => q r _ v _ H' (hk r o pd) (s1.trans (Step.lend s1.sym hj e1 b ow)) rd.toV,
      fun c o pc cls dd H' b ow xo => w c _ cls dd _ H' (hx c o pc) (s1.trans (Step.lend s1.sym hj e1 b ow)) xo⟩) w
end
/-! ### a def from its body -/
def st0 (n : Nat) (ds : List Dt) : En := ds.map Sl.sh ++ List.replicate (n - ds.length) Sl.no
theorem sym0 {K : Frag} {F H : Hp} {N : List Str} {ds : List Dt} {vs : List V} (e : Ex F H) (r : RepL K F ds vs) : Sym K F H (L2.start N vs) (st0 N.length ds) where
  ex := e
  len := by
    unfold L2.start st0
    rw [List.length_append, List.length_append, List.length_map, List.length_map, List.length_replicate, List.length_replicate, r.length]
  sh := fun i d h => by
    have hl := r.length
    have hi : i < ds.length := by
      unfold st0 at h
      by_cases hi : i < ds.length
      · exact hi
      · rw [List.getElem?_append_right (by rw [List.length_map]; omega), List.getElem?_replicate] at h
        split at h <;> cases h
    unfold st0 at h
    rw [List.getElem?_append_left (by rw [List.length_map]; exact hi), List.getElem?_map] at h
    cases q : ds[i]? with
    | none =>
      rw [q] at h
      cases h
    | some d' =>
      rw [q] at h
      cases h
      obtain ⟨v, e1, e2⟩ := r.get q
      refine ⟨v, ?_, e2⟩
      unfold L2.start
      rw [List.getElem?_append_left (by rw [List.length_map]; omega), List.getElem?_map, e1]
      rfl
  ow := fun i l d h => by
    exfalso
    unfold st0 at h
    by_cases hi : i < ds.length
    · rw [List.getElem?_append_left (by rw [List.length_map]; exact hi), List.getElem?_map] at h
      cases q : ds[i]? with
      | none =>
        rw [q] at h
        cases h
      | some d' =>
        rw [q] at h
        cases h
    · rw [List.getElem?_append_right (by rw [List.length_map]; omega), List.getElem?_replicate] at h
      split at h <;> cases h
  inj := fun i j l m d e p h => by
    exfalso
    unfold st0 at h
    by_cases hi : i < ds.length
    · rw [List.getElem?_append_left (by rw [List.length_map]; exact hi), List.getElem?_map] at h
      cases q : ds[i]? with
      | none =>
        rw [q] at h
        cases h
      | some d' =>
        rw [q] at h
        cases h
    · rw [List.getElem?_append_right (by rw [List.length_map]; omega), List.getElem?_replicate] at h
      split at h <;> cases h
theorem noOw {n : Nat} {ds : List Dt} {σ : L2.St} {a : Addr} : ¬ OwA σ (st0 n ds) a := fun h => by
  obtain ⟨i, l, d, h, _⟩ := h
  unfold st0 at h
  by_cases hi : i < ds.length
  · rw [List.getElem?_append_left (by rw [List.length_map]; exact hi), List.getElem?_map] at h
    cases q : ds[i]? with
    | none =>
      rw [q] at h
      cases h
    | some d' =>
      rw [q] at h
      cases h
  · rw [List.getElem?_append_right (by rw [List.length_map]; omega), List.getElem?_replicate] at h
    split at h <;> cases h
theorem Step.out {K : Frag} {σ σ' : L2.St} {ρ ρ' : En} {F F' H H' : Hp} (s : Step K σ ρ F H σ' ρ' F' H') (eF : Ex F H) (hn : ∀ a, F' a ≠ none → ¬ OwA σ ρ a) : Ex F' (Fz F H H') := fun a o e => by
  cases q : H a with
  | none =>
    rw [fz_new q]
    exact s.sym.ex a o e
  | some u =>
    rw [fz_old q]
    rcases s.new a (by rw [e]; exact fun z => nomatch z) with z | z | z
    · cases r : F a with
      | none => exact absurd r z
      | some w =>
        rw [s.exF a w r] at e
        exact e
    · rw [q] at z
      cases z
    · exact absurd z (hn a (by rw [e]; exact fun z => nomatch z))
section
variable {P : Program} {w : World} {K : Frag} {mg : Str → Option Value} {base : Heap} {x qual : Str} {params : Arguments} {body : List Stmt} {scope : Scope} {dvs : List V} {kws : List (Str × V)} {f : Addr} {fd : FuncData}
/-- the context of a body that may raise -/
abbrev cxB (P : Program) (w : World) (K : Frag) (mg : Str → Option Value) (base : Heap) (N : List Str) (qual : Str) (scope : Scope) (f : Addr) (cdv : Value) (A : Around) (outer : List PySem.Env) (s : Shared) (H : Hp) (E : XK) : Cx := cxOf (L2.CX P w) P w K mg base N qual scope f cdv A outer s H E
/-- what is raised at a body's level -/
abbrev wE (E : XK) : WX := fun cls d _ H => E cls d H
theorem fn_body {S : Fsp} {N ps : List Str} {k : Nat} (F : FunD K x qual params body scope dvs kws f fd) (sc : FnScope N ps scope) (hl : ∀ i, (S.arg i).length = ps.length)
    (hb : ∀ (cdv : Value) (A : Around) (outer : List PySem.Env) (s : Shared) (H : Hp) (E : XK), Room k (A.deeper (envOfC qual scope s.heap.objs.size f cdv)) → Takes (cxB P w K mg base N qual scope f cdv A outer s H E) (wE E) → PassesOwn (model P w) (cxB P w K mg base N qual scope f cdv A outer s H E).A (cxB P w K mg base N qual scope f cdv A outer s H E).env (cxB P w K mg base N qual scope f cdv A outer s H E).xe →
      ∃ t, PSs (cxB P w K mg base N qual scope f cdv A outer s H E) body t ∧ ∀ i, S.pre i → ∀ Z : Pd, (∀ ρ, S.post i .non → Z.nx ρ) → (∀ d ρ, S.post i d → Z.rt d ρ) → (∀ c ρ, S.exc i c → Z.ex c ρ) → StD K (wE E) t (st0 N.length (S.arg i)) Z) : FnOk P w K mg base (L2.CX P w) (k + 1) f fd ps (DSp K S) := by
  refine F.ok sc (fun vs H Q E h => ?_) (fun cdv A outer s H vs Q E hr h => ?_)
  · obtain ⟨G, i, _, r, _⟩ := h
    rw [r.length, hl]
  · obtain ⟨G, i, ex, r, hp, hq, hx⟩ := h
    obtain ⟨t, ht, hd⟩ := hb cdv A outer s H E hr (takes_of rfl rfl rfl rfl) (passes_of rfl)
    refine ⟨t, ht, hd i hp { nx := fun _ => S.post i .non, rt := fun d _ => S.post i d, ex := fun c _ => S.exc i c } (fun _ h => h) (fun _ _ h => h) (fun _ _ h => h) _ G H _ (sym0 ex r) ⟨fun ρ' σ' F' H' p st => ?_, fun d ρ' v σ' F' H' p st rd => ?_, fun _ _ _ _ _ _ p => p.elim, fun _ _ _ _ p => p.elim, fun _ _ _ _ p => p.elim, fun c ρ' cls dd σ' F' H' p st xo => ?_⟩⟩
    · exact hq .non p .non H' (fun a o e => st.keep a o e noOw) (by unfold Rep; rfl)
    · exact hq d p v H' (fun a o e => st.keep a o e noOw) (rd.mono (st.out ex fun _ _ => noOw))
    · exact hx c p cls dd H' (fun a o e => st.keep a o e noOw) (xo.mono (st.out ex fun _ _ => noOw))
/-- .. that hands back a new object -/
def NSp (K : Frag) (S : Fsp) : Sp := fun vs H Q E => ∃ (F : Hp) (i : S.I), Ex F H ∧ RepL K F (S.arg i) vs ∧ S.pre i ∧ (∀ d, S.post i d → ∀ p o H', Ex H H' → H' p = none → Own K (Fz F H H') (upd H' p o) p d → Q (.ref p) (upd H' p o)) ∧
  (∀ c, S.exc i c → ∀ cls dd H', Ex H H' → XOk K (Fz F H H') c cls dd → E cls dd H')
def del1 (H : Hp) (p : Addr) : Hp := fun a => if a = p then none else H a
theorem upd_del1 {H : Hp} {p : Addr} {o : HO} (h : H p = some o) : upd (del1 H p) p o = H := by
  funext a
  by_cases e : a = p
  · subst e
    rw [upd_same, h]
  · rw [upd_ne e]
    exact if_neg e
theorem fn_bodyN {S : Fsp} {N ps : List Str} {k : Nat} (F : FunD K x qual params body scope dvs kws f fd) (sc : FnScope N ps scope) (hl : ∀ i, (S.arg i).length = ps.length)
    (hb : ∀ (cdv : Value) (A : Around) (outer : List PySem.Env) (s : Shared) (H : Hp) (E : XK), Room k (A.deeper (envOfC qual scope s.heap.objs.size f cdv)) → Takes (cxB P w K mg base N qual scope f cdv A outer s H E) (wE E) → PassesOwn (model P w) (cxB P w K mg base N qual scope f cdv A outer s H E).A (cxB P w K mg base N qual scope f cdv A outer s H E).env (cxB P w K mg base N qual scope f cdv A outer s H E).xe →
      ∃ t, PSs (cxB P w K mg base N qual scope f cdv A outer s H E) body t ∧ ∀ i, S.pre i → ∀ Z : Pd, (∀ d ρ, S.post i d → Z.rn d ρ) → (∀ c ρ, S.exc i c → Z.ex c ρ) → StD K (wE E) t (st0 N.length (S.arg i)) Z) : FnOk P w K mg base (L2.CX P w) (k + 1) f fd ps (NSp K S) := by
  refine F.ok sc (fun vs H Q E h => ?_) (fun cdv A outer s H vs Q E hr h => ?_)
  · obtain ⟨G, i, _, r, _⟩ := h
    rw [r.length, hl]
  · obtain ⟨G, i, ex, r, hp, hq, hx⟩ := h
    obtain ⟨t, ht, hd⟩ := hb cdv A outer s H E hr (takes_of rfl rfl rfl rfl) (passes_of rfl)
    refine ⟨t, ht, hd i hp { nx := fun _ => False, rt := fun _ _ => False, rn := fun d _ => S.post i d, ex := fun c _ => S.exc i c } (fun _ _ h => h) (fun _ _ h => h) _ G H _ (sym0 ex r) ⟨fun ρ' σ' F' H' p st => p.elim, fun d ρ' v σ' F' H' p st rd => p.elim, fun d ρ' p σ' F' H' pd st hf ho ow => ?_, fun _ _ _ _ p => p.elim, fun _ _ _ _ p => p.elim, fun c ρ' cls dd σ' F' H' p st xo => ?_⟩⟩
    · have hn : H p = none := by
        rcases ow with ow | ow
        · rcases st.own p ow with z | z
          · exact absurd z noOw
          · exact z
        · exact ow
      obtain ⟨o, hpo⟩ : ∃ o, H' p = some o := by
        cases q : H' p with
        | none => exact absurd q ho.there
        | some o => exact ⟨o, rfl⟩
      have e1 : Ex H (del1 H' p) := fun a u e => by
        have ne : a ≠ p := ne_of_none e hn
        show (if a = p then none else H' a) = some u
        rw [if_neg ne]
        exact st.keep a u e noOw
      have e2 : Ex F' (Fz G H (del1 H' p)) := fun a u e => by
        have ne : a ≠ p := fun z => by
          subst z
          rw [hf] at e
          cases e
        have e3 := st.out ex (fun _ _ => noOw) a u e
        cases q : H a with
        | none =>
          rw [fz_new q] at e3 ⊢
          show (if a = p then none else H' a) = some u
          rw [if_neg ne]
          exact e3
        | some w =>
          rw [fz_old q] at e3 ⊢
          exact e3
      have e4 := upd_del1 hpo
      have key := hq d pd p o (del1 H' p) e1 (if_pos rfl) (by rw [e4]; exact ho.mono e2 rfl)
      rw [e4] at key
      exact key
    · exact hx c p cls dd H' (fun a o e => st.keep a o e noOw) (xo.mono (st.out ex fun _ _ => noOw))
/-- .. whose first argument is an object that it changes -/
def st1 (n : Nat) (o : Dt) (ds : List Dt) : En := .ow true o :: st0 (n - 1) ds
theorem sym1 {K : Frag} {F H : Hp} {n : Str} {N : List Str} {p : Addr} {o : Dt} {ds : List Dt} {vs : List V} (e : Ex F H) (hp : F p = none) (ho : Own K F H p o) (r : RepL K F ds vs) : Sym K F H (L2.start (n :: N) (.ref p :: vs)) (st1 (n :: N).length o ds) := by
  have s0 : Sym K F H (L2.start N vs) (st0 N.length ds) := sym0 e r
  have e1 : L2.start (n :: N) (.ref p :: vs) = some (.ref p) :: L2.start N vs := by
    unfold L2.start
    simp
  have e2 : st1 (n :: N).length o ds = .ow true o :: st0 N.length ds := rfl
  have no : ∀ {i : Nat} {l : Bool} {d : Dt}, (st0 N.length ds)[i]? ≠ some (.ow l d) := fun {i l d} z => by
    obtain ⟨q, h1, _⟩ := s0.ow i l d z
    exact noOw ⟨i, l, d, z, h1⟩
  rw [e1, e2]
  exact {
    ex := e
    len := by rw [List.length_cons, List.length_cons, s0.len]
    sh := fun i d h => by
      cases i with
      | zero => cases h
      | succ i => exact s0.sh i d (by simpa using h)
    ow := fun i l d h => by
      cases i with
      | zero =>
        cases h
        exact ⟨p, rfl, hp, ho⟩
      | succ i => exact absurd (by simpa using h) (no (i := i) (l := l) (d := d))
    inj := fun i j l m d e q h1 h2 h3 h4 => by
      cases i with
      | zero =>
        cases j with
        | zero => rfl
        | succ j => exact absurd (by simpa using h2) (no (i := j) (l := m) (d := e))
      | succ i => exact absurd (by simpa using h1) (no (i := i) (l := l) (d := d)) }
theorem ow1 {n : Nat} {o : Dt} {ds : List Dt} {σ : L2.St} {p a : Addr} (h : OwA (some (.ref p) :: σ) (st1 n o ds) a) : a = p := by
  obtain ⟨i, l, d, h1, h2⟩ := h
  cases i with
  | zero =>
    have z := Option.some.inj (Option.some.inj h2)
    injection z with z
    exact z.symm
  | succ i => exact absurd ⟨i, l, d, by simpa [st1] using h1, by simpa using h2⟩ (noOw (n := n - 1) (ds := ds) (σ := σ) (a := a))
theorem fn_bodyO {S : Osp} {n : Str} {N ps : List Str} {k : Nat} (F : FunD K x qual params body scope dvs kws f fd) (sc : FnScope (n :: N) ps scope) (hl : ∀ i, (S.arg i).length + 1 = ps.length)
    (hb : ∀ (cdv : Value) (A : Around) (outer : List PySem.Env) (s : Shared) (H : Hp) (E : XK), Room k (A.deeper (envOfC qual scope s.heap.objs.size f cdv)) → Takes (cxB P w K mg base (n :: N) qual scope f cdv A outer s H E) (wE E) → PassesOwn (model P w) (cxB P w K mg base (n :: N) qual scope f cdv A outer s H E).A (cxB P w K mg base (n :: N) qual scope f cdv A outer s H E).env (cxB P w K mg base (n :: N) qual scope f cdv A outer s H E).xe →
      ∃ t, PSs (cxB P w K mg base (n :: N) qual scope f cdv A outer s H E) body t ∧ ∀ i, S.pre i → ∀ Z : Pd, (∀ o ρ, ρ[0]? = some (.ow true o) → S.post i .non o → Z.nx ρ) → (∀ d o ρ, ρ[0]? = some (.ow true o) → S.post i d o → Z.rt d ρ) → (∀ c o ρ, ρ[0]? = some (.ow true o) → S.exc i c o → Z.ex c ρ) → StD K (wE E) t (st1 (n :: N).length (S.own i) (S.arg i)) Z) : FnOk P w K mg base (L2.CX P w) (k + 1) f fd ps (OSp K S) := by
  refine F.ok sc (fun vs H Q E h => ?_) (fun cdv A outer s H vs Q E hr h => ?_)
  · obtain ⟨G, i, p, us, rfl, _, _, _, r, _⟩ := h
    rw [List.length_cons, r.length, hl]
  · obtain ⟨G, i, p, us, rfl, ex, hp, ho, r, hpre, hq, hx⟩ := h
    obtain ⟨t, ht, hd⟩ := hb cdv A outer s H E hr (takes_of rfl rfl rfl rfl) (passes_of rfl)
    have e1 : L2.start (n :: N) (.ref p :: us) = some (.ref p) :: L2.start N us := by
      unfold L2.start
      simp
    have key : ∀ {σ' : L2.St} {ρ' : En} {F' H' : Hp} {o : Dt}, Step K (L2.start (n :: N) (.ref p :: us)) (st1 (n :: N).length (S.own i) (S.arg i)) G H σ' ρ' F' H' → ρ'[0]? = some (.ow true o) → Bt H H' p ∧ Own K (Fz G H H') H' p o ∧ Ex F' (Fz G H H') := fun {σ' ρ' F' H' o} st h0 => by
      rw [e1] at st
      obtain ⟨q, h1, h2, h3⟩ := st.sym.ow 0 true o h0
      obtain ⟨d', g1, g2⟩ := st.stay 0 (S.own i) rfl
      have eq : q = p := by
        rw [h1] at g2
        have z := Option.some.inj (Option.some.inj g2)
        injection z
      subst eq
      have ex' : Ex F' (Fz G H H') := st.out ex fun a ha z => by
        rw [ow1 z] at ha
        exact ha h2
      exact ⟨fun a u e ne => st.keep a u e fun z => ne (ow1 z), h3.mono ex' rfl, ex'⟩
    refine ⟨t, ht, hd i hpre { nx := fun ρ => ∃ o, ρ[0]? = some (.ow true o) ∧ S.post i .non o, rt := fun d ρ => ∃ o, ρ[0]? = some (.ow true o) ∧ S.post i d o, ex := fun c ρ => ∃ o, ρ[0]? = some (.ow true o) ∧ S.exc i c o } (fun o _ h0 h => ⟨o, h0, h⟩) (fun _ o _ h0 h => ⟨o, h0, h⟩) (fun _ o _ h0 h => ⟨o, h0, h⟩) _ G H _ (sym1 ex hp ho r) ⟨fun ρ' σ' F' H' z st => ?_, fun d ρ' v σ' F' H' z st rd => ?_, fun _ _ _ _ _ _ p => p.elim, fun _ _ _ _ p => p.elim, fun _ _ _ _ p => p.elim, fun c ρ' cls dd σ' F' H' z st xo => ?_⟩⟩
    · obtain ⟨o, h0, po⟩ := z
      obtain ⟨k1, k2, k3⟩ := key st h0
      exact hq .non o po .non H' k1 k2 (by unfold Rep; rfl)
    · obtain ⟨o, h0, po⟩ := z
      obtain ⟨k1, k2, k3⟩ := key st h0
      exact hq d o po v H' k1 k2 (rd.mono k3)
    · obtain ⟨o, h0, po⟩ := z
      obtain ⟨k1, k2, k3⟩ := key st h0
      exact hx c o po cls dd H' k1 k2 (xo.mono k3)
end
end DL
set_option Elab.async false
set_option linter.all false
set_option maxRecDepth 100000
set_option autoImplicit false
set_option maxHeartbeats 4000000
namespace DL
open PySem L2 Evl PyProof.Rows
/-! ### operators for all kinds of values -/
def rAddS : R2 := fun x y H Q => ∃ i j, x = .str i ∧ y = .str j ∧ i.length + j.length ≤ sizeLine ∧ Q (.str (i ++ j)) H
def rAddU (K : Frag) : R2 := fun x y H Q => (rI0 fun i j => .int (i + j)) x y H Q ∨ (rAddS x y H Q ∨ (rCat x y H Q ∨ rCatA K x y H Q))
def strMul (x : Str) (n : Int) : Str := ⟨(List.replicate n.toNat x.cps).foldl (· ++ ·) #[]⟩
def rMulS : R2 := fun x y H Q => ∃ z n, x = .str z ∧ y = .int n ∧ 0 ≤ n ∧ n ≤ 100000 ∧ z.length ≤ 100 ∧ Q (.str (strMul z n)) H
def rMulU : R2 := fun x y H Q => (rI CMul fun i j => .int (i * j)) x y H Q ∨ ((rI CMulW fun i j => .int (i * j)) x y H Q ∨ (rMulS x y H Q ∨ rRep x y H Q))
def rEqU (K : Frag) : R2 := fun x y H Q => rEq x y H Q ∨ rEqD K x y H Q
def rNeU (K : Frag) : R2 := fun x y H Q => rNe x y H Q ∨ rNeD K x y H Q
def rIsU : R2 := fun x y H Q => (y = .non ∧ Q (.bl (decide (x = .non))) H) ∨ rIsB x y H Q
def rIsNotU : R2 := fun x y H Q => (y = .non ∧ Q (.bl (!decide (x = .non))) H) ∨ rNotB x y H Q
section
variable {X : Cx}
theorem mulS_len (x : Str) : ∀ n : Nat, ((List.replicate n x.cps).foldl (· ++ ·) #[] : Array Nat).size = x.length * n := by
  have key : ∀ (n : Nat) (a : Array Nat), ((List.replicate n x.cps).foldl (· ++ ·) a).size = a.size + x.length * n := by
    intro n
    induction n with
    | zero => intro a; simp
    | succ n ih =>
      intro a
      rw [List.replicate_succ, List.foldl_cons, ih, Array.size_append, Nat.mul_succ]
      show a.size + x.length + x.length * n = _
      omega
  intro n
  rw [key n #[]]
  simp
theorem op_mulS : OpR X (binaryOp .Mult) rMulS := by
  intro pins s σ H x y v u Q I rx ry h
  obtain ⟨z, n, rfl, rfl, h0, h1, h2, q⟩ := h
  obtain ⟨t, rfl⟩ := rx
  obtain ⟨t', rfl⟩ := ry
  have hz : sizeLine = 16777216 := sizeLine_eq
  have hlen : z.length * n.toNat ≤ 100 * 100000 := Nat.mul_le_mul h2 (by omega)
  have hl : Builtin.Str.tooLong (z.length * n.toNat) = false := by
    unfold Builtin.Str.tooLong
    simp only [decide_eq_false_iff_not]
    omega
  refine PySem.P.mul_str (by rw [decide_eq_false (by omega), decide_eq_false (by omega)]; rfl) (fun g1 g2 => ?_) (fun _ _ => hl) ?_
  · have g3 : (1 : Int) ≤ n := by omega
    have g4 : (100000 : Int) ≤ (2 ^ 63 - 1) / n := by
      refine Int.le_ediv_of_mul_le (by omega) ?_
      have : (100000 : Int) * n ≤ 100000 * 100000 := Int.mul_le_mul_of_nonneg_left h1 (by omega)
      omega
    omega
  · by_cases c : n < 1
    · rw [if_pos c]
      have e : n = 0 := by omega
      subst e
      refine ⟨Nat.zero_le _, ?_⟩
      exact ⟨.str (strMul z 0), H, I.tok _, ⟨_, rfl⟩, q⟩
    · rw [if_neg c]
      by_cases c2 : (n == 1 || z.length == 0) = true
      · rw [if_pos c2]
        have e : strMul z n = z := by
          rw [Bool.or_eq_true] at c2
          rcases c2 with c2 | c2
          · have e1 : n = 1 := by simpa using c2
            subst e1
            unfold strMul
            show (⟨#[] ++ z.cps⟩ : Str) = z
            simp
          · have e1 : z.cps = #[] := Array.eq_empty_of_size_eq_zero (by simpa [Str.length] using c2)
            have e2 : (strMul z n).cps = #[] := Array.eq_empty_of_size_eq_zero (by
              unfold strMul
              rw [mulS_len]
              have : z.length = 0 := by simpa using c2
              rw [this]
              omega)
            obtain ⟨a⟩ := z
            have e3 : a = #[] := e1
            subst e3
            show (⟨(strMul ⟨#[]⟩ n).cps⟩ : Str) = ⟨#[]⟩
            rw [e2]
        show EP X pins σ Q (.str z t) _
        exact ⟨.str z, H, I, ⟨_, rfl⟩, by rw [← e]; exact q⟩
      · rw [if_neg c2]
        refine ⟨?_, ?_⟩
        · show (⟨(List.replicate n.toNat z.cps).foldl (· ++ ·) #[]⟩ : Str).length ≤ sizeLine
          show ((List.replicate n.toNat z.cps).foldl (· ++ ·) #[] : Array Nat).size ≤ sizeLine
          rw [mulS_len]
          omega
        · exact ⟨.str (strMul z n), H, I.tok _, ⟨_, rfl⟩, q⟩
theorem op_addU : OpR X (binaryOp .Add) (rAddU X.K) := op_add.or (op_add_str.or (op_cat.or op_catA))
theorem op_mulU : OpR X (binaryOp .Mult) rMulU := op_mul.or (op_mulW.or (op_mulS.or op_rep))
theorem op_eqU (hu : X.A.units + 64 < cLine) : OpR X (compareOp .Eq) (rEqU X.K) := op_eq.or (op_eqD hu)
theorem op_neU (hu : X.A.units + 64 < cLine) : OpR X (compareOp .NotEq) (rNeU X.K) := op_ne.or (op_neD hu)
theorem op_isU : OpR X (compareOp .Is) rIsU := op_isN.or op_isBl
theorem op_isNotU : OpR X (compareOp .IsNot) rIsNotU := op_notN.or op_notBl
end
section
variable {K : Frag} {W : WX} {σ σ1 : L2.St} {ρ ρ1 : En} {F F1 H H1 : Hp} {x : PX} {P : Dt → En → Prop}
theorem o_add {i j : Int} (p : P (.int (i + j)) ρ) : OpD K (rAddU K) (.int i) (.int j) ρ P := fun σ F H Q u v s e f q => by
  cases e
  cases f
  exact .inl ⟨i, j, rfl, rfl, q _ _ _ F H p (Step.refl s) rfl⟩
theorem o_addS {i j : Str} (h : i.length + j.length ≤ 1000000) (p : P (.str (i ++ j)) ρ) : OpD K (rAddU K) (.str i) (.str j) ρ P := fun σ F H Q u v s e f q => by
  cases e
  cases f
  exact .inr (.inl ⟨i, j, rfl, rfl, Nat.le_trans h (by decide), q _ _ _ F H p (Step.refl s) rfl⟩)
theorem o_I0 {i j : Int} {g : Int → Int → Int} (p : P (.int (g i j)) ρ) : OpD K (rI0 fun i j => .int (g i j)) (.int i) (.int j) ρ P := fun σ F H Q u v s e f q => by
  cases e
  cases f
  exact ⟨i, j, rfl, rfl, q _ _ _ F H p (Step.refl s) rfl⟩
theorem o_B0 {i j : Int} {g : Int → Int → Bool} (p : P (.bl (g i j)) ρ) : OpD K (rI0 fun i j => .bl (g i j)) (.int i) (.int j) ρ P := fun σ F H Q u v s e f q => by
  cases e
  cases f
  exact ⟨i, j, rfl, rfl, q _ _ _ F H p (Step.refl s) rfl⟩
theorem o_I {i j : Int} {C : Int → Int → Prop} {g : Int → Int → Int} (h : C i j) (p : P (.int (g i j)) ρ) : OpD K (rI C fun i j => .int (g i j)) (.int i) (.int j) ρ P := fun σ F H Q u v s e f q => by
  cases e
  cases f
  exact ⟨i, j, rfl, rfl, h, q _ _ _ F H p (Step.refl s) rfl⟩
theorem o_mul {i j : Int} (h : (-(2 ^ 64) < i ∧ i < 2 ^ 64) ∨ (-(2 ^ 64) < j ∧ j < 2 ^ 64)) (p : P (.int (i * j)) ρ) : OpD K rMulU (.int i) (.int j) ρ P := fun σ F H Q u v s e f q => by
  cases e
  cases f
  exact .inl ⟨i, j, rfl, rfl, h, q _ _ _ F H p (Step.refl s) rfl⟩
theorem o_mulW {i j : Int} (h : CMulW i j) (p : P (.int (i * j)) ρ) : OpD K rMulU (.int i) (.int j) ρ P := fun σ F H Q u v s e f q => by
  cases e
  cases f
  exact .inr (.inl ⟨i, j, rfl, rfl, h, q _ _ _ F H p (Step.refl s) rfl⟩)
theorem o_mulS {z : Str} {n : Int} (h0 : 0 ≤ n) (h1 : n ≤ 100000) (h2 : z.length ≤ 100) (p : P (.str (strMul z n)) ρ) : OpD K rMulU (.str z) (.int n) ρ P := fun σ F H Q u v s e f q => by
  cases e
  cases f
  exact .inr (.inr (.inl ⟨z, n, rfl, rfl, h0, h1, h2, q _ _ _ F H p (Step.refl s) rfl⟩))
theorem o_mod {i j : Int} (h : 0 < j) (p : P (.int (i % j)) ρ) : OpD K (rI (fun _ j => 0 < j) fun i j => .int (i % j)) (.int i) (.int j) ρ P := o_I h p
theorem o_fdiv {i j : Int} (h : 0 < j) (h2 : j < 2 ^ 200) (p : P (.int (i / j)) ρ) : OpD K (rI CDivW fun i j => .int (i / j)) (.int i) (.int j) ρ P := o_I (wide_div (b := 200) h (by omega) (by decide) (by decide)) p
theorem o_pow {i j : Int} (h : 0 ≤ j ∧ j ≤ 1000000 ∧ i.natAbs < 2 ^ 64) (p : P (.int (i ^ j.toNat)) ρ) : OpD K (rI CPow fun i j => .int (i ^ j.toNat)) (.int i) (.int j) ρ P := o_I h p
theorem o_eqI {i j : Int} (p : P (.bl (decide (i = j))) ρ) : OpD K (rEqU K) (.int i) (.int j) ρ P := fun σ F H Q u v s e f q => by
  cases e
  cases f
  refine .inl ⟨rfl, ?_⟩
  have z : decide (V.int i = V.int j) = decide (i = j) := by rw [Bool.eq_iff_iff]; simp
  rw [z]
  exact q _ _ _ F H p (Step.refl s) rfl
theorem o_neI {i j : Int} (p : P (.bl (!decide (i = j))) ρ) : OpD K (rNeU K) (.int i) (.int j) ρ P := fun σ F H Q u v s e f q => by
  cases e
  cases f
  refine .inl ⟨rfl, ?_⟩
  have z : decide (V.int i = V.int j) = decide (i = j) := by rw [Bool.eq_iff_iff]; simp
  rw [z]
  exact q _ _ _ F H p (Step.refl s) rfl
theorem o_eqB {i j : Bool} (p : P (.bl (decide (i = j))) ρ) : OpD K (rEqU K) (.bl i) (.bl j) ρ P := fun σ F H Q u v s e f q => by
  cases e
  cases f
  refine .inl ⟨rfl, ?_⟩
  have z : decide (V.bl i = V.bl j) = decide (i = j) := by rw [Bool.eq_iff_iff]; simp
  rw [z]
  exact q _ _ _ F H p (Step.refl s) rfl
theorem o_neB {i j : Bool} (p : P (.bl (!decide (i = j))) ρ) : OpD K (rNeU K) (.bl i) (.bl j) ρ P := fun σ F H Q u v s e f q => by
  cases e
  cases f
  refine .inl ⟨rfl, ?_⟩
  have z : decide (V.bl i = V.bl j) = decide (i = j) := by rw [Bool.eq_iff_iff]; simp
  rw [z]
  exact q _ _ _ F H p (Step.refl s) rfl
theorem o_eqS {i j : Str} (p : P (.bl (decide (i = j))) ρ) : OpD K (rEqU K) (.str i) (.str j) ρ P := fun σ F H Q u v s e f q => by
  cases e
  cases f
  refine .inl ⟨rfl, ?_⟩
  have z : decide (V.str i = V.str j) = decide (i = j) := by rw [Bool.eq_iff_iff]; simp
  rw [z]
  exact q _ _ _ F H p (Step.refl s) rfl
theorem o_neS {i j : Str} (p : P (.bl (!decide (i = j))) ρ) : OpD K (rNeU K) (.str i) (.str j) ρ P := fun σ F H Q u v s e f q => by
  cases e
  cases f
  refine .inl ⟨rfl, ?_⟩
  have z : decide (V.str i = V.str j) = decide (i = j) := by rw [Bool.eq_iff_iff]; simp
  rw [z]
  exact q _ _ _ F H p (Step.refl s) rfl
theorem o_isB {i j : Bool} (p : P (.bl (decide (i = j))) ρ) : OpD K rIsU (.bl i) (.bl j) ρ P := fun σ F H Q u v s e f q => by
  cases e
  cases f
  exact .inr ⟨i, j, rfl, rfl, q _ _ _ F H p (Step.refl s) rfl⟩
theorem o_isNotB {i j : Bool} (p : P (.bl (!decide (i = j))) ρ) : OpD K rIsNotU (.bl i) (.bl j) ρ P := fun σ F H Q u v s e f q => by
  cases e
  cases f
  exact .inr ⟨i, j, rfl, rfl, q _ _ _ F H p (Step.refl s) rfl⟩
def Dt.isNon : Dt → Bool
  | .non => true
  | _ => false
theorem RepV.non_iff {d : Dt} {v : V} (h : RepV K F σ d v) (hr : d.real = true) : decide (v = .non) = d.isNon := by
  have h := h.real hr
  cases d with
  | own i => cases hr
  | non =>
    unfold Rep at h
    subst h
    rfl
  | bl _ => unfold Rep at h; subst h; rfl
  | int _ => unfold Rep at h; subst h; rfl
  | str _ => unfold Rep at h; subst h; rfl
  | ty _ => unfold Rep at h; subst h; rfl
  | ref _ => unfold Rep at h; subst h; rfl
  | lst _ => unfold Rep at h; obtain ⟨a, xs, rfl, _⟩ := h; rfl
  | tup _ => unfold Rep at h; obtain ⟨a, xs, rfl, _⟩ := h; rfl
  | dic _ _ => unfold Rep at h; obtain ⟨a, xs, rfl, _⟩ := h; rfl
  | ins _ _ _ => unfold Rep at h; obtain ⟨a, dx, xs, rfl, _⟩ := h; rfl
theorem o_isN {d : Dt} (hr : d.real = true) (p : P (.bl d.isNon) ρ) : OpD K rIsU d .non ρ P := fun σ F H Q u v s e f q => by
  cases f
  refine .inl ⟨rfl, ?_⟩
  rw [e.non_iff hr]
  exact q _ _ _ F H p (Step.refl s) rfl
theorem o_isNotN {d : Dt} (hr : d.real = true) (p : P (.bl (!d.isNon)) ρ) : OpD K rIsNotU d .non ρ P := fun σ F H Q u v s e f q => by
  cases f
  refine .inl ⟨rfl, ?_⟩
  rw [e.non_iff hr]
  exact q _ _ _ F H p (Step.refl s) rfl
/-! ### subscripts -/
def rIxU (K : Frag) : R2 := fun x y H Q => rIxL K x y H Q ∨ (rIxT K x y H Q ∨ rIxS x y H Q)
theorem ix_seqU {X : Cx} : IxR X (rIxU X.K) := by
  intro value slice pins s σ H x y v u Q I rx ry h hs
  rcases h with h | h | h
  · exact ix_list value slice pins s σ H x y v u Q I rx ry h hs
  · exact ix_tup value slice pins s σ H x y v u Q I rx ry h hs
  · exact ix_str value slice pins s σ H x y v u Q I rx ry h hs
theorem atI_rep {ds : List Dt} {xs : List V} {i : Int} {d : Dt} (r : RepL K F ds xs) (h : atI ds i = some d) : ∃ v, atI xs i = some v ∧ Rep K F d v := by
  unfold atI at h ⊢
  rw [r.length]
  cases e : ixN ds.length i with
  | none =>
    rw [e] at h
    cases h
  | some j =>
    rw [e] at h
    exact r.get h
theorem o_ixL {ds : List Dt} {i : Int} {d : Dt} (h : atI ds i = some d) (p : P d ρ) : OpD K (rIxU K) (.lst ds) (.int i) ρ P := fun σ F H Q u v s e f q => by
  cases f
  have e' : Rep K F (.lst ds) u := e
  unfold Rep at e'
  obtain ⟨a, xs, rfl, h1, h2⟩ := e'
  obtain ⟨z, z1, z2⟩ := atI_rep h2 h
  exact .inl ⟨a, xs, i, z, rfl, rfl, ex_l s.ex h1, z1, q d ρ z F H p (Step.refl s) z2.toV⟩
theorem o_ixT {ds : List Dt} {i : Int} {d : Dt} (h : atI ds i = some d) (p : P d ρ) : OpD K (rIxU K) (.tup ds) (.int i) ρ P := fun σ F H Q u v s e f q => by
  cases f
  have e' : Rep K F (.tup ds) u := e
  unfold Rep at e'
  obtain ⟨a, xs, rfl, h1, h2⟩ := e'
  obtain ⟨z, z1, z2⟩ := atI_rep h2 h
  exact .inr (.inl ⟨a, xs, i, z, rfl, rfl, ex_t s.ex h1, z1, q d ρ z F H p (Step.refl s) z2.toV⟩)
theorem o_ixO {k : Nat} {l : Bool} {ds : List Dt} {i : Int} {d : Dt} (hk : ρ[k]? = some (.ow l (.lst ds))) (h : atI ds i = some d) (p : P d ρ) : OpD K (rIxU K) (.own k) (.int i) ρ P := fun σ F H Q u v s e f q => by
  cases f
  obtain ⟨a, e1, e2, xs, e3, e4⟩ := s.ow k l _ hk
  have eu : u = .ref a := by
    have z : σ[k]? = some (some u) := e
    rw [e1] at z
    exact (Option.some.inj (Option.some.inj z)).symm
  subst eu
  obtain ⟨z, z1, z2⟩ := atI_rep e4 h
  exact .inl ⟨a, xs, i, z, rfl, rfl, sq_of e3, z1, q d ρ z F H p (Step.refl s) z2.toV⟩
theorem o_ixS {z : Str} {i : Int} {c : Nat} (hz : z.length ≤ 1000000) (h : atI z.cps.toList i = some c) (p : P (.str ⟨#[c]⟩) ρ) : OpD K (rIxU K) (.str z) (.int i) ρ P := fun σ F H Q u v s e f q => by
  cases e
  cases f
  exact .inr (.inr ⟨z, i, c, rfl, rfl, Nat.le_trans hz (by decide), h, q _ _ _ F H p (Step.refl s) rfl⟩)
/-! ### slices -/
def rSlU (K : Frag) : V → Option Int → Option Int → Hp → VK → Prop := fun x lo hi H Q => rSlS x lo hi H Q ∨ (rSlL K x lo hi H Q ∨ rSlT K x lo hi H Q)
end
end DL
set_option Elab.async false
set_option linter.all false
set_option maxRecDepth 100000
set_option autoImplicit false
set_option maxHeartbeats 4000000
namespace DL
open PySem L2 Evl PyProof.Rows
section
variable {X : Cx}
theorem sl_u : SlR X (rSlU X.K) := sl_str.or (sl_list.or sl_tup)
end
section
variable {K : Frag} {W : WX} {σ σ1 : L2.St} {ρ ρ1 : En} {F F1 H H1 : Hp} {x : PX} {P : Dt → En → Prop}
/-! ### slices -/
def PtD (K : Frag) (W : WX) (tp : TO) (ρ : En) (x : PX) (P : Option Int → En → Prop) : Prop :=
  ∀ (σ : L2.St) (F H : Hp) (Q : Option Int → Hp → Prop), Sym K F H σ ρ → (∀ b ρ' F' H', P b ρ' → Step K σ ρ F H σ ρ' F' H' → Q b H') →
    (∀ c ρ' cls dd F' H', x c ρ' → Step K σ ρ F H σ ρ' F' H' → XOk K F' c cls dd → W cls dd σ H') → tp σ H Q
theorem p_none {P : Option Int → En → Prop} (p : P none ρ) : PtD K W tNoPart ρ x P := fun σ F H Q s q _ => q none ρ F H p (Step.refl s)
theorem p_some {te : TE} {P : Option Int → En → Prop} (h : EvD K W te ρ x fun d ρ1 => ∃ i, d = .int i ∧ P (some i) ρ1) : PtD K W (tPart te) ρ x P := fun σ F H Q s q w =>
  h σ F H _ s (fun d ρ1 v F1 H1 p1 s1 r1 => by
    obtain ⟨i, rfl, p⟩ := p1
    have e : v = .int i := r1
    exact ⟨i, e, q (some i) ρ1 F1 H1 p s1⟩) w
def SlD (K : Frag) (r : V → Option Int → Option Int → Hp → VK → Prop) (d : Dt) (lo hi : Option Int) (ρ : En) (P : Dt → En → Prop) : Prop :=
  ∀ (σ : L2.St) (F H : Hp) (Q : VK) (u : V), Sym K F H σ ρ → RepV K F σ d u → (∀ d' ρ' v' F' H', P d' ρ' → Step K σ ρ F H σ ρ' F' H' → RepV K F' σ d' v' → Q v' H') → r u lo hi H Q
theorem e_sl {r : V → Option Int → Option Int → Hp → VK → Prop} {te : TE} {tl th : TO} (h : EvD K W te ρ x fun d ρ1 => PtD K W tl ρ1 x fun lo ρ2 => PtD K W th ρ2 x fun hi ρ3 => SlD K r d lo hi ρ3 P) : EvD K W (L2.tSl r te tl th) ρ x P := fun σ F H Q s q w =>
  h σ F H _ s (fun d ρ1 v F1 H1 p1 s1 r1 => p1 σ F1 H1 _ s1.sym (fun lo ρ2 F2 H2 p2 s2 => p2 σ F2 H2 _ s2.sym (fun hi ρ3 F3 H3 p3 s3 => p3 σ F3 H3 Q v s3.sym ((r1.mono s2.exF).mono s3.exF) fun d' ρ4 v' F4 H4 p4 s4 r4 => q d' ρ4 v' F4 H4 p4 (((s1.trans s2).trans s3).trans s4) r4)
      fun c ρ' cls dd F' H' px st xo => w c ρ' cls dd F' H' px ((s1.trans s2).trans st) xo)
    fun c ρ' cls dd F' H' px st xo => w c ρ' cls dd F' H' px (s1.trans st) xo) w
theorem l_str {z : Str} {lo hi : Option Int} (hz : z.length ≤ 1000000) (p : P (.str (cutS z lo hi)) ρ) : SlD K (rSlU K) (.str z) lo hi ρ P := fun σ F H Q u s e q => by
  cases e
  exact .inl ⟨z, rfl, Nat.le_trans hz (by decide), q _ _ _ F H p (Step.refl s) rfl⟩
/-! ### built-in functions -/
theorem c_abs {i : Int} (p : P (.int (if i < 0 then -i else i)) ρ) : CaD K (fun xs H Q => ∃ i, xs = [.int i] ∧ Q (.int (if i < 0 then -i else i)) H) [.int i] ρ P := fun σ F H Q us s r q => by
  obtain ⟨v, _, rfl, rv, rfl⟩ := r
  have e : v = .int i := rv
  subst e
  exact ⟨i, rfl, q _ _ _ F H p (Step.refl s) rfl⟩
def rIntU : List V → Hp → VK → Prop := fun xs H Q => (∃ i, xs = [.int i] ∧ Q (.int i) H) ∨ ∃ k, xs = [.bl k] ∧ Q (.int (if k then 1 else 0)) H
theorem call_intU {X : Cx} : CallR X (.type "int") rIntU := call_int1
theorem c_int {i : Int} (p : P (.int i) ρ) : CaD K rIntU [.int i] ρ P := fun σ F H Q us s r q => by
  obtain ⟨v, _, rfl, rv, rfl⟩ := r
  have e : v = .int i := rv
  subst e
  exact .inl ⟨i, rfl, q _ _ _ F H p (Step.refl s) rfl⟩
def rLenU (K : Frag) : List V → Hp → VK → Prop := fun xs H Q => (∃ p ys, xs = [.ref p] ∧ (SqL K H p ys ∨ SqT K H p ys) ∧ Q (.int ys.length) H) ∨ ((∃ z, xs = [.str z] ∧ z.length ≤ sizeLine ∧ Q (.int z.length) H) ∨ ∃ a kvs, xs = [V.ref a] ∧ H a = some (.dK kvs) ∧ Q (.int kvs.length) H)
theorem call_lenU {X : Cx} : CallR X (.builtin "len") (rLenU X.K) := call_len_seq.or (call_len_str.or call_lenD)
theorem c_lenS {z : Str} (hz : z.length ≤ 1000000) (p : P (.int z.length) ρ) : CaD K (rLenU K) [.str z] ρ P := fun σ F H Q us s r q => by
  obtain ⟨v, _, rfl, rv, rfl⟩ := r
  have e : v = .str z := rv
  subst e
  exact .inr (.inl ⟨z, rfl, Nat.le_trans hz (by decide), q _ _ _ F H p (Step.refl s) rfl⟩)
theorem c_lenL {ds : List Dt} (p : P (.int ds.length) ρ) : CaD K (rLenU K) [.lst ds] ρ P := fun σ F H Q us s r q => by
  obtain ⟨v, _, rfl, rv, rfl⟩ := r
  have e : Rep K F (.lst ds) v := rv
  unfold Rep at e
  obtain ⟨a, xs, rfl, h1, h2⟩ := e
  refine .inl ⟨a, xs, rfl, .inl (ex_l s.ex h1), ?_⟩
  rw [h2.length]
  exact q _ _ _ F H p (Step.refl s) rfl
theorem c_lenT {ds : List Dt} (p : P (.int ds.length) ρ) : CaD K (rLenU K) [.tup ds] ρ P := fun σ F H Q us s r q => by
  obtain ⟨v, _, rfl, rv, rfl⟩ := r
  have e : Rep K F (.tup ds) v := rv
  unfold Rep at e
  obtain ⟨a, xs, rfl, h1, h2⟩ := e
  refine .inl ⟨a, xs, rfl, .inr (ex_t s.ex h1), ?_⟩
  rw [h2.length]
  exact q _ _ _ F H p (Step.refl s) rfl
theorem c_lenO {k : Nat} {l : Bool} {ds : List Dt} (hk : ρ[k]? = some (.ow l (.lst ds))) (p : P (.int ds.length) ρ) : CaD K (rLenU K) [.own k] ρ P := fun σ F H Q us s r q => by
  obtain ⟨v, _, rfl, rv, rfl⟩ := r
  obtain ⟨a, e1, e2, xs, e3, e4⟩ := s.ow k l _ hk
  have eu : v = .ref a := by
    have z : σ[k]? = some (some v) := rv
    rw [e1] at z
    exact (Option.some.inj (Option.some.inj z)).symm
  subst eu
  refine .inl ⟨a, xs, rfl, .inl (sq_of e3), ?_⟩
  rw [e4.length]
  exact q _ _ _ F H p (Step.refl s) rfl
/-- the built-in type of data -/
def Dt.tyN : Dt → Option String
  | .non => some "NoneType"
  | .bl _ => some "bool"
  | .int _ => some "int"
  | .str _ => some "str"
  | .lst _ => some "list"
  | .tup _ => some "tuple"
  | .dic _ _ => some "dict"
  | _ => none
theorem tyX_of {d : Dt} {v : V} {T : String} (h : Rep K F d v) (e : Ex F H) (ht : d.tyN = some T) : TyX K H v (.type T) := by
  cases d with
  | non => unfold Rep at h; subst h; cases ht; exact .base .non
  | bl b => unfold Rep at h; subst h; cases ht; exact .base (.bl b)
  | int b => unfold Rep at h; subst h; cases ht; exact .base (.int b)
  | str b => unfold Rep at h; subst h; cases ht; exact .base (.str b)
  | lst ds =>
    unfold Rep at h
    obtain ⟨a, xs, rfl, h1, _⟩ := h
    cases ht
    rcases h1 with (h1 | ⟨o, h1⟩) | h1
    · exact .base (.lst (e _ _ h1))
    · exact .base (.frz (e _ _ h1))
    · obtain ⟨o, its, n, h2, h3, _⟩ := h1
      exact .kList h2 h3
  | tup ds =>
    unfold Rep at h
    obtain ⟨a, xs, rfl, h1, _⟩ := h
    cases ht
    rcases h1 with (h1 | ⟨o, h1⟩) | h1
    · exact .base (.tup (e _ _ h1))
    · exact .fTuple (e _ _ h1)
    · obtain ⟨o, its, n, h2, h3, _⟩ := h1
      exact .kTuple h2 h3
  | dic ks ds =>
    unfold Rep at h
    obtain ⟨a, xs, rfl, h1, _⟩ := h
    cases ht
    rcases h1 with h1 | ⟨o, h1⟩
    · exact .base (.dK (e _ _ h1))
    · exact .fDict (e _ _ h1)
  | _ => cases ht
theorem c_isi {d : Dt} {T n : String} {b : Bool} (ht : d.tyN = some T) (hk : kitB T n = some b) (p : P (.bl b) ρ) : CaD K (rIsi K) [d, .ty n] ρ P := fun σ F H Q us s r q => by
  obtain ⟨v, _, rfl, rv, w, _, rfl, rw', rfl⟩ := r
  have e : w = .ty n := rw'
  subst e
  have hr : d.real = true := by
    cases d with
    | own i => cases ht
    | _ => rfl
  exact ⟨v, .ty n, .type T, .type n, b, rfl, .ty n, tyX_of (rv.real hr) s.ex ht, kit_ty hk, q _ _ _ F H p (Step.refl s) rfl⟩
/-! ### methods of texts -/
def MtD (K : Frag) (r : V → List V → Hp → VK → Prop) (d : Dt) (ds : List Dt) (ρ : En) (P : Dt → En → Prop) : Prop :=
  ∀ (σ : L2.St) (F H : Hp) (Q : VK) (u : V) (us : List V), Sym K F H σ ρ → RepV K F σ d u → RepVL K F σ ds us → (∀ d' ρ' v' F' H', P d' ρ' → Step K σ ρ F H σ ρ' F' H' → RepV K F' σ d' v' → Q v' H') → r u us H Q
theorem e_bmS {r : V → List V → Hp → VK → Prop} {to : TE} {ta : TA} (h : EvD K W to ρ x fun d ρ1 => (∃ z, d = .str z) ∧ ArD K W ta ρ1 x fun ds ρ2 => MtD K r d ds ρ2 P) : EvD K W (tBM K "str" r to ta) ρ x P := fun σ F H Q s q w =>
  h σ F H _ s (fun d ρ1 v F1 H1 p1 s1 r1 => by
    obtain ⟨⟨z, rfl⟩, p1⟩ := p1
    have e : v = .str z := r1
    subst e
    exact ⟨rfl, p1 σ F1 H1 _ s1.sym (fun ds ρ2 vs F2 H2 p2 s2 r2 => p2 σ F2 H2 Q _ vs s2.sym (r1.mono s2.exF) r2 fun d' ρ3 v' F3 H3 p3 s3 r3 => q d' ρ3 v' F3 H3 p3 ((s1.trans s2).trans s3) r3)
      fun c ρ' cls dd F' H' px st xo => w c ρ' cls dd F' H' px (s1.trans st) xo⟩) w
def rStripC : V → List V → Hp → VK → Prop := fun x xs H Q => ∃ a b, x = .str a ∧ xs = [.str b] ∧ a.length ≤ sizeLine ∧ Q (.str (Txt.stripChars a b)) H
theorem mt_stripC {X : Cx} : MtR X "str.strip" rStripC := mt_stripChars
theorem m_stripC {a b : Str} (ha : a.length ≤ 1000000) (p : P (.str (Txt.stripChars a b)) ρ) : MtD K rStripC (.str a) [.str b] ρ P := fun σ F H Q u us s e r q => by
  cases e
  obtain ⟨v, _, rfl, rv, rfl⟩ := r
  have e : v = .str b := rv
  subst e
  exact ⟨a, b, rfl, rfl, Nat.le_trans ha (by decide), q _ _ _ F H p (Step.refl s) rfl⟩
/-! ### displays -/
theorem fz_at {p : Addr} {o : HO} (h : H p = none) : Fz F H (upd H p o) p = some o := by rw [fz_new h]; exact upd_same
theorem e_tup {ta : TA} (h : ArD K W ta ρ x fun ds ρ1 => allReal ds = true ∧ ds.length ≤ 100000 ∧ P (.tup ds) ρ1) : EvD K W (tTup ta) ρ x P := fun σ F H Q s q w =>
  h σ F H _ s (fun ds ρ1 vs F1 H1 p s1 r => by
    obtain ⟨hr, hl, p⟩ := p
    have rr := r.real hr
    refine ⟨sz_of (by rw [rr.length]; exact hl), fun a ha => ?_⟩
    have g : Ex H1 (upd H1 a (.tup vs)) := Ex.new ha
    refine q (.tup ds) ρ1 (.ref a) _ _ p (s1.trans (Step.grow s1.sym g)) ?_
    show Rep K (Fz F1 H1 (upd H1 a (.tup vs))) (.tup ds) (.ref a)
    unfold Rep
    exact ⟨a, vs, rfl, st_of (fz_at ha), rr.mono (fz_ex s1.sym.ex)⟩) w
theorem e_lst {ta : TA} (h : ArD K W ta ρ x fun ds ρ1 => allReal ds = true ∧ ds.length ≤ 100000 ∧ P (.lst ds) ρ1) : EvD K W (tLst ta) ρ x P := fun σ F H Q s q w =>
  h σ F H _ s (fun ds ρ1 vs F1 H1 p s1 r => by
    obtain ⟨hr, hl, p⟩ := p
    have rr := r.real hr
    refine ⟨sz_of (by rw [rr.length]; exact hl), fun a ha => ?_⟩
    have g : Ex H1 (upd H1 a (.lst vs)) := Ex.new ha
    refine q (.lst ds) ρ1 (.ref a) _ _ p (s1.trans (Step.grow s1.sym g)) ?_
    show Rep K (Fz F1 H1 (upd H1 a (.lst vs))) (.lst ds) (.ref a)
    unfold Rep
    exact ⟨a, vs, rfl, sq_of (fz_at ha), rr.mono (fz_ex s1.sym.ex)⟩) w
/-! ### a new object in a slot -/
/-- an expression that makes a new object; it is not frozen -/
def EvN (K : Frag) (W : WX) (te : TE) (ρ : En) (x : PX) (P : Dt → En → Prop) : Prop :=
  ∀ (σ : L2.St) (F H : Hp) (Q : VK), Sym K F H σ ρ → (∀ d ρ' p o F' H', P d ρ' → Step K σ ρ F H σ ρ' F' H' → H' p = none → Own K F' (upd H' p o) p d → Q (.ref p) (upd H' p o)) →
    (∀ c ρ' cls dd F' H', x c ρ' → Step K σ ρ F H σ ρ' F' H' → XOk K F' c cls dd → W cls dd σ H') → te σ H Q
theorem ex_free {p : Addr} (e : Ex F H) (h : H p = none) : F p = none := by
  cases q : F p with
  | none => rfl
  | some o =>
    rw [e p o q] at h
    cases h
theorem OwA.of_take {i : Nat} {d : Dt} {p a : Addr} (h : OwA (σ.set i (some (.ref p))) (ρ.set i (.ow false d)) a) : OwA σ ρ a ∨ a = p := by
  obtain ⟨j, l, e, h1, h2⟩ := h
  by_cases hj : i = j
  · subst hj
    have hs : i < σ.length := by
      have := (List.getElem?_eq_some_iff.mp h2).1
      rw [List.length_set] at this
      exact this
    rw [List.getElem?_set_self hs] at h2
    have z := Option.some.inj (Option.some.inj h2)
    injection z with z
    exact .inr z.symm
  · rw [List.getElem?_set_ne hj] at h1 h2
    exact .inl ⟨j, l, e, h1, h2⟩
theorem Sym.more {p : Addr} {o : HO} (s : Sym K F H σ ρ) (hp : H p = none) : Sym K F (upd H p o) σ ρ := by
  have g : Ex H (upd H p o) := Ex.new hp
  exact ⟨s.ex.trans g, s.len, s.sh, fun i l d h => by
    obtain ⟨q, a, b, c⟩ := s.ow i l d h
    cases e : H q with
    | none => exact absurd e c.there
    | some u => exact ⟨q, a, b, c.mono (Ex.refl F) (by rw [g q u e, e])⟩, s.inj⟩
theorem Step.take {i : Nat} {d : Dt} {p : Addr} {o : HO} (s : Sym K F H σ ρ) (hl : lent ρ i = false) (hp : H p = none) (ho : Own K F (upd H p o) p d) : Step K σ ρ F H (σ.set i (some (.ref p))) (ρ.set i (.ow false d)) F (upd H p o) where
  sym := (s.more hp).take (ex_free s.ex hp) (fun j l e h1 h2 => by
    obtain ⟨q, a, b, c⟩ := s.ow j l e h1
    rw [h2] at a
    have z := Option.some.inj (Option.some.inj a)
    injection z with z
    subst z
    exact c.there hp) ho
  exF := Ex.refl F
  keep := fun a u h _ => Ex.new hp a u h
  own := fun a h => by
    rcases h.of_take with y | y
    · exact .inl y
    · rw [y]
      exact .inr hp
  new := fun a h => .inl h
  all := fun a h => by
    cases q : H a with
    | none => exact absurd q h
    | some u => rw [Ex.new hp a u q]; exact fun z => nomatch z
  stay := fun j e z => by
    have hj : i ≠ j := fun y => by
      subst y
      exact lent_no hl z
    exact ⟨e, by rw [List.getElem?_set_ne hj]; exact z, by rw [List.getElem?_set_ne hj]⟩
theorem s_own {te : TE} {i : Nat} {P : Pd} (h : EvN K W te ρ P.ex fun d ρ1 => lent ρ1 i = false ∧ P.nx (ρ1.set i (.ow false d))) : StD K W (tAsg te (gName i)) ρ P := fun σ F H D s l =>
  h σ F H _ s (fun d ρ' p o F' H' pp st hp ho => l.nx _ _ F' _ pp.2 (st.trans (Step.take st.sym pp.1 hp ho))) fun c ρ' cls dd F' H' p st xo => l.ex c ρ' cls dd σ F' H' p st xo
theorem n_lst {ta : TA} (h : ArD K W ta ρ x fun ds ρ1 => allReal ds = true ∧ ds.length ≤ 100000 ∧ P (.lst ds) ρ1) : EvN K W (tLst ta) ρ x P := fun σ F H Q s q w =>
  h σ F H _ s (fun ds ρ1 vs F1 H1 p s1 r => by
    obtain ⟨hr, hl, p⟩ := p
    have rr := r.real hr
    exact ⟨sz_of (by rw [rr.length]; exact hl), fun a ha => q (.lst ds) ρ1 a (.lst vs) F1 H1 p s1 ha ⟨vs, upd_same, rr⟩⟩) w
/-- a new object that is frozen at once -/
theorem rep_own {p : Addr} {o : HO} {d : Dt} (h : Own K F (upd H p o) p d) (hp : H p = none) (e : Ex F H) : Rep K (Fz F H (upd H p o)) d (.ref p) := by
  have f := fz_at (F := F) (o := o) hp
  have m : Ex F (Fz F H (upd H p o)) := fz_ex e
  cases d with
  | lst ds =>
    obtain ⟨xs, h1, h2⟩ := h
    rw [upd_same] at h1
    cases h1
    unfold Rep
    exact ⟨p, xs, rfl, sq_of f, h2.mono m⟩
  | dic ks ds =>
    obtain ⟨xs, h1, h2, h3⟩ := h
    rw [upd_same] at h1
    cases h1
    unfold Rep
    exact ⟨p, xs, rfl, .inl f, h2, h3.mono m⟩
  | ins C fs ds =>
    obtain ⟨dx, xs, h1, h2, h3⟩ := h
    rw [upd_same] at h1
    cases h1
    unfold Rep
    exact ⟨p, dx, xs, rfl, f, h2, h3.mono m⟩
  | _ => exact h.elim
theorem e_new {te : TE} (h : EvN K W te ρ x P) : EvD K W te ρ x P := fun σ F H Q s q w =>
  h σ F H Q s (fun d ρ' p o F' H' pp st hp ho => q d ρ' (.ref p) _ _ pp (st.trans (Step.grow st.sym (Ex.new hp))) (rep_own ho hp st.sym.ex).toV) w
/-! ### a slot's own object is frozen -/
theorem Step.freeze {i : Nat} {d : Dt} (s : Sym K F H σ ρ) (hi : ρ[i]? = some (.ow false d)) : ∃ F', Step K σ ρ F H σ (ρ.set i (.sh d)) F' H := by
  obtain ⟨p, a, b, c⟩ := s.ow i false d hi
  have hil : i < ρ.length := (List.getElem?_eq_some_iff.mp hi).1
  obtain ⟨o, ho⟩ : ∃ o, H p = some o := by
    cases q : H p with
    | none => exact absurd q c.there
    | some o => exact ⟨o, rfl⟩
  have m : Ex F (upd F p o) := Ex.new b
  have hr : Rep K (upd F p o) d (.ref p) := by
    cases d with
    | lst ds =>
      obtain ⟨xs, h1, h2⟩ := c
      rw [ho] at h1
      cases h1
      unfold Rep
      exact ⟨p, xs, rfl, sq_of upd_same, h2.mono m⟩
    | dic ks ds =>
      obtain ⟨xs, h1, h2, h3⟩ := c
      rw [ho] at h1
      cases h1
      unfold Rep
      exact ⟨p, xs, rfl, .inl upd_same, h2, h3.mono m⟩
    | ins C fs ds =>
      obtain ⟨dx, xs, h1, h2, h3⟩ := c
      rw [ho] at h1
      cases h1
      unfold Rep
      exact ⟨p, dx, xs, rfl, upd_same, h2, h3.mono m⟩
    | _ => exact c.elim
  refine ⟨upd F p o, ?_⟩
  exact {
    sym := {
      ex := fun q u e => by
        by_cases z : q = p
        · subst z
          rw [upd_same] at e
          cases e
          exact ho
        · rw [upd_ne z] at e
          exact s.ex q u e
      len := by rw [List.length_set]; exact s.len
      sh := fun j e h => by
        by_cases hj : i = j
        · subst hj
          rw [List.getElem?_set_self hil] at h
          cases h
          exact ⟨_, a, hr⟩
        · rw [List.getElem?_set_ne hj] at h
          obtain ⟨v, e1, e2⟩ := s.sh j e h
          exact ⟨v, e1, e2.mono m⟩
      ow := fun j l e h => by
        by_cases hj : i = j
        · subst hj
          rw [List.getElem?_set_self hil] at h
          cases h
        · rw [List.getElem?_set_ne hj] at h
          obtain ⟨q, e1, e2, e3⟩ := s.ow j l e h
          have ne : q ≠ p := fun z => by
            subst z
            exact hj (s.inj i j false l d e q hi h a e1)
          exact ⟨q, e1, by rw [upd_ne ne]; exact e2, e3.mono m rfl⟩
      inj := fun j k l n e f q h1 h2 h3 h4 => by
        have t : ∀ {j : Nat} {l : Bool} {e : Dt}, (ρ.set i (.sh d))[j]? = some (.ow l e) → ρ[j]? = some (.ow l e) := fun {j l e} h => by
          by_cases hj : i = j
          · subst hj
            rw [List.getElem?_set_self hil] at h
            cases h
          · rw [List.getElem?_set_ne hj] at h
            exact h
        exact s.inj j k l n e f q (t h1) (t h2) h3 h4 }
    exF := m
    keep := fun _ _ h _ => h
    own := fun q h => by
      obtain ⟨j, l, e, h1, h2⟩ := h
      have hj : i ≠ j := fun z => by
        subst z
        rw [List.getElem?_set_self hil] at h1
        cases h1
      rw [List.getElem?_set_ne hj] at h1
      exact .inl ⟨j, l, e, h1, h2⟩
    new := fun q h => by
      by_cases z : q = p
      · subst z
        exact .inr (.inr ⟨i, false, d, hi, a⟩)
      · rw [upd_ne z] at h
        exact .inl h
    all := fun _ h => h
    stay := fun j e h => by
      have hj : i ≠ j := fun z => by
        subst z
        rw [hi] at h
        cases h
      exact ⟨e, by rw [List.getElem?_set_ne hj]; exact h, rfl⟩ }
theorem s_freeze {t : TS} {P : Pd} (i : Nat) {d : Dt} (hi : ρ[i]? = some (.ow false d)) (h : StD K W t (ρ.set i (.sh d)) P) : StD K W t ρ P := fun σ F H D s l => by
  obtain ⟨F', st⟩ := Step.freeze s hi
  exact h σ F' H D st.sym (l.later st)
theorem e_freeze {te : TE} (i : Nat) {d : Dt} (hi : ρ[i]? = some (.ow false d)) (h : EvD K W te (ρ.set i (.sh d)) x P) : EvD K W te ρ x P := fun σ F H Q s q w => by
  obtain ⟨F1, st⟩ := Step.freeze s hi
  exact h σ F1 H Q st.sym (fun d ρ' v F' H' p st' => q d ρ' v F' H' p (st.trans st')) fun c ρ' cls dd F' H' p st' => w c ρ' cls dd F' H' p (st.trans st')
/-! ### stores -/
def SeD (K : Frag) (r : TSet) (o i d : Dt) (ρ : En) (P : En → Prop) : Prop :=
  ∀ (σ : L2.St) (F H : Hp) (Q : Hp → Prop) (u v z : V), Sym K F H σ ρ → RepV K F σ o u → RepV K F σ i v → Rep K F d z → (∀ ρ' F' H', P ρ' → Step K σ ρ F H σ ρ' F' H' → Q H') → r u v z H Q
theorem s_put {te to ti : TE} {r : TSet} {P : Pd} (h : EvD K W te ρ P.ex fun d ρ1 => d.real = true ∧ EvD K W to ρ1 P.ex fun o ρ2 => EvD K W ti ρ2 P.ex fun i ρ3 => SeD K r o i d ρ3 P.nx) : StD K W (tAsg te (gSub to ti r)) ρ P := fun σ F H D s l =>
  h σ F H _ s (fun d ρ1 v F1 H1 p1 s1 r1 => by
    obtain ⟨hr, p1⟩ := p1
    refine p1 σ F1 H1 _ s1.sym (fun o ρ2 u F2 H2 p2 s2 r2 => p2 σ F2 H2 _ s2.sym (fun i ρ3 y F3 H3 p3 s3 r3 => p3 σ F3 H3 _ u y v s3.sym (r2.mono s3.exF) r3 (((r1.real hr).mono s2.exF).mono s3.exF) fun ρ4 F4 H4 p4 s4 => l.nx ρ4 σ F4 H4 p4 (((s1.trans s2).trans s3).trans s4)) ?_) ?_
    · exact fun c ρ' cls dd F' H' px st xo => l.ex c ρ' cls dd σ F' H' px ((s1.trans s2).trans st) xo
    · exact fun c ρ' cls dd F' H' px st xo => l.ex c ρ' cls dd σ F' H' px (s1.trans st) xo) fun c ρ' cls dd F' H' p st xo => l.ex c ρ' cls dd σ F' H' p st xo
theorem RepL.set {ds : List Dt} {xs : List V} {d : Dt} {v : V} (j : Nat) (r : RepL K F ds xs) (h : Rep K F d v) : RepL K F (ds.set j d) (xs.set j v) := by
  induction ds generalizing xs j with
  | nil =>
    unfold RepL at r
    subst r
    exact repL_nil
  | cons c ds ih =>
    unfold RepL at r
    obtain ⟨u, us, rfl, r1, r2⟩ := r
    cases j with
    | zero => exact repL_cons h r2
    | succ j => exact repL_cons r1 (ih j r2)
theorem w_lst {k : Nat} {l : Bool} {ds : List Dt} {i : Int} {j : Nat} {d : Dt} {P : En → Prop} (hk : ρ[k]? = some (.ow l (.lst ds))) (hj : ixN ds.length i = some j) (p : P (ρ.set k (.ow l (.lst (ds.set j d))))) : SeD K rSetL (.own k) (.int i) d ρ P := fun σ F H Q u v z s e f g q => by
  cases f
  obtain ⟨a, e1, e2, xs, e3, e4⟩ := s.ow k l _ hk
  have eu : u = .ref a := by
    have z : σ[k]? = some (some u) := e
    rw [e1] at z
    exact (Option.some.inj (Option.some.inj z)).symm
  subst eu
  refine ⟨a, xs, i, j, rfl, rfl, e3, by rw [e4.length]; exact hj, ?_⟩
  exact q _ F _ p (Step.write s hk e1 ⟨xs.set j z, upd_same, e4.set j g⟩)
theorem e_callN {S : Fsp} {ta : TA} (h : ArD K W ta ρ x fun ds ρ1 => ∃ i, ds = S.arg i ∧ allReal ds = true ∧ S.pre i ∧ (∀ d, S.post i d → P d ρ1) ∧ ∀ c, S.exc i c → x c ρ1) :
    EvN K W (tCallS (NSp K S) (WE W) ta) ρ x P := fun σ F H Q s q w =>
  h σ F H _ s (fun ds ρ1 vs F1 H1 p s1 r => by
    obtain ⟨i, rfl, hr, hp, hk, hx⟩ := p
    exact ⟨F1, i, s1.sym.ex, r.real hr, hp, fun d pd a o H' e ha ho => q d ρ1 a o _ H' (hk d pd) (s1.trans (Step.grow s1.sym e)) ha ho, fun c pc cls dd H' e xo => w c ρ1 cls dd _ H' (hx c pc) (s1.trans (Step.grow s1.sym e)) xo⟩) w
theorem Step.more {p : Addr} {o : HO} (s : Sym K F H σ ρ) (hp : H p = none) : Step K σ ρ F H σ ρ F (upd H p o) :=
  ⟨s.more hp, Ex.refl F, fun a u h _ => Ex.new hp a u h, fun _ h => .inl h, fun _ h => .inl h, fun a h => by
    cases q : H a with
    | none => exact absurd q h
    | some u => rw [Ex.new hp a u q]; exact (fun z => nomatch z), fun _ d h => ⟨d, h, rfl⟩⟩
/-- return of a new object -/
theorem s_retNew {te : TE} {P : Pd} (h : EvN K W te ρ P.ex fun d ρ1 => P.rn d ρ1) : StD K W (tRet te) ρ P := fun σ F H D s l =>
  h σ F H _ s (fun d ρ' p o F' H' pp st hp ho => l.rn d ρ' p σ F' _ pp (st.trans (Step.more st.sym hp)) (ex_free st.sym.ex hp) ho (.inr (by
    cases q : H p with
    | none => rfl
    | some u => exact absurd hp (st.all p (by rw [q]; exact fun z => nomatch z))))) fun c ρ' cls dd F' H' p st xo => l.ex c ρ' cls dd σ F' H' p st xo
/-- return of a slot's own object -/
theorem s_retOwn {i : Nat} {d : Dt} {P : Pd} (hi : ρ[i]? = some (.ow false d)) (p : P.rn d ρ) : StD K W (tRet (tVar i)) ρ P := fun σ F H D s l => by
  obtain ⟨a, e1, e2, e3⟩ := s.ow i false d hi
  exact ⟨.ref a, e1, l.rn d ρ a σ F H p (Step.refl s) e2 e3 (.inl ⟨i, false, d, hi, e1⟩)⟩
/-! ### loops -/
/-! ### forgetting -/
def Sl.ln : Sl → Bool
  | .ow true _ => true
  | _ => false
inductive Fg : En → En → Prop where
  | nil : Fg [] []
  | keep {a : Sl} {r s : En} (h : Fg r s) : Fg (a :: r) (a :: s)
  | drop {a : Sl} {r s : En} (h : Fg r s) (ha : a.ln = false := by rfl) : Fg (a :: r) (.no :: s)
theorem Fg.refl : ∀ ρ : En, Fg ρ ρ
  | [] => .nil
  | _ :: r => .keep (Fg.refl r)
theorem Fg.get {r s : En} (h : Fg r s) : ∀ i : Nat, s[i]? = r[i]? ∨ (s[i]? = some .no ∧ ∃ a, r[i]? = some a ∧ a.ln = false) := by
  induction h with
  | nil => exact fun i => .inl rfl
  | keep _ ih =>
    intro i
    cases i with
    | zero => exact .inl rfl
    | succ i => simpa using ih i
  | @drop a r s _ ha ih =>
    intro i
    cases i with
    | zero => exact .inr ⟨rfl, a, rfl, ha⟩
    | succ i => simpa using ih i
theorem Fg.len {r s : En} (h : Fg r s) : s.length = r.length := by
  induction h with
  | nil => rfl
  | keep _ ih => rw [List.length_cons, List.length_cons, ih]
  | drop _ _ ih => rw [List.length_cons, List.length_cons, ih]
theorem Step.forget {ρ' : En} (s : Sym K F H σ ρ) (g : Fg ρ ρ') : Step K σ ρ F H σ ρ' F H where
  sym := {
    ex := s.ex
    len := by rw [g.len]; exact s.len
    sh := fun i d h => by
      rcases g.get i with e | ⟨e, _⟩
      · exact s.sh i d (e ▸ h)
      · rw [e] at h
        cases h
    ow := fun i l d h => by
      rcases g.get i with e | ⟨e, _⟩
      · exact s.ow i l d (e ▸ h)
      · rw [e] at h
        cases h
    inj := fun i j l m d e p h1 h2 => by
      rcases g.get i with z | ⟨z, _⟩
      · rcases g.get j with y | ⟨y, _⟩
        · exact s.inj i j l m d e p (z ▸ h1) (y ▸ h2)
        · rw [y] at h2
          cases h2
      · rw [z] at h1
        cases h1 }
  exF := Ex.refl F
  keep := fun _ _ h _ => h
  own := fun a h => by
    obtain ⟨i, l, d, h1, h2⟩ := h
    rcases g.get i with z | ⟨z, _⟩
    · exact .inl ⟨i, l, d, z ▸ h1, h2⟩
    · rw [z] at h1
      cases h1
  new := fun _ h => .inl h
  all := fun _ h => h
  stay := fun i d h => by
    rcases g.get i with z | ⟨z, a, e, hl⟩
    · exact ⟨d, z ▸ h, rfl⟩
    · rw [h] at e
      cases e
      cases hl
theorem s_forget {t : TS} {P : Pd} {ρ' : En} (g : Fg ρ ρ') (h : StD K W t ρ' P) : StD K W t ρ P := fun σ F H D s l => h σ F H D (Step.forget s g).sym (l.later (Step.forget s g))
/-- a loop's body: what its ends are -/
def upFg (I : En → Prop) : En → Prop := fun ρ => ∃ ρ', Fg ρ ρ' ∧ I ρ'
def Pd.loop (P : Pd) (I : En → Prop) (B : En → Prop) : Pd := { nx := upFg I, rt := P.rt, rn := P.rn, bk := B, ct := upFg I, ex := P.ex }
structure LoopZ (Z Z' : Pd) (I : En → Prop) (B : En → Prop) : Prop where
  nx : ∀ ρ ρ', Fg ρ ρ' → I ρ' → Z'.nx ρ
  ct : ∀ ρ ρ', Fg ρ ρ' → I ρ' → Z'.ct ρ
  bk : ∀ ρ, B ρ → Z'.bk ρ
  rt : ∀ d ρ, Z.rt d ρ → Z'.rt d ρ
  rn : ∀ d ρ, Z.rn d ρ → Z'.rn d ρ
  ex : ∀ c ρ, Z.ex c ρ → Z'.ex c ρ
theorem loopZ {Z : Pd} {I B : En → Prop} : LoopZ Z (Z.loop I B) I B := ⟨fun _ ρ' g p => ⟨ρ', g, p⟩, fun _ ρ' g p => ⟨ρ', g, p⟩, fun _ h => h, fun _ _ h => h, fun _ _ h => h, fun _ _ h => h⟩
/-- for k in range(n) -/
theorem s_forR {ta : TA} {j : Nat} {tb : TS} {P : Pd} (h : ArD K W ta ρ P.ex fun ds ρ1 => ∃ (n : Int), ds = [.int n] ∧ -100000 ≤ n ∧ n ≤ 100000 ∧ ∃ I : Nat → En → Prop, I 0 ρ1 ∧
      (∀ (i : Nat) ρ', (i : Int) < n → I i ρ' → lent ρ' j = false ∧ StD K W tb (ρ'.set j (.sh (.int i))) (P.loop (I (i + 1)) P.nx)) ∧ ∀ ρ', I n.toNat ρ' → P.nx ρ') :
    StD K W (tFor (iRng1 ta) (gName j) tb) ρ P := fun σ F H D s l =>
  h σ F H _ s (fun ds ρ1 vs F1 H1 p s1 r => by
    obtain ⟨n, rfl, hn1, hn, I, h0, hs, hd⟩ := p
    obtain ⟨v, _, rfl, rv, rfl⟩ := r
    have e : v = .int n := rv
    subst e
    refine ⟨n, rfl, by omega, by omega, for_range (lo := 0) (n := n.toNat) (fun i σ' H' => ∃ F' ρ', I i ρ' ∧ Step K σ ρ1 F1 H1 σ' ρ' F' H') ⟨F1, ρ1, h0, Step.refl s1.sym⟩ (fun i σ' H' hi ⟨F', ρ', p, st⟩ => ?_)
          fun σ' H' ⟨F', ρ', p, st⟩ => l.nx ρ' σ' F' H' (hd ρ' p) (s1.trans st)⟩
    obtain ⟨hl, hb⟩ := hs i ρ' (by omega) p
    have e0 : (0 : Int) + (i : Int) = (i : Int) := Int.zero_add _
    show tb _ (σ'.set j (some (.int ((0 : Int) + (i : Int))))) H'
    rw [e0]
    have st2 := Step.set (i := j) (d := .int i) (v := .int i) st.sym hl (by unfold Rep; rfl)
    have all := (s1.trans st).trans st2
    refine hb _ F' H' _ st2.sym ⟨fun ρ2 σ2 F2 H2 ⟨ρ3, g3, p3⟩ t2 => ⟨F2, ρ3, p3, ((st.trans st2).trans t2).trans (Step.forget t2.sym g3)⟩, fun d ρ2 v σ2 F2 H2 p2 t2 r2 => l.rt d ρ2 v σ2 F2 H2 p2 (all.trans t2) r2, ((l.later all).rn), fun ρ2 σ2 F2 H2 p2 t2 => l.nx ρ2 σ2 F2 H2 p2 (all.trans t2),
      fun ρ2 σ2 F2 H2 ⟨ρ3, g3, p3⟩ t2 => ⟨F2, ρ3, p3, ((st.trans st2).trans t2).trans (Step.forget t2.sym g3)⟩, fun c ρ2 cls dd σ2 F2 H2 p2 t2 x2 => l.ex c ρ2 cls dd σ2 F2 H2 p2 (all.trans t2) x2⟩) fun c ρ' cls dd F' H' p st xo => l.ex c ρ' cls dd σ F' H' p st xo
/-! ### a statement and the rest -/
variable {Z : Pd} {te : TE} {u : TS}
theorem ss_set {i : Nat} (h : EvD K W te ρ Z.ex fun d ρ1 => d.real = true ∧ lent ρ1 i = false ∧ StD K W u (ρ1.set i (.sh d)) Z) : StD K W (tSeq (tAsg te (gName i)) u) ρ Z := s_seq (s_set h)
theorem ss_own {i : Nat} (h : EvN K W te ρ Z.ex fun d ρ1 => lent ρ1 i = false ∧ StD K W u (ρ1.set i (.ow false d)) Z) : StD K W (tSeq (tAsg te (gName i)) u) ρ Z := s_seq (s_own h)
theorem ss_drop (h : EvD K W te ρ Z.ex fun _ ρ1 => StD K W u ρ1 Z) : StD K W (tSeq (tDrop te) u) ρ Z := s_seq (s_drop h)
theorem ss_put {to ti : TE} {r : TSet} (h : EvD K W te ρ Z.ex fun d ρ1 => d.real = true ∧ EvD K W to ρ1 Z.ex fun o ρ2 => EvD K W ti ρ2 Z.ex fun i ρ3 => SeD K r o i d ρ3 fun ρ4 => StD K W u ρ4 Z) : StD K W (tSeq (tAsg te (gSub to ti r)) u) ρ Z := s_seq (s_put h)
theorem ss_next (h : StD K W u ρ Z) : StD K W (tSeq tNext u) ρ Z := s_seq (s_next h)
theorem ss_ret (h : EvD K W te ρ Z.ex fun d ρ1 => d.real = true ∧ Z.rt d ρ1) : StD K W (tSeq (tRet te) u) ρ Z := s_seq (s_ret h)
theorem ss_assoc {t v : TS} (h : StD K W (tSeq t (tSeq v u)) ρ Z) : StD K W (tSeq (tSeq t v) u) ρ Z := h
theorem ss_if {c : TT} {t v : TS} (h : TtD K W c ρ Z.ex fun b ρ1 => (b = true → StD K W (tSeq t u) ρ1 Z) ∧ (b = false → StD K W (tSeq v u) ρ1 Z)) : StD K W (tSeq (tIfS c t v) u) ρ Z := fun σ F H D s l =>
  h σ F H _ s (fun b ρ' F' H' p st => by
    cases b with
    | true => exact p.1 rfl σ F' H' D st.sym (l.later st)
    | false => exact p.2 rfl σ F' H' D st.sym (l.later st)) fun c ρ' cls dd F' H' p st xo => l.ex c ρ' cls dd σ F' H' p st xo
theorem ss_forR {ta : TA} {j : Nat} {tb : TS} (h : ArD K W ta ρ Z.ex fun ds ρ1 => ∃ (n : Int), ds = [.int n] ∧ -100000 ≤ n ∧ n ≤ 100000 ∧ ∃ I : Nat → En → Prop, I 0 ρ1 ∧
      (∀ (i : Nat) ρ', (i : Int) < n → I i ρ' → lent ρ' j = false ∧ ∀ Z', LoopZ Z Z' (I (i + 1)) (fun ρ2 => StD K W u ρ2 Z) → StD K W tb (ρ'.set j (.sh (.int i))) Z') ∧ ∀ ρ', I n.toNat ρ' → StD K W u ρ' Z) :
    StD K W (tSeq (tFor (iRng1 ta) (gName j) tb) u) ρ Z := s_seq (s_forR (fun σ F H Q s q w => h σ F H Q s (fun ds ρ1 vs F1 H1 ⟨n, e, h1, h2, I, h3, h4, h5⟩ => q ds ρ1 vs F1 H1 ⟨n, e, h1, h2, I, h3, fun i ρ' hi p => ⟨(h4 i ρ' hi p).1, (h4 i ρ' hi p).2 _ loopZ⟩, h5⟩) w))
end
end DL
set_option Elab.async false
set_option linter.all false
set_option maxRecDepth 100000
set_option autoImplicit false
set_option maxHeartbeats 4000000
namespace DL
open PySem L2 Evl PyProof.Rows
theorem len_app (x y : Str) : (x ++ y).length = x.length + y.length := by
  obtain ⟨a⟩ := x
  obtain ⟨b⟩ := y
  show (a ++ b).size = a.size + b.size
  exact Array.size_append
theorem kb_NoneType_bool : kitB "NoneType" "bool" = some false := by decide +kernel
theorem kb_NoneType_int : kitB "NoneType" "int" = some false := by decide +kernel
theorem kb_NoneType_str : kitB "NoneType" "str" = some false := by decide +kernel
theorem kb_NoneType_list : kitB "NoneType" "list" = some false := by decide +kernel
theorem kb_NoneType_tuple : kitB "NoneType" "tuple" = some false := by decide +kernel
theorem kb_NoneType_dict : kitB "NoneType" "dict" = some false := by decide +kernel
theorem kb_bool_bool : kitB "bool" "bool" = some true := by decide +kernel
theorem kb_bool_int : kitB "bool" "int" = some true := by decide +kernel
theorem kb_bool_str : kitB "bool" "str" = some false := by decide +kernel
theorem kb_bool_list : kitB "bool" "list" = some false := by decide +kernel
theorem kb_bool_tuple : kitB "bool" "tuple" = some false := by decide +kernel
theorem kb_bool_dict : kitB "bool" "dict" = some false := by decide +kernel
theorem kb_int_bool : kitB "int" "bool" = some false := by decide +kernel
theorem kb_int_int : kitB "int" "int" = some true := by decide +kernel
theorem kb_int_str : kitB "int" "str" = some false := by decide +kernel
theorem kb_int_list : kitB "int" "list" = some false := by decide +kernel
theorem kb_int_tuple : kitB "int" "tuple" = some false := by decide +kernel
theorem kb_int_dict : kitB "int" "dict" = some false := by decide +kernel
theorem kb_str_bool : kitB "str" "bool" = some false := by decide +kernel
theorem kb_str_int : kitB "str" "int" = some false := by decide +kernel
theorem kb_str_str : kitB "str" "str" = some true := by decide +kernel
theorem kb_str_list : kitB "str" "list" = some false := by decide +kernel
theorem kb_str_tuple : kitB "str" "tuple" = some false := by decide +kernel
theorem kb_str_dict : kitB "str" "dict" = some false := by decide +kernel
theorem kb_list_bool : kitB "list" "bool" = some false := by decide +kernel
theorem kb_list_int : kitB "list" "int" = some false := by decide +kernel
theorem kb_list_str : kitB "list" "str" = some false := by decide +kernel
theorem kb_list_list : kitB "list" "list" = some true := by decide +kernel
theorem kb_list_tuple : kitB "list" "tuple" = some false := by decide +kernel
theorem kb_list_dict : kitB "list" "dict" = some false := by decide +kernel
theorem kb_tuple_bool : kitB "tuple" "bool" = some false := by decide +kernel
theorem kb_tuple_int : kitB "tuple" "int" = some false := by decide +kernel
theorem kb_tuple_str : kitB "tuple" "str" = some false := by decide +kernel
theorem kb_tuple_list : kitB "tuple" "list" = some false := by decide +kernel
theorem kb_tuple_tuple : kitB "tuple" "tuple" = some true := by decide +kernel
theorem kb_tuple_dict : kitB "tuple" "dict" = some false := by decide +kernel
theorem kb_dict_bool : kitB "dict" "bool" = some false := by decide +kernel
theorem kb_dict_int : kitB "dict" "int" = some false := by decide +kernel
theorem kb_dict_str : kitB "dict" "str" = some false := by decide +kernel
theorem kb_dict_list : kitB "dict" "list" = some false := by decide +kernel
theorem kb_dict_tuple : kitB "dict" "tuple" = some false := by decide +kernel
theorem kb_dict_dict : kitB "dict" "dict" = some true := by decide +kernel
theorem len_one (c : Nat) : (⟨#[c]⟩ : Str).length = 1 := rfl
/-- a def of the module that keeps a promise -/
def FnG (P : Program) (w : World) (K : Frag) (mg : Str → Option Value) (base : Heap) (k : Nat) (x : Str) (ps : List Str) (sp : Sp) : Prop :=
  ∃ (f : Addr) (fd : FuncData), mg x = some (.ref f) ∧ PySem.W.keepIn K (.ref f) = true ∧ FnOk P w K mg base (L2.CX P w) k f fd ps sp ∧ Binds K fd ps []
/-- the law's end -/
theorem walk_W {l : PySem.W.OpenLaw} {n k : Nat} {q : Program} {loose : List Str} {XP : (Str → Option Value) → Heap → Prop} {YP : World → Heap → Prop} {d : DefRec} {x : Str}
    (hn : l.most = some n) (hn2 : n ≤ sizeLine) (hdf : d.params.defaults = []) (hr : Room k callerA)
    (F : ∀ (w : World) (mg : Str → Option Value) (fa : Addr) (h : Heap), YP w h → h.Ns mainGlobals mg → mg d.name = some (.ref fa) →
      ∃ (K : PySem.W.Frag) (fd : FuncData) (sp : Sp), K.In h ∧ (∀ (s : Shared) (u : Value), BindsTo s fd ⟨[u], []⟩ [(x, u)]) ∧
        (∀ (H : Hp) (a : Addr) (ns : List Int), ns.length ≤ n → Only H → SqL K H a (ns.map V.int) → sp [.ref a] H (fun v _ => v = .bl true) fun _ _ _ => False) ∧
        ∀ base : Heap, K.In base → base.Ns mainGlobals mg → FnOk l.prog w K mg base (L2.CX l.prog w) k fa fd [x] sp) :
    PySem.W.WalkO q loose XP YP l.row.toRowW d [] (fun f vs => PySem.call f vs) := by
  refine Att.attach_call hn hdf fun w s₀ s₁ mg mb fa o pm cd doc a vs ns G Y ho hd hcd hmg hobj hints hlen hg => ?_
  obtain ⟨K, fd, sp, KX, hb, hsp, hF⟩ := F w mg fa _ Y G.T.g hmg
  refine law_call KX G.T.g G.T.b G.T.builtins G.T.nolimit hg hobj hints (Nat.le_trans hlen hn2) hr hF hb (fun H hO hS => hsp H a ns hlen hO hS) fun H e s' h => ?_
  obtain ⟨_, _, _, _, _, _, _, _, _, _, _, _, z⟩ := h
  exact z.elim
section
variable {X : Cx} {k : Nat} {x : Str} {ps : List Str} {sp : Sp} {p pos : Pos} {e : Expr} {es : List Expr} {t : TA} {W : WX}
theorem pe_fn (G : FnG X.prog X.w X.K X.mg X.base k x ps sp) (hr : Room k X.A) (tk : Takes X W) (hg : Gl X x) (ha : PA X (e :: es) t) (hdb : (x == ("__debug__" : Str)) = false := by decide)
    (he : starEach (e :: es) X.env = (false, eval e X.env) :: starEach es X.env := by rfl) (hpl : (backTo pos (starEach es X.env)).any (·.1) = false := by rfl) : PE X (.Call (.Name x p) (e :: es) [] pos) (tCallS sp (WE W) t) := by
  obtain ⟨f, fd, h1, h2, h3, h4⟩ := G
  exact pe_callS h3 hr hg h1 h2 h4 (fun σ => passAt tk σ) ha hdb he hpl
theorem pe_gI {i : Int} (hg : Gl X x) (hm : ∃ t, X.mg x = some (.int i t)) (hd : (x == ("__debug__" : Str)) = false := by decide) : PE X (.Name x pos) (tC (.int i)) := by
  obtain ⟨t, h⟩ := hm
  exact pe_glob hg h ⟨t, rfl⟩ hd
theorem pe_gS {z : Str} (hg : Gl X x) (hm : ∃ t, X.mg x = some (.str z t)) (hd : (x == ("__debug__" : Str)) = false := by decide) : PE X (.Name x pos) (tC (.str z)) := by
  obtain ⟨t, h⟩ := hm
  exact pe_glob hg h ⟨t, rfl⟩ hd
theorem pt_tru {a : Expr} {ta : TE} (ha : PE X a ta) (he : ∀ whole, isTrue a X.env whole = (do let v ← whole; standAt a.pos; holding [v] (truthy v)) := by intro _; rfl) : PT X a (tTru X.K ta) := pt_truth ha he
end
section
variable {K : Frag} {W : WX} {ρ : En} {x : PX}
theorem e_strK {z : Str} {P : Dt → En → Prop} (p : ∀ z', z' = z → P (.str z') ρ) : EvD K W (tC (.str z)) ρ x P := e_str (p z rfl)
/-- a chain whose third part is plain -/
theorem e_chainC {f g : Int → Int → Bool} {ta tb tc : TE} {P : Dt → En → Prop} (h : EvD K W ta ρ x fun d ρ1 => ∃ i, d = .int i ∧ EvD K W tb ρ1 x fun e ρ2 => ∃ j, e = .int j ∧ ∃ k, (∀ P : Dt → En → Prop, P (.int k) ρ2 → EvD K W tc ρ2 x P) ∧ P (.bl (f i j && g j k)) ρ2) :
    EvD K W (tChain (rI0 fun i j => .bl (f i j)) (rI0 fun i j => .bl (g i j)) ta tb tc) ρ x P := by
  refine e_chain (e_imp h fun d ρ1 hd => ?_)
  obtain ⟨i, rfl, h2⟩ := hd
  refine e_imp h2 fun e ρ2 he => ?_
  obtain ⟨j, rfl, k, h3, h4⟩ := he
  refine o_B0 ⟨_, rfl, fun hb => ?_, fun hb => ?_⟩
  · rw [hb] at h4
    exact h3 _ (o_B0 (by rw [Bool.true_and] at h4; exact h4))
  · rw [hb, Bool.false_and] at h4
    exact h4
theorem e_andC {ta tb : TE} {P : Dt → En → Prop} (h : EvD K W ta ρ x fun d ρ1 => ∃ a, d = .bl a ∧ ∃ b, (∀ P : Dt → En → Prop, P (.bl b) ρ1 → EvD K W tb ρ1 x P) ∧ P (.bl (a && b)) ρ1) : EvD K W (tAndV ta tb) ρ x P := by
  refine e_andV (e_imp h fun d ρ1 hd => ?_)
  obtain ⟨a, rfl, b, h2, h3⟩ := hd
  refine ⟨a, rfl, fun hb => ?_, fun hb => ?_⟩
  · rw [hb, Bool.true_and] at h3
    exact h2 _ h3
  · rw [hb, Bool.false_and] at h3
    exact h3
/-- truth -/
def truD (ρ : En) : Dt → Option Bool
  | .non => some false
  | .bl b => some b
  | .int i => some (i != 0)
  | .lst ds => some !ds.isEmpty
  | .tup ds => some !ds.isEmpty
  | .own k => match ρ[k]? with
    | some (.ow _ (.lst ds)) => some !ds.isEmpty
    | _ => none
  | _ => none
theorem isEmpty_rep {F : Hp} {ds : List Dt} {xs : List V} (r : RepL K F ds xs) : (!xs.isEmpty) = !ds.isEmpty := by
  have h := r.length
  cases ds <;> cases xs <;> first | rfl | cases h
theorem t_tru {te : TE} {P : Bool → En → Prop} (h : EvD K W te ρ x fun d ρ1 => ∃ b, truD ρ1 d = some b ∧ P b ρ1) : TtD K W (tTru K te) ρ x P := fun σ F H Q s q w =>
  h σ F H _ s (fun d ρ1 v F1 H1 p1 s1 r1 => by
    obtain ⟨b, hb, p⟩ := p1
    refine ⟨b, ?_, q b ρ1 F1 H1 p s1⟩
    cases d with
    | non => cases r1; cases hb; rfl
    | bl z => cases r1; cases hb; rfl
    | int z => cases r1; cases hb; rfl
    | lst ds =>
      have e : Rep K F1 (.lst ds) v := r1
      unfold Rep at e
      obtain ⟨a, xs, rfl, h1, h2⟩ := e
      cases hb
      exact .inl ⟨xs, ex_l s1.sym.ex h1, (isEmpty_rep h2).symm⟩
    | tup ds =>
      have e : Rep K F1 (.tup ds) v := r1
      unfold Rep at e
      obtain ⟨a, xs, rfl, h1, h2⟩ := e
      cases hb
      exact .inr (.inl ⟨xs, ex_t s1.sym.ex h1, (isEmpty_rep h2).symm⟩)
    | own k =>
      have hb : (match ρ1[k]? with
        | some (.ow _ (.lst ds)) => some !ds.isEmpty
        | _ => none) = some b := hb
      cases e : ρ1[k]? with
      | none => rw [e] at hb; cases hb
      | some z =>
        rw [e] at hb
        cases z with
        | ow l d =>
          cases d with
          | lst ds =>
            cases hb
            obtain ⟨a, e1, e2, xs, e3, e4⟩ := s1.sym.ow k l _ e
            have eu : v = .ref a := by
              have z : σ[k]? = some (some v) := r1
              rw [e1] at z
              exact (Option.some.inj (Option.some.inj z)).symm
            subst eu
            exact .inl ⟨xs, sq_of e3, (isEmpty_rep e4).symm⟩
          | _ => cases hb
        | _ => cases hb
    | _ => cases hb) w
end
end DL
set_option Elab.async false
set_option linter.all false
set_option maxRecDepth 100000
set_option autoImplicit false
set_option maxHeartbeats 4000000
/-! texts as lists of signs -/
namespace DL
open PySem L2 PyProof.Rows
open TL (tl)
theorem tw_len {g : Nat → Bool} : ∀ {l : List Nat} {c : Nat}, c ∈ l → g c = false → (l.takeWhile g).length < l.length
  | a :: l, c, h, hg => by
    rw [List.takeWhile_cons]
    cases e : g a with
    | false => exact Nat.succ_pos _
    | true =>
      have hc : c ∈ l := by
        rcases List.mem_cons.mp h with z | z
        · subst z
          rw [e] at hg
          cases hg
        · exact z
      exact Nat.succ_lt_succ (tw_len hc hg)
theorem dw_nil {g : Nat → Bool} : ∀ {l : List Nat}, l.drop (l.takeWhile g).length = [] ↔ ∀ c ∈ l, g c = true
  | [] => by simp
  | a :: l => by
    rw [List.takeWhile_cons]
    cases e : g a with
    | false =>
      constructor
      · intro h
        simp at h
      · intro h
        rw [h a List.mem_cons_self] at e
        cases e
    | true =>
      show (a :: l).drop ((l.takeWhile g).length + 1) = [] ↔ _
      rw [List.drop_succ_cons, dw_nil (g := g) (l := l)]
      constructor
      · intro h c hc
        rcases List.mem_cons.mp hc with z | z
        · subst z
          exact e
        · exact h c z
      · exact fun h c hc => h c (List.mem_cons_of_mem _ hc)
theorem dw_head {g : Nat → Bool} : ∀ {l : List Nat} {a : Nat} {r : List Nat}, l.drop (l.takeWhile g).length = a :: r → g a = false
  | [], a, r, h => by simp at h
  | b :: l, a, r, h => by
    rw [List.takeWhile_cons] at h
    cases e : g b with
    | false =>
      rw [e] at h
      simp at h
      rw [← h.1]
      exact e
    | true =>
      rw [e] at h
      have h2 : (b :: l).drop ((l.takeWhile g).length + 1) = a :: r := h
      rw [List.drop_succ_cons] at h2
      exact dw_head h2
theorem strip_tl (g : Nat → Bool) (x : Str) : tl (Txt.stripBy g true true x) = ((tl x).drop ((tl x).takeWhile g).length).take ((tl x).length - (((tl x).drop ((tl x).takeWhile g).length).reverse.takeWhile g).length - ((tl x).takeWhile g).length) := by
  have hl := TL.len_tl x
  have e1 : PySem.stripLo g true x = ((tl x).takeWhile g).length := rfl
  have e2 : PySem.stripHi g true x (PySem.stripLo g true x) = (tl x).length - (((tl x).drop ((tl x).takeWhile g).length).reverse.takeWhile g).length := by
    show x.length - _ = _
    rw [hl]
    rfl
  unfold Txt.stripBy
  by_cases c : PySem.stripSame g true true x = true
  · rw [if_pos c]
    unfold PySem.stripSame at c
    rw [Bool.and_eq_true] at c
    obtain ⟨c1, c2⟩ := c
    have c1 : ((tl x).takeWhile g).length = 0 := by
      rw [e1] at c1
      simpa using c1
    rw [e2] at c2
    have c2 : (tl x).length - (((tl x).drop ((tl x).takeWhile g).length).reverse.takeWhile g).length = x.length := by simpa using c2
    rw [c2, hl, c1, List.drop_zero, Nat.sub_zero, List.take_length]
  · rw [if_neg c]
    unfold PySem.stripped
    rw [TL.tl_strSub, e1, ← e1, e2, e1]
theorem stripC_nil {x y : Str} : Txt.stripChars x y = "" ↔ ∀ c ∈ tl x, c ∈ tl y := by
  have hc : ∀ c, y.cps.contains c = true ↔ c ∈ tl y := fun c => by
    rw [Array.contains_iff_mem]
    exact Array.mem_toList_iff.symm
  have e0 : ∀ z : Str, z = "" ↔ tl z = [] := fun z => ⟨fun h => by rw [h]; rfl, fun h => TL.ext_tl (by rw [h]; rfl)⟩
  rw [e0]
  unfold Txt.stripChars
  rw [strip_tl]
  constructor
  · intro h c hcx
    rw [← hc]
    cases e : (tl x).drop ((tl x).takeWhile y.cps.contains).length with
    | nil => exact dw_nil.mp e c hcx
    | cons a r =>
      exfalso
      have ha := dw_head e
      have hm : a ∈ ((tl x).drop ((tl x).takeWhile y.cps.contains).length).reverse := by rw [e]; simp
      have hlt := tw_len hm ha
      rw [List.length_reverse] at hlt
      have hd : ((tl x).drop ((tl x).takeWhile y.cps.contains).length).length = (tl x).length - ((tl x).takeWhile y.cps.contains).length := List.length_drop
      have hz := congrArg List.length h
      rw [List.length_take] at hz
      simp only [List.length_nil] at hz
      omega
  · intro h
    have e : (tl x).drop ((tl x).takeWhile y.cps.contains).length = [] := dw_nil.mpr fun c hcx => (hc c).mpr (h c hcx)
    rw [e]
    simp
theorem atI_mem {α : Type} {l : List α} {i : Int} (h0 : 0 ≤ i) (h : i < l.length) : ∃ c, atI l i = some c ∧ c ∈ l := by
  have hk : i.toNat < l.length := by omega
  refine ⟨l[i.toNat], ?_, List.getElem_mem hk⟩
  unfold atI ixN
  rw [if_pos h0, if_pos h]
  exact List.getElem?_eq_getElem hk
theorem repL_ints {K : Frag} {F : Hp} : ∀ ns : List Int, RepL K F (ns.map Dt.int) (ns.map V.int)
  | [] => repL_nil
  | n :: ns => repL_cons (by unfold Rep; rfl) (repL_ints ns)
theorem tl_len (x : Str) : (tl x).length = x.length := (TL.len_tl x).symm
theorem tl_cut (z : Str) (lo hi : Option Int) : tl (cutS z lo hi) = ((tl z).drop (HT.sIx z.length 0 lo)).take (HT.sIx z.length z.length hi - HT.sIx z.length 0 lo) := rfl
theorem tl_one (c : Nat) : tl ⟨#[c]⟩ = [c] := rfl
theorem tl_mul (x : Str) (n : Int) : tl (strMul x n) = (List.replicate n.toNat (tl x)).flatten := by
  have key : ∀ (m : Nat) (a : Array Nat), ((List.replicate m x.cps).foldl (· ++ ·) a).toList = a.toList ++ (List.replicate m (tl x)).flatten := by
    intro m
    induction m with
    | zero => intro a; simp
    | succ m ih =>
      intro a
      rw [List.replicate_succ, List.foldl_cons, ih, Array.toList_append, List.replicate_succ, List.flatten_cons, List.append_assoc]
  show ((List.replicate n.toNat x.cps).foldl (· ++ ·) #[]).toList = _
  rw [key]
  simp
end DL
set_option Elab.async false
set_option linter.all false
set_option maxRecDepth 100000
set_option autoImplicit false
set_option maxHeartbeats 4000000
namespace T
open PySem L2 PyProof.Rows DL
local macro_rules | `(tactic| walk_at "dl1") => `(tactic| first
  | (with_reducible refine ss_set ?_)
  | (with_reducible refine ss_if ?_)
  | (with_reducible refine ss_drop ?_)
  | (with_reducible refine ss_put ?_)
  | (with_reducible refine ss_next ?_)
  | (with_reducible refine ss_ret ?_)
  | (with_reducible refine ss_assoc ?_)
  | (with_reducible refine s_set ?_)
  | (with_reducible refine s_if ?_)
  | (with_reducible refine s_drop ?_)
  | (with_reducible refine s_ret ?_)
  | (with_reducible refine s_put ?_)
  | (with_reducible refine s_next ?_)
  | ((with_reducible refine' e_var ?k1 ?_); (case k1 => rfl))
  | ((with_reducible refine' e_own ?k1 ?_); (case k1 => rfl))
  | (with_reducible refine e_op ?_)
  | (with_reducible refine e_un ?_)
  | (with_reducible refine e_cb ?_)
  | (with_reducible refine a_nil ?_)
  | (with_reducible refine a_cons ?_)
  | (with_reducible refine e_int ?_)
  | (with_reducible refine e_str ?_)
  | (with_reducible refine e_bl ?_)
  | (with_reducible refine e_non ?_)
  | (with_reducible refine e_ty ?_)
  | (with_reducible refine e_andV ?_)
  | (with_reducible refine e_orV ?_)
  | (with_reducible refine e_notV ?_)
  | (with_reducible refine e_chainC ?_)
  | (with_reducible refine e_chain ?_)
  | (with_reducible refine e_if ?_)
  | (with_reducible refine e_sl ?_)
  | (with_reducible refine p_none ?_)
  | (with_reducible refine p_some ?_)
  | (with_reducible refine e_tup ?_)
  | (with_reducible refine e_lst ?_)
  | (with_reducible refine e_bmS ?_)
  | (with_reducible refine t_test ?_)
  | (with_reducible refine t_tru ?_)
  | (with_reducible refine t_and ?_)
  | (with_reducible refine t_or ?_)
  | (with_reducible refine t_not ?_)
  | (with_reducible refine o_add ?_)
  | (with_reducible refine o_I0 ?_)
  | (with_reducible refine o_B0 ?_)
  | (with_reducible refine o_eqI ?_)
  | (with_reducible refine o_neI ?_)
  | (with_reducible refine o_eqB ?_)
  | (with_reducible refine o_neB ?_)
  | (with_reducible refine o_eqS ?_)
  | (with_reducible refine o_neS ?_)
  | (with_reducible refine o_isB ?_)
  | (with_reducible refine o_isNotB ?_)
  | (with_reducible refine c_abs ?_)
  | (with_reducible refine c_int ?_)
  | (with_reducible refine c_lenL ?_)
  | (with_reducible refine c_lenT ?_)
  | ((with_reducible refine' c_lenO ?k1 ?_); (case k1 => rfl))
  | ((with_reducible refine' o_ixO ?k1 ?k2 ?_); (case k1 => rfl); (case k2 => rfl))
  | ((with_reducible refine o_mul ?k1 ?_); (case k1 => omega))
  | ((with_reducible refine o_mod ?k1 ?_); (case k1 => omega))
  | ((with_reducible refine o_fdiv ?k1 ?k2 ?_); (case k1 => omega); (case k2 => omega))
  | ((with_reducible refine o_pow ?k1 ?_); (case k1 => exact ⟨by decide, by decide, by decide⟩))
  | ((with_reducible refine' w_lst ?k1 ?k2 ?_); (case k1 => rfl); (case k2 => rfl); dsimp only [List.set])
  | ((with_reducible refine c_lenS ?k1 ?_); (case k1 => omega))
  | ((with_reducible refine m_stripC ?k1 ?_); (case k1 => omega))
  | ((with_reducible refine l_str ?k1 ?_); (case k1 => omega))
  | ((with_reducible refine o_addS ?k1 ?_); (case k1 => (first | omega | (simp only [len_app, len_one]; omega))))
  | ((with_reducible refine' c_isi ?k1 ?k2 ?_); (case k1 => rfl); (case k2 => first | exact kb_NoneType_bool | exact kb_NoneType_int | exact kb_NoneType_str | exact kb_NoneType_list | exact kb_NoneType_tuple | exact kb_NoneType_dict | exact kb_bool_bool | exact kb_bool_int | exact kb_bool_str | exact kb_bool_list | exact kb_bool_tuple | exact kb_bool_dict | exact kb_int_bool | exact kb_int_int | exact kb_int_str | exact kb_int_list | exact kb_int_tuple | exact kb_int_dict | exact kb_str_bool | exact kb_str_int | exact kb_str_str | exact kb_str_list | exact kb_str_tuple | exact kb_str_dict | exact kb_list_bool | exact kb_list_int | exact kb_list_str | exact kb_list_list | exact kb_list_tuple | exact kb_list_dict | exact kb_tuple_bool | exact kb_tuple_int | exact kb_tuple_str | exact kb_tuple_list | exact kb_tuple_tuple | exact kb_tuple_dict | exact kb_dict_bool | exact kb_dict_int | exact kb_dict_str | exact kb_dict_list | exact kb_dict_tuple | exact kb_dict_dict))
  | (show (∃ z, Dt.str _ = .str z) ∧ _; refine ⟨⟨_, rfl⟩, ?_⟩)
  | (show Dt.real _ = true ∧ lent _ _ = false ∧ _; refine ⟨rfl, rfl, ?_⟩; dsimp only [List.set])
  | (show Dt.real _ = true ∧ _; refine ⟨rfl, ?_⟩)
  | (show lent _ _ = false ∧ _; refine ⟨rfl, ?_⟩; dsimp only [List.set])
  | (show allReal _ = true ∧ _; refine ⟨rfl, Nat.le_of_ble_eq_true rfl, ?_⟩)
  | (show (true = true → _) ∧ (true = false → _); refine ⟨fun _ => ?_, fun h => nomatch h⟩)
  | (show (false = true → _) ∧ (false = false → _); refine ⟨(fun h => nomatch h), fun _ => ?_⟩)
  | (refine ⟨_, rfl, _, (fun P p => e_int p), ?_⟩)
  | (refine ⟨_, rfl, _, (fun P p => e_var rfl p), ?_⟩)
  | (refine ⟨_, rfl, ?_⟩)
  | fail "dl")
local macro_rules | `(tactic| walk_at "dl") => `(tactic| repeat' walk_at "dl1")
local macro_rules | `(tactic| walk_at "dls") => `(tactic| repeat' (first | walk_at "dl1" | (refine ⟨fun hb => ?_, fun hb => ?_⟩) | fail "dls"))
local macro_rules | `(tactic| walk_at "fg") => `(tactic| repeat (first | exact Fg.nil | (with_reducible refine Fg.keep ?_) | (refine Fg.drop ?_)))

def top (i : Nat) : Stmt := PySem.Challenge.pw_partlabels_k13_names.main.body.getD i (.Pass ⟨0, 0, 0, 0⟩)
abbrev s_is_name : Stmt := top 3
abbrev s_law_tape : Stmt := top 5
abbrev s_law_pick : Stmt := top 6
abbrev s_law : Stmt := top 7
theorem sc_is_name : FnScope ["text"] ["text"] (defScope s_is_name) := ⟨rfl, rfl, rfl, by decide +kernel, rfl, by decide +kernel, by decide +kernel⟩
theorem sc_law_tape : FnScope ["_law_script", "_law_k", "_law_cell"] ["_law_script", "_law_k"] (defScope s_law_tape) := ⟨rfl, rfl, rfl, by decide +kernel, rfl, by decide +kernel, by decide +kernel⟩
theorem sc_law_pick : FnScope ["_law_tape_here", "_law_many", "_law_digit", "_law_mixed"] ["_law_tape_here", "_law_many"] (defScope s_law_pick) := ⟨rfl, rfl, rfl, by decide +kernel, rfl, by decide +kernel, by decide +kernel⟩
theorem sc_law : FnScope ["_law_script", "_law_tape_here", "_law_pool", "_law_others", "_law_turn", "_law_size", "_law_text", "_law_k", "_law_at", "_law_sign", "_law_wrong"] ["_law_script"] (defScope s_law) := ⟨rfl, rfl, rfl, by decide +kernel, rfl, by decide +kernel, by decide +kernel⟩
structure Tx (K : DL.Frag) (mg : Str → Option Value) : Prop where
  n_abs : mg "abs" = none
  n_bool : mg "bool" = none
  n_int : mg "int" = none
  n_isinstance : mg "isinstance" = none
  n_len : mg "len" = none
  n_range : mg "range" = none
  e_LONGEST : ∃ t, mg "LONGEST" = some (.int 8 t)
  e_SIGNS : ∃ t, mg "SIGNS" = some (.str "abcdefghijklmnopqrstuvwxyz" t)
  g_is_name : mg "is_name" = some (.ref (He.ga K "is_name"))
  F_is_name : ∃ fd, FunD K "is_name" "is_name" (defArgs s_is_name) (defBody s_is_name) (defScope s_is_name) [] [] (He.ga K "is_name") fd
  g_law_tape : mg "_law_tape" = some (.ref (He.ga K "_law_tape"))
  F_law_tape : ∃ fd, FunD K "_law_tape" "_law_tape" (defArgs s_law_tape) (defBody s_law_tape) (defScope s_law_tape) [] [] (He.ga K "_law_tape") fd
  g_law_pick : mg "_law_pick" = some (.ref (He.ga K "_law_pick"))
  F_law_pick : ∃ fd, FunD K "_law_pick" "_law_pick" (defArgs s_law_pick) (defBody s_law_pick) (defScope s_law_pick) [] [] (He.ga K "_law_pick") fd
  g_law : mg "law" = some (.ref (He.ga K "law"))
  F_law : ∃ fd, FunD K "law" "law" (defArgs s_law) (defBody s_law) (defScope s_law) [] [] (He.ga K "law") fd
section
variable {P : Program} {w : World} {K : DL.Frag} {mg : Str → Option Value} {base : Heap}
/-- a name -/
def isN (z : Str) : Bool := decide ((1 : Int) ≤ (z.length : Int)) && decide ((z.length : Int) ≤ 8) && decide (Txt.stripChars z "abcdefghijklmnopqrstuvwxyz" = "")
def sp_is_name : Fsp where
  I := Str
  arg z := [.str z]
  pre z := z.length ≤ 1000
  post z d := d = .bl (isN z)
theorem ok_is_name (T : Tx K mg) : FnG P w K mg base 1 "is_name" ["text"] (DSp K sp_is_name) := by
  obtain ⟨fd, F⟩ := T.F_is_name
  refine ⟨_, fd, T.g_is_name, F.kp, fn_body F sc_is_name (fun _ => rfl) (fun cdv A outer s H E hr tk po => ?_), F.bindsN fun _ _ _ _ _ _ us hl => match us, hl with | [_], _ => rfl⟩
  refine ⟨_, (pss_one (ps_ret (pe_and (pe_chain op_le op_le pe_int (pe_callB call_lenU (by rfl) T.n_len (by decide +kernel) (pa_cons (pv 0) pa_nil)) (pe_gI rfl T.e_LONGEST)) (pe_one (pe_cmpR (op_eqU hr.units) (pe_bm PySem.F.plainAttrs_str PySem.F.slot_str_strip PySem.F.type_str_strip mt_stripC (pv 0) (pa_cons (pe_gS rfl T.e_SIGNS) pa_nil)) pe_str (nomark _)))))), fun (i : Str) (hp : i.length ≤ 1000) Z hn hq hx => ?_⟩
  dsimp only [cxB, cxOf]
  show StD K _ _ [.sh (.str i)] _
  clear tk po hr F
  walk_at "dls"
  all_goals refine hq _ _ (show _ = Dt.bl (isN i) from ?_)
  all_goals (unfold isN; first | (simp_all; done) | (simp_all; intros; omega))
/-! ### the tape -/
def tapeD (t : Int × Int) : Dt := .lst [.int t.1, .int t.2]
def tapeOk (t : Int × Int) : Prop := 0 ≤ t.1 ∧ 0 ≤ t.2 ∧ t.2 < 2 ^ 40
def sp_law_tape : Fsp where
  I := List Int × Int
  arg i := [.lst (i.1.map .int), .int i.2]
  pre i := 0 ≤ i.2 ∧ i.2 ≤ 1000 ∧ i.1.length ≤ 63
  post _ d := ∃ t, d = tapeD t ∧ tapeOk t
theorem atI_ints {ns : List Int} {k : Int} (h0 : 0 ≤ k) (h : k < ns.length) : ∃ n, atI (ns.map Dt.int) k = some (.int n) := by
  have hk : k.toNat < ns.length := by omega
  refine ⟨ns[k.toNat], ?_⟩
  unfold atI ixN
  rw [List.length_map, if_pos h0, if_pos h]
  show (ns.map Dt.int)[k.toNat]? = _
  rw [List.getElem?_map, List.getElem?_eq_getElem hk]
  rfl
theorem ok_law_tape (T : Tx K mg) : FnG P w K mg base 1 "_law_tape" ["_law_script", "_law_k"] (NSp K sp_law_tape) := by
  obtain ⟨fd, F⟩ := T.F_law_tape
  refine ⟨_, fd, T.g_law_tape, F.kp, fn_bodyN F sc_law_tape (fun _ => rfl) (fun cdv A outer s H E hr tk po => ?_), F.bindsN fun _ _ _ _ _ _ us hl => match us, hl with | [_, _], _ => rfl⟩
  refine ⟨_, (pss_cons (ps_set (i := 2) sc_law_tape.nd rfl (Or.inl rfl) (pe_ifExp (pt_cmpR op_lt (pv 1) (pe_callB call_lenU (by rfl) T.n_len (by decide +kernel) (pa_cons (pv 0) pa_nil)) (nomark _)) (pe_ix ix_seqU (pv 0) (pv 1) (fun _ _ => rfl)) pe_int))
  (pss_one (ps_ret (pe_lst (pa_cons (pe_callB call_abs (by rfl) T.n_abs (by decide +kernel) (pa_cons (pv 2) pa_nil)) (pa_cons (pe_op op_addU (pe_op op_mulU pe_int (pv 1)) pe_int) pa_nil)))))), fun i hp Z hq hx => ?_⟩
  obtain ⟨ns, k⟩ := i
  obtain ⟨h0, h1, h2⟩ : 0 ≤ k ∧ k ≤ 1000 ∧ ns.length ≤ 63 := hp
  dsimp only [cxB, cxOf]
  show StD K _ _ [.sh (.lst (ns.map .int)), .sh (.int k), .no] _
  clear tk po hr F
  have fin : ∀ c : Int, StD K (wE E) (tRet (tLst (tCons (tCB (fun xs H Q => ∃ i, xs = [V.int i] ∧ Q (V.int (if i < 0 then -i else i)) H) (tCons (tVar 2) tNil)) (tCons (tOp (rAddU K) (tOp rMulU (tC (V.int 7919)) (tVar 1)) (tC (V.int 104729))) tNil)))) [.sh (.lst (ns.map .int)), .sh (.int k), .sh (.int c)] Z := by
    intro c
    refine s_retNew (n_lst ?_)
    walk_at "dl"
    refine hq _ _ ⟨(if c < 0 then -c else c, 7919 * k + 104729), rfl, ?_, ?_, ?_⟩
    · show 0 ≤ (if c < 0 then -c else c)
      split <;> omega
    · show 0 ≤ 7919 * k + 104729
      omega
    · show 7919 * k + 104729 < 2 ^ 40
      omega
  walk_at "dl"
  refine ⟨fun hb => ?_, fun hb => ?_⟩
  · walk_at "dl"
    obtain ⟨n, hn⟩ := atI_ints h0 (show k < ns.length by simpa using hb)
    refine o_ixL hn ?_
    walk_at "dl1"
    exact fin n
  · walk_at "dl1"
    walk_at "dl1"
    exact fin 0
def sp_law_pick : Osp where
  I := (Int × Int) × Int
  own i := tapeD i.1
  arg i := [.int i.2]
  pre i := tapeOk i.1 ∧ 0 < i.2 ∧ i.2 < 2 ^ 200
  post i d o := ∃ r t, d = .int r ∧ o = tapeD t ∧ tapeOk t ∧ 0 ≤ r ∧ r < i.2
theorem ok_law_pick (T : Tx K mg) : FnG P w K mg base 1 "_law_pick" ["_law_tape_here", "_law_many"] (OSp K sp_law_pick) := by
  obtain ⟨fd, F⟩ := T.F_law_pick
  refine ⟨_, fd, T.g_law_pick, F.kp, fn_bodyO F sc_law_pick (fun _ => rfl) (fun cdv A outer s H E hr tk po => ?_), F.bindsN fun _ _ _ _ _ _ us hl => match us, hl with | [_, _], _ => rfl⟩
  refine ⟨_, (pss_cons (ps_if (pt_cmpR op_ge (pe_ix ix_seqU (pv 0) pe_int (fun _ _ => rfl)) (pe_op op_pow pe_int pe_int) (nomark _)) (pss_cons (ps_set (i := 2) sc_law_pick.nd rfl (Or.inl rfl) (pe_op op_mod (pe_callTy call_intU (by rfl) T.n_int (by decide +kernel) (pa_cons (pe_ix ix_seqU (pv 0) pe_int (fun _ _ => rfl)) pa_nil)) (pv 1)))
  (pss_cons (ps_asg (pe_op op_fdivW (pe_ix ix_seqU (pv 0) pe_int (fun _ _ => rfl)) (pv 1)) (pg_sub (pv 0) pe_int set_list))
  (pss_one (ps_ret (pv 2))))) pss_nil)
  (pss_cons (ps_asg (pe_op op_mod (pe_callTy call_intU (by rfl) T.n_int (by decide +kernel) (pa_cons (pe_op op_addU (pe_op op_addU (pe_op op_mulU (pe_ix ix_seqU (pv 0) pe_int (fun _ _ => rfl)) pe_int) (pe_op op_mulU (pe_ix ix_seqU (pv 0) pe_int (fun _ _ => rfl)) pe_int)) pe_int) pa_nil)) pe_int) (pg_sub (pv 0) pe_int set_list))
  (pss_cons (ps_set (i := 3) sc_law_pick.nd rfl (Or.inl rfl) (pe_op op_mod (pe_callTy call_intU (by rfl) T.n_int (by decide +kernel) (pa_cons (pe_op op_addU (pe_op op_addU (pe_op op_mulU (pe_ix ix_seqU (pv 0) pe_int (fun _ _ => rfl)) (pe_ix ix_seqU (pv 0) pe_int (fun _ _ => rfl))) (pe_op op_mulU (pe_ix ix_seqU (pv 0) pe_int (fun _ _ => rfl)) pe_int)) pe_int) pa_nil)) pe_int))
  (pss_one (ps_ret (pe_op op_mod (pe_callTy call_intU (by rfl) T.n_int (by decide +kernel) (pa_cons (pe_op op_fdivW (pv 3) pe_int) pa_nil)) (pv 1))))))), fun i hp Z hn hq hx => ?_⟩
  obtain ⟨⟨a, b⟩, m⟩ := i
  obtain ⟨⟨h0, h1, h2⟩, h3, h4⟩ : (0 ≤ a ∧ 0 ≤ b ∧ b < 2 ^ 40) ∧ 0 < m ∧ m < 2 ^ 200 := hp
  dsimp only [cxB, cxOf]
  show StD K _ _ [.ow true (.lst [.int a, .int b]), .sh (.int m), .no, .no] _
  clear tk po hr F
  walk_at "dl"
  refine ⟨fun hb => ?_, fun hb => ?_⟩
  · walk_at "dl"
    refine hq _ _ _ rfl ⟨a % m, (a / m, b), rfl, rfl, ⟨Int.ediv_nonneg h0 (Int.le_of_lt h3), h1, h2⟩, Int.emod_nonneg _ (by omega), Int.emod_lt_of_pos _ h3⟩
  · have hb : a < 10 ^ 18 := by
      have z : (10 : Int) ^ (Int.toNat 18) = 10 ^ 18 := rfl
      rw [z] at hb
      simpa using hb
    walk_at "dl"
    refine hq _ _ _ rfl ⟨_, (a, (b * 48271 + a * 69621 + 11) % 2147483647), rfl, rfl, ⟨h0, Int.emod_nonneg _ (by decide), ?_⟩, Int.emod_nonneg _ (by omega), Int.emod_lt_of_pos _ h3⟩
    have := Int.emod_lt_of_pos (b * 48271 + a * 69621 + 11) (show (0 : Int) < 2147483647 by decide)
    show (b * 48271 + a * 69621 + 11) % 2147483647 < 2 ^ 40
    omega
/-- a draw -/
theorem e_pick {W : WX} {ρ : En} {x : PX} {j : Nat} {te : TE} {Q : Dt → En → Prop}
    (h : EvD K W te ρ x fun d ρ1 => ∃ m l t, d = .int m ∧ ρ1[j]? = some (.ow l (tapeD t)) ∧ tapeOk t ∧ 0 < m ∧ m < 2 ^ 200 ∧ ∀ r t', tapeOk t' → 0 ≤ r → r < m → Q (.int r) (ρ1.set j (.ow l (tapeD t'))))
    (hj : ∃ l d, ρ[j]? = some (.ow l d)) : EvD K W (tCallS (OSp K sp_law_pick) (WE W) (tCons (tVar j) (tCons te tNil))) ρ x Q := by
  obtain ⟨l0, d0, hj⟩ := hj
  refine e_callO (a_cons (e_own hj (a_cons (e_imp h fun d ρ1 hd => a_nil ?_))))
  obtain ⟨m, l, t, rfl, h1, h2, h3, h4, h5⟩ := hd
  exact ⟨j, l, _, _, (t, m), rfl, h1, rfl, rfl, rfl, ⟨h2, h3, h4⟩, fun r o ⟨r', t', e1, e2, e3, e4, e5⟩ => by subst e1 e2; exact h5 r' t' e3 e4 e5, fun _ _ z => z.elim⟩
/-! ### names -/
abbrev low : Str := "abcdefghijklmnopqrstuvwxyz"
theorem isN_iff {z : Str} : isN z = true ↔ 1 ≤ z.length ∧ z.length ≤ 8 ∧ ∀ c ∈ TL.tl z, c ∈ TL.tl low := by
  unfold isN
  rw [Bool.and_eq_true, Bool.and_eq_true, decide_eq_true_eq, decide_eq_true_eq, decide_eq_true_eq, stripC_nil, and_assoc]
  constructor
  · rintro ⟨h1, h2, h3⟩
    exact ⟨by omega, by omega, h3⟩
  · rintro ⟨h1, h2, h3⟩
    exact ⟨by omega, by omega, h3⟩
def sp_law : Fsp where
  I := List Int
  arg ns := [.lst (ns.map .int)]
  pre ns := ns.length ≤ 63
  post _ d := d = .bl true
theorem e_isn {W : WX} {ρ : En} {x : PX} {te : TE} {Q : Dt → En → Prop} (h : EvD K W te ρ x fun d ρ1 => ∃ z, d = .str z ∧ z.length ≤ 1000 ∧ Q (.bl (isN z)) ρ1) : EvD K W (tCallS (DSp K sp_is_name) (WE W) (tCons te tNil)) ρ x Q := by
  refine e_call (a_cons (e_imp h fun d ρ1 hd => a_nil ?_))
  obtain ⟨z, rfl, h1, h2⟩ := hd
  exact ⟨z, rfl, rfl, h1, fun d e => by cases (show d = _ from e); exact h2, fun _ z => z.elim⟩
theorem ok_law (T : Tx K mg) {fd : FuncData} (F : FunD K "law" "law" (defArgs s_law) (defBody s_law) (defScope s_law) [] [] (He.ga K "law") fd) : FnOk P w K mg base (L2.CX P w) 2 (He.ga K "law") fd ["_law_script"] (DSp K sp_law) := by
  have G_law_tape := ok_law_tape (P := P) (w := w) (base := base) T
  have G_law_pick := ok_law_pick (P := P) (w := w) (base := base) T
  have G_is_name := ok_is_name (P := P) (w := w) (base := base) T
  refine fn_body F sc_law (fun _ => rfl) (fun cdv A outer s H E hr tk po => ?_)
  refine ⟨_, (pss_cons (ps_set (i := 1) sc_law.nd rfl (Or.inl rfl) (pe_fn G_law_tape (hr.mono (by decide)) tk rfl (pa_cons (pv 0) (pa_cons pe_int pa_nil))))
  (pss_cons (ps_set (i := 2) sc_law.nd rfl (Or.inl rfl) pe_str)
  (pss_cons (ps_set (i := 3) sc_law.nd rfl (Or.inl rfl) pe_str)
  (pss_cons (ps_for po rfl (pi_range1 rfl T.n_range (pa_cons pe_int pa_nil)) (pg_name (i := 4) sc_law.nd rfl (Or.inl rfl)) (pss_cons (ps_set (i := 5) sc_law.nd rfl (Or.inl rfl) (pe_fn G_law_pick (hr.mono (by decide)) tk rfl (pa_cons (pv 1) (pa_cons pe_int pa_nil))))
  (pss_cons (ps_set (i := 6) sc_law.nd rfl (Or.inl rfl) pe_str)
  (pss_cons (ps_for po rfl (pi_range1 rfl T.n_range (pa_cons (pv 5) pa_nil)) (pg_name (i := 7) sc_law.nd rfl (Or.inl rfl)) (pss_one (ps_set (i := 6) sc_law.nd rfl (Or.inl rfl) (pe_op op_addU (pv 6) (pe_ix ix_seqU (pv 2) (pe_fn G_law_pick (hr.mono (by decide)) tk rfl (pa_cons (pv 1) (pa_cons pe_int pa_nil))) (fun _ _ => rfl))))))
  (pss_cons (ps_if (PW.pt (pw_or (pt_cmpR (op_neU hr.units) (pe_fn G_is_name (hr.mono (by decide)) tk rfl (pa_cons (pv 6) pa_nil)) (pe_chain op_le op_le pe_int (pv 5) pe_int) (nomark _)) (pw_or1 (pt_not (pt_tru (pe_callB call_isi (by rfl) T.n_isinstance (by decide +kernel) (pa_cons (pe_fn G_is_name (hr.mono (by decide)) tk rfl (pa_cons (pv 6) pa_nil)) (pa_cons (pe_bltn (v := .ty "bool") (u := .type "bool") (by rfl) T.n_bool (by decide +kernel) rfl) pa_nil)))))))) (pss_one (ps_ret pe_bl)) pss_nil)
  (pss_cons (ps_set (i := 8) sc_law.nd rfl (Or.inl rfl) (pe_fn G_law_pick (hr.mono (by decide)) tk rfl (pa_cons (pv 1) (pa_cons (pe_op op_addU (pv 5) pe_int) pa_nil))))
  (pss_cons (ps_set (i := 9) sc_law.nd rfl (Or.inl rfl) (pe_ix ix_seqU (pv 3) (pe_fn G_law_pick (hr.mono (by decide)) tk rfl (pa_cons (pv 1) (pa_cons (pe_callB call_lenU (by rfl) T.n_len (by decide +kernel) (pa_cons (pv 3) pa_nil)) pa_nil))) (fun _ _ => rfl)))
  (pss_cons (ps_set (i := 10) sc_law.nd rfl (Or.inl rfl) (pe_op op_addU (pe_op op_addU (pe_slice sl_u (pv 6) po_none (po_some (pv 8))) (pv 9)) (pe_slice sl_u (pv 6) (po_some (pv 8)) po_none)))
  (pss_cons (ps_if (PW.pt (pw_or (pt_cmpR op_isNotU (pe_fn G_is_name (hr.mono (by decide)) tk rfl (pa_cons (pv 10) pa_nil)) pe_bl (nomark _)) (pw_or1 (pt_cmpR op_isNotU (pe_fn G_is_name (hr.mono (by decide)) tk rfl (pa_cons (pv 9) pa_nil)) pe_bl (nomark _))))) (pss_one (ps_ret pe_bl)) pss_nil)
  (pss_one (ps_if (PW.pt (pw_or (pt_cmpR (op_neU hr.units) (pe_fn G_is_name (hr.mono (by decide)) tk rfl (pa_cons (pe_op op_mulU (pe_slice sl_u (pv 6) po_none (po_some pe_int)) pe_int) pa_nil)) (pe_cmpR op_gt (pv 5) pe_int (nomark _)) (nomark _)) (pw_or1 (pt_cmpR op_isNotU (pe_fn G_is_name (hr.mono (by decide)) tk rfl (pa_cons (pv 2) pa_nil)) pe_bl (nomark _))))) (pss_one (ps_ret pe_bl)) pss_nil)))))))))))
  (pss_cons (ps_if (PW.pt (pw_or (pt_cmpR op_isNotU (pe_fn G_is_name (hr.mono (by decide)) tk rfl (pa_cons pe_str pa_nil)) pe_bl (nomark _)) (pw_or1 (pt_cmpR op_isNotU (pe_fn G_is_name (hr.mono (by decide)) tk rfl (pa_cons pe_str pa_nil)) pe_bl (nomark _))))) (pss_one (ps_ret pe_bl)) pss_nil)
  (pss_one (ps_ret (pe_and (pe_cmpR op_isU (pe_fn G_is_name (hr.mono (by decide)) tk rfl (pa_cons pe_str pa_nil)) pe_bl (nomark _)) (pe_one (pe_cmpR op_isU (pe_fn G_is_name (hr.mono (by decide)) tk rfl (pa_cons pe_str pa_nil)) pe_bl (nomark _))))))))))), fun (ns : List Int) (hp : ns.length ≤ 63) Z hn hq hx => ?_⟩
  dsimp only [cxB, cxOf]
  show StD K _ _ [.sh (.lst (ns.map .int)), .no, .no, .no, .no, .no, .no, .no, .no, .no, .no] _
  clear tk po hr F G_law_tape G_law_pick G_is_name
  have hfin : ∀ ρ, Z.rt (.bl true) ρ := fun ρ => hq _ _ rfl
  clear hn hq hx
  refine ss_own (e_callN ?_)
  walk_at "dl"
  refine ⟨(ns, 0), rfl, rfl, ⟨Int.le_refl 0, (by decide : (0 : Int) ≤ 1000), hp⟩, ?_, fun _ z => z.elim⟩
  rintro _ ⟨t, rfl, ht⟩
  walk_at "dl1"
  refine ss_set (e_str ⟨rfl, rfl, ?_⟩)
  refine ss_set (e_strK fun oth ho => ⟨rfl, rfl, ?_⟩)
  dsimp only [List.set]
  have ho1 : ∀ c ∈ TL.tl oth, c ∉ TL.tl low := by
    subst ho
    decide +kernel
  have ho2 : oth.length = 26 := by
    subst ho
    decide +kernel
  clear ho
  refine ss_forR ?_
  walk_at "dl"
  refine ⟨by decide, by decide, fun _ ρ => ∃ t, tapeOk t ∧ ρ = [.sh (.lst (ns.map .int)), .ow false (tapeD t), .sh (.str low), .sh (.str oth), .no, .no, .no, .no, .no, .no, .no], ⟨t, ht, rfl⟩, ?_, ?_⟩
  · rintro i _ hi ⟨t, ht, rfl⟩
    refine ⟨rfl, fun Y LY => ?_⟩
    dsimp only [List.set]
    refine ss_set (e_pick ?_ ⟨_, _, rfl⟩)
    walk_at "dl1"
    refine ⟨_, _, _, rfl, rfl, ht, by decide, by decide, fun n t' ht' h0 h1 => ?_⟩
    walk_at "dl"
    refine ss_forR ?_
    walk_at "dl"
    refine ⟨by omega, by omega, fun k ρ => ∃ t z, tapeOk t ∧ z.length = k ∧ (∀ c ∈ TL.tl z, c ∈ TL.tl low) ∧ ρ = [.sh (.lst (ns.map .int)), .ow false (tapeD t), .sh (.str low), .sh (.str oth), .sh (.int i), .sh (.int n), .sh (.str z), .no, .no, .no, .no], ⟨t', "", ht', rfl, (fun c hc => nomatch hc), rfl⟩, ?_, ?_⟩
    · rintro k _ hk ⟨t, z, ht, hz, hl, rfl⟩
      refine ⟨rfl, fun Y2 LZ => ?_⟩
      dsimp only [List.set]
      refine s_set (e_op (e_var rfl (e_op (e_var rfl (e_pick ?_ ⟨_, _, rfl⟩)))))
      walk_at "dl1"
      refine ⟨_, _, _, rfl, rfl, ht, by decide, by decide, fun r t' ht' h0 h1 => ?_⟩
      obtain ⟨c, hc, hm⟩ := atI_mem (l := TL.tl low) h0 (by rw [tl_len]; exact h1)
      refine o_ixS (by decide +kernel) hc ?_
      walk_at "dl"
      refine LZ.nx _ _ ?fg ⟨t', z ++ ⟨#[c]⟩, ht', ?_, ?_, rfl⟩
      case fg => walk_at "fg"
      · rw [len_app, hz]
        rfl
      · intro c' hc'
        rw [TL.tl_append, List.mem_append] at hc'
        rcases hc' with hc' | hc'
        · exact hl c' hc'
        · have e : c' = c := by simpa [tl_one] using hc'
          rw [e]
          exact hm
    · rintro _ ⟨t, z, ht, hz, hl, rfl⟩
      have hz : (z.length : Int) = n := by omega
      have hN : isN z = (decide (1 ≤ n) && decide (n ≤ 8)) := by
        rw [Bool.eq_iff_iff, isN_iff, Bool.and_eq_true, decide_eq_true_eq, decide_eq_true_eq]
        constructor
        · rintro ⟨a, b, _⟩
          omega
        · rintro ⟨a, b⟩
          exact ⟨by omega, by omega, hl⟩
      refine ss_if (t_or (t_test (e_op (e_isn ?_))))
      walk_at "dl1"
      refine ⟨z, rfl, by omega, ?_⟩
      walk_at "dl"
      rw [hN, decide_eq_true rfl]
      refine ⟨(fun h => nomatch h), fun _ => ?_⟩
      refine t_not (t_tru (e_cb (a_cons (e_isn ?_))))
      walk_at "dl1"
      refine ⟨z, rfl, by omega, ?_⟩
      walk_at "dl"
      refine e_pick ?_ ⟨_, _, rfl⟩
      walk_at "dl"
      refine ⟨_, _, _, rfl, rfl, ht, by omega, by omega, fun at_ t1 ht1 ha0 ha1 => ?_⟩
      walk_at "dl1"
      refine ss_set (e_op (e_var rfl (e_pick ?_ ⟨_, _, rfl⟩)))
      walk_at "dl"
      refine ⟨_, _, _, rfl, rfl, ht1, by omega, by omega, fun sg t2 ht2 hs0 hs1 => ?_⟩
      obtain ⟨c, hc, hm⟩ := atI_mem (l := TL.tl oth) hs0 (by rw [tl_len]; exact hs1)
      have hcl := ho1 c hm
      refine o_ixS (by omega) hc ?_
      have l1 := cutS_length z none (some at_)
      have l2 := cutS_length z (some at_) none
      walk_at "dl"
      have hW : isN (cutS z none (some at_) ++ ⟨#[c]⟩ ++ cutS z (some at_) none) = false := by
        rw [Bool.eq_false_iff]
        intro h
        refine hcl ((isN_iff.mp h).2.2 c ?_)
        rw [TL.tl_append, TL.tl_append, tl_one]
        simp
      have hS : isN ⟨#[c]⟩ = false := by
        rw [Bool.eq_false_iff]
        intro h
        refine hcl ((isN_iff.mp h).2.2 c ?_)
        rw [tl_one]
        simp
      refine e_isn ?_
      walk_at "dl1"
      refine ⟨_, rfl, (by simp only [len_app, len_one]; omega), ?_⟩
      rw [hW]
      walk_at "dl"
      refine e_isn ?_
      walk_at "dl1"
      refine ⟨_, rfl, (by simp only [len_app, len_one]; omega), ?_⟩
      rw [hS]
      walk_at "dl"
      refine e_isn ?_
      have l3 := cutS_length z none (some 1)
      have l5 : (cutS z none (some 1)).length = min 1 z.length := by
        have e1 : HT.sIx z.length z.length (some 1) = min 1 z.length := HT.sIx_nat _ _ 1
        have e2 : HT.sIx z.length 0 none = 0 := rfl
        rw [← tl_len, tl_cut, e1, e2, List.drop_zero, List.length_take, tl_len]
        omega
      have l4 : (cutS z none (some 1)).length ≤ 1 := by omega
      walk_at "dl"
      refine o_mulS (by decide) (by decide) (by omega) ?_
      have hlen : (strMul (cutS z none (some 1)) 8).length = 8 * (cutS z none (some 1)).length := by
        rw [← tl_len, tl_mul, ← tl_len]
        simp
        omega
      refine ⟨_, rfl, by omega, ?_⟩
      have hM : isN (strMul (cutS z none (some 1)) 8) = decide (0 < n) := by
        rw [Bool.eq_iff_iff, isN_iff, decide_eq_true_eq]
        have hsub : ∀ c ∈ TL.tl (strMul (cutS z none (some 1)) 8), c ∈ TL.tl low := by
          intro c hc
          rw [tl_mul, List.mem_flatten] at hc
          obtain ⟨l, h1, h2⟩ := hc
          rw [List.eq_of_mem_replicate h1, tl_cut] at h2
          exact hl c (List.mem_of_mem_drop (List.mem_of_mem_take h2))
        constructor
        · rintro ⟨a, b, _⟩
          omega
        · intro h
          exact ⟨by omega, by omega, hsub⟩
      rw [hM]
      walk_at "dl"
      rw [decide_eq_true rfl]
      walk_at "dl"
      refine e_isn ?_
      walk_at "dl1"
      refine ⟨_, rfl, by decide +kernel, ?_⟩
      rw [show isN (Str.ofString "abcdefghijklmnopqrstuvwxyz") = false by decide +kernel]
      walk_at "dl"
      refine LY.nx _ _ ?fg ⟨t2, ht2, rfl⟩
      case fg => walk_at "fg"
  · rintro _ ⟨t, ht, rfl⟩
    have c1 : isN (Str.ofString "") = false := by decide +kernel
    have c2 : isN (Str.ofString "a") = true := by decide +kernel
    have c3 : isN (Str.ofString "abcdefgh") = true := by decide +kernel
    have c4 : isN (Str.ofString "abcdefghi") = false := by decide +kernel
    walk_at "dl"
    refine e_isn ?_
    walk_at "dl1"
    refine ⟨_, rfl, by decide +kernel, ?_⟩
    rw [c1]
    walk_at "dl"
    refine e_isn ?_
    walk_at "dl1"
    refine ⟨_, rfl, by decide +kernel, ?_⟩
    rw [c2]
    walk_at "dl"
    refine e_isn ?_
    walk_at "dl1"
    refine ⟨_, rfl, by decide +kernel, ?_⟩
    rw [c3]
    walk_at "dl"
    refine e_isn ?_
    walk_at "dl1"
    refine ⟨_, rfl, by decide +kernel, ?_⟩
    rw [c4]
    walk_at "dl"
    exact hfin _
def spL (K : DL.Frag) : Sp := DSp K sp_law
theorem spL_of {K : DL.Frag} {H : Hp} {a : Addr} {ns : List Int} (hl : ns.length ≤ 63) (hS : SqL K H a (ns.map V.int)) : spL K [.ref a] H (fun v _ => v = .bl true) fun _ _ _ => False := by
  refine ⟨H, ns, Evl.Ex.refl H, repL_cons ?_ repL_nil, hl, fun d hd v H' _ r => ?_, fun c z => z.elim⟩
  · unfold Rep
    exact ⟨a, _, rfl, hS, repL_ints ns⟩
  · cases (show d = _ from hd)
    unfold Rep at r
    exact r
end
def d_is_name : He.DefD := ⟨("is_name", none), "is_name", "is_name", defArgs s_is_name, defBody s_is_name, defScope s_is_name, [], []⟩
def d_law_tape : He.DefD := ⟨("_law_tape", none), "_law_tape", "_law_tape", defArgs s_law_tape, defBody s_law_tape, defScope s_law_tape, [], []⟩
def d_law_pick : He.DefD := ⟨("_law_pick", none), "_law_pick", "_law_pick", defArgs s_law_pick, defBody s_law_pick, defScope s_law_pick, [], []⟩
def d_law : He.DefD := ⟨("law", none), "law", "law", defArgs s_law, defBody s_law, defScope s_law, [], []⟩
def fn : List He.DefD := [d_is_name, d_law_tape, d_law_pick, d_law]
def fa : List He.Fa := [.free "abs", .free "bool", .free "int", .free "isinstance", .free "len", .free "range", .int "LONGEST" 8, .str "SIGNS" "abcdefghijklmnopqrstuvwxyz", .glo "is_name", .glo "_law_tape", .glo "_law_pick", .glo "law"]
abbrev R : PySem.W.OpenRow := PySem.W.OpenLaw.row PySem.Challenge.rw_partlabels_k13_names
abbrev hk : PySem.W.Hook := He.hookD 4 fa fn
def ob (s : PySem.W.SharedT) : He.AlD := He.obsDG 4 fa fn (HandSHeadRun.getT s)
theorem ob_eq (s : PySem.W.SharedT) : ob s = hk.obs s.abs := He.obsDG_eq (HandSHeadRun.getT_eq s)
def loose : List PySem.Str := ["LONGEST", "SIGNS", "is_name", "_law_tape", "_law_pick"]
set_option maxHeartbeats 0 in
theorem run (w : World) : HandSHeadRun.RunEq R (PySem.W.view R.prog [7]) hk ob 20000 loose w := by
  intro os
  kernel_rfl
theorem tx_of {K : DL.Frag} {h : Heap} {mg : Str → Option Value} (X : K.In h) (G : h.Ns mainGlobals mg) (c : He.SaysD fa fn K) : Tx K mg :=
  ⟨He.free_ok X G (c.fact 0 (f := .free "abs") rfl),
    He.free_ok X G (c.fact 1 (f := .free "bool") rfl),
    He.free_ok X G (c.fact 2 (f := .free "int") rfl),
    He.free_ok X G (c.fact 3 (f := .free "isinstance") rfl),
    He.free_ok X G (c.fact 4 (f := .free "len") rfl),
    He.free_ok X G (c.fact 5 (f := .free "range") rfl),
    He.int_ok X G (c.fact 6 (f := .int "LONGEST" 8) rfl),
    He.str_ok X G (c.fact 7 (f := .str "SIGNS" "abcdefghijklmnopqrstuvwxyz") rfl),
    He.glo_ok X G (c.fact 8 (f := .glo "is_name") rfl),
    c.def_ 0 (d := d_is_name) rfl,
    He.glo_ok X G (c.fact 9 (f := .glo "_law_tape") rfl),
    c.def_ 1 (d := d_law_tape) rfl,
    He.glo_ok X G (c.fact 10 (f := .glo "_law_pick") rfl),
    c.def_ 2 (d := d_law_pick) rfl,
    He.glo_ok X G (c.fact 11 (f := .glo "law") rfl),
    c.def_ 3 (d := d_law) rfl⟩
theorem facts {P : Program} {w : World} {K : DL.Frag} {h : Heap} {mg : Str → Option Value} {f : Addr} (X : K.In h) (G : h.Ns mainGlobals mg) (hfa : mg ("law" : Str) = some (.ref f)) (c : He.SaysD fa fn K) :
    ∃ fd : FuncData, (∀ (s : Shared) (v : Value), BindsTo s fd ⟨[v], []⟩ [("_law_script", v)]) ∧ ∀ base : Heap, K.In base → base.Ns mainGlobals mg → FnOk P w K mg base (L2.CX P w) 2 f fd ["_law_script"] (DL.DSp K sp_law) := by
  have T := tx_of X G c
  obtain ⟨fd, F⟩ := T.F_law
  have e := hfa.symm.trans T.g_law
  cases e
  have b := FunD.bindsA (ps := ["_law_script"]) F fun _ _ _ _ _ _ us hl => match us, hl with | [_], _ => rfl
  exact ⟨fd, fun s v => b s [v] rfl, fun base _ _ => ok_law T F⟩
end T
open PySem PySem.W PySem.Calls PyProof.Rows
set_option maxHeartbeats 0 in
theorem PySem.Challenge.cw_partlabels_k13_names_holds : PySem.Challenge.rw_partlabels_k13_names.Holds := by
  w_on; o_law
  refine HandSHeadRun.head_any (r := OpenLaw.row PySem.Challenge.rw_partlabels_k13_names) (q := view (OpenLaw.row PySem.Challenge.rw_partlabels_k13_names).prog [7]) (H := T.hk) (ob := T.ob) (M := 20000) (loose := T.loose) (d := HandSHeadRun.topDef (OpenLaw.row PySem.Challenge.rw_partlabels_k13_names).prog 7) (kwd := []) T.ob_eq
    (by kernel_rfl) (fun s => by kernel_rfl) T.run (by kernel_rfl) (by kernel_rfl) (by kernel_rfl) (by rfl) (by first | assumption | decide +kernel) (by decide +kernel) ⟨rfl, rfl, rfl, rfl, rfl, by decide +kernel⟩ ?hw ?hc
  case hw => w_witness2
  case hc =>
    refine DL.walk_W (l := PySem.Challenge.rw_partlabels_k13_names) (n := 63) (k := 2) (x := "_law_script") rfl (by decide) (by kernel_rfl) ⟨rfl, by decide, by decide⟩ ?F
    intro w mg fa h Y G hmg0
    obtain ⟨K, KX, c⟩ := Y
    have hmg : mg ("law" : PySem.Str) = some (.ref fa) := by
      have e : (HandSHeadRun.topDef (OpenLaw.row PySem.Challenge.rw_partlabels_k13_names).prog 7).name = ("law" : PySem.Str) := by kernel_rfl
      rw [← e]
      exact hmg0
    obtain ⟨fd, hb, hF⟩ := T.facts (P := (PySem.Challenge.rw_partlabels_k13_names).prog) (w := w) KX G hmg c
    exact ⟨K, fd, T.spL K, KX, hb, fun H a ns hl _ hS => T.spL_of hl hS, hF⟩
#print axioms PySem.Challenge.cw_partlabels_k13_names_holds
