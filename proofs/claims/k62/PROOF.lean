import PyProof.Rows.All
import Wide.All
import OpenK.AllK
import Wide.FinOn
import HandS.ForMost
import HandS.ForExc
import HandS.Wide
import HandS.Style
import HandS.TupLe
import HandS.TupAny
import HandS.IsInst
import HandS.StrMore
import HandS.Evl
import HandS.Defaults
import HandS.CallSlots
import KE.DataEq
import KE.DataCmp
import HandS.Steps
import HandS.HeadHook1
import HandS.ExcInit
import HandS.ExcField
import HandS.TryOnly
import KE.KExcIs
import HandS.Replace
import HandS.Iter
import HandS.WideMore
import HandS.Head0
import HandS.Head1
import HandS.Head2
import HandS.HeadEnd
import HandS.HeadHook2
import HandS.Walk
import HandS.DictComp
import HandS.Zip
import HandS.Small
import HandS.More
import HandS.Conv
import HandS.ListItems
import HandS.Property
import HandS.Codes
import HandS.SlotsOwn
import HandS.FStr
import HandS.RaiseMore
import HandS.DeepEq
import KE.KCallOwn
import KE.DatumIndex
import HandS.Sort
import KE.KStateDown
import PySem.Challenge.RW_partlabels_k62_powers_of_actions
set_option Elab.async false
set_option linter.all false
set_option maxRecDepth 100000
set_option autoImplicit false
set_option maxHeartbeats 4000000
/-! The layer of data: values as trees of data, statements as steps from data to data. -/
namespace DL
open PySem L2 Evl
abbrev Frag := PySem.W.Frag
inductive Dt where
  | non | bl (b : Bool) | int (i : Int) | str (x : Str) | ty (n : String) | ref (a : Addr)
  | lst (ds : List Dt) | tup (ds : List Dt) | dic (ks : List Key) (ds : List Dt) | ins (C : Addr) (fs : List Str) (ds : List Dt)
  | exn (a : Addr) (dd : Option Addr) (C : Addr) (fs : List Str) (ds : List Dt)
  | own (i : Nat)
/-- what stood there stands there still; a dict may have been locked -/
def Lok (o u : HO) : Prop := ∃ ob kvs, o = .dK kvs ∧ u = .frz ob (.dK kvs)
def Xe (F F' : Hp) : Prop := ∀ a o, F a = some o → F' a = some o ∨ ∃ u, F' a = some u ∧ Lok o u
theorem Xe.refl (F : Hp) : Xe F F := fun _ _ h => .inl h
theorem Xe.of {F F' : Hp} (e : Ex F F') : Xe F F' := fun a o h => .inl (e a o h)
theorem Xe.new {F : Hp} {p : Addr} {o : HO} (h : F p = none) : Xe F (upd F p o) := Xe.of (Ex.new h)
theorem Lok.noL {o u v : HO} (h : Lok o u) (g : Lok u v) : False := by
  obtain ⟨ob, kvs, rfl, rfl⟩ := h
  obtain ⟨ob', kvs', e, _⟩ := g
  cases e
theorem Xe.trans {F F1 F2 : Hp} (a : Xe F F1) (b : Xe F1 F2) : Xe F F2 := fun x o h => by
  rcases a x o h with h1 | ⟨u, h1, l⟩
  · exact b x o h1
  · rcases b x u h1 with h2 | ⟨v, h2, l2⟩
    · exact .inr ⟨u, h2, l⟩
    · exact (l.noL l2).elim
theorem Xe.there {F F' : Hp} {a : Addr} (e : Xe F F') (h : F a ≠ none) : F' a ≠ none := by
  cases q : F a with
  | none => exact absurd q h
  | some o =>
    rcases e a o q with h1 | ⟨u, h1, _⟩
    · rw [h1]; exact fun z => nomatch z
    · rw [h1]; exact fun z => nomatch z
theorem Xe.lst {F F' : Hp} {a : Addr} {xs : List V} (e : Xe F F') (h : Rd F a (.lst xs)) : Rd F' a (.lst xs) := by
  rcases h with h | ⟨o, h⟩
  · rcases e a _ h with h1 | ⟨u, h1, _, _, z, _⟩
    · exact .inl h1
    · cases z
  · rcases e a _ h with h1 | ⟨u, h1, _, _, z, _⟩
    · exact .inr ⟨o, h1⟩
    · cases z
theorem Xe.tup {F F' : Hp} {a : Addr} {xs : List V} (e : Xe F F') (h : Rd F a (.tup xs)) : Rd F' a (.tup xs) := by
  rcases h with h | ⟨o, h⟩
  · rcases e a _ h with h1 | ⟨u, h1, _, _, z, _⟩
    · exact .inl h1
    · cases z
  · rcases e a _ h with h1 | ⟨u, h1, _, _, z, _⟩
    · exact .inr ⟨o, h1⟩
    · cases z
theorem Xe.dic {F F' : Hp} {a : Addr} {xs : List (Key × V)} (e : Xe F F') (h : Rd F a (.dK xs)) : Rd F' a (.dK xs) := by
  rcases h with h | ⟨o, h⟩
  · rcases e a _ h with h1 | ⟨u, h1, ob, kvs, z, y⟩
    · exact .inl h1
    · cases z
      exact .inr ⟨ob, by rw [h1, y]⟩
  · rcases e a _ h with h1 | ⟨u, h1, _, _, z, _⟩
    · exact .inr ⟨o, h1⟩
    · cases z
theorem Xe.ins {F F' : Hp} {a C dx : Addr} {fs : List (Str × V)} (e : Xe F F') (h : F a = some (.ins C dx fs)) : F' a = some (.ins C dx fs) := by
  rcases e a _ h with h1 | ⟨u, h1, _, _, z, _⟩
  · exact h1
  · cases z
theorem Xe.xd {F F' : Hp} {a : Addr} {fs : List (Str × V)} (e : Xe F F') (h : F a = some (.xd fs)) : F' a = some (.xd fs) := by
  rcases e a _ h with h1 | ⟨u, h1, _, _, z, _⟩
  · exact h1
  · cases z
theorem xe_l {K : Frag} {F F' : Hp} {a : Addr} {xs : List V} (e : Xe F F') (h : SqL K F a xs) : SqL K F' a xs := by
  rcases h with h | h
  · exact .inl (e.lst h)
  · exact .inr h
theorem xe_t {K : Frag} {F F' : Hp} {a : Addr} {xs : List V} (e : Xe F F') (h : SqT K F a xs) : SqT K F' a xs := by
  rcases h with h | h
  · exact .inl (e.tup h)
  · exact .inr h
mutual
def Rep (K : Frag) (F : Hp) : Dt → V → Prop
  | .non, v => v = .non
  | .bl b, v => v = .bl b
  | .int i, v => v = .int i
  | .str x, v => v = .str x
  | .ty n, v => v = .ty n
  | .ref a, v => v = .ref a
  | .lst ds, v => ∃ a xs, v = .ref a ∧ SqL K F a xs ∧ RepL K F ds xs
  | .tup ds, v => ∃ a xs, v = .ref a ∧ SqT K F a xs ∧ RepL K F ds xs
  | .dic ks ds, v => ∃ a xs, v = .ref a ∧ Rd F a (.dK (ks.zip xs)) ∧ ks.length = ds.length ∧ RepL K F ds xs
  | .ins C fs ds, v => ∃ a dx xs, v = .ref a ∧ F a = some (.ins C dx (fs.zip xs)) ∧ fs.length = ds.length ∧ RepL K F ds xs
  | .exn a dd _ fs ds, v => v = .ref a ∧ ((fs = [] ∧ dd = none) ∨ ∃ b xs, dd = some b ∧ F b = some (.xd (fs.zip xs)) ∧ fs.length = ds.length ∧ RepL K F ds xs)
  | .own _, _ => False
def RepL (K : Frag) (F : Hp) : List Dt → List V → Prop
  | [], vs => vs = []
  | d :: ds, vs => ∃ v r, vs = v :: r ∧ Rep K F d v ∧ RepL K F ds r
end
mutual
theorem Rep.mono {K : Frag} {F F' : Hp} (e : Xe F F') : ∀ {d : Dt} {v : V}, Rep K F d v → Rep K F' d v
  | .non, _, h => h
  | .bl _, _, h => h
  | .int _, _, h => h
  | .str _, _, h => h
  | .ty _, _, h => h
  | .ref _, _, h => h
  | .lst ds, _, h => by
    unfold Rep at h ⊢
    obtain ⟨a, xs, h1, h2, h3⟩ := h
    exact ⟨a, xs, h1, xe_l e h2, RepL.mono e h3⟩
  | .tup ds, _, h => by
    unfold Rep at h ⊢
    obtain ⟨a, xs, h1, h2, h3⟩ := h
    exact ⟨a, xs, h1, xe_t e h2, RepL.mono e h3⟩
  | .dic ks ds, _, h => by
    unfold Rep at h ⊢
    obtain ⟨a, xs, h1, h2, h3, h4⟩ := h
    exact ⟨a, xs, h1, e.dic h2, h3, RepL.mono e h4⟩
  | .ins C fs ds, _, h => by
    unfold Rep at h ⊢
    obtain ⟨a, dx, xs, h1, h2, h3, h4⟩ := h
    exact ⟨a, dx, xs, h1, e.ins h2, h3, RepL.mono e h4⟩
  | .exn a dd C fs ds, _, h => by
    unfold Rep at h ⊢
    obtain ⟨h1, h2⟩ := h
    refine ⟨h1, ?_⟩
    rcases h2 with h2 | ⟨b, xs, h3, h4, h5, h6⟩
    · exact .inl h2
    · exact .inr ⟨b, xs, h3, e.xd h4, h5, RepL.mono e h6⟩
  | .own _, _, h => by
    unfold Rep at h
    exact h.elim
theorem RepL.mono {K : Frag} {F F' : Hp} (e : Xe F F') : ∀ {ds : List Dt} {vs : List V}, RepL K F ds vs → RepL K F' ds vs
  | [], _, h => by
    unfold RepL at h ⊢
    exact h
  | d :: ds, _, h => by
    unfold RepL at h ⊢
    obtain ⟨v, r, h1, h2, h3⟩ := h
    exact ⟨v, r, h1, Rep.mono e h2, RepL.mono e h3⟩
end
theorem RepL.length {K : Frag} {F : Hp} : ∀ {ds : List Dt} {vs : List V}, RepL K F ds vs → vs.length = ds.length
  | [], _, h => by
    unfold RepL at h
    rw [h] <;> rfl
  | d :: ds, _, h => by
    unfold RepL at h
    obtain ⟨v, r, h1, h2, h3⟩ := h
    rw [h1, List.length_cons, List.length_cons, RepL.length h3]
theorem RepL.get {K : Frag} {F : Hp} : ∀ {ds : List Dt} {vs : List V} {i : Nat} {d : Dt}, RepL K F ds vs → ds[i]? = some d → ∃ v, vs[i]? = some v ∧ Rep K F d v
  | [], _, i, d, h, e => by simp at e
  | c :: ds, _, 0, d, h, e => by
    unfold RepL at h
    obtain ⟨v, r, h1, h2, h3⟩ := h
    simp at e
    subst e h1
    exact ⟨v, rfl, h2⟩
  | c :: ds, _, i + 1, d, h, e => by
    unfold RepL at h
    obtain ⟨v, r, h1, h2, h3⟩ := h
    subst h1
    obtain ⟨u, e1, e2⟩ := RepL.get (i := i) (d := d) h3 (by simpa using e)
    exact ⟨u, by simpa using e1, e2⟩
theorem RepL.app {K : Frag} {F : Hp} : ∀ {ds es : List Dt} {vs us : List V}, RepL K F ds vs → RepL K F es us → RepL K F (ds ++ es) (vs ++ us)
  | [], es, vs, us, h, g => by
    unfold RepL at h
    subst h
    exact g
  | d :: ds, es, vs, us, h, g => by
    unfold RepL at h
    obtain ⟨v, r, h1, h2, h3⟩ := h
    subst h1
    show RepL K F (d :: (ds ++ es)) (v :: (r ++ us))
    unfold RepL
    exact ⟨v, r ++ us, rfl, h2, RepL.app h3 g⟩
theorem repL_nil {K : Frag} {F : Hp} : RepL K F [] [] := by
  unfold RepL
  rfl
theorem repL_cons {K : Frag} {F : Hp} {d : Dt} {ds : List Dt} {v : V} {vs : List V} (h : Rep K F d v) (g : RepL K F ds vs) : RepL K F (d :: ds) (v :: vs) := by
  unfold RepL
  exact ⟨v, vs, rfl, h, g⟩
/-! ### slots -/
inductive Sl where
  | no | sh (d : Dt) | ow (l : Bool) (d : Dt)
abbrev En := List Sl
/-- what an owned object is -/
def Own (K : Frag) (F H : Hp) (p : Addr) : Dt → Prop
  | .lst ds => ∃ xs, H p = some (.lst xs) ∧ RepL K F ds xs
  | .dic ks ds => ∃ xs, H p = some (.dK (ks.zip xs)) ∧ ks.length = ds.length ∧ RepL K F ds xs
  | .ins C fs ds => ∃ dx xs, H p = some (.ins C dx (fs.zip xs)) ∧ fs.length = ds.length ∧ RepL K F ds xs
  | _ => False
theorem Own.mono {K : Frag} {F F' H H' : Hp} {p : Addr} (e : Xe F F') (h : H' p = H p) : ∀ {d : Dt}, Own K F H p d → Own K F' H' p d
  | .lst ds, ⟨xs, a, b⟩ => ⟨xs, h.trans a, b.mono e⟩
  | .dic ks ds, ⟨xs, a, b, c⟩ => ⟨xs, h.trans a, b, c.mono e⟩
  | .ins C fs ds, ⟨dx, xs, a, b, c⟩ => ⟨dx, xs, h.trans a, b, c.mono e⟩
theorem Own.there {K : Frag} {F H : Hp} {p : Addr} : ∀ {d : Dt}, Own K F H p d → H p ≠ none
  | .lst ds, ⟨xs, a, b⟩ => by rw [a]; exact fun z => nomatch z
  | .dic ks ds, ⟨xs, a, b, c⟩ => by rw [a]; exact fun z => nomatch z
  | .ins C fs ds, ⟨dx, xs, a, b, c⟩ => by rw [a]; exact fun z => nomatch z
def OwA (σ : L2.St) (ρ : En) (a : Addr) : Prop := ∃ (i : Nat) (l : Bool) (d : Dt), ρ[i]? = some (.ow l d) ∧ σ[i]? = some (some (.ref a))
structure Sym (K : Frag) (F H : Hp) (σ : L2.St) (ρ : En) : Prop where
  ex : Ex F H
  len : σ.length = ρ.length
  sh : ∀ (i : Nat) (d : Dt), ρ[i]? = some (.sh d) → ∃ v, σ[i]? = some (some v) ∧ Rep K F d v
  ow : ∀ (i : Nat) (l : Bool) (d : Dt), ρ[i]? = some (.ow l d) → ∃ p, σ[i]? = some (some (.ref p)) ∧ F p = none ∧ Own K F H p d
  inj : ∀ (i j : Nat) (l m : Bool) (d e : Dt) (p : Addr), ρ[i]? = some (.ow l d) → ρ[j]? = some (.ow m e) → σ[i]? = some (some (.ref p)) → σ[j]? = some (some (.ref p)) → i = j
theorem Sym.exx {K : Frag} {F H : Hp} {σ : L2.St} {ρ : En} (s : Sym K F H σ ρ) : Xe F H := Xe.of s.ex
/-- from one state to a later one -/
structure Step (K : Frag) (σ : L2.St) (ρ : En) (F H : Hp) (σ' : L2.St) (ρ' : En) (F' H' : Hp) : Prop where
  sym : Sym K F' H' σ' ρ'
  exF : Xe F F'
  keep : ∀ a o, H a = some o → ¬ OwA σ ρ a → H' a = some o ∨ (F a ≠ none ∧ ∃ u, H' a = some u ∧ Lok o u)
  own : ∀ a, OwA σ' ρ' a → OwA σ ρ a ∨ H a = none
  new : ∀ a, F' a ≠ none → F a ≠ none ∨ H a = none ∨ OwA σ ρ a
  all : ∀ a, H a ≠ none → H' a ≠ none
  stay : ∀ (i : Nat) (d : Dt), ρ[i]? = some (.ow true d) → ∃ d', ρ'[i]? = some (.ow true d') ∧ σ'[i]? = σ[i]?
section
variable {K : Frag} {σ σ1 σ2 : L2.St} {ρ ρ1 ρ2 : En} {F F1 F2 H H1 H2 : Hp}
theorem Step.refl (s : Sym K F H σ ρ) : Step K σ ρ F H σ ρ F H := ⟨s, Xe.refl F, fun _ _ h _ => .inl h, fun _ h => .inl h, fun _ h => .inl h, fun _ h => h, fun _ d h => ⟨d, h, rfl⟩⟩
theorem Step.trans (a : Step K σ ρ F H σ1 ρ1 F1 H1) (b : Step K σ1 ρ1 F1 H1 σ2 ρ2 F2 H2) : Step K σ ρ F H σ2 ρ2 F2 H2 where
  sym := b.sym
  exF := a.exF.trans b.exF
  keep := fun x o h n => by
    have n1 : ¬ OwA σ1 ρ1 x := fun z => by
      rcases a.own x z with y | y
      · exact n y
      · rw [h] at y
        cases y
    have f1 : F1 x ≠ none → F x ≠ none := fun z => by
      rcases a.new x z with y | y | y
      · exact y
      · rw [h] at y
        cases y
      · exact absurd y n
    rcases a.keep x o h n with h1 | ⟨hf, u, h1, l⟩
    · rcases b.keep x o h1 n1 with h2 | ⟨hg, v, h2, l2⟩
      · exact .inl h2
      · exact .inr ⟨f1 hg, v, h2, l2⟩
    · rcases b.keep x u h1 n1 with h2 | ⟨hg, v, h2, l2⟩
      · exact .inr ⟨hf, u, h2, l⟩
      · exact (l.noL l2).elim
  own := fun x z => by
    rcases b.own x z with y | y
    · exact a.own x y
    · refine .inr ?_
      cases h : H x with
      | none => rfl
      | some o => exact absurd y (a.all x (by rw [h]; exact fun z => nomatch z))
  new := fun x z => by
    rcases b.new x z with y | y | y
    · exact a.new x y
    · refine .inr (.inl ?_)
      cases h : H x with
      | none => rfl
      | some o => exact absurd y (a.all x (by rw [h]; exact fun z => nomatch z))
    · rcases a.own x y with w | w
      · exact .inr (.inr w)
      · exact .inr (.inl w)
  all := fun x z => b.all x (a.all x z)
  stay := fun i d h => by
    obtain ⟨d1, h1, e1⟩ := a.stay i d h
    obtain ⟨d2, h2, e2⟩ := b.stay i d1 h1
    exact ⟨d2, h2, e2.trans e1⟩
/-- nothing but new objects (and locks of shared dicts); all of these are frozen -/
def Gw (F H H' : Hp) : Prop := ∀ a o, H a = some o → H' a = some o ∨ (F a ≠ none ∧ ∃ u, H' a = some u ∧ Lok o u)
theorem Gw.of (g : Ex H H1) : Gw F H H1 := fun a o h => .inl (g a o h)
theorem Gw.all (g : Gw F H H1) {a : Addr} (h : H a ≠ none) : H1 a ≠ none := by
  cases q : H a with
  | none => exact absurd q h
  | some o =>
    rcases g a o q with h1 | ⟨_, u, h1, _⟩
    · rw [h1]; exact fun z => nomatch z
    · rw [h1]; exact fun z => nomatch z
def Fz (F H H' : Hp) : Hp := fun a => match H a with
  | none => H' a
  | some _ => match F a with
    | none => none
    | some _ => H' a
theorem fz_old {a : Addr} {o : HO} (h : H a = some o) (hf : F a = none) : Fz F H H1 a = none := by unfold Fz; rw [h, hf]
theorem fz_have {a : Addr} {o u : HO} (h : H a = some o) (hf : F a = some u) : Fz F H H1 a = H1 a := by unfold Fz; rw [h, hf]
theorem fz_new {a : Addr} (h : H a = none) : Fz F H H1 a = H1 a := by unfold Fz; rw [h]
theorem fz_exG (h : Ex F H) (g : Gw F H H1) : Xe F (Fz F H H1) := fun a o e => by
  rw [fz_have (h a o e) e]
  rcases g a o (h a o e) with z | ⟨_, z⟩
  · exact .inl z
  · exact .inr z
theorem fz_ex (h : Ex F H) (g : Ex H H1) : Xe F (Fz F H H1) := fz_exG h (Gw.of g)
theorem fz_in : Ex (Fz F H H1) H1 := fun a o e => by
  cases q : H a with
  | none =>
    rw [fz_new q] at e
    exact e
  | some u =>
    cases r : F a with
    | none =>
      rw [fz_old q r] at e
      cases e
    | some v =>
      rw [fz_have q r] at e
      exact e
theorem fz_some {a : Addr} (h : Fz F H H1 a ≠ none) : F a ≠ none ∨ H a = none := by
  cases q : H a with
  | none => exact .inr rfl
  | some o =>
    cases r : F a with
    | none => exact absurd (fz_old q r) h
    | some v => exact .inl (fun z => nomatch z)
theorem Sym.growG (s : Sym K F H σ ρ) (g : Gw F H H1) : Sym K (Fz F H H1) H1 σ ρ where
  ex := fz_in
  len := s.len
  sh := fun i d h => by
    obtain ⟨v, a, b⟩ := s.sh i d h
    exact ⟨v, a, b.mono (fz_exG s.ex g)⟩
  ow := fun i l d h => by
    obtain ⟨p, a, b, c⟩ := s.ow i l d h
    cases q : H p with
    | none => exact absurd q c.there
    | some o =>
      refine ⟨p, a, fz_old q b, c.mono (fz_exG s.ex g) ?_⟩
      rcases g p o q with z | ⟨z, _⟩
      · rw [q]; exact z
      · exact absurd b z
  inj := s.inj
theorem Step.growG (s : Sym K F H σ ρ) (g : Gw F H H1) : Step K σ ρ F H σ ρ (Fz F H H1) H1 where
  sym := s.growG g
  exF := fz_exG s.ex g
  keep := fun a o h _ => g a o h
  own := fun a h => .inl h
  new := fun a h => by
    rcases fz_some h with z | z
    · exact .inl z
    · exact .inr (.inl z)
  all := fun a h => g.all h
  stay := fun _ d h => ⟨d, h, rfl⟩
theorem Step.grow (s : Sym K F H σ ρ) (g : Ex H H1) : Step K σ ρ F H σ ρ (Fz F H H1) H1 := Step.growG s (Gw.of g)
/-- a shared dict is locked -/
theorem Sym.lock {d : Addr} {ob : Obj} {kvs : List (Key × V)} (s : Sym K F H σ ρ) (h : F d = some (.dK kvs)) : Sym K (upd F d (.frz ob (.dK kvs))) (upd H d (.frz ob (.dK kvs))) σ ρ := by
  have x : Xe F (upd F d (.frz ob (.dK kvs))) := fun a o e => by
    by_cases z : a = d
    · subst z
      rw [h] at e
      cases e
      exact .inr ⟨_, upd_same, ob, kvs, rfl, rfl⟩
    · exact .inl (by rw [upd_ne z]; exact e)
  exact {
    ex := fun a o e => by
      by_cases z : a = d
      · subst z
        rw [upd_same] at e ⊢
        exact e
      · rw [upd_ne z] at e ⊢
        exact s.ex a o e
    len := s.len
    sh := fun i e g => by
      obtain ⟨v, a, b⟩ := s.sh i e g
      exact ⟨v, a, b.mono x⟩
    ow := fun i l e g => by
      obtain ⟨p, a, b, c⟩ := s.ow i l e g
      have ne : p ≠ d := fun z => by
        subst z
        rw [h] at b
        cases b
      exact ⟨p, a, by rw [upd_ne ne]; exact b, c.mono x (upd_ne ne)⟩
    inj := s.inj }
theorem Step.lock {d : Addr} {ob : Obj} {kvs : List (Key × V)} (s : Sym K F H σ ρ) (h : F d = some (.dK kvs)) : Step K σ ρ F H σ ρ (upd F d (.frz ob (.dK kvs))) (upd H d (.frz ob (.dK kvs))) where
  sym := s.lock h
  exF := fun a o e => by
    by_cases z : a = d
    · subst z
      rw [h] at e
      cases e
      exact .inr ⟨_, upd_same, ob, kvs, rfl, rfl⟩
    · exact .inl (by rw [upd_ne z]; exact e)
  keep := fun a o e _ => by
    by_cases z : a = d
    · subst z
      rw [s.ex _ _ h] at e
      cases e
      exact .inr ⟨by rw [h]; exact (fun y => nomatch y), _, upd_same, ob, kvs, rfl, rfl⟩
    · exact .inl (by rw [upd_ne z]; exact e)
  own := fun a h => .inl h
  new := fun a e => by
    by_cases z : a = d
    · subst z
      exact .inl (by rw [h]; exact fun y => nomatch y)
    · rw [upd_ne z] at e
      exact .inl e
  all := fun a e => by
    by_cases z : a = d
    · subst z
      rw [upd_same]
      exact fun y => nomatch y
    · rw [upd_ne z]
      exact e
  stay := fun _ d h => ⟨d, h, rfl⟩
/-- the object that the slot i owns is changed -/
theorem Sym.write {i : Nat} {l : Bool} {d d' : Dt} {p : Addr} {o : HO} (s : Sym K F H σ ρ) (hi : ρ[i]? = some (.ow l d)) (hp : σ[i]? = some (some (.ref p))) (new : Own K F (upd H p o) p d') : Sym K F (upd H p o) σ (ρ.set i (.ow l d')) := by
  obtain ⟨p', a, b, c⟩ := s.ow i l d hi
  have ep : p' = p := by
    rw [a] at hp
    have z := Option.some.inj (Option.some.inj hp)
    injection z
  subst ep
  have hil : i < ρ.length := (List.getElem?_eq_some_iff.mp hi).1
  exact {
    ex := Ex.mut s.ex b
    len := by rw [List.length_set]; exact s.len
    sh := fun j e h => by
      by_cases hj : i = j
      · subst hj
        rw [List.getElem?_set_self hil] at h
        cases h
      · rw [List.getElem?_set_ne hj] at h
        exact s.sh j e h
    ow := fun j m e h => by
      by_cases hj : i = j
      · subst hj
        rw [List.getElem?_set_self hil] at h
        cases h
        exact ⟨p', a, b, new⟩
      · rw [List.getElem?_set_ne hj] at h
        obtain ⟨q, a', b', c'⟩ := s.ow j m e h
        have ne : q ≠ p' := fun z => by
          subst z
          exact hj (s.inj i j l m d e q hi h a a')
        exact ⟨q, a', b', c'.mono (Xe.refl F) (upd_ne ne)⟩
    inj := fun j k m n e f q h1 h2 h3 h4 => by
      have t : ∀ {j : Nat} {m : Bool} {e : Dt}, (ρ.set i (.ow l d'))[j]? = some (.ow m e) → ∃ m e, ρ[j]? = some (.ow m e) := fun {j m e} h => by
        by_cases hj : i = j
        · subst hj
          exact ⟨l, d, hi⟩
        · rw [List.getElem?_set_ne hj] at h
          exact ⟨m, e, h⟩
      obtain ⟨m', e', h1'⟩ := t h1
      obtain ⟨n', f', h2'⟩ := t h2
      exact s.inj j k m' n' e' f' q h1' h2' h3 h4 }
theorem OwA.of_write {i : Nat} {l : Bool} {d d' : Dt} {a : Addr} (hi : ρ[i]? = some (.ow l d)) (h : OwA σ (ρ.set i (.ow l d')) a) : OwA σ ρ a := by
  obtain ⟨j, m, e, h1, h2⟩ := h
  by_cases hj : i = j
  · subst hj
    exact ⟨i, l, d, hi, h2⟩
  · rw [List.getElem?_set_ne hj] at h1
    exact ⟨j, m, e, h1, h2⟩
theorem Step.write {i : Nat} {l : Bool} {d d' : Dt} {p : Addr} {o : HO} (s : Sym K F H σ ρ) (hi : ρ[i]? = some (.ow l d)) (hp : σ[i]? = some (some (.ref p))) (new : Own K F (upd H p o) p d') : Step K σ ρ F H σ (ρ.set i (.ow l d')) F (upd H p o) where
  sym := s.write hi hp new
  exF := Xe.refl F
  keep := fun a u h n => by
    have ne : a ≠ p := fun z => by
      subst z
      exact n ⟨i, l, d, hi, hp⟩
    rw [upd_ne ne]
    exact .inl h
  own := fun a h => .inl (h.of_write hi)
  new := fun a h => .inl h
  all := fun a h => by
    by_cases e : a = p
    · subst e
      rw [upd_same]
      exact fun z => nomatch z
    · rw [upd_ne e]
      exact h
  stay := fun j e h => by
    by_cases hj : i = j
    · subst hj
      rw [hi] at h
      cases h
      exact ⟨d', List.getElem?_set_self (List.getElem?_eq_some_iff.mp hi).1, rfl⟩
    · exact ⟨e, by rw [List.getElem?_set_ne hj]; exact h, rfl⟩
/-- a slot comes to own a new object -/
theorem Sym.take {i : Nat} {d : Dt} {p : Addr} (s : Sym K F H σ ρ) (hn : F p = none) (nw : ∀ (j : Nat) (l : Bool) (e : Dt), ρ[j]? = some (.ow l e) → σ[j]? ≠ some (some (.ref p))) (new : Own K F H p d) : Sym K F H (σ.set i (some (.ref p))) (ρ.set i (.ow false d)) := by
  have bound : ∀ {z : Sl}, (ρ.set i (.ow false d))[i]? = some z → i < ρ.length := fun {z} h => by
    have := (List.getElem?_eq_some_iff.mp h).1
    rw [List.length_set] at this
    exact this
  exact {
    ex := s.ex
    len := by rw [List.length_set, List.length_set]; exact s.len
    sh := fun j e h => by
      by_cases hj : i = j
      · subst hj
        rw [List.getElem?_set_self (bound h)] at h
        cases h
      · rw [List.getElem?_set_ne hj] at h
        obtain ⟨v, a, b⟩ := s.sh j e h
        exact ⟨v, by rw [List.getElem?_set_ne hj]; exact a, b⟩
    ow := fun j m e h => by
      by_cases hj : i = j
      · subst hj
        have hb := bound h
        rw [List.getElem?_set_self hb] at h
        cases h
        exact ⟨p, List.getElem?_set_self (by rw [s.len]; exact hb), hn, new⟩
      · rw [List.getElem?_set_ne hj] at h
        obtain ⟨q, a, b⟩ := s.ow j m e h
        exact ⟨q, by rw [List.getElem?_set_ne hj]; exact a, b⟩
    inj := fun j k m n e f q h1 h2 h3 h4 => by
      by_cases hj : i = j
      · by_cases hk : i = k
        · rw [← hj, ← hk]
        · subst hj
          have hb := bound h1
          rw [List.getElem?_set_self (by rw [s.len]; exact hb)] at h3
          have z := Option.some.inj (Option.some.inj h3)
          injection z with z
          subst z
          rw [List.getElem?_set_ne hk] at h2 h4
          exact absurd h4 (nw k n f h2)
      · by_cases hk : i = k
        · subst hk
          have hb := bound h2
          rw [List.getElem?_set_self (by rw [s.len]; exact hb)] at h4
          have z := Option.some.inj (Option.some.inj h4)
          injection z with z
          subst z
          rw [List.getElem?_set_ne hj] at h1 h3
          exact absurd h3 (nw j m e h1)
        · rw [List.getElem?_set_ne hj] at h1 h3
          rw [List.getElem?_set_ne hk] at h2 h4
          exact s.inj j k m n e f q h1 h2 h3 h4 }
end
def lent (ρ : En) (i : Nat) : Bool := match ρ[i]? with
  | some (.ow true _) => true
  | _ => false
theorem lent_no {ρ : En} {i : Nat} {d : Dt} (h : lent ρ i = false) : ρ[i]? ≠ some (.ow true d) := fun e => by
  unfold lent at h
  rw [e] at h
  cases h
end DL
set_option Elab.async false
set_option linter.all false
set_option maxRecDepth 100000
set_option autoImplicit false
set_option maxHeartbeats 4000000
namespace DL
open PySem L2 Evl
/-- a value in hand: data, or what a slot owns -/
def RepV (K : Frag) (F : Hp) (σ : L2.St) (d : Dt) (v : V) : Prop := match d with
  | .own i => σ[i]? = some (some v)
  | d => Rep K F d v
theorem RepV.mono {K : Frag} {F F' : Hp} {σ : L2.St} (e : Xe F F') {d : Dt} {v : V} (h : RepV K F σ d v) : RepV K F' σ d v := by
  cases d with
  | own i => exact h
  | _ => exact Rep.mono e h
/-- an exception: its class, its fields -/
structure Xc where
  C : Addr
  fs : List Str
  ds : List Dt
def XOk (K : Frag) (F : Hp) (x : Xc) (cls : Value) (dd : Option Addr) : Prop := cls = .ref x.C ∧ ((x.fs = [] ∧ dd = none) ∨ ∃ a xs, dd = some a ∧ F a = some (.xd (x.fs.zip xs)) ∧ x.fs.length = x.ds.length ∧ RepL K F x.ds xs)
abbrev PX := Xc → En → Prop
def px0 : PX := fun _ _ => False
/-- an expression: from data to data -/
def EvD (K : Frag) (W : WX) (te : TE) (ρ : En) (x : PX) (P : Dt → En → Prop) : Prop :=
  ∀ (σ : L2.St) (F H : Hp) (Q : VK), Sym K F H σ ρ → (∀ d ρ' v F' H', P d ρ' → Step K σ ρ F H σ ρ' F' H' → RepV K F' σ d v → Q v H') →
    (∀ c ρ' cls dd F' H', x c ρ' → Step K σ ρ F H σ ρ' F' H' → XOk K F' c cls dd → W cls dd σ H') → te σ H Q
/-- a test -/
def TtD (K : Frag) (W : WX) (tt : TT) (ρ : En) (x : PX) (P : Bool → En → Prop) : Prop :=
  ∀ (σ : L2.St) (F H : Hp) (Q : Bool → Hp → Prop), Sym K F H σ ρ → (∀ b ρ' F' H', P b ρ' → Step K σ ρ F H σ ρ' F' H' → Q b H') →
    (∀ c ρ' cls dd F' H', x c ρ' → Step K σ ρ F H σ ρ' F' H' → XOk K F' c cls dd → W cls dd σ H') → tt σ H Q
/-- arguments -/
def RepVL (K : Frag) (F : Hp) (σ : L2.St) : List Dt → List V → Prop
  | [], vs => vs = []
  | d :: ds, vs => ∃ v r, vs = v :: r ∧ RepV K F σ d v ∧ RepVL K F σ ds r
theorem RepVL.mono {K : Frag} {F F' : Hp} {σ : L2.St} (e : Xe F F') : ∀ {ds : List Dt} {vs : List V}, RepVL K F σ ds vs → RepVL K F' σ ds vs
  | [], _, h => h
  | d :: ds, _, ⟨v, r, h1, h2, h3⟩ => ⟨v, r, h1, h2.mono e, RepVL.mono e h3⟩
def ArD (K : Frag) (W : WX) (ta : TA) (ρ : En) (x : PX) (P : List Dt → En → Prop) : Prop :=
  ∀ (σ : L2.St) (F H : Hp) (Q : List V → Hp → Prop), Sym K F H σ ρ → (∀ ds ρ' vs F' H', P ds ρ' → Step K σ ρ F H σ ρ' F' H' → RepVL K F' σ ds vs → Q vs H') →
    (∀ c ρ' cls dd F' H', x c ρ' → Step K σ ρ F H σ ρ' F' H' → XOk K F' c cls dd → W cls dd σ H') → ta σ H Q
/-- an operation on two values, on one, on several -/
def OpD (K : Frag) (r : R2) (d e : Dt) (ρ : En) (P : Dt → En → Prop) : Prop :=
  ∀ (σ : L2.St) (F H : Hp) (Q : VK) (u v : V), Sym K F H σ ρ → RepV K F σ d u → RepV K F σ e v → (∀ d' ρ' v' F' H', P d' ρ' → Step K σ ρ F H σ ρ' F' H' → RepV K F' σ d' v' → Q v' H') → r u v H Q
def UnD (K : Frag) (r : V → Hp → VK → Prop) (d : Dt) (ρ : En) (P : Dt → En → Prop) : Prop :=
  ∀ (σ : L2.St) (F H : Hp) (Q : VK) (u : V), Sym K F H σ ρ → RepV K F σ d u → (∀ d' ρ' v' F' H', P d' ρ' → Step K σ ρ F H σ ρ' F' H' → RepV K F' σ d' v' → Q v' H') → r u H Q
def CaD (K : Frag) (r : List V → Hp → VK → Prop) (ds : List Dt) (ρ : En) (P : Dt → En → Prop) : Prop :=
  ∀ (σ : L2.St) (F H : Hp) (Q : VK) (us : List V), Sym K F H σ ρ → RepVL K F σ ds us → (∀ d' ρ' v' F' H', P d' ρ' → Step K σ ρ F H σ ρ' F' H' → RepV K F' σ d' v' → Q v' H') → r us H Q
structure Pd where
  nx : En → Prop
  rt : Dt → En → Prop
  rn : Dt → En → Prop := fun _ _ => False
  bk : En → Prop := fun _ => False
  ct : En → Prop := fun _ => False
  ex : PX := px0
/-- what follows a statement, for data -/
structure Lk (K : Frag) (W : WX) (D : Ends) (P : Pd) (σ : L2.St) (ρ : En) (F H : Hp) : Prop where
  nx : ∀ ρ' σ' F' H', P.nx ρ' → Step K σ ρ F H σ' ρ' F' H' → D.nx σ' H'
  rt : ∀ d ρ' v σ' F' H', P.rt d ρ' → Step K σ ρ F H σ' ρ' F' H' → Rep K F' d v → D.rt v H'
  rn : ∀ d ρ' p σ' F' H', P.rn d ρ' → Step K σ ρ F H σ' ρ' F' H' → F' p = none → Own K F' H' p d → (OwA σ' ρ' p ∨ H p = none) → D.rt (.ref p) H'
  bk : ∀ ρ' σ' F' H', P.bk ρ' → Step K σ ρ F H σ' ρ' F' H' → D.bk σ' H'
  ct : ∀ ρ' σ' F' H', P.ct ρ' → Step K σ ρ F H σ' ρ' F' H' → D.ct σ' H'
  ex : ∀ c ρ' cls dd σ' F' H', P.ex c ρ' → Step K σ ρ F H σ' ρ' F' H' → XOk K F' c cls dd → W cls dd σ' H'
/-- a statement, a block -/
def StD (K : Frag) (W : WX) (ts : TS) (ρ : En) (P : Pd) : Prop := ∀ (σ : L2.St) (F H : Hp) (D : Ends), Sym K F H σ ρ → Lk K W D P σ ρ F H → ts D σ H
section
variable {K : Frag} {W : WX} {σ σ1 : L2.St} {ρ ρ1 : En} {F F1 H H1 : Hp} {x : PX} {D : Ends} {P : Pd}
theorem Lk.later (l : Lk K W D P σ ρ F H) (s : Step K σ ρ F H σ1 ρ1 F1 H1) : Lk K W D P σ1 ρ1 F1 H1 :=
  ⟨fun _ _ _ _ p t => l.nx _ _ _ _ p (s.trans t), fun _ _ _ _ _ _ p t => l.rt _ _ _ _ _ _ p (s.trans t), fun _ _ q _ _ _ p t f o w => l.rn _ _ _ _ _ _ p (s.trans t) f o (by
    rcases w with w | w
    · exact .inl w
    · refine .inr ?_
      cases e : H q with
      | none => rfl
      | some u => exact absurd w (s.all q (by rw [e]; exact fun z => nomatch z))), fun _ _ _ _ p t => l.bk _ _ _ _ p (s.trans t), fun _ _ _ _ p t => l.ct _ _ _ _ p (s.trans t), fun _ _ _ _ _ _ _ p t => l.ex _ _ _ _ _ _ _ p (s.trans t)⟩
/-! ### expressions -/
theorem e_var {i : Nat} {d : Dt} {P : Dt → En → Prop} (h : ρ[i]? = some (.sh d)) (p : P d ρ) : EvD K W (tVar i) ρ x P := fun σ F H Q s q _ => by
  obtain ⟨v, e1, e2⟩ := s.sh i d h
  refine ⟨v, e1, q d ρ v F H p (Step.refl s) ?_⟩
  cases d with
  | own j =>
    unfold Rep at e2
    exact e2.elim
  | _ => exact e2
theorem e_own {i : Nat} {l : Bool} {d : Dt} {P : Dt → En → Prop} (h : ρ[i]? = some (.ow l d)) (p : P (.own i) ρ) : EvD K W (tVar i) ρ x P := fun σ F H Q s q _ => by
  obtain ⟨a, e1, _⟩ := s.ow i l d h
  exact ⟨_, e1, q (.own i) ρ _ F H p (Step.refl s) e1⟩
theorem e_int {i : Int} {P : Dt → En → Prop} (p : P (.int i) ρ) : EvD K W (tC (.int i)) ρ x P := fun σ F H Q s q _ => q _ _ _ F H p (Step.refl s) rfl
theorem e_str {z : Str} {P : Dt → En → Prop} (p : P (.str z) ρ) : EvD K W (tC (.str z)) ρ x P := fun σ F H Q s q _ => q _ _ _ F H p (Step.refl s) rfl
theorem e_bl {z : Bool} {P : Dt → En → Prop} (p : P (.bl z) ρ) : EvD K W (tC (.bl z)) ρ x P := fun σ F H Q s q _ => q _ _ _ F H p (Step.refl s) rfl
theorem e_non {P : Dt → En → Prop} (p : P .non ρ) : EvD K W (tC .non) ρ x P := fun σ F H Q s q _ => q _ _ _ F H p (Step.refl s) rfl
theorem e_ty {z : String} {P : Dt → En → Prop} (p : P (.ty z) ρ) : EvD K W (tC (.ty z)) ρ x P := fun σ F H Q s q _ => q _ _ _ F H p (Step.refl s) rfl
theorem e_ref {a : Addr} {P : Dt → En → Prop} (p : P (.ref a) ρ) : EvD K W (tC (.ref a)) ρ x P := fun σ F H Q s q _ => q _ _ _ F H p (Step.refl s) rfl
/-- a constant of the module that is data (written) -/
theorem e_wr {v : V} {d : Dt} {P : Dt → En → Prop} (h : ∀ F, Rep K F d v) (p : P d ρ) : EvD K W (tC v) ρ x P := fun σ F H Q s q _ => q d ρ v F H p (Step.refl s) (by
  have h1 := h F
  cases d with
  | own j =>
    unfold Rep at h1
    exact h1.elim
  | _ => exact h1)
theorem e_op {r : R2} {ta tb : TE} {P : Dt → En → Prop} (h : EvD K W ta ρ x fun d ρ1 => EvD K W tb ρ1 x fun e ρ2 => OpD K r d e ρ2 P) : EvD K W (tOp r ta tb) ρ x P := fun σ F H Q s q w =>
  h σ F H _ s (fun d ρ1 v F1 H1 p1 s1 r1 => p1 σ F1 H1 _ s1.sym (fun e ρ2 u F2 H2 p2 s2 r2 => p2 σ F2 H2 Q v u s2.sym (r1.mono s2.exF) r2 fun d' ρ3 v' F3 H3 p3 s3 r3 => q d' ρ3 v' F3 H3 p3 ((s1.trans s2).trans s3) r3)
    fun c ρ' cls dd F' H' px st xo => w c ρ' cls dd F' H' px (s1.trans st) xo) w
theorem e_un {r : V → Hp → VK → Prop} {ta : TE} {P : Dt → En → Prop} (h : EvD K W ta ρ x fun d ρ1 => UnD K r d ρ1 P) : EvD K W (tUn r ta) ρ x P := fun σ F H Q s q w =>
  h σ F H _ s (fun d ρ1 v F1 H1 p1 s1 r1 => p1 σ F1 H1 Q v s1.sym r1 fun d' ρ3 v' F3 H3 p3 s3 r3 => q d' ρ3 v' F3 H3 p3 (s1.trans s3) r3) w
theorem e_cb {r : List V → Hp → VK → Prop} {ta : TA} {P : Dt → En → Prop} (h : ArD K W ta ρ x fun ds ρ1 => CaD K r ds ρ1 P) : EvD K W (tCB r ta) ρ x P := fun σ F H Q s q w =>
  h σ F H _ s (fun ds ρ1 vs F1 H1 p1 s1 r1 => p1 σ F1 H1 Q vs s1.sym r1 fun d' ρ3 v' F3 H3 p3 s3 r3 => q d' ρ3 v' F3 H3 p3 (s1.trans s3) r3) w
theorem e_imp {te : TE} {P P' : Dt → En → Prop} (h : EvD K W te ρ x P) (g : ∀ d ρ', P d ρ' → P' d ρ') : EvD K W te ρ x P' := fun σ F H Q s q w => h σ F H Q s (fun d ρ' v F' H' p => q d ρ' v F' H' (g d ρ' p)) w
/-! ### arguments -/
theorem a_nil {P : List Dt → En → Prop} (p : P [] ρ) : ArD K W tNil ρ x P := fun σ F H Q s q _ => q [] ρ [] F H p (Step.refl s) rfl
theorem a_cons {te : TE} {ta : TA} {P : List Dt → En → Prop} (h : EvD K W te ρ x fun d ρ1 => ArD K W ta ρ1 x fun ds ρ2 => P (d :: ds) ρ2) : ArD K W (tCons te ta) ρ x P := fun σ F H Q s q w =>
  h σ F H _ s (fun d ρ1 v F1 H1 p1 s1 r1 => p1 σ F1 H1 _ s1.sym (fun ds ρ2 vs F2 H2 p2 s2 r2 => q (d :: ds) ρ2 (v :: vs) F2 H2 p2 (s1.trans s2) ⟨v, vs, rfl, r1.mono s2.exF, r2⟩)
    fun c ρ' cls dd F' H' px st xo => w c ρ' cls dd F' H' px (s1.trans st) xo) w
/-! ### tests -/
theorem t_test {te : TE} {P : Bool → En → Prop} (h : EvD K W te ρ x fun d ρ1 => ∃ b, d = .bl b ∧ P b ρ1) : TtD K W (tTest te) ρ x P := fun σ F H Q s q w =>
  h σ F H _ s (fun d ρ1 v F1 H1 p1 s1 r1 => by
    obtain ⟨b, rfl, p⟩ := p1
    have e : v = .bl b := r1
    exact ⟨b, e, q b ρ1 F1 H1 p s1⟩) w
theorem t_B {te : TE} {P : Bool → En → Prop} (h : EvD K W te ρ x fun d ρ1 => ∃ b, d = .bl b ∧ P b ρ1) : TtD K W (tB te) ρ x P := fun σ F H Q s q w =>
  h σ F H _ s (fun d ρ1 v F1 H1 p1 s1 r1 => by
    obtain ⟨b, rfl, p⟩ := p1
    have e : v = .bl b := r1
    exact ⟨b, e, q b ρ1 F1 H1 p s1⟩) w
theorem t_and {t u : TT} {P : Bool → En → Prop} (h : TtD K W t ρ x fun b ρ1 => (b = true → TtD K W u ρ1 x P) ∧ (b = false → P false ρ1)) : TtD K W (tAnd t u) ρ x P := fun σ F H Q s q w =>
  h σ F H _ s (fun b ρ1 F1 H1 p1 s1 => by
    cases b with
    | true => exact p1.1 rfl σ F1 H1 Q s1.sym (fun b ρ2 F2 H2 p2 s2 => q b ρ2 F2 H2 p2 (s1.trans s2)) fun c ρ' cls dd F' H' px st xo => w c ρ' cls dd F' H' px (s1.trans st) xo
    | false => exact q false ρ1 F1 H1 (p1.2 rfl) s1) w
theorem t_or {t u : TT} {P : Bool → En → Prop} (h : TtD K W t ρ x fun b ρ1 => (b = true → P true ρ1) ∧ (b = false → TtD K W u ρ1 x P)) : TtD K W (tOr t u) ρ x P := fun σ F H Q s q w =>
  h σ F H _ s (fun b ρ1 F1 H1 p1 s1 => by
    cases b with
    | true => exact q true ρ1 F1 H1 (p1.1 rfl) s1
    | false => exact p1.2 rfl σ F1 H1 Q s1.sym (fun b ρ2 F2 H2 p2 s2 => q b ρ2 F2 H2 p2 (s1.trans s2)) fun c ρ' cls dd F' H' px st xo => w c ρ' cls dd F' H' px (s1.trans st) xo) w
theorem t_not {t : TT} {P : Bool → En → Prop} (h : TtD K W t ρ x fun b ρ1 => P (!b) ρ1) : TtD K W (tNot t) ρ x P := fun σ F H Q s q w =>
  h σ F H _ s (fun b ρ1 F1 H1 p1 s1 => q (!b) ρ1 F1 H1 p1 s1) w
theorem e_if {t : TT} {ta tb : TE} {P : Dt → En → Prop} (h : TtD K W t ρ x fun b ρ1 => (b = true → EvD K W ta ρ1 x P) ∧ (b = false → EvD K W tb ρ1 x P)) : EvD K W (tIf t ta tb) ρ x P := fun σ F H Q s q w =>
  h σ F H _ s (fun b ρ1 F1 H1 p1 s1 => by
    cases b with
    | true => exact p1.1 rfl σ F1 H1 Q s1.sym (fun d ρ2 v F2 H2 p2 s2 => q d ρ2 v F2 H2 p2 (s1.trans s2)) fun c ρ' cls dd F' H' px st xo => w c ρ' cls dd F' H' px (s1.trans st) xo
    | false => exact p1.2 rfl σ F1 H1 Q s1.sym (fun d ρ2 v F2 H2 p2 s2 => q d ρ2 v F2 H2 p2 (s1.trans s2)) fun c ρ' cls dd F' H' px st xo => w c ρ' cls dd F' H' px (s1.trans st) xo) w
theorem e_andV {ta tb : TE} {P : Dt → En → Prop} (h : EvD K W ta ρ x fun d ρ1 => ∃ b, d = .bl b ∧ (b = true → EvD K W tb ρ1 x P) ∧ (b = false → P (.bl false) ρ1)) : EvD K W (tAndV ta tb) ρ x P := fun σ F H Q s q w =>
  h σ F H _ s (fun d ρ1 v F1 H1 p1 s1 r1 => by
    obtain ⟨b, rfl, p2, p3⟩ := p1
    have e : v = .bl b := r1
    refine ⟨b, e, ?_⟩
    cases b with
    | true => exact p2 rfl σ F1 H1 Q s1.sym (fun d ρ2 v F2 H2 p2 s2 => q d ρ2 v F2 H2 p2 (s1.trans s2)) fun c ρ' cls dd F' H' px st xo => w c ρ' cls dd F' H' px (s1.trans st) xo
    | false => exact q _ ρ1 _ F1 H1 (p3 rfl) s1 rfl) w
theorem e_orV {ta tb : TE} {P : Dt → En → Prop} (h : EvD K W ta ρ x fun d ρ1 => ∃ b, d = .bl b ∧ (b = true → P (.bl true) ρ1) ∧ (b = false → EvD K W tb ρ1 x P)) : EvD K W (tOrV ta tb) ρ x P := fun σ F H Q s q w =>
  h σ F H _ s (fun d ρ1 v F1 H1 p1 s1 r1 => by
    obtain ⟨b, rfl, p2, p3⟩ := p1
    have e : v = .bl b := r1
    refine ⟨b, e, ?_⟩
    cases b with
    | true => exact q _ ρ1 _ F1 H1 (p2 rfl) s1 rfl
    | false => exact p3 rfl σ F1 H1 Q s1.sym (fun d ρ2 v F2 H2 p2 s2 => q d ρ2 v F2 H2 p2 (s1.trans s2)) fun c ρ' cls dd F' H' px st xo => w c ρ' cls dd F' H' px (s1.trans st) xo) w
theorem e_notV {ta : TE} {P : Dt → En → Prop} (h : EvD K W ta ρ x fun d ρ1 => ∃ b, d = .bl b ∧ P (.bl (!b)) ρ1) : EvD K W (tNotV ta) ρ x P := fun σ F H Q s q w =>
  h σ F H _ s (fun d ρ1 v F1 H1 p1 s1 r1 => by
    obtain ⟨b, rfl, p⟩ := p1
    have e : v = .bl b := r1
    exact ⟨b, e, q _ ρ1 _ F1 H1 p s1 rfl⟩) w
theorem e_chain {r r' : R2} {ta tb tc : TE} {P : Dt → En → Prop}
    (h : EvD K W ta ρ x fun d ρ1 => EvD K W tb ρ1 x fun e ρ2 => OpD K r d e ρ2 fun z ρ3 => ∃ b, z = .bl b ∧ (b = true → EvD K W tc ρ3 x fun g ρ4 => OpD K r' e g ρ4 P) ∧ (b = false → P (.bl false) ρ3)) : EvD K W (tChain r r' ta tb tc) ρ x P := fun σ F H Q s q w =>
  h σ F H _ s (fun d ρ1 v F1 H1 p1 s1 r1 => p1 σ F1 H1 _ s1.sym (fun e ρ2 u F2 H2 p2 s2 r2 => p2 σ F2 H2 _ v u s2.sym (r1.mono s2.exF) r2 fun z ρ3 zv F3 H3 p3 s3 r3 => by
      obtain ⟨b, rfl, p4, p5⟩ := p3
      have e : zv = .bl b := r3
      refine ⟨b, e, ?_⟩
      cases b with
      | true => exact p4 rfl σ F3 H3 _ s3.sym (fun g ρ4 gv F4 H4 p6 s4 r4 => p6 σ F4 H4 Q u gv s4.sym ((r2.mono s3.exF).mono s4.exF) r4 fun d' ρ5 v' F5 H5 p7 s5 r5 => q d' ρ5 v' F5 H5 p7 ((((s1.trans s2).trans s3).trans s4).trans s5) r5) fun c ρ' cls dd F' H' px st xo => w c ρ' cls dd F' H' px (((s1.trans s2).trans s3).trans st) xo
      | false => exact q _ ρ3 _ F3 H3 (p5 rfl) ((s1.trans s2).trans s3) rfl)
    fun c ρ' cls dd F' H' px st xo => w c ρ' cls dd F' H' px (s1.trans st) xo) w
/-! ### statements -/
theorem s_seq {t u : TS} (h : StD K W t ρ { P with nx := fun ρ1 => StD K W u ρ1 P }) : StD K W (tSeq t u) ρ P := fun σ F H D s l =>
  h σ F H { D with nx := u D } s ⟨fun ρ' σ' F' H' p st => p σ' F' H' D st.sym (l.later st), l.rt, l.rn, l.bk, l.ct, l.ex⟩
theorem s_next (p : P.nx ρ) : StD K W tNext ρ P := fun σ F H D s l => l.nx ρ σ F H p (Step.refl s)
theorem s_imp {t : TS} {P' : Pd} (h : StD K W t ρ P) (h1 : ∀ ρ', P.nx ρ' → P'.nx ρ') (h2 : ∀ d ρ', P.rt d ρ' → P'.rt d ρ') (h2n : ∀ d ρ', P.rn d ρ' → P'.rn d ρ') (h3 : ∀ ρ', P.bk ρ' → P'.bk ρ') (h4 : ∀ ρ', P.ct ρ' → P'.ct ρ') (h5 : ∀ c ρ', P.ex c ρ' → P'.ex c ρ') : StD K W t ρ P' := fun σ F H D s l =>
  h σ F H D s ⟨fun a b c d p => l.nx a b c d (h1 _ p), fun a b c d e f p => l.rt a b c d e f (h2 _ _ p), fun a b c d e f p => l.rn a b c d e f (h2n _ _ p), fun a b c d p => l.bk a b c d (h3 _ p), fun a b c d p => l.ct a b c d (h4 _ p), fun a b c d e f g p => l.ex a b c d e f g (h5 _ _ p)⟩
theorem s_drop {te : TE} (h : EvD K W te ρ P.ex fun _ ρ1 => P.nx ρ1) : StD K W (tDrop te) ρ P := fun σ F H D s l =>
  h σ F H _ s (fun d ρ' v F' H' p st _ => l.nx ρ' σ F' H' p st) fun c ρ' cls dd F' H' p st xo => l.ex c ρ' cls dd σ F' H' p st xo
/-- no slot's own object is in hand -/
def Dt.real : Dt → Bool
  | .own _ => false
  | _ => true
theorem RepV.real {K : Frag} {F : Hp} {σ : L2.St} {d : Dt} {v : V} (h : RepV K F σ d v) (hr : d.real = true) : Rep K F d v := by
  cases d with
  | own i => cases hr
  | _ => exact h
theorem s_ret {te : TE} (h : EvD K W te ρ P.ex fun d ρ1 => d.real = true ∧ P.rt d ρ1) : StD K W (tRet te) ρ P := fun σ F H D s l =>
  h σ F H _ s (fun d ρ' v F' H' p st r => l.rt d ρ' v σ F' H' p.2 st (r.real p.1)) fun c ρ' cls dd F' H' p st xo => l.ex c ρ' cls dd σ F' H' p st xo
theorem s_retN (h : P.rt .non ρ) : StD K W tRetN ρ P := fun σ F H D s l => l.rt .non ρ .non σ F H h (Step.refl s) (by unfold Rep; rfl)
theorem s_if {c : TT} {t u : TS} (h : TtD K W c ρ P.ex fun b ρ1 => (b = true → StD K W t ρ1 P) ∧ (b = false → StD K W u ρ1 P)) : StD K W (tIfS c t u) ρ P := fun σ F H D s l =>
  h σ F H _ s (fun b ρ' F' H' p st => by
    cases b with
    | true => exact p.1 rfl σ F' H' D st.sym (l.later st)
    | false => exact p.2 rfl σ F' H' D st.sym (l.later st)) fun c ρ' cls dd F' H' p st xo => l.ex c ρ' cls dd σ F' H' p st xo
/-- a slot gets shared data -/
theorem Sym.set {i : Nat} {d : Dt} {v : V} (s : Sym K F H σ ρ) (hr : Rep K F d v) : Sym K F H (σ.set i (some v)) (ρ.set i (.sh d)) where
  ex := s.ex
  len := by rw [List.length_set, List.length_set]; exact s.len
  sh := fun j e h => by
    by_cases hj : i = j
    · subst hj
      have hi : i < ρ.length := by
        have := (List.getElem?_eq_some_iff.mp h).1
        rw [List.length_set] at this
        exact this
      rw [List.getElem?_set_self hi] at h
      cases h
      exact ⟨v, List.getElem?_set_self (by rw [s.len]; exact hi), hr⟩
    · rw [List.getElem?_set_ne hj] at h
      obtain ⟨u, a, b⟩ := s.sh j e h
      exact ⟨u, by rw [List.getElem?_set_ne hj]; exact a, b⟩
  ow := fun j l e h => by
    by_cases hj : i = j
    · subst hj
      have hi : i < ρ.length := by
        have := (List.getElem?_eq_some_iff.mp h).1
        rw [List.length_set] at this
        exact this
      rw [List.getElem?_set_self hi] at h
      cases h
    · rw [List.getElem?_set_ne hj] at h
      obtain ⟨p, a, b⟩ := s.ow j l e h
      exact ⟨p, by rw [List.getElem?_set_ne hj]; exact a, b⟩
  inj := fun j k l m e f p h1 h2 h3 h4 => by
    have hj : i ≠ j := fun z => by
      subst z
      have hi : i < ρ.length := by
        have := (List.getElem?_eq_some_iff.mp h1).1
        rw [List.length_set] at this
        exact this
      rw [List.getElem?_set_self hi] at h1
      cases h1
    have hk : i ≠ k := fun z => by
      subst z
      have hi : i < ρ.length := by
        have := (List.getElem?_eq_some_iff.mp h2).1
        rw [List.length_set] at this
        exact this
      rw [List.getElem?_set_self hi] at h2
      cases h2
    rw [List.getElem?_set_ne hj] at h1 h3
    rw [List.getElem?_set_ne hk] at h2 h4
    exact s.inj j k l m e f p h1 h2 h3 h4
theorem OwA.set {i : Nat} {d : Dt} {v : V} {a : Addr} (h : OwA (σ.set i (some v)) (ρ.set i (.sh d)) a) : OwA σ ρ a := by
  obtain ⟨j, l, e, h1, h2⟩ := h
  have hj : i ≠ j := fun z => by
    subst z
    have hi : i < ρ.length := by
      have := (List.getElem?_eq_some_iff.mp h1).1
      rw [List.length_set] at this
      exact this
    rw [List.getElem?_set_self hi] at h1
    cases h1
  rw [List.getElem?_set_ne hj] at h1 h2
  exact ⟨j, l, e, h1, h2⟩
theorem Step.set {i : Nat} {d : Dt} {v : V} (s : Sym K F H σ ρ) (hl : lent ρ i = false) (hr : Rep K F d v) : Step K σ ρ F H (σ.set i (some v)) (ρ.set i (.sh d)) F H :=
  ⟨s.set hr, Xe.refl F, fun _ _ h _ => .inl h, fun _ h => .inl h.set, fun _ h => .inl h, fun _ h => h, fun j e h => by
    have hj : i ≠ j := fun z => by
      subst z
      exact lent_no hl h
    exact ⟨e, by rw [List.getElem?_set_ne hj]; exact h, by rw [List.getElem?_set_ne hj]⟩⟩
theorem s_set {te : TE} {i : Nat} (h : EvD K W te ρ P.ex fun d ρ1 => d.real = true ∧ lent ρ1 i = false ∧ P.nx (ρ1.set i (.sh d))) : StD K W (tAsg te (gName i)) ρ P := fun σ F H D s l =>
  h σ F H _ s (fun d ρ' v F' H' p st r => l.nx _ _ F' H' p.2.2 (st.trans (Step.set st.sym p.2.1 (r.real p.1)))) fun c ρ' cls dd F' H' p st xo => l.ex c ρ' cls dd σ F' H' p st xo
end
end DL
set_option Elab.async false
set_option linter.all false
set_option maxRecDepth 100000
set_option autoImplicit false
set_option maxHeartbeats 4000000
namespace DL
open PySem L2 Evl PyProof.Rows
/-! ### promises by data -/
structure Fsp where
  I : Type
  arg : I → List Dt
  pre : I → Prop
  post : I → Dt → Prop
  exc : I → Xc → Prop := fun _ _ => False
def DSp (K : Frag) (S : Fsp) : Sp := fun vs H Q E => ∃ (F : Hp) (i : S.I), Ex F H ∧ RepL K F (S.arg i) vs ∧ S.pre i ∧ (∀ d, S.post i d → ∀ v H', Gw F H H' → Rep K (Fz F H H') d v → Q v H') ∧
  (∀ c, S.exc i c → ∀ cls dd H', Gw F H H' → XOk K (Fz F H H') c cls dd → E cls dd H')
/-- the first argument is an object that the def changes -/
structure Osp where
  I : Type
  own : I → Dt
  arg : I → List Dt
  pre : I → Prop
  post : I → Dt → Dt → Prop
  exc : I → Xc → Dt → Prop := fun _ _ _ => False
def Bt (F H H' : Hp) (p : Addr) : Prop := ∀ a o, H a = some o → a ≠ p → H' a = some o ∨ (F a ≠ none ∧ ∃ u, H' a = some u ∧ Lok o u)
def OSp (K : Frag) (S : Osp) : Sp := fun vs H Q E => ∃ (F : Hp) (i : S.I) (p : Addr) (us : List V), vs = .ref p :: us ∧ Ex F H ∧ F p = none ∧ Own K F H p (S.own i) ∧ RepL K F (S.arg i) us ∧ S.pre i ∧
  (∀ d o, S.post i d o → ∀ v H', Bt F H H' p → Own K (Fz F H H') H' p o → Rep K (Fz F H H') d v → Q v H') ∧
  (∀ c o, S.exc i c o → ∀ cls dd H', Bt F H H' p → Own K (Fz F H H') H' p o → XOk K (Fz F H H') c cls dd → E cls dd H')
def allReal (ds : List Dt) : Bool := ds.all Dt.real
theorem RepVL.real {K : Frag} {F : Hp} {σ : L2.St} : ∀ {ds : List Dt} {vs : List V}, RepVL K F σ ds vs → allReal ds = true → RepL K F ds vs
  | [], _, h, _ => by
    unfold RepL
    exact h
  | d :: ds, _, ⟨v, r, h1, h2, h3⟩, hr => by
    unfold allReal at hr
    rw [List.all_cons, Bool.and_eq_true] at hr
    subst h1
    exact repL_cons (h2.real hr.1) (RepVL.real h3 hr.2)
theorem Rep.real {K : Frag} {F : Hp} {d : Dt} {v : V} (h : Rep K F d v) : d.real = true := by
  cases d with
  | own i =>
    unfold Rep at h
    exact h.elim
  | _ => rfl
theorem Rep.toV {K : Frag} {F : Hp} {σ : L2.St} {d : Dt} {v : V} (h : Rep K F d v) : RepV K F σ d v := by
  cases d with
  | own i =>
    unfold Rep at h
    exact h.elim
  | _ => exact h
theorem XOk.mono {K : Frag} {F F' : Hp} {c : Xc} {cls : Value} {dd : Option Addr} (e : Xe F F') (h : XOk K F c cls dd) : XOk K F' c cls dd := by
  obtain ⟨h1, h2⟩ := h
  refine ⟨h1, ?_⟩
  rcases h2 with h2 | ⟨a, xs, h3, h4, h5, h6⟩
  · exact .inl h2
  · exact .inr ⟨a, xs, h3, e.xd h4, h5, h6.mono e⟩
section
variable {K : Frag} {W : WX} {σ σ1 : L2.St} {ρ ρ1 : En} {F F1 H H1 : Hp} {x : PX}
theorem e_call {S : Fsp} {ta : TA} {P : Dt → En → Prop} (h : ArD K W ta ρ x fun ds ρ1 => ∃ i, ds = S.arg i ∧ allReal ds = true ∧ S.pre i ∧ (∀ d, S.post i d → P d ρ1) ∧ ∀ c, S.exc i c → x c ρ1) :
    EvD K W (tCallS (DSp K S) (WE W) ta) ρ x P := fun σ F H Q s q w =>
  h σ F H _ s (fun ds ρ1 vs F1 H1 p s1 r => by
    obtain ⟨i, rfl, hr, hp, hk, hx⟩ := p
    exact ⟨F1, i, s1.sym.ex, r.real hr, hp, fun d pd v H' e rd => q d ρ1 v _ H' (hk d pd) (s1.trans (Step.growG s1.sym e)) rd.toV, fun c pc cls dd H' e xo => w c ρ1 cls dd _ H' (hx c pc) (s1.trans (Step.growG s1.sym e)) xo⟩) w
/-- what a lent object's change is for the caller -/
theorem Step.lend {i : Nat} {l : Bool} {d o : Dt} {p : Addr} (s : Sym K F H σ ρ) (hi : ρ[i]? = some (.ow l d)) (hp : σ[i]? = some (some (.ref p))) (b : Bt F H H1 p) (ho : Own K (Fz F H H1) H1 p o) : Step K σ ρ F H σ (ρ.set i (.ow l o)) (Fz F H H1) H1 := by
  obtain ⟨p', a', b', c'⟩ := s.ow i l d hi
  have ep : p' = p := by
    rw [a'] at hp
    have z := Option.some.inj (Option.some.inj hp)
    injection z
  subst ep
  have hil : i < ρ.length := (List.getElem?_eq_some_iff.mp hi).1
  have np : ∀ a u, F a = some u → a ≠ p' := fun a u e z => by
    subst z
    rw [b'] at e
    cases e
  have exF : Xe F (Fz F H H1) := fun a u e => by
    rw [fz_have (s.ex a u e) e]
    rcases b a u (s.ex a u e) (np a u e) with z | ⟨_, z⟩
    · exact .inl z
    · exact .inr z
  obtain ⟨ob, hob⟩ : ∃ ob, H p' = some ob := by
    cases q : H p' with
    | none => exact absurd q c'.there
    | some ob => exact ⟨ob, rfl⟩
  exact {
    sym := {
      ex := fz_in
      len := by rw [List.length_set]; exact s.len
      sh := fun j e h => by
        by_cases hj : i = j
        · subst hj
          rw [List.getElem?_set_self hil] at h
          cases h
        · rw [List.getElem?_set_ne hj] at h
          obtain ⟨v, a, r⟩ := s.sh j e h
          exact ⟨v, a, r.mono exF⟩
      ow := fun j m e h => by
        by_cases hj : i = j
        · subst hj
          rw [List.getElem?_set_self hil] at h
          cases h
          exact ⟨p', a', fz_old hob b', ho⟩
        · rw [List.getElem?_set_ne hj] at h
          obtain ⟨q, a, r, c⟩ := s.ow j m e h
          have ne : q ≠ p' := fun z => by
            subst z
            exact hj (s.inj i j l m d e q hi h a' a)
          cases hq : H q with
          | none => exact absurd hq c.there
          | some u =>
            refine ⟨q, a, fz_old hq r, c.mono exF ?_⟩
            rcases b q u hq ne with z | ⟨z, _⟩
            · rw [hq]; exact z
            · exact absurd r z
      inj := fun j k m n e f q h1 h2 h3 h4 => by
        have t : ∀ {j : Nat} {m : Bool} {e : Dt}, (ρ.set i (.ow l o))[j]? = some (.ow m e) → ∃ m e, ρ[j]? = some (.ow m e) := fun {j m e} h => by
          by_cases hj : i = j
          · subst hj
            exact ⟨l, d, hi⟩
          · rw [List.getElem?_set_ne hj] at h
            exact ⟨m, e, h⟩
        obtain ⟨m', e', h1'⟩ := t h1
        obtain ⟨n', f', h2'⟩ := t h2
        exact s.inj j k m' n' e' f' q h1' h2' h3 h4 }
    exF := exF
    keep := fun a u h n => b a u h fun z => by
      subst z
      exact n ⟨i, l, d, hi, hp⟩
    own := fun a h => .inl (h.of_write hi)
    new := fun a h => by
      rcases fz_some h with z | z
      · exact .inl z
      · exact .inr (.inl z)
    all := fun a h => by
      by_cases e : a = p'
      · rw [e]
        exact ho.there
      · cases q : H a with
        | none => exact absurd q h
        | some u =>
          rcases b a u q e with z | ⟨_, v, z, _⟩
          · rw [z]; exact fun z => nomatch z
          · rw [z]; exact fun z => nomatch z
    stay := fun j e h => by
      by_cases hj : i = j
      · subst hj
        rw [hi] at h
        cases h
        exact ⟨o, List.getElem?_set_self hil, rfl⟩
      · exact ⟨e, by rw [List.getElem?_set_ne hj]; exact h, rfl⟩ }
/-- f(t, ..): t is a slot's own object -/
theorem e_callO {S : Osp} {ta : TA} {P : Dt → En → Prop} (h : ArD K W ta ρ x fun ds ρ1 => ∃ (j : Nat) (l : Bool) (d : Dt) (es : List Dt) (i : S.I), ds = .own j :: es ∧ ρ1[j]? = some (.ow l d) ∧ d = S.own i ∧ es = S.arg i ∧ allReal es = true ∧ S.pre i ∧
      (∀ r o, S.post i r o → P r (ρ1.set j (.ow l o))) ∧ ∀ c o, S.exc i c o → x c (ρ1.set j (.ow l o))) :
    EvD K W (tCallS (OSp K S) (WE W) ta) ρ x P := fun σ F H Q s q w =>
  h σ F H _ s (fun ds ρ1 vs F1 H1 p s1 r => by
    obtain ⟨j, l, d, es, i, rfl, hj, rfl, rfl, hr, hp, hk, hx⟩ := p
    obtain ⟨v, us, rfl, rv, rs⟩ := r
    obtain ⟨a, e1, e2, e3⟩ := s1.sym.ow j l _ hj
    have ev : v = .ref a := by
      have z : σ[j]? = some (some v) := rv
      rw [e1] at z
      exact (Option.some.inj (Option.some.inj z)).symm
    subst ev
    exact ⟨F1, i, a, us, rfl, s1.sym.ex, e2, e3, rs.real hr, hp, fun r o pd v H' b ow rd => q r _ v _ H' (hk r o pd) (s1.trans (Step.lend s1.sym hj e1 b ow)) rd.toV,
      fun c o pc cls dd H' b ow xo => w c _ cls dd _ H' (hx c o pc) (s1.trans (Step.lend s1.sym hj e1 b ow)) xo⟩) w
end
/-! ### a def from its body -/
def st0 (n : Nat) (ds : List Dt) : En := ds.map Sl.sh ++ List.replicate (n - ds.length) Sl.no
theorem sym0 {K : Frag} {F H : Hp} {N : List Str} {ds : List Dt} {vs : List V} (e : Ex F H) (r : RepL K F ds vs) : Sym K F H (L2.start N vs) (st0 N.length ds) where
  ex := e
  len := by
    unfold L2.start st0
    rw [List.length_append, List.length_append, List.length_map, List.length_map, List.length_replicate, List.length_replicate, r.length]
  sh := fun i d h => by
    have hl := r.length
    have hi : i < ds.length := by
      unfold st0 at h
      by_cases hi : i < ds.length
      · exact hi
      · rw [List.getElem?_append_right (by rw [List.length_map]; omega), List.getElem?_replicate] at h
        split at h <;> cases h
    unfold st0 at h
    rw [List.getElem?_append_left (by rw [List.length_map]; exact hi), List.getElem?_map] at h
    cases q : ds[i]? with
    | none =>
      rw [q] at h
      cases h
    | some d' =>
      rw [q] at h
      cases h
      obtain ⟨v, e1, e2⟩ := r.get q
      refine ⟨v, ?_, e2⟩
      unfold L2.start
      rw [List.getElem?_append_left (by rw [List.length_map]; omega), List.getElem?_map, e1]
      rfl
  ow := fun i l d h => by
    exfalso
    unfold st0 at h
    by_cases hi : i < ds.length
    · rw [List.getElem?_append_left (by rw [List.length_map]; exact hi), List.getElem?_map] at h
      cases q : ds[i]? with
      | none =>
        rw [q] at h
        cases h
      | some d' =>
        rw [q] at h
        cases h
    · rw [List.getElem?_append_right (by rw [List.length_map]; omega), List.getElem?_replicate] at h
      split at h <;> cases h
  inj := fun i j l m d e p h => by
    exfalso
    unfold st0 at h
    by_cases hi : i < ds.length
    · rw [List.getElem?_append_left (by rw [List.length_map]; exact hi), List.getElem?_map] at h
      cases q : ds[i]? with
      | none =>
        rw [q] at h
        cases h
      | some d' =>
        rw [q] at h
        cases h
    · rw [List.getElem?_append_right (by rw [List.length_map]; omega), List.getElem?_replicate] at h
      split at h <;> cases h
theorem noOw {n : Nat} {ds : List Dt} {σ : L2.St} {a : Addr} : ¬ OwA σ (st0 n ds) a := fun h => by
  obtain ⟨i, l, d, h, _⟩ := h
  unfold st0 at h
  by_cases hi : i < ds.length
  · rw [List.getElem?_append_left (by rw [List.length_map]; exact hi), List.getElem?_map] at h
    cases q : ds[i]? with
    | none =>
      rw [q] at h
      cases h
    | some d' =>
      rw [q] at h
      cases h
  · rw [List.getElem?_append_right (by rw [List.length_map]; omega), List.getElem?_replicate] at h
    split at h <;> cases h
theorem Step.out {K : Frag} {σ σ' : L2.St} {ρ ρ' : En} {F F' H H' : Hp} (s : Step K σ ρ F H σ' ρ' F' H') (hn : ∀ a, F' a ≠ none → ¬ OwA σ ρ a) : Ex F' (Fz F H H') := fun a o e => by
  cases q : H a with
  | none =>
    rw [fz_new q]
    exact s.sym.ex a o e
  | some u =>
    rcases s.new a (by rw [e]; exact fun z => nomatch z) with z | z | z
    · cases r : F a with
      | none => exact absurd r z
      | some w =>
        rw [fz_have q r]
        exact s.sym.ex a o e
    · rw [q] at z
      cases z
    · exact absurd z (hn a (by rw [e]; exact fun z => nomatch z))
section
variable {P : Program} {w : World} {K : Frag} {mg : Str → Option Value} {base : Heap} {x qual : Str} {params : Arguments} {body : List Stmt} {scope : Scope} {dvs : List V} {kws : List (Str × V)} {f : Addr} {fd : FuncData}
/-- the context of a body that may raise -/
abbrev cxB (P : Program) (w : World) (K : Frag) (mg : Str → Option Value) (base : Heap) (N : List Str) (qual : Str) (scope : Scope) (f : Addr) (cdv : Value) (A : Around) (outer : List PySem.Env) (s : Shared) (H : Hp) (E : XK) : Cx := cxOf (L2.CX P w) P w K mg base N qual scope f cdv A outer s H E
/-- what is raised at a body's level -/
abbrev wE (E : XK) : WX := fun cls d _ H => E cls d H
theorem fn_body {S : Fsp} {N ps : List Str} {k : Nat} (F : FunD K x qual params body scope dvs kws f fd) (sc : FnScope N ps scope) (hl : ∀ i, (S.arg i).length = ps.length)
    (hb : ∀ (cdv : Value) (A : Around) (outer : List PySem.Env) (s : Shared) (H : Hp) (E : XK), Room k (A.deeper (envOfC qual scope s.heap.objs.size f cdv)) → Takes (cxB P w K mg base N qual scope f cdv A outer s H E) (wE E) → PassesOwn (model P w) (cxB P w K mg base N qual scope f cdv A outer s H E).A (cxB P w K mg base N qual scope f cdv A outer s H E).env (cxB P w K mg base N qual scope f cdv A outer s H E).xe →
      ∃ t, PSs (cxB P w K mg base N qual scope f cdv A outer s H E) body t ∧ ∀ i, S.pre i → ∀ Z : Pd, (∀ ρ, S.post i .non → Z.nx ρ) → (∀ d ρ, S.post i d → Z.rt d ρ) → (∀ c ρ, S.exc i c → Z.ex c ρ) → StD K (wE E) t (st0 N.length (S.arg i)) Z) : FnOk P w K mg base (L2.CX P w) (k + 1) f fd ps (DSp K S) := by
  refine F.ok sc (fun vs H Q E h => ?_) (fun cdv A outer s H vs Q E hr h => ?_)
  · obtain ⟨G, i, _, r, _⟩ := h
    rw [r.length, hl]
  · obtain ⟨G, i, ex, r, hp, hq, hx⟩ := h
    obtain ⟨t, ht, hd⟩ := hb cdv A outer s H E hr (takes_of rfl rfl rfl rfl) (passes_of rfl)
    refine ⟨t, ht, hd i hp { nx := fun _ => S.post i .non, rt := fun d _ => S.post i d, ex := fun c _ => S.exc i c } (fun _ h => h) (fun _ _ h => h) (fun _ _ h => h) _ G H _ (sym0 ex r) ⟨fun ρ' σ' F' H' p st => ?_, fun d ρ' v σ' F' H' p st rd => ?_, fun _ _ _ _ _ _ p => p.elim, fun _ _ _ _ p => p.elim, fun _ _ _ _ p => p.elim, fun c ρ' cls dd σ' F' H' p st xo => ?_⟩⟩
    · exact hq .non p .non H' (fun a o e => st.keep a o e noOw) (by unfold Rep; rfl)
    · exact hq d p v H' (fun a o e => st.keep a o e noOw) (rd.mono (Xe.of (st.out fun _ _ => noOw)))
    · exact hx c p cls dd H' (fun a o e => st.keep a o e noOw) (xo.mono (Xe.of (st.out fun _ _ => noOw)))
/-- .. that hands back a new object -/
def NSp (K : Frag) (S : Fsp) : Sp := fun vs H Q E => ∃ (F : Hp) (i : S.I), Ex F H ∧ RepL K F (S.arg i) vs ∧ S.pre i ∧ (∀ d, S.post i d → ∀ p o H', Gw F H H' → H' p = none → Own K (Fz F H H') (upd H' p o) p d → Q (.ref p) (upd H' p o)) ∧
  (∀ c, S.exc i c → ∀ cls dd H', Gw F H H' → XOk K (Fz F H H') c cls dd → E cls dd H')
def del1 (H : Hp) (p : Addr) : Hp := fun a => if a = p then none else H a
theorem upd_del1 {H : Hp} {p : Addr} {o : HO} (h : H p = some o) : upd (del1 H p) p o = H := by
  funext a
  by_cases e : a = p
  · subst e
    rw [upd_same, h]
  · rw [upd_ne e]
    exact if_neg e
theorem fn_bodyN {S : Fsp} {N ps : List Str} {k : Nat} (F : FunD K x qual params body scope dvs kws f fd) (sc : FnScope N ps scope) (hl : ∀ i, (S.arg i).length = ps.length)
    (hb : ∀ (cdv : Value) (A : Around) (outer : List PySem.Env) (s : Shared) (H : Hp) (E : XK), Room k (A.deeper (envOfC qual scope s.heap.objs.size f cdv)) → Takes (cxB P w K mg base N qual scope f cdv A outer s H E) (wE E) → PassesOwn (model P w) (cxB P w K mg base N qual scope f cdv A outer s H E).A (cxB P w K mg base N qual scope f cdv A outer s H E).env (cxB P w K mg base N qual scope f cdv A outer s H E).xe →
      ∃ t, PSs (cxB P w K mg base N qual scope f cdv A outer s H E) body t ∧ ∀ i, S.pre i → ∀ Z : Pd, (∀ d ρ, S.post i d → Z.rn d ρ) → (∀ c ρ, S.exc i c → Z.ex c ρ) → StD K (wE E) t (st0 N.length (S.arg i)) Z) : FnOk P w K mg base (L2.CX P w) (k + 1) f fd ps (NSp K S) := by
  refine F.ok sc (fun vs H Q E h => ?_) (fun cdv A outer s H vs Q E hr h => ?_)
  · obtain ⟨G, i, _, r, _⟩ := h
    rw [r.length, hl]
  · obtain ⟨G, i, ex, r, hp, hq, hx⟩ := h
    obtain ⟨t, ht, hd⟩ := hb cdv A outer s H E hr (takes_of rfl rfl rfl rfl) (passes_of rfl)
    refine ⟨t, ht, hd i hp { nx := fun _ => False, rt := fun _ _ => False, rn := fun d _ => S.post i d, ex := fun c _ => S.exc i c } (fun _ _ h => h) (fun _ _ h => h) _ G H _ (sym0 ex r) ⟨fun ρ' σ' F' H' p st => p.elim, fun d ρ' v σ' F' H' p st rd => p.elim, fun d ρ' p σ' F' H' pd st hf ho ow => ?_, fun _ _ _ _ p => p.elim, fun _ _ _ _ p => p.elim, fun c ρ' cls dd σ' F' H' p st xo => ?_⟩⟩
    · have hn : H p = none := by
        rcases ow with ow | ow
        · rcases st.own p ow with z | z
          · exact absurd z noOw
          · exact z
        · exact ow
      obtain ⟨o, hpo⟩ : ∃ o, H' p = some o := by
        cases q : H' p with
        | none => exact absurd q ho.there
        | some o => exact ⟨o, rfl⟩
      have e1 : Gw G H (del1 H' p) := fun a u e => by
        have ne : a ≠ p := ne_of_none e hn
        show (if a = p then none else H' a) = some u ∨ (G a ≠ none ∧ ∃ v, (if a = p then none else H' a) = some v ∧ Lok u v)
        rw [if_neg ne]
        exact st.keep a u e noOw
      have e2 : Ex F' (Fz G H (del1 H' p)) := fun a u e => by
        have ne : a ≠ p := fun z => by
          subst z
          rw [hf] at e
          cases e
        have e3 := st.out (fun _ _ => noOw) a u e
        have e5 : del1 H' p a = H' a := if_neg ne
        cases q : H a with
        | none =>
          rw [fz_new q] at e3 ⊢
          rw [e5]
          exact e3
        | some w =>
          cases r : G a with
          | none =>
            rw [fz_old q r] at e3
            cases e3
          | some v =>
            rw [fz_have q r] at e3 ⊢
            rw [e5]
            exact e3
      have e4 := upd_del1 hpo
      have key := hq d pd p o (del1 H' p) e1 (if_pos rfl) (by rw [e4]; exact ho.mono (Xe.of e2) rfl)
      rw [e4] at key
      exact key
    · exact hx c p cls dd H' (fun a o e => st.keep a o e noOw) (xo.mono (Xe.of (st.out fun _ _ => noOw)))
/-- .. whose first argument is an object that it changes -/
def st1 (n : Nat) (o : Dt) (ds : List Dt) : En := .ow true o :: st0 (n - 1) ds
theorem sym1 {K : Frag} {F H : Hp} {n : Str} {N : List Str} {p : Addr} {o : Dt} {ds : List Dt} {vs : List V} (e : Ex F H) (hp : F p = none) (ho : Own K F H p o) (r : RepL K F ds vs) : Sym K F H (L2.start (n :: N) (.ref p :: vs)) (st1 (n :: N).length o ds) := by
  have s0 : Sym K F H (L2.start N vs) (st0 N.length ds) := sym0 e r
  have e1 : L2.start (n :: N) (.ref p :: vs) = some (.ref p) :: L2.start N vs := by
    unfold L2.start
    simp
  have e2 : st1 (n :: N).length o ds = .ow true o :: st0 N.length ds := rfl
  have no : ∀ {i : Nat} {l : Bool} {d : Dt}, (st0 N.length ds)[i]? ≠ some (.ow l d) := fun {i l d} z => by
    obtain ⟨q, h1, _⟩ := s0.ow i l d z
    exact noOw ⟨i, l, d, z, h1⟩
  rw [e1, e2]
  exact {
    ex := e
    len := by rw [List.length_cons, List.length_cons, s0.len]
    sh := fun i d h => by
      cases i with
      | zero => cases h
      | succ i => exact s0.sh i d (by simpa using h)
    ow := fun i l d h => by
      cases i with
      | zero =>
        cases h
        exact ⟨p, rfl, hp, ho⟩
      | succ i => exact absurd (by simpa using h) (no (i := i) (l := l) (d := d))
    inj := fun i j l m d e q h1 h2 h3 h4 => by
      cases i with
      | zero =>
        cases j with
        | zero => rfl
        | succ j => exact absurd (by simpa using h2) (no (i := j) (l := m) (d := e))
      | succ i => exact absurd (by simpa using h1) (no (i := i) (l := l) (d := d)) }
theorem ow1 {n : Nat} {o : Dt} {ds : List Dt} {σ : L2.St} {p a : Addr} (h : OwA (some (.ref p) :: σ) (st1 n o ds) a) : a = p := by
  obtain ⟨i, l, d, h1, h2⟩ := h
  cases i with
  | zero =>
    have z := Option.some.inj (Option.some.inj h2)
    injection z with z
    exact z.symm
  | succ i => exact absurd ⟨i, l, d, by simpa [st1] using h1, by simpa using h2⟩ (noOw (n := n - 1) (ds := ds) (σ := σ) (a := a))
theorem fn_bodyO {S : Osp} {n : Str} {N ps : List Str} {k : Nat} (F : FunD K x qual params body scope dvs kws f fd) (sc : FnScope (n :: N) ps scope) (hl : ∀ i, (S.arg i).length + 1 = ps.length)
    (hb : ∀ (cdv : Value) (A : Around) (outer : List PySem.Env) (s : Shared) (H : Hp) (E : XK), Room k (A.deeper (envOfC qual scope s.heap.objs.size f cdv)) → Takes (cxB P w K mg base (n :: N) qual scope f cdv A outer s H E) (wE E) → PassesOwn (model P w) (cxB P w K mg base (n :: N) qual scope f cdv A outer s H E).A (cxB P w K mg base (n :: N) qual scope f cdv A outer s H E).env (cxB P w K mg base (n :: N) qual scope f cdv A outer s H E).xe →
      ∃ t, PSs (cxB P w K mg base (n :: N) qual scope f cdv A outer s H E) body t ∧ ∀ i, S.pre i → ∀ Z : Pd, (∀ o ρ, ρ[0]? = some (.ow true o) → S.post i .non o → Z.nx ρ) → (∀ d o ρ, ρ[0]? = some (.ow true o) → S.post i d o → Z.rt d ρ) → (∀ c o ρ, ρ[0]? = some (.ow true o) → S.exc i c o → Z.ex c ρ) → StD K (wE E) t (st1 (n :: N).length (S.own i) (S.arg i)) Z) : FnOk P w K mg base (L2.CX P w) (k + 1) f fd ps (OSp K S) := by
  refine F.ok sc (fun vs H Q E h => ?_) (fun cdv A outer s H vs Q E hr h => ?_)
  · obtain ⟨G, i, p, us, rfl, _, _, _, r, _⟩ := h
    rw [List.length_cons, r.length, hl]
  · obtain ⟨G, i, p, us, rfl, ex, hp, ho, r, hpre, hq, hx⟩ := h
    obtain ⟨t, ht, hd⟩ := hb cdv A outer s H E hr (takes_of rfl rfl rfl rfl) (passes_of rfl)
    have e1 : L2.start (n :: N) (.ref p :: us) = some (.ref p) :: L2.start N us := by
      unfold L2.start
      simp
    have key : ∀ {σ' : L2.St} {ρ' : En} {F' H' : Hp} {o : Dt}, Step K (L2.start (n :: N) (.ref p :: us)) (st1 (n :: N).length (S.own i) (S.arg i)) G H σ' ρ' F' H' → ρ'[0]? = some (.ow true o) → Bt G H H' p ∧ Own K (Fz G H H') H' p o ∧ Xe F' (Fz G H H') := fun {σ' ρ' F' H' o} st h0 => by
      rw [e1] at st
      obtain ⟨q, h1, h2, h3⟩ := st.sym.ow 0 true o h0
      obtain ⟨d', g1, g2⟩ := st.stay 0 (S.own i) rfl
      have eq : q = p := by
        rw [h1] at g2
        have z := Option.some.inj (Option.some.inj g2)
        injection z
      subst eq
      have ex' : Xe F' (Fz G H H') := Xe.of <| st.out fun a ha z => by
        rw [ow1 z] at ha
        exact ha h2
      exact ⟨fun a u e ne => st.keep a u e fun z => ne (ow1 z), h3.mono ex' rfl, ex'⟩
    refine ⟨t, ht, hd i hpre { nx := fun ρ => ∃ o, ρ[0]? = some (.ow true o) ∧ S.post i .non o, rt := fun d ρ => ∃ o, ρ[0]? = some (.ow true o) ∧ S.post i d o, ex := fun c ρ => ∃ o, ρ[0]? = some (.ow true o) ∧ S.exc i c o } (fun o _ h0 h => ⟨o, h0, h⟩) (fun _ o _ h0 h => ⟨o, h0, h⟩) (fun _ o _ h0 h => ⟨o, h0, h⟩) _ G H _ (sym1 ex hp ho r) ⟨fun ρ' σ' F' H' z st => ?_, fun d ρ' v σ' F' H' z st rd => ?_, fun _ _ _ _ _ _ p => p.elim, fun _ _ _ _ p => p.elim, fun _ _ _ _ p => p.elim, fun c ρ' cls dd σ' F' H' z st xo => ?_⟩⟩
    · obtain ⟨o, h0, po⟩ := z
      obtain ⟨k1, k2, k3⟩ := key st h0
      exact hq .non o po .non H' k1 k2 (by unfold Rep; rfl)
    · obtain ⟨o, h0, po⟩ := z
      obtain ⟨k1, k2, k3⟩ := key st h0
      exact hq d o po v H' k1 k2 (rd.mono k3)
    · obtain ⟨o, h0, po⟩ := z
      obtain ⟨k1, k2, k3⟩ := key st h0
      exact hx c o po cls dd H' k1 k2 (xo.mono k3)
end
end DL
set_option Elab.async false
set_option linter.all false
set_option maxRecDepth 100000
set_option autoImplicit false
set_option maxHeartbeats 4000000
namespace DL
open PySem L2 Evl PyProof.Rows
/-! ### operators for all kinds of values -/
def rAddS : R2 := fun x y H Q => ∃ i j, x = .str i ∧ y = .str j ∧ i.length + j.length ≤ sizeLine ∧ Q (.str (i ++ j)) H
def rAddU (K : Frag) : R2 := fun x y H Q => (rI0 fun i j => .int (i + j)) x y H Q ∨ (rAddS x y H Q ∨ (rCat x y H Q ∨ rCatA K x y H Q))
def strMul (x : Str) (n : Int) : Str := ⟨(List.replicate n.toNat x.cps).foldl (· ++ ·) #[]⟩
def rMulS : R2 := fun x y H Q => ∃ z n, x = .str z ∧ y = .int n ∧ 0 ≤ n ∧ n ≤ 100000 ∧ z.length ≤ 100 ∧ Q (.str (strMul z n)) H
def rMulU : R2 := fun x y H Q => (rI CMul fun i j => .int (i * j)) x y H Q ∨ ((rI CMulW fun i j => .int (i * j)) x y H Q ∨ (rMulS x y H Q ∨ rRep x y H Q))
def rEqP (K : Frag) : R2 := fun x y H Q => ∃ d e, Dp K H x d ∧ Dp K H y e ∧ d.plain = true ∧ e.plain = true ∧ d.depth ≤ 64 ∧ Q (.bl (PyData.eqv d e)) H
def rNeP (K : Frag) : R2 := fun x y H Q => ∃ d e, Dp K H x d ∧ Dp K H y e ∧ d.plain = true ∧ e.plain = true ∧ d.depth ≤ 64 ∧ Q (.bl (!PyData.eqv d e)) H
def rEqU (K : Frag) : R2 := fun x y H Q => rEq x y H Q ∨ rEqP K x y H Q
def rNeU (K : Frag) : R2 := fun x y H Q => rNe x y H Q ∨ rNeP K x y H Q
def rIsU : R2 := fun x y H Q => (y = .non ∧ Q (.bl (decide (x = .non))) H) ∨ rIsB x y H Q
def rIsNotU : R2 := fun x y H Q => (y = .non ∧ Q (.bl (!decide (x = .non))) H) ∨ rNotB x y H Q
section
variable {X : Cx}
theorem mulS_len (x : Str) : ∀ n : Nat, ((List.replicate n x.cps).foldl (· ++ ·) #[] : Array Nat).size = x.length * n := by
  have key : ∀ (n : Nat) (a : Array Nat), ((List.replicate n x.cps).foldl (· ++ ·) a).size = a.size + x.length * n := by
    intro n
    induction n with
    | zero => intro a; simp
    | succ n ih =>
      intro a
      rw [List.replicate_succ, List.foldl_cons, ih, Array.size_append, Nat.mul_succ]
      show a.size + x.length + x.length * n = _
      omega
  intro n
  rw [key n #[]]
  simp
theorem op_mulS : OpR X (binaryOp .Mult) rMulS := by
  intro pins s σ H x y v u Q I rx ry h
  obtain ⟨z, n, rfl, rfl, h0, h1, h2, q⟩ := h
  obtain ⟨t, rfl⟩ := rx
  obtain ⟨t', rfl⟩ := ry
  have hz : sizeLine = 16777216 := sizeLine_eq
  have hlen : z.length * n.toNat ≤ 100 * 100000 := Nat.mul_le_mul h2 (by omega)
  have hl : Builtin.Str.tooLong (z.length * n.toNat) = false := by
    unfold Builtin.Str.tooLong
    simp only [decide_eq_false_iff_not]
    omega
  refine PySem.P.mul_str (by rw [decide_eq_false (by omega), decide_eq_false (by omega)]; rfl) (fun g1 g2 => ?_) (fun _ _ => hl) ?_
  · have g3 : (1 : Int) ≤ n := by omega
    have g4 : (100000 : Int) ≤ (2 ^ 63 - 1) / n := by
      refine Int.le_ediv_of_mul_le (by omega) ?_
      have : (100000 : Int) * n ≤ 100000 * 100000 := Int.mul_le_mul_of_nonneg_left h1 (by omega)
      omega
    omega
  · by_cases c : n < 1
    · rw [if_pos c]
      have e : n = 0 := by omega
      subst e
      refine ⟨Nat.zero_le _, ?_⟩
      exact ⟨.str (strMul z 0), H, I.tok _, ⟨_, rfl⟩, q⟩
    · rw [if_neg c]
      by_cases c2 : (n == 1 || z.length == 0) = true
      · rw [if_pos c2]
        have e : strMul z n = z := by
          rw [Bool.or_eq_true] at c2
          rcases c2 with c2 | c2
          · have e1 : n = 1 := by simpa using c2
            subst e1
            unfold strMul
            show (⟨#[] ++ z.cps⟩ : Str) = z
            simp
          · have e1 : z.cps = #[] := Array.eq_empty_of_size_eq_zero (by simpa [Str.length] using c2)
            have e2 : (strMul z n).cps = #[] := Array.eq_empty_of_size_eq_zero (by
              unfold strMul
              rw [mulS_len]
              have : z.length = 0 := by simpa using c2
              rw [this]
              omega)
            obtain ⟨a⟩ := z
            have e3 : a = #[] := e1
            subst e3
            show (⟨(strMul ⟨#[]⟩ n).cps⟩ : Str) = ⟨#[]⟩
            rw [e2]
        show EP X pins σ Q (.str z t) _
        exact ⟨.str z, H, I, ⟨_, rfl⟩, by rw [← e]; exact q⟩
      · rw [if_neg c2]
        refine ⟨?_, ?_⟩
        · show (⟨(List.replicate n.toNat z.cps).foldl (· ++ ·) #[]⟩ : Str).length ≤ sizeLine
          show ((List.replicate n.toNat z.cps).foldl (· ++ ·) #[] : Array Nat).size ≤ sizeLine
          rw [mulS_len]
          omega
        · exact ⟨.str (strMul z n), H, I.tok _, ⟨_, rfl⟩, q⟩
theorem op_addU : OpR X (binaryOp .Add) (rAddU X.K) := op_add.or (op_add_str.or (op_cat.or op_catA))
theorem op_mulU : OpR X (binaryOp .Mult) rMulU := op_mul.or (op_mulW.or (op_mulS.or op_rep))
theorem op_eqP (hu : X.A.units + 64 < cLine) : OpR X (compareOp .Eq) (rEqP X.K) := by
  intro pins s σ H x y v u Q I rx ry h
  obtain ⟨d, e, hd, he, sd, se, hz, q⟩ := h
  obtain ⟨as, r1⟩ := Dp.reads I d x v hd rx
  obtain ⟨bs, r2⟩ := Dp.reads I e y u he ry
  exact SeqAt.eq_plain r1 r2 sd se (by have := Nat.min_le_left d.depth e.depth; omega) ⟨.bl _, H, I, rfl, q⟩
theorem op_neP (hu : X.A.units + 64 < cLine) : OpR X (compareOp .NotEq) (rNeP X.K) := by
  intro pins s σ H x y v u Q I rx ry h
  obtain ⟨d, e, hd, he, sd, se, hz, q⟩ := h
  obtain ⟨as, r1⟩ := Dp.reads I d x v hd rx
  obtain ⟨bs, r2⟩ := Dp.reads I e y u he ry
  exact SeqAt.ne_plain r1 r2 sd se (by have := Nat.min_le_left d.depth e.depth; omega) ⟨.bl _, H, I, rfl, q⟩
theorem op_eqU (hu : X.A.units + 64 < cLine) : OpR X (compareOp .Eq) (rEqU X.K) := op_eq.or (op_eqP hu)
theorem op_neU (hu : X.A.units + 64 < cLine) : OpR X (compareOp .NotEq) (rNeU X.K) := op_ne.or (op_neP hu)
theorem op_isU : OpR X (compareOp .Is) rIsU := op_isN.or op_isBl
theorem op_isNotU : OpR X (compareOp .IsNot) rIsNotU := op_notN.or op_notBl
end
section
variable {K : Frag} {W : WX} {σ σ1 : L2.St} {ρ ρ1 : En} {F F1 H H1 : Hp} {x : PX} {P : Dt → En → Prop}
theorem o_add {i j : Int} (p : P (.int (i + j)) ρ) : OpD K (rAddU K) (.int i) (.int j) ρ P := fun σ F H Q u v s e f q => by
  cases e
  cases f
  exact .inl ⟨i, j, rfl, rfl, q _ _ _ F H p (Step.refl s) rfl⟩
theorem o_addS {i j : Str} (h : i.length + j.length ≤ 1000000) (p : P (.str (i ++ j)) ρ) : OpD K (rAddU K) (.str i) (.str j) ρ P := fun σ F H Q u v s e f q => by
  cases e
  cases f
  exact .inr (.inl ⟨i, j, rfl, rfl, Nat.le_trans h (by decide), q _ _ _ F H p (Step.refl s) rfl⟩)
theorem o_I0 {i j : Int} {g : Int → Int → Int} (p : P (.int (g i j)) ρ) : OpD K (rI0 fun i j => .int (g i j)) (.int i) (.int j) ρ P := fun σ F H Q u v s e f q => by
  cases e
  cases f
  exact ⟨i, j, rfl, rfl, q _ _ _ F H p (Step.refl s) rfl⟩
theorem o_B0 {i j : Int} {g : Int → Int → Bool} (p : P (.bl (g i j)) ρ) : OpD K (rI0 fun i j => .bl (g i j)) (.int i) (.int j) ρ P := fun σ F H Q u v s e f q => by
  cases e
  cases f
  exact ⟨i, j, rfl, rfl, q _ _ _ F H p (Step.refl s) rfl⟩
theorem o_I {i j : Int} {C : Int → Int → Prop} {g : Int → Int → Int} (h : C i j) (p : P (.int (g i j)) ρ) : OpD K (rI C fun i j => .int (g i j)) (.int i) (.int j) ρ P := fun σ F H Q u v s e f q => by
  cases e
  cases f
  exact ⟨i, j, rfl, rfl, h, q _ _ _ F H p (Step.refl s) rfl⟩
theorem o_mul {i j : Int} (h : (-(2 ^ 64) < i ∧ i < 2 ^ 64) ∨ (-(2 ^ 64) < j ∧ j < 2 ^ 64)) (p : P (.int (i * j)) ρ) : OpD K rMulU (.int i) (.int j) ρ P := fun σ F H Q u v s e f q => by
  cases e
  cases f
  exact .inl ⟨i, j, rfl, rfl, h, q _ _ _ F H p (Step.refl s) rfl⟩
theorem o_mulW {i j : Int} (h : CMulW i j) (p : P (.int (i * j)) ρ) : OpD K rMulU (.int i) (.int j) ρ P := fun σ F H Q u v s e f q => by
  cases e
  cases f
  exact .inr (.inl ⟨i, j, rfl, rfl, h, q _ _ _ F H p (Step.refl s) rfl⟩)
theorem o_mulS {z : Str} {n : Int} (h0 : 0 ≤ n) (h1 : n ≤ 100000) (h2 : z.length ≤ 100) (p : P (.str (strMul z n)) ρ) : OpD K rMulU (.str z) (.int n) ρ P := fun σ F H Q u v s e f q => by
  cases e
  cases f
  exact .inr (.inr (.inl ⟨z, n, rfl, rfl, h0, h1, h2, q _ _ _ F H p (Step.refl s) rfl⟩))
theorem o_mod {i j : Int} (h : 0 < j) (p : P (.int (i % j)) ρ) : OpD K (rI (fun _ j => 0 < j) fun i j => .int (i % j)) (.int i) (.int j) ρ P := o_I h p
theorem o_fdiv {i j : Int} (h : 0 < j) (h2 : j < 2 ^ 200) (p : P (.int (i / j)) ρ) : OpD K (rI CDivW fun i j => .int (i / j)) (.int i) (.int j) ρ P := o_I (wide_div (b := 200) h (by omega) (by decide) (by decide)) p
theorem o_pow {i j : Int} (h : 0 ≤ j ∧ j ≤ 1000000 ∧ i.natAbs < 2 ^ 64) (p : P (.int (i ^ j.toNat)) ρ) : OpD K (rI CPow fun i j => .int (i ^ j.toNat)) (.int i) (.int j) ρ P := o_I h p
theorem o_eqI {i j : Int} (p : P (.bl (decide (i = j))) ρ) : OpD K (rEqU K) (.int i) (.int j) ρ P := fun σ F H Q u v s e f q => by
  cases e
  cases f
  refine .inl ⟨rfl, ?_⟩
  have z : decide (V.int i = V.int j) = decide (i = j) := by rw [Bool.eq_iff_iff]; simp
  rw [z]
  exact q _ _ _ F H p (Step.refl s) rfl
theorem o_neI {i j : Int} (p : P (.bl (!decide (i = j))) ρ) : OpD K (rNeU K) (.int i) (.int j) ρ P := fun σ F H Q u v s e f q => by
  cases e
  cases f
  refine .inl ⟨rfl, ?_⟩
  have z : decide (V.int i = V.int j) = decide (i = j) := by rw [Bool.eq_iff_iff]; simp
  rw [z]
  exact q _ _ _ F H p (Step.refl s) rfl
theorem o_eqB {i j : Bool} (p : P (.bl (decide (i = j))) ρ) : OpD K (rEqU K) (.bl i) (.bl j) ρ P := fun σ F H Q u v s e f q => by
  cases e
  cases f
  refine .inl ⟨rfl, ?_⟩
  have z : decide (V.bl i = V.bl j) = decide (i = j) := by rw [Bool.eq_iff_iff]; simp
  rw [z]
  exact q _ _ _ F H p (Step.refl s) rfl
theorem o_neB {i j : Bool} (p : P (.bl (!decide (i = j))) ρ) : OpD K (rNeU K) (.bl i) (.bl j) ρ P := fun σ F H Q u v s e f q => by
  cases e
  cases f
  refine .inl ⟨rfl, ?_⟩
  have z : decide (V.bl i = V.bl j) = decide (i = j) := by rw [Bool.eq_iff_iff]; simp
  rw [z]
  exact q _ _ _ F H p (Step.refl s) rfl
theorem o_eqS {i j : Str} (p : P (.bl (decide (i = j))) ρ) : OpD K (rEqU K) (.str i) (.str j) ρ P := fun σ F H Q u v s e f q => by
  cases e
  cases f
  refine .inl ⟨rfl, ?_⟩
  have z : decide (V.str i = V.str j) = decide (i = j) := by rw [Bool.eq_iff_iff]; simp
  rw [z]
  exact q _ _ _ F H p (Step.refl s) rfl
theorem o_neS {i j : Str} (p : P (.bl (!decide (i = j))) ρ) : OpD K (rNeU K) (.str i) (.str j) ρ P := fun σ F H Q u v s e f q => by
  cases e
  cases f
  refine .inl ⟨rfl, ?_⟩
  have z : decide (V.str i = V.str j) = decide (i = j) := by rw [Bool.eq_iff_iff]; simp
  rw [z]
  exact q _ _ _ F H p (Step.refl s) rfl
theorem o_isB {i j : Bool} (p : P (.bl (decide (i = j))) ρ) : OpD K rIsU (.bl i) (.bl j) ρ P := fun σ F H Q u v s e f q => by
  cases e
  cases f
  exact .inr ⟨i, j, rfl, rfl, q _ _ _ F H p (Step.refl s) rfl⟩
theorem o_isNotB {i j : Bool} (p : P (.bl (!decide (i = j))) ρ) : OpD K rIsNotU (.bl i) (.bl j) ρ P := fun σ F H Q u v s e f q => by
  cases e
  cases f
  exact .inr ⟨i, j, rfl, rfl, q _ _ _ F H p (Step.refl s) rfl⟩
def Dt.isNon : Dt → Bool
  | .non => true
  | _ => false
theorem RepV.non_iff {d : Dt} {v : V} (h : RepV K F σ d v) (hr : d.real = true) : decide (v = .non) = d.isNon := by
  have h := h.real hr
  cases d with
  | own i => cases hr
  | non =>
    unfold Rep at h
    subst h
    rfl
  | bl _ => unfold Rep at h; subst h; rfl
  | int _ => unfold Rep at h; subst h; rfl
  | str _ => unfold Rep at h; subst h; rfl
  | ty _ => unfold Rep at h; subst h; rfl
  | ref _ => unfold Rep at h; subst h; rfl
  | lst _ => unfold Rep at h; obtain ⟨a, xs, rfl, _⟩ := h; rfl
  | tup _ => unfold Rep at h; obtain ⟨a, xs, rfl, _⟩ := h; rfl
  | dic _ _ => unfold Rep at h; obtain ⟨a, xs, rfl, _⟩ := h; rfl
  | ins _ _ _ => unfold Rep at h; obtain ⟨a, dx, xs, rfl, _⟩ := h; rfl
  | exn _ _ _ _ _ => unfold Rep at h; rw [h.1]; rfl
theorem o_isN {d : Dt} (hr : d.real = true) (p : P (.bl d.isNon) ρ) : OpD K rIsU d .non ρ P := fun σ F H Q u v s e f q => by
  cases f
  refine .inl ⟨rfl, ?_⟩
  rw [e.non_iff hr]
  exact q _ _ _ F H p (Step.refl s) rfl
theorem o_isNotN {d : Dt} (hr : d.real = true) (p : P (.bl (!d.isNon)) ρ) : OpD K rIsNotU d .non ρ P := fun σ F H Q u v s e f q => by
  cases f
  refine .inl ⟨rfl, ?_⟩
  rw [e.non_iff hr]
  exact q _ _ _ F H p (Step.refl s) rfl
/-! ### subscripts -/
def rIxU (K : Frag) : R2 := fun x y H Q => rIxL K x y H Q ∨ (rIxT K x y H Q ∨ rIxS x y H Q)
theorem ix_seqU {X : Cx} : IxR X (rIxU X.K) := by
  intro value slice pins s σ H x y v u Q I rx ry h hs
  rcases h with h | h | h
  · exact ix_list value slice pins s σ H x y v u Q I rx ry h hs
  · exact ix_tup value slice pins s σ H x y v u Q I rx ry h hs
  · exact ix_str value slice pins s σ H x y v u Q I rx ry h hs
theorem atI_rep {ds : List Dt} {xs : List V} {i : Int} {d : Dt} (r : RepL K F ds xs) (h : atI ds i = some d) : ∃ v, atI xs i = some v ∧ Rep K F d v := by
  unfold atI at h ⊢
  rw [r.length]
  cases e : ixN ds.length i with
  | none =>
    rw [e] at h
    cases h
  | some j =>
    rw [e] at h
    exact r.get h
theorem o_ixL {ds : List Dt} {i : Int} {d : Dt} (h : atI ds i = some d) (p : P d ρ) : OpD K (rIxU K) (.lst ds) (.int i) ρ P := fun σ F H Q u v s e f q => by
  cases f
  have e' : Rep K F (.lst ds) u := e
  unfold Rep at e'
  obtain ⟨a, xs, rfl, h1, h2⟩ := e'
  obtain ⟨z, z1, z2⟩ := atI_rep h2 h
  exact .inl ⟨a, xs, i, z, rfl, rfl, ex_l s.ex h1, z1, q d ρ z F H p (Step.refl s) z2.toV⟩
theorem o_ixT {ds : List Dt} {i : Int} {d : Dt} (h : atI ds i = some d) (p : P d ρ) : OpD K (rIxU K) (.tup ds) (.int i) ρ P := fun σ F H Q u v s e f q => by
  cases f
  have e' : Rep K F (.tup ds) u := e
  unfold Rep at e'
  obtain ⟨a, xs, rfl, h1, h2⟩ := e'
  obtain ⟨z, z1, z2⟩ := atI_rep h2 h
  exact .inr (.inl ⟨a, xs, i, z, rfl, rfl, ex_t s.ex h1, z1, q d ρ z F H p (Step.refl s) z2.toV⟩)
theorem o_ixO {k : Nat} {l : Bool} {ds : List Dt} {i : Int} {d : Dt} (hk : ρ[k]? = some (.ow l (.lst ds))) (h : atI ds i = some d) (p : P d ρ) : OpD K (rIxU K) (.own k) (.int i) ρ P := fun σ F H Q u v s e f q => by
  cases f
  obtain ⟨a, e1, e2, xs, e3, e4⟩ := s.ow k l _ hk
  have eu : u = .ref a := by
    have z : σ[k]? = some (some u) := e
    rw [e1] at z
    exact (Option.some.inj (Option.some.inj z)).symm
  subst eu
  obtain ⟨z, z1, z2⟩ := atI_rep e4 h
  exact .inl ⟨a, xs, i, z, rfl, rfl, sq_of e3, z1, q d ρ z F H p (Step.refl s) z2.toV⟩
theorem o_ixS {z : Str} {i : Int} {c : Nat} (hz : z.length ≤ 1000000) (h : atI z.cps.toList i = some c) (p : P (.str ⟨#[c]⟩) ρ) : OpD K (rIxU K) (.str z) (.int i) ρ P := fun σ F H Q u v s e f q => by
  cases e
  cases f
  exact .inr (.inr ⟨z, i, c, rfl, rfl, Nat.le_trans hz (by decide), h, q _ _ _ F H p (Step.refl s) rfl⟩)
/-! ### slices -/
def rSlU (K : Frag) : V → Option Int → Option Int → Hp → VK → Prop := fun x lo hi H Q => rSlS x lo hi H Q ∨ (rSlL K x lo hi H Q ∨ rSlT K x lo hi H Q)
end
end DL
set_option Elab.async false
set_option linter.all false
set_option maxRecDepth 100000
set_option autoImplicit false
set_option maxHeartbeats 4000000
namespace DL
open PySem L2 Evl PyProof.Rows
section
variable {X : Cx}
theorem sl_u : SlR X (rSlU X.K) := sl_str.or (sl_list.or sl_tup)
end
section
variable {K : Frag} {W : WX} {σ σ1 : L2.St} {ρ ρ1 : En} {F F1 H H1 : Hp} {x : PX} {P : Dt → En → Prop}
/-! ### slices -/
def PtD (K : Frag) (W : WX) (tp : TO) (ρ : En) (x : PX) (P : Option Int → En → Prop) : Prop :=
  ∀ (σ : L2.St) (F H : Hp) (Q : Option Int → Hp → Prop), Sym K F H σ ρ → (∀ b ρ' F' H', P b ρ' → Step K σ ρ F H σ ρ' F' H' → Q b H') →
    (∀ c ρ' cls dd F' H', x c ρ' → Step K σ ρ F H σ ρ' F' H' → XOk K F' c cls dd → W cls dd σ H') → tp σ H Q
theorem p_none {P : Option Int → En → Prop} (p : P none ρ) : PtD K W tNoPart ρ x P := fun σ F H Q s q _ => q none ρ F H p (Step.refl s)
theorem p_some {te : TE} {P : Option Int → En → Prop} (h : EvD K W te ρ x fun d ρ1 => ∃ i, d = .int i ∧ P (some i) ρ1) : PtD K W (tPart te) ρ x P := fun σ F H Q s q w =>
  h σ F H _ s (fun d ρ1 v F1 H1 p1 s1 r1 => by
    obtain ⟨i, rfl, p⟩ := p1
    have e : v = .int i := r1
    exact ⟨i, e, q (some i) ρ1 F1 H1 p s1⟩) w
def SlD (K : Frag) (r : V → Option Int → Option Int → Hp → VK → Prop) (d : Dt) (lo hi : Option Int) (ρ : En) (P : Dt → En → Prop) : Prop :=
  ∀ (σ : L2.St) (F H : Hp) (Q : VK) (u : V), Sym K F H σ ρ → RepV K F σ d u → (∀ d' ρ' v' F' H', P d' ρ' → Step K σ ρ F H σ ρ' F' H' → RepV K F' σ d' v' → Q v' H') → r u lo hi H Q
theorem e_sl {r : V → Option Int → Option Int → Hp → VK → Prop} {te : TE} {tl th : TO} (h : EvD K W te ρ x fun d ρ1 => PtD K W tl ρ1 x fun lo ρ2 => PtD K W th ρ2 x fun hi ρ3 => SlD K r d lo hi ρ3 P) : EvD K W (L2.tSl r te tl th) ρ x P := fun σ F H Q s q w =>
  h σ F H _ s (fun d ρ1 v F1 H1 p1 s1 r1 => p1 σ F1 H1 _ s1.sym (fun lo ρ2 F2 H2 p2 s2 => p2 σ F2 H2 _ s2.sym (fun hi ρ3 F3 H3 p3 s3 => p3 σ F3 H3 Q v s3.sym ((r1.mono s2.exF).mono s3.exF) fun d' ρ4 v' F4 H4 p4 s4 r4 => q d' ρ4 v' F4 H4 p4 (((s1.trans s2).trans s3).trans s4) r4)
      fun c ρ' cls dd F' H' px st xo => w c ρ' cls dd F' H' px ((s1.trans s2).trans st) xo)
    fun c ρ' cls dd F' H' px st xo => w c ρ' cls dd F' H' px (s1.trans st) xo) w
theorem l_str {z : Str} {lo hi : Option Int} (hz : z.length ≤ 1000000) (p : P (.str (cutS z lo hi)) ρ) : SlD K (rSlU K) (.str z) lo hi ρ P := fun σ F H Q u s e q => by
  cases e
  exact .inl ⟨z, rfl, Nat.le_trans hz (by decide), q _ _ _ F H p (Step.refl s) rfl⟩
/-! ### built-in functions -/
theorem c_abs {i : Int} (p : P (.int (if i < 0 then -i else i)) ρ) : CaD K (fun xs H Q => ∃ i, xs = [.int i] ∧ Q (.int (if i < 0 then -i else i)) H) [.int i] ρ P := fun σ F H Q us s r q => by
  obtain ⟨v, _, rfl, rv, rfl⟩ := r
  have e : v = .int i := rv
  subst e
  exact ⟨i, rfl, q _ _ _ F H p (Step.refl s) rfl⟩
def rIntU : List V → Hp → VK → Prop := fun xs H Q => (∃ i, xs = [.int i] ∧ Q (.int i) H) ∨ ∃ k, xs = [.bl k] ∧ Q (.int (if k then 1 else 0)) H
theorem call_intU {X : Cx} : CallR X (.type "int") rIntU := call_int1
theorem c_int {i : Int} (p : P (.int i) ρ) : CaD K rIntU [.int i] ρ P := fun σ F H Q us s r q => by
  obtain ⟨v, _, rfl, rv, rfl⟩ := r
  have e : v = .int i := rv
  subst e
  exact .inl ⟨i, rfl, q _ _ _ F H p (Step.refl s) rfl⟩
def rLenU (K : Frag) : List V → Hp → VK → Prop := fun xs H Q => (∃ p ys, xs = [.ref p] ∧ (SqL K H p ys ∨ SqT K H p ys) ∧ Q (.int ys.length) H) ∨ ((∃ z, xs = [.str z] ∧ z.length ≤ sizeLine ∧ Q (.int z.length) H) ∨ ∃ a kvs, xs = [V.ref a] ∧ H a = some (.dK kvs) ∧ Q (.int kvs.length) H)
theorem call_lenU {X : Cx} : CallR X (.builtin "len") (rLenU X.K) := call_len_seq.or (call_len_str.or call_lenD)
theorem c_lenS {z : Str} (hz : z.length ≤ 1000000) (p : P (.int z.length) ρ) : CaD K (rLenU K) [.str z] ρ P := fun σ F H Q us s r q => by
  obtain ⟨v, _, rfl, rv, rfl⟩ := r
  have e : v = .str z := rv
  subst e
  exact .inr (.inl ⟨z, rfl, Nat.le_trans hz (by decide), q _ _ _ F H p (Step.refl s) rfl⟩)
theorem c_lenL {ds : List Dt} (p : P (.int ds.length) ρ) : CaD K (rLenU K) [.lst ds] ρ P := fun σ F H Q us s r q => by
  obtain ⟨v, _, rfl, rv, rfl⟩ := r
  have e : Rep K F (.lst ds) v := rv
  unfold Rep at e
  obtain ⟨a, xs, rfl, h1, h2⟩ := e
  refine .inl ⟨a, xs, rfl, .inl (ex_l s.ex h1), ?_⟩
  rw [h2.length]
  exact q _ _ _ F H p (Step.refl s) rfl
theorem c_lenT {ds : List Dt} (p : P (.int ds.length) ρ) : CaD K (rLenU K) [.tup ds] ρ P := fun σ F H Q us s r q => by
  obtain ⟨v, _, rfl, rv, rfl⟩ := r
  have e : Rep K F (.tup ds) v := rv
  unfold Rep at e
  obtain ⟨a, xs, rfl, h1, h2⟩ := e
  refine .inl ⟨a, xs, rfl, .inr (ex_t s.ex h1), ?_⟩
  rw [h2.length]
  exact q _ _ _ F H p (Step.refl s) rfl
theorem c_lenO {k : Nat} {l : Bool} {ds : List Dt} (hk : ρ[k]? = some (.ow l (.lst ds))) (p : P (.int ds.length) ρ) : CaD K (rLenU K) [.own k] ρ P := fun σ F H Q us s r q => by
  obtain ⟨v, _, rfl, rv, rfl⟩ := r
  obtain ⟨a, e1, e2, xs, e3, e4⟩ := s.ow k l _ hk
  have eu : v = .ref a := by
    have z : σ[k]? = some (some v) := rv
    rw [e1] at z
    exact (Option.some.inj (Option.some.inj z)).symm
  subst eu
  refine .inl ⟨a, xs, rfl, .inl (sq_of e3), ?_⟩
  rw [e4.length]
  exact q _ _ _ F H p (Step.refl s) rfl
/-- the built-in type of data -/
def Dt.tyN : Dt → Option String
  | .non => some "NoneType"
  | .bl _ => some "bool"
  | .int _ => some "int"
  | .str _ => some "str"
  | .lst _ => some "list"
  | .tup _ => some "tuple"
  | .dic _ _ => some "dict"
  | _ => none
theorem tyX_of {d : Dt} {v : V} {T : String} (h : Rep K F d v) (e : Ex F H) (ht : d.tyN = some T) : TyX K H v (.type T) := by
  cases d with
  | non => unfold Rep at h; subst h; cases ht; exact .base .non
  | bl b => unfold Rep at h; subst h; cases ht; exact .base (.bl b)
  | int b => unfold Rep at h; subst h; cases ht; exact .base (.int b)
  | str b => unfold Rep at h; subst h; cases ht; exact .base (.str b)
  | lst ds =>
    unfold Rep at h
    obtain ⟨a, xs, rfl, h1, _⟩ := h
    cases ht
    rcases h1 with (h1 | ⟨o, h1⟩) | h1
    · exact .base (.lst (e _ _ h1))
    · exact .base (.frz (e _ _ h1))
    · obtain ⟨o, its, n, h2, h3, _⟩ := h1
      exact .kList h2 h3
  | tup ds =>
    unfold Rep at h
    obtain ⟨a, xs, rfl, h1, _⟩ := h
    cases ht
    rcases h1 with (h1 | ⟨o, h1⟩) | h1
    · exact .base (.tup (e _ _ h1))
    · exact .fTuple (e _ _ h1)
    · obtain ⟨o, its, n, h2, h3, _⟩ := h1
      exact .kTuple h2 h3
  | dic ks ds =>
    unfold Rep at h
    obtain ⟨a, xs, rfl, h1, _⟩ := h
    cases ht
    rcases h1 with h1 | ⟨o, h1⟩
    · exact .base (.dK (e _ _ h1))
    · exact .fDict (e _ _ h1)
  | _ => cases ht
theorem c_isi {d : Dt} {T n : String} {b : Bool} (ht : d.tyN = some T) (hk : kitB T n = some b) (p : P (.bl b) ρ) : CaD K (rIsi K) [d, .ty n] ρ P := fun σ F H Q us s r q => by
  obtain ⟨v, _, rfl, rv, w, _, rfl, rw', rfl⟩ := r
  have e : w = .ty n := rw'
  subst e
  have hr : d.real = true := by
    cases d with
    | own i => cases ht
    | _ => rfl
  exact ⟨v, .ty n, .type T, .type n, b, rfl, .ty n, tyX_of (rv.real hr) s.ex ht, kit_ty hk, q _ _ _ F H p (Step.refl s) rfl⟩
/-! ### methods of texts -/
def MtD (K : Frag) (r : V → List V → Hp → VK → Prop) (d : Dt) (ds : List Dt) (ρ : En) (P : Dt → En → Prop) : Prop :=
  ∀ (σ : L2.St) (F H : Hp) (Q : VK) (u : V) (us : List V), Sym K F H σ ρ → RepV K F σ d u → RepVL K F σ ds us → (∀ d' ρ' v' F' H', P d' ρ' → Step K σ ρ F H σ ρ' F' H' → RepV K F' σ d' v' → Q v' H') → r u us H Q
theorem e_bmS {r : V → List V → Hp → VK → Prop} {to : TE} {ta : TA} (h : EvD K W to ρ x fun d ρ1 => (∃ z, d = .str z) ∧ ArD K W ta ρ1 x fun ds ρ2 => MtD K r d ds ρ2 P) : EvD K W (tBM K "str" r to ta) ρ x P := fun σ F H Q s q w =>
  h σ F H _ s (fun d ρ1 v F1 H1 p1 s1 r1 => by
    obtain ⟨⟨z, rfl⟩, p1⟩ := p1
    have e : v = .str z := r1
    subst e
    exact ⟨rfl, p1 σ F1 H1 _ s1.sym (fun ds ρ2 vs F2 H2 p2 s2 r2 => p2 σ F2 H2 Q _ vs s2.sym (r1.mono s2.exF) r2 fun d' ρ3 v' F3 H3 p3 s3 r3 => q d' ρ3 v' F3 H3 p3 ((s1.trans s2).trans s3) r3)
      fun c ρ' cls dd F' H' px st xo => w c ρ' cls dd F' H' px (s1.trans st) xo⟩) w
def rStripC : V → List V → Hp → VK → Prop := fun x xs H Q => ∃ a b, x = .str a ∧ xs = [.str b] ∧ a.length ≤ sizeLine ∧ Q (.str (Txt.stripChars a b)) H
theorem mt_stripC {X : Cx} : MtR X "str.strip" rStripC := mt_stripChars
theorem m_stripC {a b : Str} (ha : a.length ≤ 1000000) (p : P (.str (Txt.stripChars a b)) ρ) : MtD K rStripC (.str a) [.str b] ρ P := fun σ F H Q u us s e r q => by
  cases e
  obtain ⟨v, _, rfl, rv, rfl⟩ := r
  have e : v = .str b := rv
  subst e
  exact ⟨a, b, rfl, rfl, Nat.le_trans ha (by decide), q _ _ _ F H p (Step.refl s) rfl⟩
/-! ### displays -/
theorem fz_at {p : Addr} {o : HO} (h : H p = none) : Fz F H (upd H p o) p = some o := by rw [fz_new h]; exact upd_same
theorem e_tup {ta : TA} (h : ArD K W ta ρ x fun ds ρ1 => allReal ds = true ∧ ds.length ≤ 100000 ∧ P (.tup ds) ρ1) : EvD K W (tTup ta) ρ x P := fun σ F H Q s q w =>
  h σ F H _ s (fun ds ρ1 vs F1 H1 p s1 r => by
    obtain ⟨hr, hl, p⟩ := p
    have rr := r.real hr
    refine ⟨sz_of (by rw [rr.length]; exact hl), fun a ha => ?_⟩
    have g : Ex H1 (upd H1 a (.tup vs)) := Ex.new ha
    refine q (.tup ds) ρ1 (.ref a) _ _ p (s1.trans (Step.grow s1.sym g)) ?_
    show Rep K (Fz F1 H1 (upd H1 a (.tup vs))) (.tup ds) (.ref a)
    unfold Rep
    exact ⟨a, vs, rfl, st_of (fz_at ha), rr.mono (fz_ex s1.sym.ex g)⟩) w
theorem e_lst {ta : TA} (h : ArD K W ta ρ x fun ds ρ1 => allReal ds = true ∧ ds.length ≤ 100000 ∧ P (.lst ds) ρ1) : EvD K W (tLst ta) ρ x P := fun σ F H Q s q w =>
  h σ F H _ s (fun ds ρ1 vs F1 H1 p s1 r => by
    obtain ⟨hr, hl, p⟩ := p
    have rr := r.real hr
    refine ⟨sz_of (by rw [rr.length]; exact hl), fun a ha => ?_⟩
    have g : Ex H1 (upd H1 a (.lst vs)) := Ex.new ha
    refine q (.lst ds) ρ1 (.ref a) _ _ p (s1.trans (Step.grow s1.sym g)) ?_
    show Rep K (Fz F1 H1 (upd H1 a (.lst vs))) (.lst ds) (.ref a)
    unfold Rep
    exact ⟨a, vs, rfl, sq_of (fz_at ha), rr.mono (fz_ex s1.sym.ex g)⟩) w
/-! ### a new object in a slot -/
/-- an expression that makes a new object; it is not frozen -/
def EvN (K : Frag) (W : WX) (te : TE) (ρ : En) (x : PX) (P : Dt → En → Prop) : Prop :=
  ∀ (σ : L2.St) (F H : Hp) (Q : VK), Sym K F H σ ρ → (∀ d ρ' p o F' H', P d ρ' → Step K σ ρ F H σ ρ' F' H' → H' p = none → Own K F' (upd H' p o) p d → Q (.ref p) (upd H' p o)) →
    (∀ c ρ' cls dd F' H', x c ρ' → Step K σ ρ F H σ ρ' F' H' → XOk K F' c cls dd → W cls dd σ H') → te σ H Q
theorem ex_free {p : Addr} (e : Ex F H) (h : H p = none) : F p = none := by
  cases q : F p with
  | none => rfl
  | some o =>
    rw [e p o q] at h
    cases h
theorem OwA.of_take {i : Nat} {d : Dt} {p a : Addr} (h : OwA (σ.set i (some (.ref p))) (ρ.set i (.ow false d)) a) : OwA σ ρ a ∨ a = p := by
  obtain ⟨j, l, e, h1, h2⟩ := h
  by_cases hj : i = j
  · subst hj
    have hs : i < σ.length := by
      have := (List.getElem?_eq_some_iff.mp h2).1
      rw [List.length_set] at this
      exact this
    rw [List.getElem?_set_self hs] at h2
    have z := Option.some.inj (Option.some.inj h2)
    injection z with z
    exact .inr z.symm
  · rw [List.getElem?_set_ne hj] at h1 h2
    exact .inl ⟨j, l, e, h1, h2⟩
theorem Sym.more {p : Addr} {o : HO} (s : Sym K F H σ ρ) (hp : H p = none) : Sym K F (upd H p o) σ ρ := by
  have g : Ex H (upd H p o) := Ex.new hp
  exact ⟨s.ex.trans g, s.len, s.sh, fun i l d h => by
    obtain ⟨q, a, b, c⟩ := s.ow i l d h
    cases e : H q with
    | none => exact absurd e c.there
    | some u => exact ⟨q, a, b, c.mono (Xe.refl F) (by rw [g q u e, e])⟩, s.inj⟩
theorem Step.take {i : Nat} {d : Dt} {p : Addr} {o : HO} (s : Sym K F H σ ρ) (hl : lent ρ i = false) (hp : H p = none) (ho : Own K F (upd H p o) p d) : Step K σ ρ F H (σ.set i (some (.ref p))) (ρ.set i (.ow false d)) F (upd H p o) where
  sym := (s.more hp).take (ex_free s.ex hp) (fun j l e h1 h2 => by
    obtain ⟨q, a, b, c⟩ := s.ow j l e h1
    rw [h2] at a
    have z := Option.some.inj (Option.some.inj a)
    injection z with z
    subst z
    exact c.there hp) ho
  exF := Xe.refl F
  keep := fun a u h _ => .inl (Ex.new hp a u h)
  own := fun a h => by
    rcases h.of_take with y | y
    · exact .inl y
    · rw [y]
      exact .inr hp
  new := fun a h => .inl h
  all := fun a h => by
    cases q : H a with
    | none => exact absurd q h
    | some u => rw [Ex.new hp a u q]; exact fun z => nomatch z
  stay := fun j e z => by
    have hj : i ≠ j := fun y => by
      subst y
      exact lent_no hl z
    exact ⟨e, by rw [List.getElem?_set_ne hj]; exact z, by rw [List.getElem?_set_ne hj]⟩
theorem s_own {te : TE} {i : Nat} {P : Pd} (h : EvN K W te ρ P.ex fun d ρ1 => lent ρ1 i = false ∧ P.nx (ρ1.set i (.ow false d))) : StD K W (tAsg te (gName i)) ρ P := fun σ F H D s l =>
  h σ F H _ s (fun d ρ' p o F' H' pp st hp ho => l.nx _ _ F' _ pp.2 (st.trans (Step.take st.sym pp.1 hp ho))) fun c ρ' cls dd F' H' p st xo => l.ex c ρ' cls dd σ F' H' p st xo
theorem n_lst {ta : TA} (h : ArD K W ta ρ x fun ds ρ1 => allReal ds = true ∧ ds.length ≤ 100000 ∧ P (.lst ds) ρ1) : EvN K W (tLst ta) ρ x P := fun σ F H Q s q w =>
  h σ F H _ s (fun ds ρ1 vs F1 H1 p s1 r => by
    obtain ⟨hr, hl, p⟩ := p
    have rr := r.real hr
    exact ⟨sz_of (by rw [rr.length]; exact hl), fun a ha => q (.lst ds) ρ1 a (.lst vs) F1 H1 p s1 ha ⟨vs, upd_same, rr⟩⟩) w
/-- a new object that is frozen at once -/
theorem rep_own {p : Addr} {o : HO} {d : Dt} (h : Own K F (upd H p o) p d) (hp : H p = none) (e : Ex F H) : Rep K (Fz F H (upd H p o)) d (.ref p) := by
  have f := fz_at (F := F) (o := o) hp
  have m : Xe F (Fz F H (upd H p o)) := fz_ex e (Ex.new hp)
  cases d with
  | lst ds =>
    obtain ⟨xs, h1, h2⟩ := h
    rw [upd_same] at h1
    cases h1
    unfold Rep
    exact ⟨p, xs, rfl, sq_of f, h2.mono m⟩
  | dic ks ds =>
    obtain ⟨xs, h1, h2, h3⟩ := h
    rw [upd_same] at h1
    cases h1
    unfold Rep
    exact ⟨p, xs, rfl, .inl f, h2, h3.mono m⟩
  | ins C fs ds =>
    obtain ⟨dx, xs, h1, h2, h3⟩ := h
    rw [upd_same] at h1
    cases h1
    unfold Rep
    exact ⟨p, dx, xs, rfl, f, h2, h3.mono m⟩
  | _ => exact h.elim
theorem e_new {te : TE} (h : EvN K W te ρ x P) : EvD K W te ρ x P := fun σ F H Q s q w =>
  h σ F H Q s (fun d ρ' p o F' H' pp st hp ho => q d ρ' (.ref p) _ _ pp (st.trans (Step.grow st.sym (Ex.new hp))) (rep_own ho hp st.sym.ex).toV) w
/-! ### a slot's own object is frozen -/
theorem Step.freeze {i : Nat} {d : Dt} (s : Sym K F H σ ρ) (hi : ρ[i]? = some (.ow false d)) : ∃ F', Step K σ ρ F H σ (ρ.set i (.sh d)) F' H := by
  obtain ⟨p, a, b, c⟩ := s.ow i false d hi
  have hil : i < ρ.length := (List.getElem?_eq_some_iff.mp hi).1
  obtain ⟨o, ho⟩ : ∃ o, H p = some o := by
    cases q : H p with
    | none => exact absurd q c.there
    | some o => exact ⟨o, rfl⟩
  have m : Xe F (upd F p o) := Xe.new b
  have hr : Rep K (upd F p o) d (.ref p) := by
    cases d with
    | lst ds =>
      obtain ⟨xs, h1, h2⟩ := c
      rw [ho] at h1
      cases h1
      unfold Rep
      exact ⟨p, xs, rfl, sq_of upd_same, h2.mono m⟩
    | dic ks ds =>
      obtain ⟨xs, h1, h2, h3⟩ := c
      rw [ho] at h1
      cases h1
      unfold Rep
      exact ⟨p, xs, rfl, .inl upd_same, h2, h3.mono m⟩
    | ins C fs ds =>
      obtain ⟨dx, xs, h1, h2, h3⟩ := c
      rw [ho] at h1
      cases h1
      unfold Rep
      exact ⟨p, dx, xs, rfl, upd_same, h2, h3.mono m⟩
    | _ => exact c.elim
  refine ⟨upd F p o, ?_⟩
  exact {
    sym := {
      ex := fun q u e => by
        by_cases z : q = p
        · subst z
          rw [upd_same] at e
          cases e
          exact ho
        · rw [upd_ne z] at e
          exact s.ex q u e
      len := by rw [List.length_set]; exact s.len
      sh := fun j e h => by
        by_cases hj : i = j
        · subst hj
          rw [List.getElem?_set_self hil] at h
          cases h
          exact ⟨_, a, hr⟩
        · rw [List.getElem?_set_ne hj] at h
          obtain ⟨v, e1, e2⟩ := s.sh j e h
          exact ⟨v, e1, e2.mono m⟩
      ow := fun j l e h => by
        by_cases hj : i = j
        · subst hj
          rw [List.getElem?_set_self hil] at h
          cases h
        · rw [List.getElem?_set_ne hj] at h
          obtain ⟨q, e1, e2, e3⟩ := s.ow j l e h
          have ne : q ≠ p := fun z => by
            subst z
            exact hj (s.inj i j false l d e q hi h a e1)
          exact ⟨q, e1, by rw [upd_ne ne]; exact e2, e3.mono m rfl⟩
      inj := fun j k l n e f q h1 h2 h3 h4 => by
        have t : ∀ {j : Nat} {l : Bool} {e : Dt}, (ρ.set i (.sh d))[j]? = some (.ow l e) → ρ[j]? = some (.ow l e) := fun {j l e} h => by
          by_cases hj : i = j
          · subst hj
            rw [List.getElem?_set_self hil] at h
            cases h
          · rw [List.getElem?_set_ne hj] at h
            exact h
        exact s.inj j k l n e f q (t h1) (t h2) h3 h4 }
    exF := m
    keep := fun _ _ h _ => .inl h
    own := fun q h => by
      obtain ⟨j, l, e, h1, h2⟩ := h
      have hj : i ≠ j := fun z => by
        subst z
        rw [List.getElem?_set_self hil] at h1
        cases h1
      rw [List.getElem?_set_ne hj] at h1
      exact .inl ⟨j, l, e, h1, h2⟩
    new := fun q h => by
      by_cases z : q = p
      · subst z
        exact .inr (.inr ⟨i, false, d, hi, a⟩)
      · rw [upd_ne z] at h
        exact .inl h
    all := fun _ h => h
    stay := fun j e h => by
      have hj : i ≠ j := fun z => by
        subst z
        rw [hi] at h
        cases h
      exact ⟨e, by rw [List.getElem?_set_ne hj]; exact h, rfl⟩ }
theorem s_freeze {t : TS} {P : Pd} (i : Nat) {d : Dt} (hi : ρ[i]? = some (.ow false d)) (h : StD K W t (ρ.set i (.sh d)) P) : StD K W t ρ P := fun σ F H D s l => by
  obtain ⟨F', st⟩ := Step.freeze s hi
  exact h σ F' H D st.sym (l.later st)
theorem e_freeze {te : TE} (i : Nat) {d : Dt} (hi : ρ[i]? = some (.ow false d)) (h : EvD K W te (ρ.set i (.sh d)) x P) : EvD K W te ρ x P := fun σ F H Q s q w => by
  obtain ⟨F1, st⟩ := Step.freeze s hi
  exact h σ F1 H Q st.sym (fun d ρ' v F' H' p st' => q d ρ' v F' H' p (st.trans st')) fun c ρ' cls dd F' H' p st' => w c ρ' cls dd F' H' p (st.trans st')
/-! ### stores -/
def SeD (K : Frag) (r : TSet) (o i d : Dt) (ρ : En) (P : En → Prop) : Prop :=
  ∀ (σ : L2.St) (F H : Hp) (Q : Hp → Prop) (u v z : V), Sym K F H σ ρ → RepV K F σ o u → RepV K F σ i v → Rep K F d z → (∀ ρ' F' H', P ρ' → Step K σ ρ F H σ ρ' F' H' → Q H') → r u v z H Q
theorem s_put {te to ti : TE} {r : TSet} {P : Pd} (h : EvD K W te ρ P.ex fun d ρ1 => d.real = true ∧ EvD K W to ρ1 P.ex fun o ρ2 => EvD K W ti ρ2 P.ex fun i ρ3 => SeD K r o i d ρ3 P.nx) : StD K W (tAsg te (gSub to ti r)) ρ P := fun σ F H D s l =>
  h σ F H _ s (fun d ρ1 v F1 H1 p1 s1 r1 => by
    obtain ⟨hr, p1⟩ := p1
    refine p1 σ F1 H1 _ s1.sym (fun o ρ2 u F2 H2 p2 s2 r2 => p2 σ F2 H2 _ s2.sym (fun i ρ3 y F3 H3 p3 s3 r3 => p3 σ F3 H3 _ u y v s3.sym (r2.mono s3.exF) r3 (((r1.real hr).mono s2.exF).mono s3.exF) fun ρ4 F4 H4 p4 s4 => l.nx ρ4 σ F4 H4 p4 (((s1.trans s2).trans s3).trans s4)) ?_) ?_
    · exact fun c ρ' cls dd F' H' px st xo => l.ex c ρ' cls dd σ F' H' px ((s1.trans s2).trans st) xo
    · exact fun c ρ' cls dd F' H' px st xo => l.ex c ρ' cls dd σ F' H' px (s1.trans st) xo) fun c ρ' cls dd F' H' p st xo => l.ex c ρ' cls dd σ F' H' p st xo
theorem RepL.set {ds : List Dt} {xs : List V} {d : Dt} {v : V} (j : Nat) (r : RepL K F ds xs) (h : Rep K F d v) : RepL K F (ds.set j d) (xs.set j v) := by
  induction ds generalizing xs j with
  | nil =>
    unfold RepL at r
    subst r
    exact repL_nil
  | cons c ds ih =>
    unfold RepL at r
    obtain ⟨u, us, rfl, r1, r2⟩ := r
    cases j with
    | zero => exact repL_cons h r2
    | succ j => exact repL_cons r1 (ih j r2)
theorem w_lst {k : Nat} {l : Bool} {ds : List Dt} {i : Int} {j : Nat} {d : Dt} {P : En → Prop} (hk : ρ[k]? = some (.ow l (.lst ds))) (hj : ixN ds.length i = some j) (p : P (ρ.set k (.ow l (.lst (ds.set j d))))) : SeD K rSetL (.own k) (.int i) d ρ P := fun σ F H Q u v z s e f g q => by
  cases f
  obtain ⟨a, e1, e2, xs, e3, e4⟩ := s.ow k l _ hk
  have eu : u = .ref a := by
    have z : σ[k]? = some (some u) := e
    rw [e1] at z
    exact (Option.some.inj (Option.some.inj z)).symm
  subst eu
  refine ⟨a, xs, i, j, rfl, rfl, e3, by rw [e4.length]; exact hj, ?_⟩
  exact q _ F _ p (Step.write s hk e1 ⟨xs.set j z, upd_same, e4.set j g⟩)
theorem e_callN {S : Fsp} {ta : TA} (h : ArD K W ta ρ x fun ds ρ1 => ∃ i, ds = S.arg i ∧ allReal ds = true ∧ S.pre i ∧ (∀ d, S.post i d → P d ρ1) ∧ ∀ c, S.exc i c → x c ρ1) :
    EvN K W (tCallS (NSp K S) (WE W) ta) ρ x P := fun σ F H Q s q w =>
  h σ F H _ s (fun ds ρ1 vs F1 H1 p s1 r => by
    obtain ⟨i, rfl, hr, hp, hk, hx⟩ := p
    exact ⟨F1, i, s1.sym.ex, r.real hr, hp, fun d pd a o H' e ha ho => q d ρ1 a o _ H' (hk d pd) (s1.trans (Step.growG s1.sym e)) ha ho, fun c pc cls dd H' e xo => w c ρ1 cls dd _ H' (hx c pc) (s1.trans (Step.growG s1.sym e)) xo⟩) w
theorem Step.more {p : Addr} {o : HO} (s : Sym K F H σ ρ) (hp : H p = none) : Step K σ ρ F H σ ρ F (upd H p o) :=
  ⟨s.more hp, Xe.refl F, fun a u h _ => .inl (Ex.new hp a u h), fun _ h => .inl h, fun _ h => .inl h, fun a h => by
    cases q : H a with
    | none => exact absurd q h
    | some u => rw [Ex.new hp a u q]; exact (fun z => nomatch z), fun _ d h => ⟨d, h, rfl⟩⟩
/-- return of a new object -/
theorem s_retNew {te : TE} {P : Pd} (h : EvN K W te ρ P.ex fun d ρ1 => P.rn d ρ1) : StD K W (tRet te) ρ P := fun σ F H D s l =>
  h σ F H _ s (fun d ρ' p o F' H' pp st hp ho => l.rn d ρ' p σ F' _ pp (st.trans (Step.more st.sym hp)) (ex_free st.sym.ex hp) ho (.inr (by
    cases q : H p with
    | none => rfl
    | some u => exact absurd hp (st.all p (by rw [q]; exact fun z => nomatch z))))) fun c ρ' cls dd F' H' p st xo => l.ex c ρ' cls dd σ F' H' p st xo
/-- return of a slot's own object -/
theorem s_retOwn {i : Nat} {d : Dt} {P : Pd} (hi : ρ[i]? = some (.ow false d)) (p : P.rn d ρ) : StD K W (tRet (tVar i)) ρ P := fun σ F H D s l => by
  obtain ⟨a, e1, e2, e3⟩ := s.ow i false d hi
  exact ⟨.ref a, e1, l.rn d ρ a σ F H p (Step.refl s) e2 e3 (.inl ⟨i, false, d, hi, e1⟩)⟩
/-! ### loops -/
/-! ### forgetting -/
def Sl.ln : Sl → Bool
  | .ow true _ => true
  | _ => false
inductive Fg : En → En → Prop where
  | nil : Fg [] []
  | keep {a : Sl} {r s : En} (h : Fg r s) : Fg (a :: r) (a :: s)
  | drop {a : Sl} {r s : En} (h : Fg r s) (ha : a.ln = false := by rfl) : Fg (a :: r) (.no :: s)
theorem Fg.refl : ∀ ρ : En, Fg ρ ρ
  | [] => .nil
  | _ :: r => .keep (Fg.refl r)
theorem Fg.get {r s : En} (h : Fg r s) : ∀ i : Nat, s[i]? = r[i]? ∨ (s[i]? = some .no ∧ ∃ a, r[i]? = some a ∧ a.ln = false) := by
  induction h with
  | nil => exact fun i => .inl rfl
  | keep _ ih =>
    intro i
    cases i with
    | zero => exact .inl rfl
    | succ i => simpa using ih i
  | @drop a r s _ ha ih =>
    intro i
    cases i with
    | zero => exact .inr ⟨rfl, a, rfl, ha⟩
    | succ i => simpa using ih i
theorem Fg.len {r s : En} (h : Fg r s) : s.length = r.length := by
  induction h with
  | nil => rfl
  | keep _ ih => rw [List.length_cons, List.length_cons, ih]
  | drop _ _ ih => rw [List.length_cons, List.length_cons, ih]
theorem Step.forget {ρ' : En} (s : Sym K F H σ ρ) (g : Fg ρ ρ') : Step K σ ρ F H σ ρ' F H where
  sym := {
    ex := s.ex
    len := by rw [g.len]; exact s.len
    sh := fun i d h => by
      rcases g.get i with e | ⟨e, _⟩
      · exact s.sh i d (e ▸ h)
      · rw [e] at h
        cases h
    ow := fun i l d h => by
      rcases g.get i with e | ⟨e, _⟩
      · exact s.ow i l d (e ▸ h)
      · rw [e] at h
        cases h
    inj := fun i j l m d e p h1 h2 => by
      rcases g.get i with z | ⟨z, _⟩
      · rcases g.get j with y | ⟨y, _⟩
        · exact s.inj i j l m d e p (z ▸ h1) (y ▸ h2)
        · rw [y] at h2
          cases h2
      · rw [z] at h1
        cases h1 }
  exF := Xe.refl F
  keep := fun _ _ h _ => .inl h
  own := fun a h => by
    obtain ⟨i, l, d, h1, h2⟩ := h
    rcases g.get i with z | ⟨z, _⟩
    · exact .inl ⟨i, l, d, z ▸ h1, h2⟩
    · rw [z] at h1
      cases h1
  new := fun _ h => .inl h
  all := fun _ h => h
  stay := fun i d h => by
    rcases g.get i with z | ⟨z, a, e, hl⟩
    · exact ⟨d, z ▸ h, rfl⟩
    · rw [h] at e
      cases e
      cases hl
theorem s_forget {t : TS} {P : Pd} {ρ' : En} (g : Fg ρ ρ') (h : StD K W t ρ' P) : StD K W t ρ P := fun σ F H D s l => h σ F H D (Step.forget s g).sym (l.later (Step.forget s g))
/-- a loop's body: what its ends are -/
def upFg (I : En → Prop) : En → Prop := fun ρ => ∃ ρ', Fg ρ ρ' ∧ I ρ'
def Pd.loop (P : Pd) (I : En → Prop) (B : En → Prop) : Pd := { nx := upFg I, rt := P.rt, rn := P.rn, bk := B, ct := upFg I, ex := P.ex }
structure LoopZ (Z Z' : Pd) (I : En → Prop) (B : En → Prop) : Prop where
  nx : ∀ ρ ρ', Fg ρ ρ' → I ρ' → Z'.nx ρ
  ct : ∀ ρ ρ', Fg ρ ρ' → I ρ' → Z'.ct ρ
  bk : ∀ ρ, B ρ → Z'.bk ρ
  rt : ∀ d ρ, Z.rt d ρ → Z'.rt d ρ
  rn : ∀ d ρ, Z.rn d ρ → Z'.rn d ρ
  ex : ∀ c ρ, Z.ex c ρ → Z'.ex c ρ
theorem loopZ {Z : Pd} {I B : En → Prop} : LoopZ Z (Z.loop I B) I B := ⟨fun _ ρ' g p => ⟨ρ', g, p⟩, fun _ ρ' g p => ⟨ρ', g, p⟩, fun _ h => h, fun _ _ h => h, fun _ _ h => h, fun _ _ h => h⟩
/-- for k in range(n) -/
theorem s_forR {ta : TA} {j : Nat} {tb : TS} {P : Pd} (h : ArD K W ta ρ P.ex fun ds ρ1 => ∃ (n : Int), ds = [.int n] ∧ -100000 ≤ n ∧ n ≤ 100000 ∧ ∃ I : Nat → En → Prop, I 0 ρ1 ∧
      (∀ (i : Nat) ρ', (i : Int) < n → I i ρ' → lent ρ' j = false ∧ StD K W tb (ρ'.set j (.sh (.int i))) (P.loop (I (i + 1)) P.nx)) ∧ ∀ ρ', I n.toNat ρ' → P.nx ρ') :
    StD K W (tFor (iRng1 ta) (gName j) tb) ρ P := fun σ F H D s l =>
  h σ F H _ s (fun ds ρ1 vs F1 H1 p s1 r => by
    obtain ⟨n, rfl, hn1, hn, I, h0, hs, hd⟩ := p
    obtain ⟨v, _, rfl, rv, rfl⟩ := r
    have e : v = .int n := rv
    subst e
    refine ⟨n, rfl, by omega, by omega, for_range (lo := 0) (n := n.toNat) (fun i σ' H' => ∃ F' ρ', I i ρ' ∧ Step K σ ρ1 F1 H1 σ' ρ' F' H') ⟨F1, ρ1, h0, Step.refl s1.sym⟩ (fun i σ' H' hi ⟨F', ρ', p, st⟩ => ?_)
          fun σ' H' ⟨F', ρ', p, st⟩ => l.nx ρ' σ' F' H' (hd ρ' p) (s1.trans st)⟩
    obtain ⟨hl, hb⟩ := hs i ρ' (by omega) p
    have e0 : (0 : Int) + (i : Int) = (i : Int) := Int.zero_add _
    show tb _ (σ'.set j (some (.int ((0 : Int) + (i : Int))))) H'
    rw [e0]
    have st2 := Step.set (i := j) (d := .int i) (v := .int i) st.sym hl (by unfold Rep; rfl)
    have all := (s1.trans st).trans st2
    refine hb _ F' H' _ st2.sym ⟨fun ρ2 σ2 F2 H2 ⟨ρ3, g3, p3⟩ t2 => ⟨F2, ρ3, p3, ((st.trans st2).trans t2).trans (Step.forget t2.sym g3)⟩, fun d ρ2 v σ2 F2 H2 p2 t2 r2 => l.rt d ρ2 v σ2 F2 H2 p2 (all.trans t2) r2, ((l.later all).rn), fun ρ2 σ2 F2 H2 p2 t2 => l.nx ρ2 σ2 F2 H2 p2 (all.trans t2),
      fun ρ2 σ2 F2 H2 ⟨ρ3, g3, p3⟩ t2 => ⟨F2, ρ3, p3, ((st.trans st2).trans t2).trans (Step.forget t2.sym g3)⟩, fun c ρ2 cls dd σ2 F2 H2 p2 t2 x2 => l.ex c ρ2 cls dd σ2 F2 H2 p2 (all.trans t2) x2⟩) fun c ρ' cls dd F' H' p st xo => l.ex c ρ' cls dd σ F' H' p st xo
/-! ### a statement and the rest -/
variable {Z : Pd} {te : TE} {u : TS}
theorem ss_set {i : Nat} (h : EvD K W te ρ Z.ex fun d ρ1 => d.real = true ∧ lent ρ1 i = false ∧ StD K W u (ρ1.set i (.sh d)) Z) : StD K W (tSeq (tAsg te (gName i)) u) ρ Z := s_seq (s_set h)
theorem ss_own {i : Nat} (h : EvN K W te ρ Z.ex fun d ρ1 => lent ρ1 i = false ∧ StD K W u (ρ1.set i (.ow false d)) Z) : StD K W (tSeq (tAsg te (gName i)) u) ρ Z := s_seq (s_own h)
theorem ss_drop (h : EvD K W te ρ Z.ex fun _ ρ1 => StD K W u ρ1 Z) : StD K W (tSeq (tDrop te) u) ρ Z := s_seq (s_drop h)
theorem ss_put {to ti : TE} {r : TSet} (h : EvD K W te ρ Z.ex fun d ρ1 => d.real = true ∧ EvD K W to ρ1 Z.ex fun o ρ2 => EvD K W ti ρ2 Z.ex fun i ρ3 => SeD K r o i d ρ3 fun ρ4 => StD K W u ρ4 Z) : StD K W (tSeq (tAsg te (gSub to ti r)) u) ρ Z := s_seq (s_put h)
theorem ss_next (h : StD K W u ρ Z) : StD K W (tSeq tNext u) ρ Z := s_seq (s_next h)
theorem ss_ret (h : EvD K W te ρ Z.ex fun d ρ1 => d.real = true ∧ Z.rt d ρ1) : StD K W (tSeq (tRet te) u) ρ Z := s_seq (s_ret h)
theorem ss_assoc {t v : TS} (h : StD K W (tSeq t (tSeq v u)) ρ Z) : StD K W (tSeq (tSeq t v) u) ρ Z := h
theorem ss_if {c : TT} {t v : TS} (h : TtD K W c ρ Z.ex fun b ρ1 => (b = true → StD K W (tSeq t u) ρ1 Z) ∧ (b = false → StD K W (tSeq v u) ρ1 Z)) : StD K W (tSeq (tIfS c t v) u) ρ Z := fun σ F H D s l =>
  h σ F H _ s (fun b ρ' F' H' p st => by
    cases b with
    | true => exact p.1 rfl σ F' H' D st.sym (l.later st)
    | false => exact p.2 rfl σ F' H' D st.sym (l.later st)) fun c ρ' cls dd F' H' p st xo => l.ex c ρ' cls dd σ F' H' p st xo
theorem ss_forR {ta : TA} {j : Nat} {tb : TS} (h : ArD K W ta ρ Z.ex fun ds ρ1 => ∃ (n : Int), ds = [.int n] ∧ -100000 ≤ n ∧ n ≤ 100000 ∧ ∃ I : Nat → En → Prop, I 0 ρ1 ∧
      (∀ (i : Nat) ρ', (i : Int) < n → I i ρ' → lent ρ' j = false ∧ ∀ Z', LoopZ Z Z' (I (i + 1)) (fun ρ2 => StD K W u ρ2 Z) → StD K W tb (ρ'.set j (.sh (.int i))) Z') ∧ ∀ ρ', I n.toNat ρ' → StD K W u ρ' Z) :
    StD K W (tSeq (tFor (iRng1 ta) (gName j) tb) u) ρ Z := s_seq (s_forR (fun σ F H Q s q w => h σ F H Q s (fun ds ρ1 vs F1 H1 ⟨n, e, h1, h2, I, h3, h4, h5⟩ => q ds ρ1 vs F1 H1 ⟨n, e, h1, h2, I, h3, fun i ρ' hi p => ⟨(h4 i ρ' hi p).1, (h4 i ρ' hi p).2 _ loopZ⟩, h5⟩) w))
end
end DL
set_option Elab.async false
set_option linter.all false
set_option maxRecDepth 100000
set_option autoImplicit false
set_option maxHeartbeats 4000000
namespace DL
open PySem L2 Evl PyProof.Rows
theorem len_app (x y : Str) : (x ++ y).length = x.length + y.length := by
  obtain ⟨a⟩ := x
  obtain ⟨b⟩ := y
  show (a ++ b).size = a.size + b.size
  exact Array.size_append
theorem kb_NoneType_bool : kitB "NoneType" "bool" = some false := by decide +kernel
theorem kb_NoneType_int : kitB "NoneType" "int" = some false := by decide +kernel
theorem kb_NoneType_str : kitB "NoneType" "str" = some false := by decide +kernel
theorem kb_NoneType_list : kitB "NoneType" "list" = some false := by decide +kernel
theorem kb_NoneType_tuple : kitB "NoneType" "tuple" = some false := by decide +kernel
theorem kb_NoneType_dict : kitB "NoneType" "dict" = some false := by decide +kernel
theorem kb_bool_bool : kitB "bool" "bool" = some true := by decide +kernel
theorem kb_bool_int : kitB "bool" "int" = some true := by decide +kernel
theorem kb_bool_str : kitB "bool" "str" = some false := by decide +kernel
theorem kb_bool_list : kitB "bool" "list" = some false := by decide +kernel
theorem kb_bool_tuple : kitB "bool" "tuple" = some false := by decide +kernel
theorem kb_bool_dict : kitB "bool" "dict" = some false := by decide +kernel
theorem kb_int_bool : kitB "int" "bool" = some false := by decide +kernel
theorem kb_int_int : kitB "int" "int" = some true := by decide +kernel
theorem kb_int_str : kitB "int" "str" = some false := by decide +kernel
theorem kb_int_list : kitB "int" "list" = some false := by decide +kernel
theorem kb_int_tuple : kitB "int" "tuple" = some false := by decide +kernel
theorem kb_int_dict : kitB "int" "dict" = some false := by decide +kernel
theorem kb_str_bool : kitB "str" "bool" = some false := by decide +kernel
theorem kb_str_int : kitB "str" "int" = some false := by decide +kernel
theorem kb_str_str : kitB "str" "str" = some true := by decide +kernel
theorem kb_str_list : kitB "str" "list" = some false := by decide +kernel
theorem kb_str_tuple : kitB "str" "tuple" = some false := by decide +kernel
theorem kb_str_dict : kitB "str" "dict" = some false := by decide +kernel
theorem kb_list_bool : kitB "list" "bool" = some false := by decide +kernel
theorem kb_list_int : kitB "list" "int" = some false := by decide +kernel
theorem kb_list_str : kitB "list" "str" = some false := by decide +kernel
theorem kb_list_list : kitB "list" "list" = some true := by decide +kernel
theorem kb_list_tuple : kitB "list" "tuple" = some false := by decide +kernel
theorem kb_list_dict : kitB "list" "dict" = some false := by decide +kernel
theorem kb_tuple_bool : kitB "tuple" "bool" = some false := by decide +kernel
theorem kb_tuple_int : kitB "tuple" "int" = some false := by decide +kernel
theorem kb_tuple_str : kitB "tuple" "str" = some false := by decide +kernel
theorem kb_tuple_list : kitB "tuple" "list" = some false := by decide +kernel
theorem kb_tuple_tuple : kitB "tuple" "tuple" = some true := by decide +kernel
theorem kb_tuple_dict : kitB "tuple" "dict" = some false := by decide +kernel
theorem kb_dict_bool : kitB "dict" "bool" = some false := by decide +kernel
theorem kb_dict_int : kitB "dict" "int" = some false := by decide +kernel
theorem kb_dict_str : kitB "dict" "str" = some false := by decide +kernel
theorem kb_dict_list : kitB "dict" "list" = some false := by decide +kernel
theorem kb_dict_tuple : kitB "dict" "tuple" = some false := by decide +kernel
theorem kb_dict_dict : kitB "dict" "dict" = some true := by decide +kernel
theorem len_one (c : Nat) : (⟨#[c]⟩ : Str).length = 1 := rfl
/-- a def of the module that keeps a promise -/
def FnG (P : Program) (w : World) (K : Frag) (mg : Str → Option Value) (base : Heap) (k : Nat) (x : Str) (ps : List Str) (sp : Sp) : Prop :=
  ∃ (f : Addr) (fd : FuncData), mg x = some (.ref f) ∧ PySem.W.keepIn K (.ref f) = true ∧ FnOk P w K mg base (L2.CX P w) k f fd ps sp ∧ Binds K fd ps []
/-- the law's end -/
theorem walk_W {l : PySem.W.OpenLaw} {n k : Nat} {q : Program} {loose : List Str} {XP : (Str → Option Value) → Heap → Prop} {YP : World → Heap → Prop} {d : DefRec} {x : Str}
    (hn : l.most = some n) (hn2 : n ≤ sizeLine) (hdf : d.params.defaults = []) (hr : Room k callerA)
    (F : ∀ (w : World) (mg : Str → Option Value) (fa : Addr) (h : Heap), YP w h → h.Ns mainGlobals mg → mg d.name = some (.ref fa) →
      ∃ (K : PySem.W.Frag) (fd : FuncData) (sp : Sp), K.In h ∧ (∀ (s : Shared) (u : Value), BindsTo s fd ⟨[u], []⟩ [(x, u)]) ∧
        (∀ (H : Hp) (a : Addr) (ns : List Int), ns.length ≤ n → Only H → SqL K H a (ns.map V.int) → sp [.ref a] H (fun v _ => v = .bl true) fun _ _ _ => False) ∧
        ∀ base : Heap, K.In base → base.Ns mainGlobals mg → FnOk l.prog w K mg base (L2.CX l.prog w) k fa fd [x] sp) :
    PySem.W.WalkO q loose XP YP l.row.toRowW d [] (fun f vs => PySem.call f vs) := by
  refine Att.attach_call hn hdf fun w s₀ s₁ mg mb fa o pm cd doc a vs ns G Y ho hd hcd hmg hobj hints hlen hg => ?_
  obtain ⟨K, fd, sp, KX, hb, hsp, hF⟩ := F w mg fa _ Y G.T.g hmg
  refine law_call KX G.T.g G.T.b G.T.builtins G.T.nolimit hg hobj hints (Nat.le_trans hlen hn2) hr hF hb (fun H hO hS => hsp H a ns hlen hO hS) fun H e s' h => ?_
  obtain ⟨_, _, _, _, _, _, _, _, _, _, _, _, z⟩ := h
  exact z.elim
section
variable {X : Cx} {k : Nat} {x : Str} {ps : List Str} {sp : Sp} {p pos : Pos} {e : Expr} {es : List Expr} {t : TA} {W : WX}
theorem pe_fn (G : FnG X.prog X.w X.K X.mg X.base k x ps sp) (hr : Room k X.A) (tk : Takes X W) (hg : Gl X x) (ha : PA X (e :: es) t) (hdb : (x == ("__debug__" : Str)) = false := by decide)
    (he : starEach (e :: es) X.env = (false, eval e X.env) :: starEach es X.env := by rfl) (hpl : (backTo pos (starEach es X.env)).any (·.1) = false := by rfl) : PE X (.Call (.Name x p) (e :: es) [] pos) (tCallS sp (WE W) t) := by
  obtain ⟨f, fd, h1, h2, h3, h4⟩ := G
  exact pe_callS h3 hr hg h1 h2 h4 (fun σ => passAt tk σ) ha hdb he hpl
theorem pe_gI {i : Int} (hg : Gl X x) (hm : ∃ t, X.mg x = some (.int i t)) (hd : (x == ("__debug__" : Str)) = false := by decide) : PE X (.Name x pos) (tC (.int i)) := by
  obtain ⟨t, h⟩ := hm
  exact pe_glob hg h ⟨t, rfl⟩ hd
theorem pe_gS {z : Str} (hg : Gl X x) (hm : ∃ t, X.mg x = some (.str z t)) (hd : (x == ("__debug__" : Str)) = false := by decide) : PE X (.Name x pos) (tC (.str z)) := by
  obtain ⟨t, h⟩ := hm
  exact pe_glob hg h ⟨t, rfl⟩ hd
theorem pt_tru {a : Expr} {ta : TE} (ha : PE X a ta) (he : ∀ whole, isTrue a X.env whole = (do let v ← whole; standAt a.pos; holding [v] (truthy v)) := by intro _; rfl) : PT X a (tTru X.K ta) := pt_truth ha he
end
section
variable {K : Frag} {W : WX} {ρ : En} {x : PX}
theorem e_strK {z : Str} {P : Dt → En → Prop} (p : ∀ z', z' = z → P (.str z') ρ) : EvD K W (tC (.str z)) ρ x P := e_str (p z rfl)
/-- a chain whose third part is plain -/
theorem e_chainC {f g : Int → Int → Bool} {ta tb tc : TE} {P : Dt → En → Prop} (h : EvD K W ta ρ x fun d ρ1 => ∃ i, d = .int i ∧ EvD K W tb ρ1 x fun e ρ2 => ∃ j, e = .int j ∧ ∃ k, (∀ P : Dt → En → Prop, P (.int k) ρ2 → EvD K W tc ρ2 x P) ∧ P (.bl (f i j && g j k)) ρ2) :
    EvD K W (tChain (rI0 fun i j => .bl (f i j)) (rI0 fun i j => .bl (g i j)) ta tb tc) ρ x P := by
  refine e_chain (e_imp h fun d ρ1 hd => ?_)
  obtain ⟨i, rfl, h2⟩ := hd
  refine e_imp h2 fun e ρ2 he => ?_
  obtain ⟨j, rfl, k, h3, h4⟩ := he
  refine o_B0 ⟨_, rfl, fun hb => ?_, fun hb => ?_⟩
  · rw [hb] at h4
    exact h3 _ (o_B0 (by rw [Bool.true_and] at h4; exact h4))
  · rw [hb, Bool.false_and] at h4
    exact h4
theorem e_andC {ta tb : TE} {P : Dt → En → Prop} (h : EvD K W ta ρ x fun d ρ1 => ∃ a, d = .bl a ∧ ∃ b, (∀ P : Dt → En → Prop, P (.bl b) ρ1 → EvD K W tb ρ1 x P) ∧ P (.bl (a && b)) ρ1) : EvD K W (tAndV ta tb) ρ x P := by
  refine e_andV (e_imp h fun d ρ1 hd => ?_)
  obtain ⟨a, rfl, b, h2, h3⟩ := hd
  refine ⟨a, rfl, fun hb => ?_, fun hb => ?_⟩
  · rw [hb, Bool.true_and] at h3
    exact h2 _ h3
  · rw [hb, Bool.false_and] at h3
    exact h3
/-- truth -/
def truD (ρ : En) : Dt → Option Bool
  | .non => some false
  | .bl b => some b
  | .int i => some (i != 0)
  | .lst ds => some !ds.isEmpty
  | .tup ds => some !ds.isEmpty
  | .own k => match ρ[k]? with
    | some (.ow _ (.lst ds)) => some !ds.isEmpty
    | _ => none
  | _ => none
theorem isEmpty_rep {F : Hp} {ds : List Dt} {xs : List V} (r : RepL K F ds xs) : (!xs.isEmpty) = !ds.isEmpty := by
  have h := r.length
  cases ds <;> cases xs <;> first | rfl | cases h
theorem t_tru {te : TE} {P : Bool → En → Prop} (h : EvD K W te ρ x fun d ρ1 => ∃ b, truD ρ1 d = some b ∧ P b ρ1) : TtD K W (tTru K te) ρ x P := fun σ F H Q s q w =>
  h σ F H _ s (fun d ρ1 v F1 H1 p1 s1 r1 => by
    obtain ⟨b, hb, p⟩ := p1
    refine ⟨b, ?_, q b ρ1 F1 H1 p s1⟩
    cases d with
    | non => cases r1; cases hb; rfl
    | bl z => cases r1; cases hb; rfl
    | int z => cases r1; cases hb; rfl
    | lst ds =>
      have e : Rep K F1 (.lst ds) v := r1
      unfold Rep at e
      obtain ⟨a, xs, rfl, h1, h2⟩ := e
      cases hb
      exact .inl ⟨xs, ex_l s1.sym.ex h1, (isEmpty_rep h2).symm⟩
    | tup ds =>
      have e : Rep K F1 (.tup ds) v := r1
      unfold Rep at e
      obtain ⟨a, xs, rfl, h1, h2⟩ := e
      cases hb
      exact .inr (.inl ⟨xs, ex_t s1.sym.ex h1, (isEmpty_rep h2).symm⟩)
    | own k =>
      have hb : (match ρ1[k]? with
        | some (.ow _ (.lst ds)) => some !ds.isEmpty
        | _ => none) = some b := hb
      cases e : ρ1[k]? with
      | none => rw [e] at hb; cases hb
      | some z =>
        rw [e] at hb
        cases z with
        | ow l d =>
          cases d with
          | lst ds =>
            cases hb
            obtain ⟨a, e1, e2, xs, e3, e4⟩ := s1.sym.ow k l _ e
            have eu : v = .ref a := by
              have z : σ[k]? = some (some v) := r1
              rw [e1] at z
              exact (Option.some.inj (Option.some.inj z)).symm
            subst eu
            exact .inl ⟨xs, sq_of e3, (isEmpty_rep e4).symm⟩
          | _ => cases hb
        | _ => cases hb
    | _ => cases hb) w
end
end DL
set_option Elab.async false
set_option linter.all false
set_option maxRecDepth 100000
set_option autoImplicit false
set_option maxHeartbeats 4000000
/-! texts as lists of signs -/
namespace DL
open PySem L2 PyProof.Rows
open TL (tl)
theorem tw_len {g : Nat → Bool} : ∀ {l : List Nat} {c : Nat}, c ∈ l → g c = false → (l.takeWhile g).length < l.length
  | a :: l, c, h, hg => by
    rw [List.takeWhile_cons]
    cases e : g a with
    | false => exact Nat.succ_pos _
    | true =>
      have hc : c ∈ l := by
        rcases List.mem_cons.mp h with z | z
        · subst z
          rw [e] at hg
          cases hg
        · exact z
      exact Nat.succ_lt_succ (tw_len hc hg)
theorem dw_nil {g : Nat → Bool} : ∀ {l : List Nat}, l.drop (l.takeWhile g).length = [] ↔ ∀ c ∈ l, g c = true
  | [] => by simp
  | a :: l => by
    rw [List.takeWhile_cons]
    cases e : g a with
    | false =>
      constructor
      · intro h
        simp at h
      · intro h
        rw [h a List.mem_cons_self] at e
        cases e
    | true =>
      show (a :: l).drop ((l.takeWhile g).length + 1) = [] ↔ _
      rw [List.drop_succ_cons, dw_nil (g := g) (l := l)]
      constructor
      · intro h c hc
        rcases List.mem_cons.mp hc with z | z
        · subst z
          exact e
        · exact h c z
      · exact fun h c hc => h c (List.mem_cons_of_mem _ hc)
theorem dw_head {g : Nat → Bool} : ∀ {l : List Nat} {a : Nat} {r : List Nat}, l.drop (l.takeWhile g).length = a :: r → g a = false
  | [], a, r, h => by simp at h
  | b :: l, a, r, h => by
    rw [List.takeWhile_cons] at h
    cases e : g b with
    | false =>
      rw [e] at h
      simp at h
      rw [← h.1]
      exact e
    | true =>
      rw [e] at h
      have h2 : (b :: l).drop ((l.takeWhile g).length + 1) = a :: r := h
      rw [List.drop_succ_cons] at h2
      exact dw_head h2
theorem strip_tl (g : Nat → Bool) (x : Str) : tl (Txt.stripBy g true true x) = ((tl x).drop ((tl x).takeWhile g).length).take ((tl x).length - (((tl x).drop ((tl x).takeWhile g).length).reverse.takeWhile g).length - ((tl x).takeWhile g).length) := by
  have hl := TL.len_tl x
  have e1 : PySem.stripLo g true x = ((tl x).takeWhile g).length := rfl
  have e2 : PySem.stripHi g true x (PySem.stripLo g true x) = (tl x).length - (((tl x).drop ((tl x).takeWhile g).length).reverse.takeWhile g).length := by
    show x.length - _ = _
    rw [hl]
    rfl
  unfold Txt.stripBy
  by_cases c : PySem.stripSame g true true x = true
  · rw [if_pos c]
    unfold PySem.stripSame at c
    rw [Bool.and_eq_true] at c
    obtain ⟨c1, c2⟩ := c
    have c1 : ((tl x).takeWhile g).length = 0 := by
      rw [e1] at c1
      simpa using c1
    rw [e2] at c2
    have c2 : (tl x).length - (((tl x).drop ((tl x).takeWhile g).length).reverse.takeWhile g).length = x.length := by simpa using c2
    rw [c2, hl, c1, List.drop_zero, Nat.sub_zero, List.take_length]
  · rw [if_neg c]
    unfold PySem.stripped
    rw [TL.tl_strSub, e1, ← e1, e2, e1]
theorem stripC_nil {x y : Str} : Txt.stripChars x y = "" ↔ ∀ c ∈ tl x, c ∈ tl y := by
  have hc : ∀ c, y.cps.contains c = true ↔ c ∈ tl y := fun c => by
    rw [Array.contains_iff_mem]
    exact Array.mem_toList_iff.symm
  have e0 : ∀ z : Str, z = "" ↔ tl z = [] := fun z => ⟨fun h => by rw [h]; rfl, fun h => TL.ext_tl (by rw [h]; rfl)⟩
  rw [e0]
  unfold Txt.stripChars
  rw [strip_tl]
  constructor
  · intro h c hcx
    rw [← hc]
    cases e : (tl x).drop ((tl x).takeWhile y.cps.contains).length with
    | nil => exact dw_nil.mp e c hcx
    | cons a r =>
      exfalso
      have ha := dw_head e
      have hm : a ∈ ((tl x).drop ((tl x).takeWhile y.cps.contains).length).reverse := by rw [e]; simp
      have hlt := tw_len hm ha
      rw [List.length_reverse] at hlt
      have hd : ((tl x).drop ((tl x).takeWhile y.cps.contains).length).length = (tl x).length - ((tl x).takeWhile y.cps.contains).length := List.length_drop
      have hz := congrArg List.length h
      rw [List.length_take] at hz
      simp only [List.length_nil] at hz
      omega
  · intro h
    have e : (tl x).drop ((tl x).takeWhile y.cps.contains).length = [] := dw_nil.mpr fun c hcx => (hc c).mpr (h c hcx)
    rw [e]
    simp
theorem atI_mem {α : Type} {l : List α} {i : Int} (h0 : 0 ≤ i) (h : i < l.length) : ∃ c, atI l i = some c ∧ c ∈ l := by
  have hk : i.toNat < l.length := by omega
  refine ⟨l[i.toNat], ?_, List.getElem_mem hk⟩
  unfold atI ixN
  rw [if_pos h0, if_pos h]
  exact List.getElem?_eq_getElem hk
theorem repL_ints {K : Frag} {F : Hp} : ∀ ns : List Int, RepL K F (ns.map Dt.int) (ns.map V.int)
  | [] => repL_nil
  | n :: ns => repL_cons (by unfold Rep; rfl) (repL_ints ns)
theorem tl_len (x : Str) : (tl x).length = x.length := (TL.len_tl x).symm
theorem tl_cut (z : Str) (lo hi : Option Int) : tl (cutS z lo hi) = ((tl z).drop (HT.sIx z.length 0 lo)).take (HT.sIx z.length z.length hi - HT.sIx z.length 0 lo) := rfl
theorem tl_one (c : Nat) : tl ⟨#[c]⟩ = [c] := rfl
theorem tl_mul (x : Str) (n : Int) : tl (strMul x n) = (List.replicate n.toNat (tl x)).flatten := by
  have key : ∀ (m : Nat) (a : Array Nat), ((List.replicate m x.cps).foldl (· ++ ·) a).toList = a.toList ++ (List.replicate m (tl x)).flatten := by
    intro m
    induction m with
    | zero => intro a; simp
    | succ m ih =>
      intro a
      rw [List.replicate_succ, List.foldl_cons, ih, Array.toList_append, List.replicate_succ, List.flatten_cons, List.append_assoc]
  show ((List.replicate n.toNat x.cps).foldl (· ++ ·) #[]).toList = _
  rw [key]
  simp
end DL
set_option Elab.async false
set_option linter.all false
set_option maxRecDepth 100000
set_option autoImplicit false
set_option maxHeartbeats 4000000
/-! exceptions of the program's own classes -/
namespace DL
open PySem L2 Evl PyProof.Rows
/-! ### what the head tells of a class -/
def eqO2 (a b : Option (Option Value)) : Bool := decide (a = b)
def oexB (K : Frag) (C : Addr) : Bool := match K.lookup C with
  | some ⟨.type c, _, .cls cd, sl⟩ => (match cd.mro, sl.toList with
    | .ref C' :: bm, [_, _, _, _, some (.builtin n), _] => decide (c = "type") && (decide (C' = C) && (decide (n = "ValueError.__new__") && (!cd.hasDel && (cd.hasDict && PySem.HandSPX.refsVE bm))))
    | _, _ => false)
  | _ => false
theorem oexB_ok {K : Frag} {C : Addr} (q : oexB K C = true) : ∃ nm q N bs bm sn sub ab col dd k0 k1 k2 k3 k5, K.lookup C = some (excClassObj nm q C N bs bm true sn sub ab col dd k0 k1 k2 k3 k5 "ValueError.__new__") ∧ PySem.HandSPX.refsVE bm = true := by
  unfold oexB at q
  split at q
  · rename_i c dd cd sl ho
    split at q
    · rename_i C' bm k0 k1 k2 k3 n k5 hm hs
      simp only [Bool.and_eq_true, decide_eq_true_eq, Bool.not_eq_true'] at q
      obtain ⟨rfl, rfl, rfl, hdel, hdct, hv⟩ := q
      obtain ⟨nm, bs, mro, ns, qn, hd, sn, sub, ab, col, del⟩ := cd
      dsimp only at hm hdel hdct
      subst hm hdel hdct
      have hsl : sl = #[k0, k1, k2, k3, some (.builtin "ValueError.__new__"), k5] := by
        obtain ⟨l⟩ := sl
        simp only at hs
        rw [hs]
      subst hsl
      exact ⟨nm, qn, ns, bs, bm, sn, sub, ab, col, dd, k0, k1, k2, k3, k5, ho, hv⟩
    · cases q
  · cases q
structure XcC (K : Frag) (C : Addr) : Prop where
  oex : OexC K C
  xf : XfC K C
  cl : (PySem.W.clsIn K C).isSome = true
  ha : PySem.W.findIn K (.ref C) "__class__" = some (some (.builtin "object.__class__"))
  hn : PySem.W.specialIn K (.builtin "object.__class__") "__get__" = some (some (.builtin "getset_descriptor.__get__"))
  ht : PySem.W.takesIn K (.builtin "object.__class__") = some true
  hm : PySem.W.mroIn K C (.type "object") = some true
def xcB (K : Frag) (C : Addr) : Bool := oexB K C && (eqO2 (PySem.W.findIn K (.ref C) "__setattr__") (some (some (.builtin "object.__setattr__"))) && (decide (PySem.W.typeIn K (.ref C) = some (.type "type")) && (PySem.W.keepIn K (.ref C) && (xfB K C &&
  ((PySem.W.clsIn K C).isSome && (eqO2 (PySem.W.findIn K (.ref C) "__class__") (some (some (.builtin "object.__class__"))) && (eqO2 (PySem.W.specialIn K (.builtin "object.__class__") "__get__") (some (some (.builtin "getset_descriptor.__get__"))) &&
    (decide (PySem.W.takesIn K (.builtin "object.__class__") = some true) && decide (PySem.W.mroIn K C (.type "object") = some true)))))))))
theorem band {a b : Bool} (h : (a && b) = true) : a = true ∧ b = true := Bool.and_eq_true_iff.mp h
theorem xcB_ok {K : Frag} {C : Addr} (h : xcB K C = true) : XcC K C := by
  obtain ⟨h1, h⟩ := band h
  obtain ⟨h2, h⟩ := band h
  obtain ⟨h3, h⟩ := band h
  obtain ⟨h4, h⟩ := band h
  obtain ⟨h5, h⟩ := band h
  obtain ⟨h6, h⟩ := band h
  obtain ⟨h7, h⟩ := band h
  obtain ⟨h8, h⟩ := band h
  obtain ⟨h9, h10⟩ := band h
  have x := xfB_ok h5
  exact ⟨⟨oexB_ok h1, of_decide_eq_true h2, x.exC, of_decide_eq_true h3, h4⟩, x, h6, of_decide_eq_true h7, of_decide_eq_true h8, of_decide_eq_true h9, of_decide_eq_true h10⟩
/-! ### __init__ with one field -/
def spX1 (C : Addr) (f : Str) : Sp := fun vs H Q _ => ∃ a v, vs = [.ref a, v] ∧ H a = some (exo a C none) ∧ ∀ dx, H dx = none → dx ≠ a → Q .non (upd (upd H dx (exd dx [(f, v)])) a (exo a C (some dx)))
def spX2 (C : Addr) (f g : Str) : Sp := fun vs H Q _ => ∃ a v u, vs = [.ref a, v, u] ∧ H a = some (exo a C none) ∧ ∀ dx, H dx = none → dx ≠ a → Q .non (upd (upd (upd H dx (exd dx [(f, v)])) a (exo a C (some dx))) dx (exd dx [(g, u), (f, v)]))
section
variable {P : Program} {w : World} {K : Frag} {mg : Str → Option Value} {base : Heap}
theorem ok_x1 {x qual fld p : Str} {params : Arguments} {body : List Stmt} {scope : Scope} {f C : Addr} {fd : FuncData} {p1 p2 p3 p4 : Pos} (F : FunD K x qual params body scope [] [] f fd) (S : FnScope ["self", p] ["self", p] scope)
    (hb : body = [.Assign [.Attribute (.Name "self" p1) fld p2] (.Name p p3) p4]) (T : XcC K C) (hno : PySem.W.findIn K (.ref C) fld = some none) (v0 : Vis scope "self") (v1 : Vis scope p) (d1 : (p == ("__debug__" : Str)) = false) (d2 : (p == ("__classdict__" : Str)) = false) :
    FnOk P w K mg base (L2.CX P w) 1 f fd ["self", p] (spX1 C fld) := by
  subst hb
  refine F.ok S (fun vs H Q E h => ?_) (fun cdv A outer s H vs Q E hr h => ?_)
  · obtain ⟨a, v, rfl, _⟩ := h
    rfl
  · obtain ⟨a, v, rfl, ha, k⟩ := h
    refine ⟨_, pss_one (ps_ost (pe_var (i := 0) rfl v0) (pe_var (i := 1) rfl v1 d1 d2)), ?_⟩
    exact ⟨v, rfl, _, rfl, a, C, rfl, T.oex, hno, .inl ⟨ha, fun dx h1 h2 => k dx h1 h2⟩⟩
theorem ok_x2 {x qual fl1 fl2 p q : Str} {params : Arguments} {body : List Stmt} {scope : Scope} {f C : Addr} {fd : FuncData} {p1 p2 p3 p4 q1 q2 q3 q4 : Pos} (F : FunD K x qual params body scope [] [] f fd) (S : FnScope ["self", p, q] ["self", p, q] scope)
    (hb : body = [.Assign [.Attribute (.Name "self" p1) fl1 p2] (.Name p p3) p4, .Assign [.Attribute (.Name "self" q1) fl2 q2] (.Name q q3) q4]) (T : XcC K C) (hn1 : PySem.W.findIn K (.ref C) fl1 = some none) (hn2 : PySem.W.findIn K (.ref C) fl2 = some none)
    (v0 : Vis scope "self") (v1 : Vis scope p) (v2 : Vis scope q) (d1 : (p == ("__debug__" : Str)) = false) (d2 : (p == ("__classdict__" : Str)) = false) (d3 : (q == ("__debug__" : Str)) = false) (d4 : (q == ("__classdict__" : Str)) = false) :
    FnOk P w K mg base (L2.CX P w) 1 f fd ["self", p, q] (spX2 C fl1 fl2) := by
  subst hb
  refine F.ok S (fun vs H Q E h => ?_) (fun cdv A outer s H vs Q E hr h => ?_)
  · obtain ⟨a, v, u, rfl, _⟩ := h
    rfl
  · obtain ⟨a, v, u, rfl, ha, k⟩ := h
    refine ⟨_, pss_cons (ps_ost (pe_var (i := 0) rfl v0) (pe_var (i := 1) rfl v1 d1 d2)) (pss_one (ps_ost (pe_var (i := 0) rfl v0) (pe_var (i := 2) rfl v2 d3 d4))), ?_⟩
    refine ⟨v, rfl, _, rfl, a, C, rfl, T.oex, hn1, .inl ⟨ha, fun dx h1 h2 => ?_⟩⟩
    exact ⟨u, rfl, _, rfl, a, C, rfl, T.oex, hn2, .inr ⟨dx, _, upd_same, by rw [upd_ne h2, upd_same], by show 1 ≤ 900; decide, k dx h1 h2⟩⟩
end
/-! ### raise -/
section
variable {X : Cx} {W : WX} {x : Str} {C fI : Addr} {e : Expr} {es : List Expr} {ta : TA} {p pos pos' : Pos} {k : Nat} {fd : FuncData} {ps : List Str} {sp : Sp}
/-- what is known of a class with __init__ -/
def XG (P : Program) (w : World) (K : Frag) (mg : Str → Option Value) (base : Heap) (x : Str) (C : Addr) (ps : List Str) (sp : Sp) : Prop :=
  mg x = some (.ref C) ∧ XcC K C ∧ ∃ (fI : Addr) (fd : FuncData), PySem.W.findIn K (.ref C) "__init__" = some (some (.ref fI)) ∧ PySem.W.typeIn K (.ref fI) = some (.type "function") ∧ FnOk P w K mg base (L2.CX P w) 1 fI fd ps sp ∧ Binds K fd ps []
def tRai (C : Addr) (sp : Sp) (W : WX) (ta : TA) : TS := fun _ σ H => tMkO C sp [] ta σ H fun cls d H' => W cls d σ H'
theorem ps_rai (G : XG X.prog X.w X.K X.mg X.base x C ps sp) (hc : X.calm = true) (tk : Takes X W) (hr : Room 2 X.A) (hg : Gl X x) (ha : PA X (e :: es) ta) (hdb : (x == ("__debug__" : Str)) = false := by decide)
    (he : starEach (e :: es) X.env = (false, eval e X.env) :: starEach es X.env := by rfl) (hpl : (backTo pos (starEach es X.env)).any (·.1) = false := by rfl) : PS X (.Raise (some (.Call (.Name x p) (e :: es) [] pos)) none pos') (tRai C sp W ta) := by
  obtain ⟨hm, T, fI, fd, iC, tI, F1, hb⟩ := G
  exact ps_raise hc tk (pmk_oex T.oex iC tI F1 hr hb .nil passL hg hm ha hdb he hpl)
/-- raise C() of a class without __init__ -/
def XN (K : Frag) (mg : Str → Option Value) (x : Str) (C : Addr) : Prop := mg x = some (.ref C) ∧ XcC K C ∧ PySem.W.excIn K C He.veBase "ValueError.__new__" = true
theorem pmk_own0 (G : XN X.K X.mg x C) (hg : Gl X x) (hdb : (x == ("__debug__" : Str)) = false := by decide) : PMk X (.Call (.Name x p) [] [] pos) (fun _ H Q => Q (.ref C) none H) := by
  obtain ⟨gC, T, q⟩ := G
  intro pins s σ H Q I h
  refine wpAny_Call_Name_kw (ld_glob I hg gC ?_ hdb)
  refine PySem.W.callWith_K0 I.kIn T.oex.kC ?_
  show wpAny _ _ (call (.ref C) []) _ _ _
  obtain ⟨bm, N, nm, qn, bs, hdct, sn, sub, ab, col, dd, k0, k1, k2, k3, k5, mN, hC, hN, hni, O⟩ := exc_obj I.kIn q
  refine wpAny_call_exc_subT PySem.F.excBase_ValueError O hC hN hni (fun h' e hm => ?_) (Nat.zero_le _)
  exact mk_of I hm (raises_own T.oex.exC T.oex.tyC) h (I.hok.gone hm.new)
def tRai0 (C : Addr) (W : WX) : TS := fun _ σ H => W (.ref C) none σ H
theorem ps_rai0 (G : XN X.K X.mg x C) (hc : X.calm = true) (tk : Takes X W) (hg : Gl X x) (hdb : (x == ("__debug__" : Str)) = false := by decide) : PS X (.Raise (some (.Call (.Name x p) [] [] pos)) none pos') (tRai0 C W) := ps_raise hc tk (pmk_own0 G hg hdb)
/-! ### try .. except X as n -/
def tTryAs (K : Frag) (c : Value) (i : Nat) (tb : WX → TS) (ts : Addr → Value → Option Addr → TS) (W : WX) : TS := fun D σ H => tb (wAs K c i ts W D) D σ H
theorem ps_tryA {n : Str} {c : Value} {i : Nat} {body suite : List Stmt} {b0 : Stmt} {np q q' : Pos} {tb : WX → TS} {ts : Addr → Value → Option Addr → TS} (hs : X.stack = X.env :: X.outer) (hf : X.env.frame = some X.env.locals) (hN : X.N.Nodup) (hi : X.N[i]? = some n) (hln : X.env.kindOf n = some .local) (hc : Names X x c) (tk : Takes X W)
    (hb : ∀ (W : WX) (pn : List (Addr × Obj)) (xe : Value → Shared → Prop), Takes (X.tr pn xe) W → PassesOwn (model X.prog X.w) X.A X.env xe → PSs (X.tr pn xe) body (tb W))
    (hsu : ∀ (a : Addr) (oe : Obj) (cls : Value) (d : Option Addr) (pn : List (Addr × Obj)), Zc cls d oe → (∃ vs, oe.data = .fields vs) → PSs (X.suite a ((a, oe) :: pn)) (b0 :: suite) (ts a cls d)) :
    PS X (.Try body [.ExceptHandler (some (.Name x np)) (some n) (b0 :: suite) q] [] [] q') (tTryAs X.K c i tb ts W) := ps_try_as hs hf hN hi hln hc tk hb hsu
/-! ### isinstance(e, T) in a suite -/
def rIsX (K : Frag) (a : Addr) (cls : Value) (d : Option Addr) : List V → Hp → VK → Prop := fun xs H Q => ∃ (c : V) (cv : Value) (D : Addr) (b : Bool), xs = [.ref a, c] ∧ ClsV c cv ∧ cls = .ref D ∧ XcC K D ∧ (d = none ∨ ∃ dd fs, d = some dd ∧ H dd = some (.xd fs)) ∧ PySem.W.kitOne K (.ref D) cv = some b ∧ Q (.bl b) H
theorem call_isX {a : Addr} {oe : Obj} {cls : Value} {d : Option Addr} {pn : List (Addr × Obj)} (hz : Zc cls d oe) (hf : ∃ vs, oe.data = .fields vs) : CallR (X.suite a ((a, oe) :: pn)) (.builtin "isinstance") (rIsX X.K a cls d) := by
  intro pins s σ H xs us Q I r h
  obtain ⟨c, cv, D, b, rfl, hcv, rfl, T, hd, e, q⟩ := h
  obtain ⟨u1, u2, rfl, r1, r2⟩ := vals2 r
  cases (show u1 = Value.ref a from r1)
  have ec := hcv.eq r2
  subst ec
  obtain ⟨hget, _⟩ := I.pin (a, oe) (List.mem_append.mpr (.inl List.mem_cons_self))
  obtain ⟨vs, hv⟩ := hf
  have nc : PySem.W.notCls oe = true := by
    unfold PySem.W.notCls
    rw [hv]
    all_goals rfl
  obtain ⟨od, J⟩ : ∃ od, PySem.W.InstAt s.heap a oe D od := by
    rcases hd with rfl | ⟨dd, fs, rfl, hx⟩
    · exact ⟨none, hget, hz.1, nc, by rw [hz.2]; trivial⟩
    · have hx2 : ObjOk X.prog X.w H s.heap dd (.xd fs) := I.hok dd _ hx
      obtain ⟨mA, ⟨od, es, ep, ho, _⟩, _⟩ := hx2
      exact ⟨some od, hget, hz.1, nc, by rw [hz.2]; exact ho⟩
  exact PySem.W.kia_one (PySem.W.kitx_exc T.cl T.xf.ga T.xf.gg T.xf.exC T.ha T.hn T.ht T.hm) I.kIn J e (fun z => nomatch z) fun tk => ⟨.bl b, H, I.kept (t' := tk) fun _ _ z => z, rfl, q⟩
def rIsS (K : Frag) (a : Addr) (cls : Value) (d : Option Addr) : List V → Hp → VK → Prop := fun xs H Q => rIsi K xs H Q ∨ rIsX K a cls d xs H Q
theorem call_isS {a : Addr} {oe : Obj} {cls : Value} {d : Option Addr} {pn : List (Addr × Obj)} (hz : Zc cls d oe) (hf : ∃ vs, oe.data = .fields vs) : CallR (X.suite a ((a, oe) :: pn)) (.builtin "isinstance") (rIsS X.K a cls d) := call_isi.or (call_isX hz hf)
end
/-! ### by data -/
section
variable {K : Frag} {W : WX} {σ σ1 : L2.St} {ρ ρ1 : En} {F F1 H H1 : Hp} {x : PX} {Z : Pd} {C : Addr} {f : Str}
theorem x_heap {a dx : Addr} {o o1 o2 o3 u : HO} (ha : H a = none) (hd : dx ≠ a) : upd (L2.del (upd (upd (upd H a o) dx o1) a o2) a) dx u = upd H dx u := by
  funext b
  by_cases e : b = dx
  · subst e
    rw [upd_same, upd_same]
  · rw [upd_ne e, upd_ne e]
    by_cases e2 : b = a
    · subst e2
      rw [L2.del_same, ha]
    · rw [L2.del_ne e2, upd_ne e2, upd_ne e, upd_ne e2]
theorem s_rai1 {te : TE} (h : EvD K W te ρ Z.ex fun d ρ1 => d.real = true ∧ Z.ex ⟨C, [f], [d]⟩ ρ1) : StD K W (tRai C (spX1 C f) W (tCons te tNil)) ρ Z := fun σ F H D s l =>
  h σ F H _ s (fun d ρ1 v F1 H1 p s1 r => by
    refine ⟨by show 1 ≤ 1000; decide, fun a ha => ⟨a, v, rfl, upd_same, fun dx hd hne => ?_⟩⟩
    rw [upd_ne hne] at hd
    refine ⟨rfl, dx, [(f, v)], upd_same, by rw [upd_ne hne, upd_same], hd, ?_⟩
    rw [x_heap (o3 := .lst []) ha hne]
    have st := s1.trans (Step.grow s1.sym (Ex.new (o := .xd [(f, v)]) hd))
    refine l.ex _ ρ1 _ _ σ _ _ p.2 st ⟨rfl, .inr ⟨dx, [v], rfl, fz_at hd, rfl, repL_cons ((r.real p.1).mono (fz_ex s1.sym.ex (Ex.new hd))) repL_nil⟩⟩) fun c ρ' cls dd F' H' p st xo => l.ex c ρ' cls dd σ F' H' p st xo
theorem x_heap2 {a dx : Addr} {o o1 o2 o4 u : HO} (ha : H a = none) (hd : dx ≠ a) : upd (L2.del (upd (upd (upd (upd H a o) dx o1) a o2) dx o4) a) dx u = upd H dx u := by
  funext b
  by_cases e : b = dx
  · subst e
    rw [upd_same, upd_same]
  · rw [upd_ne e, upd_ne e]
    by_cases e2 : b = a
    · subst e2
      rw [L2.del_same, ha]
    · rw [L2.del_ne e2, upd_ne e, upd_ne e2, upd_ne e, upd_ne e2]
theorem s_rai2 {g : Str} {te te2 : TE} (h : EvD K W te ρ Z.ex fun d ρ1 => d.real = true ∧ EvD K W te2 ρ1 Z.ex fun d2 ρ2 => d2.real = true ∧ Z.ex ⟨C, [g, f], [d2, d]⟩ ρ2) : StD K W (tRai C (spX2 C f g) W (tCons te (tCons te2 tNil))) ρ Z := fun σ F H D s l =>
  h σ F H _ s (fun d ρ1 v F1 H1 p s1 r => p.2 σ F1 H1 _ s1.sym (fun d2 ρ2 v2 F2 H2 p2 s2 r2 => by
    refine ⟨by show 2 ≤ 1000; decide, fun a ha => ⟨a, v, v2, rfl, upd_same, fun dx hd hne => ?_⟩⟩
    rw [upd_ne hne] at hd
    refine ⟨rfl, dx, [(g, v2), (f, v)], by rw [upd_ne hne.symm, upd_same], upd_same, hd, ?_⟩
    rw [x_heap2 ha hne]
    have st := (s1.trans s2).trans (Step.grow s2.sym (Ex.new (o := .xd [(g, v2), (f, v)]) hd))
    exact l.ex _ ρ2 _ _ σ _ _ p2.2 st ⟨rfl, .inr ⟨dx, [v2, v], rfl, fz_at hd, rfl, repL_cons ((r2.real p2.1).mono (fz_ex s2.sym.ex (Ex.new hd))) (repL_cons (((r.real p.1).mono s2.exF).mono (fz_ex s2.sym.ex (Ex.new hd))) repL_nil)⟩⟩)
      fun c ρ' cls dd F' H' p3 st xo => l.ex c ρ' cls dd σ F' H' p3 (s1.trans st) xo) fun c ρ' cls dd F' H' p st xo => l.ex c ρ' cls dd σ F' H' p st xo
theorem s_rai0 (h : Z.ex ⟨C, [], []⟩ ρ) : StD K W (tRai0 C W) ρ Z := fun σ F H D s l => l.ex _ ρ _ _ σ F H h (Step.refl s) ⟨rfl, .inl ⟨rfl, rfl⟩⟩
variable {u : TS}
theorem ss_rai1 {te : TE} (h : EvD K W te ρ Z.ex fun d ρ1 => d.real = true ∧ Z.ex ⟨C, [f], [d]⟩ ρ1) : StD K W (tSeq (tRai C (spX1 C f) W (tCons te tNil)) u) ρ Z := s_seq (s_rai1 h)
theorem ss_rai2 {g : Str} {te te2 : TE} (h : EvD K W te ρ Z.ex fun d ρ1 => d.real = true ∧ EvD K W te2 ρ1 Z.ex fun d2 ρ2 => d2.real = true ∧ Z.ex ⟨C, [g, f], [d2, d]⟩ ρ2) : StD K W (tSeq (tRai C (spX2 C f g) W (tCons te (tCons te2 tNil))) u) ρ Z := s_seq (s_rai2 h)
theorem ss_rai0 (h : Z.ex ⟨C, [], []⟩ ρ) : StD K W (tSeq (tRai0 C W) u) ρ Z := s_seq (s_rai0 h)
/-! the slot of the exception's name is emptied -/
theorem get_set_no {i j : Nat} {z : Sl} (h : (ρ.set i .no)[j]? = some z) (hz : z ≠ .no) : i ≠ j ∧ ρ[j]? = some z := by
  by_cases e : i = j
  · subst e
    have hi : i < ρ.length := by
      have := (List.getElem?_eq_some_iff.mp h).1
      rw [List.length_set] at this
      exact this
    rw [List.getElem?_set_self hi] at h
    exact absurd (Option.some.inj h).symm hz
  · rw [List.getElem?_set_ne e] at h
    exact ⟨e, h⟩
theorem Step.unset {i : Nat} (s : Sym K F H σ ρ) (hl : lent ρ i = false) : Step K σ ρ F H (σ.set i none) (ρ.set i .no) F H where
  sym := {
    ex := s.ex
    len := by rw [List.length_set, List.length_set]; exact s.len
    sh := fun j d h => by
      obtain ⟨e, h⟩ := get_set_no h (by intro z; cases z)
      obtain ⟨v, a, b⟩ := s.sh j d h
      exact ⟨v, by rw [List.getElem?_set_ne e]; exact a, b⟩
    ow := fun j l d h => by
      obtain ⟨e, h⟩ := get_set_no h (by intro z; cases z)
      obtain ⟨p, a, b⟩ := s.ow j l d h
      exact ⟨p, by rw [List.getElem?_set_ne e]; exact a, b⟩
    inj := fun j k l m d e p h1 h2 h3 h4 => by
      obtain ⟨e1, h1⟩ := get_set_no h1 (by intro z; cases z)
      obtain ⟨e2, h2⟩ := get_set_no h2 (by intro z; cases z)
      rw [List.getElem?_set_ne e1] at h3
      rw [List.getElem?_set_ne e2] at h4
      exact s.inj j k l m d e p h1 h2 h3 h4 }
  exF := Xe.refl F
  keep := fun _ _ h _ => .inl h
  own := fun a h => by
    obtain ⟨j, l, d, h1, h2⟩ := h
    obtain ⟨e, h1⟩ := get_set_no h1 (by intro z; cases z)
    rw [List.getElem?_set_ne e] at h2
    exact .inl ⟨j, l, d, h1, h2⟩
  new := fun _ h => .inl h
  all := fun _ h => h
  stay := fun j d h => by
    have e : i ≠ j := fun z => by
      subst z
      exact lent_no hl h
    exact ⟨d, by rw [List.getElem?_set_ne e]; exact h, by rw [List.getElem?_set_ne e]⟩
def w0 : WX := fun _ _ _ _ => False
/-- behind a try's suite -/
def Pd.suite (Z : Pd) (i : Nat) : Pd := { nx := fun ρ => lent ρ i = false ∧ Z.nx (ρ.set i .no), rt := Z.rt, rn := Z.rn, bk := fun ρ => lent ρ i = false ∧ Z.bk (ρ.set i .no), ct := fun ρ => lent ρ i = false ∧ Z.ct (ρ.set i .no), ex := px0 }
def Pd.tryE (Z : Pd) (x : PX) : Pd := { nx := Z.nx, rt := Z.rt, rn := Z.rn, bk := Z.bk, ct := Z.ct, ex := x }
theorem s_tryA {c : Value} {i : Nat} {tb : WX → TS} {ts : Addr → Value → Option Addr → TS}
    (h : ∀ W', StD K W' (tb W') ρ (Z.tryE fun xc ρ' => ∃ b, PySem.W.exmOne K (.ref xc.C) c = some b ∧ (b = true → lent ρ' i = false ∧ ∀ a dd, StD K w0 (ts a (.ref xc.C) dd) (ρ'.set i (.sh (.exn a dd xc.C xc.fs xc.ds))) (Z.suite i)) ∧ (b = false → Z.ex xc ρ'))) :
    StD K W (tTryAs K c i tb ts W) ρ Z := fun σ F H D s l =>
  h (wAs K c i ts W D) σ F H D s ⟨l.nx, l.rt, l.rn, l.bk, l.ct, fun xc ρ' cls dd σ' F' H' p st xo => by
    obtain ⟨b, h1, h2, h3⟩ := p
    obtain ⟨e, xo2⟩ := id xo
    subst e
    refine ⟨b, h1, fun hb a ha => ?_, fun hb => l.ex xc ρ' _ _ σ' F' H' (h3 hb) st xo⟩
    obtain ⟨hl, hs⟩ := h2 hb
    have hr : Rep K F' (.exn a dd xc.C xc.fs xc.ds) (.ref a) := by
      unfold Rep
      exact ⟨rfl, xo2⟩
    have st2 := Step.set (i := i) st.sym hl hr
    have all := st.trans st2
    exact hs a dd _ F' H' _ st2.sym ⟨fun ρ2 σ2 F2 H2 p2 t2 => l.nx _ _ F2 H2 p2.2 ((all.trans t2).trans (Step.unset t2.sym p2.1)), (l.later all).rt, (l.later all).rn, fun ρ2 σ2 F2 H2 p2 t2 => l.bk _ _ F2 H2 p2.2 ((all.trans t2).trans (Step.unset t2.sym p2.1)),
      fun ρ2 σ2 F2 H2 p2 t2 => l.ct _ _ F2 H2 p2.2 ((all.trans t2).trans (Step.unset t2.sym p2.1)), fun _ _ _ _ _ _ _ p2 => p2.elim⟩⟩
theorem ss_tryA {c : Value} {i : Nat} {tb : WX → TS} {ts : Addr → Value → Option Addr → TS}
    (h : ∀ W', StD K W' (tb W') ρ ((({ Z with nx := fun ρ1 => StD K W u ρ1 Z } : Pd)).tryE fun xc ρ' => ∃ b, PySem.W.exmOne K (.ref xc.C) c = some b ∧ (b = true → lent ρ' i = false ∧ ∀ a dd, StD K w0 (ts a (.ref xc.C) dd) (ρ'.set i (.sh (.exn a dd xc.C xc.fs xc.ds))) (Pd.suite { Z with nx := fun ρ1 => StD K W u ρ1 Z } i)) ∧ (b = false → Z.ex xc ρ'))) :
    StD K W (tSeq (tTryAs K c i tb ts W) u) ρ Z := s_seq (s_tryA h)
/-- e.f in a suite -/
theorem e_xf {a : Addr} {dd : Option Addr} {te : TE} {P : Dt → En → Prop} (h : EvD K W te ρ x fun d ρ1 => ∃ fs ds v, d = .exn a dd C fs ds ∧ (fs.zip ds).lookup f = some v ∧ P v ρ1) : EvD K W (tXf a (.ref C) dd C f te) ρ x P := fun σ F H Q s q w =>
  h σ F H _ s (fun d ρ1 v F1 H1 p s1 r => by
    obtain ⟨fs, ds, z, rfl, hl, p⟩ := p
    have e : Rep K F1 (.exn a dd C fs ds) v := r
    unfold Rep at e
    obtain ⟨rfl, e2⟩ := e
    rcases e2 with ⟨e3, _⟩ | ⟨b, xs, rfl, e4, e5, e6⟩
    · subst e3
      cases hl
    · obtain ⟨y, hy1, hy2⟩ : ∃ y, (fs.zip xs).lookup f = some y ∧ Rep K F1 z y := by
        clear e4 e5 h q r p
        induction fs generalizing ds xs with
        | nil => cases hl
        | cons g fs ih =>
          cases ds with
          | nil => cases hl
          | cons d ds =>
            unfold RepL at e6
            obtain ⟨y, ys, rfl, r1, r2⟩ := e6
            have hl2 : (match f == g with | true => some d | false => (fs.zip ds).lookup f) = some z := hl
            show ∃ y', (match f == g with | true => some y | false => (fs.zip ys).lookup f) = some y' ∧ Rep K F1 z y'
            cases hfg : f == g with
            | true =>
              rw [hfg] at hl2
              cases hl2
              exact ⟨y, rfl, r1⟩
            | false =>
              rw [hfg] at hl2
              exact ih _ hl2 _ r2
      exact ⟨rfl, rfl, b, _, y, rfl, s1.sym.ex _ _ e4, hy1, q z ρ1 y F1 H1 p s1 hy2.toV⟩) w
theorem c_isX {a : Addr} {dd : Option Addr} {fs : List Str} {ds : List Dt} {C D : Addr} {b : Bool} {P : Dt → En → Prop} (T : XcC K C) (hk : PySem.W.kitOne K (.ref C) (.ref D) = some b) (p : P (.bl b) ρ) : CaD K (rIsS K a (.ref C) dd) [.exn a dd C fs ds, .ref D] ρ P := fun σ F H Q us s r q => by
  obtain ⟨v, _, rfl, rv, y, _, rfl, ry, rfl⟩ := r
  have e : Rep K F (.exn a dd C fs ds) v := rv
  unfold Rep at e
  obtain ⟨rfl, e2⟩ := e
  have e3 : y = .ref D := ry
  subst e3
  refine .inr ⟨.ref D, .ref D, C, b, rfl, .own D, rfl, T, ?_, hk, q _ _ _ F H p (Step.refl s) rfl⟩
  rcases e2 with ⟨_, e4⟩ | ⟨z, xs, e4, e5, _⟩
  · exact .inl e4
  · exact .inr ⟨z, _, e4, s.ex _ _ e5⟩
end
end DL
set_option Elab.async false
set_option linter.all false
set_option maxRecDepth 100000
set_option autoImplicit false
set_option maxHeartbeats 4000000
/-! order, loops, defaults, the head with more facts -/
namespace DL
open PySem L2 Evl PyProof.Rows
/-! ### the head -/
def obsE (n : Nat) (fa : List He.Fa) (fn : List He.DefD) (ex : List (Frag → Bool)) (g : Addr → Option Obj) : He.AlD × Bool := (He.obsDG n fa fn g, ex.all fun e => e (He.frG g (He.asD g n)))
def SaysE (fa : List He.Fa) (fn : List He.DefD) (ex : List (Frag → Bool)) (K : Frag) : Prop := He.SaysD fa fn K ∧ (ex.all fun e => e K) = true
def hookE (n : Nat) (fa : List He.Fa) (fn : List He.DefD) (ex : List (Frag → Bool)) : PySem.W.Hook where
  α := He.AlD × Bool
  obs := fun s => obsE n fa fn ex s.heap.get?
  val := fun _ => (He.valD fn, true)
  says := fun _ h => ∃ K : PySem.W.Frag, K.In h ∧ SaysE fa fn ex K
  of := fun _ _ e => ⟨_, He.frG_in, congrArg Prod.fst e, congrArg Prod.snd e⟩
  keeps := fun _ _ _ ⟨K, hK, c⟩ k => ⟨K, PySem.W.Frag.In.keeps hK k, c⟩
theorem obsE_eq {n : Nat} {fa : List He.Fa} {fn : List He.DefD} {ex : List (Frag → Bool)} {g : Addr → Option Obj} {s : Shared} (h : ∀ a, g a = s.heap.get? a) : obsE n fa fn ex g = (hookE n fa fn ex).obs s := by
  have e : g = s.heap.get? := funext h
  rw [e] <;> rfl
theorem SaysE.ex {fa : List He.Fa} {fn : List He.DefD} {ex : List (Frag → Bool)} {K : Frag} (c : SaysE fa fn ex K) (i : Nat) {f : Frag → Bool} (h : ex[i]? = some f := by rfl) : f K = true :=
  List.all_eq_true.mp c.2 f (List.mem_of_getElem? h)
/-! ### data as the model's data -/
mutual
def Dt.pd : Dt → Option PyData
  | .non => some .none
  | .bl b => some (.bool b)
  | .int i => some (.int i)
  | .str x => some (.str x)
  | .lst ds => (pdL ds).map .list
  | .tup ds => (pdL ds).map .tuple
  | _ => none
def pdL : List Dt → Option (List PyData)
  | [] => some []
  | d :: ds => match d.pd, pdL ds with
    | some p, some ps => some (p :: ps)
    | _, _ => none
end
theorem pdL_cons {d : Dt} {ds : List Dt} {ps : List PyData} (h : pdL (d :: ds) = some ps) : ∃ p qs, ps = p :: qs ∧ d.pd = some p ∧ pdL ds = some qs := by
  unfold pdL at h
  cases e : d.pd with
  | none => rw [e] at h; cases h
  | some p =>
    cases e2 : pdL ds with
    | none => rw [e, e2] at h; cases h
    | some qs =>
      rw [e, e2] at h
      cases h
      exact ⟨p, qs, rfl, rfl, rfl⟩
mutual
theorem Rep.dp {K : Frag} {F : Hp} : ∀ {d : Dt} {v : V} {p : PyData}, Rep K F d v → d.pd = some p → Dp K F v p
  | .non, v, p, h, e => by
    unfold Rep at h
    unfold Dt.pd at e
    cases h
    cases e
    exact .non
  | .bl b, v, p, h, e => by
    unfold Rep at h
    unfold Dt.pd at e
    cases h
    cases e
    exact .bl b
  | .int b, v, p, h, e => by
    unfold Rep at h
    unfold Dt.pd at e
    cases h
    cases e
    exact .int b
  | .str b, v, p, h, e => by
    unfold Rep at h
    unfold Dt.pd at e
    cases h
    cases e
    exact .str b
  | .lst ds, v, p, h, e => by
    unfold Rep at h
    unfold Dt.pd at e
    obtain ⟨a, xs, rfl, h1, h2⟩ := h
    cases e2 : pdL ds with
    | none => rw [e2] at e; cases e
    | some ps =>
      rw [e2] at e
      cases e
      exact .lst h1 (RepL.dp h2 e2)
  | .tup ds, v, p, h, e => by
    unfold Rep at h
    unfold Dt.pd at e
    obtain ⟨a, xs, rfl, h1, h2⟩ := h
    cases e2 : pdL ds with
    | none => rw [e2] at e; cases e
    | some ps =>
      rw [e2] at e
      cases e
      exact .tup h1 (RepL.dp h2 e2)
  | .ty _, _, _, _, e => by unfold Dt.pd at e; cases e
  | .ref _, _, _, _, e => by unfold Dt.pd at e; cases e
  | .dic _ _, _, _, _, e => by unfold Dt.pd at e; cases e
  | .ins _ _ _, _, _, _, e => by unfold Dt.pd at e; cases e
  | .exn _ _ _ _ _, _, _, _, e => by unfold Dt.pd at e; cases e
  | .own _, _, _, _, e => by unfold Dt.pd at e; cases e
theorem RepL.dp {K : Frag} {F : Hp} : ∀ {ds : List Dt} {vs : List V} {ps : List PyData}, RepL K F ds vs → pdL ds = some ps → DpAll K F vs ps
  | [], vs, ps, h, e => by
    unfold RepL at h
    unfold pdL at e
    cases h
    cases e
    exact .nil
  | d :: ds, vs, ps, h, e => by
    unfold RepL at h
    obtain ⟨v, r, rfl, h1, h2⟩ := h
    obtain ⟨p, qs, rfl, e1, e2⟩ := pdL_cons e
    exact .cons (Rep.dp h1 e1) (RepL.dp h2 e2)
end
mutual
theorem Dt.pd_plain : ∀ {d : Dt} {p : PyData}, d.pd = some p → p.plain = true
  | .non, p, e => by unfold Dt.pd at e; cases e; rfl
  | .bl b, p, e => by unfold Dt.pd at e; cases e; rfl
  | .int b, p, e => by unfold Dt.pd at e; cases e; rfl
  | .str b, p, e => by unfold Dt.pd at e; cases e; rfl
  | .lst ds, p, e => by
    unfold Dt.pd at e
    cases e2 : pdL ds with
    | none => rw [e2] at e; cases e
    | some ps =>
      rw [e2] at e
      cases e
      show PyData.plain (.list ps) = true
      unfold PyData.plain
      exact pdL_plain e2
  | .tup ds, p, e => by
    unfold Dt.pd at e
    cases e2 : pdL ds with
    | none => rw [e2] at e; cases e
    | some ps =>
      rw [e2] at e
      cases e
      show PyData.plain (.tuple ps) = true
      unfold PyData.plain
      exact pdL_plain e2
  | .ty _, _, e => by unfold Dt.pd at e; cases e
  | .ref _, _, e => by unfold Dt.pd at e; cases e
  | .dic _ _, _, e => by unfold Dt.pd at e; cases e
  | .ins _ _ _, _, e => by unfold Dt.pd at e; cases e
  | .exn _ _ _ _ _, _, e => by unfold Dt.pd at e; cases e
  | .own _, _, e => by unfold Dt.pd at e; cases e
theorem pdL_plain : ∀ {ds : List Dt} {ps : List PyData}, pdL ds = some ps → PyData.plainAll ps = true
  | [], ps, e => by unfold pdL at e; cases e; rfl
  | d :: ds, ps, e => by
    obtain ⟨p, qs, rfl, e1, e2⟩ := pdL_cons e
    unfold PyData.plainAll
    rw [Dt.pd_plain e1, pdL_plain e2]
    rfl
end
theorem pd_real {d : Dt} {p : PyData} (h : d.pd = some p) : d.real = true := by
  cases d with
  | own i => unfold Dt.pd at h; cases h
  | _ => rfl
/-! ### order -/
def rCmpU (f : Int → Int → Bool) (g : List Nat → List Nat → Bool) (h : PyData → PyData → Bool) (K : Frag) : R2 := fun x y H Q => (rI0 fun i j => .bl (f i j)) x y H Q ∨ ((∃ i j, x = .str i ∧ y = .str j ∧ Q (.bl (g i.cps.toList j.cps.toList)) H) ∨
  ∃ d e, Dp K H x d ∧ Dp K H y e ∧ PySem.W.alike d e = true ∧ d ≠ .none ∧ d.depth ≤ 64 ∧ Q (.bl (h d e)) H)
abbrev rLtU := rCmpU (fun i j => decide (i < j)) (fun a b => decide (a < b)) (fun d e => PySem.W.dataLt d e)
abbrev rLeU := rCmpU (fun i j => decide (i ≤ j)) (fun a b => !decide (b < a)) (fun d e => !PySem.W.dataLt e d)
abbrev rGtU := rCmpU (fun i j => decide (j < i)) (fun a b => decide (b < a)) (fun d e => PySem.W.dataLt e d)
abbrev rGeU := rCmpU (fun i j => decide (j ≤ i)) (fun a b => !decide (a < b)) (fun d e => !PySem.W.dataLt d e)
section
variable {X : Cx}
theorem op_ltU (hu : X.A.units + 64 < cLine) : OpR X (compareOp .Lt) (rLtU X.K) := op_lt.or (op_lt_str.or (by
  intro pins s σ H x y v u Q I rx ry h
  obtain ⟨d, e, hd, he, ha, hn, hz, q⟩ := h
  obtain ⟨as, r1⟩ := Dp.reads I d x v hd rx
  obtain ⟨bs, r2⟩ := Dp.reads I e y u he ry
  exact PySem.W.lt_data r1 r2 ha hn (by have := Nat.min_le_left d.depth e.depth; omega) ⟨.bl _, H, I, rfl, q⟩))
theorem op_leU (hu : X.A.units + 64 < cLine) : OpR X (compareOp .LtE) (rLeU X.K) := op_le.or (op_le_str.or (by
  intro pins s σ H x y v u Q I rx ry h
  obtain ⟨d, e, hd, he, ha, hn, hz, q⟩ := h
  obtain ⟨as, r1⟩ := Dp.reads I d x v hd rx
  obtain ⟨bs, r2⟩ := Dp.reads I e y u he ry
  exact PySem.W.le_data r1 r2 ha hn (by have := Nat.min_le_left d.depth e.depth; omega) ⟨.bl _, H, I, rfl, q⟩))
theorem op_gtU (hu : X.A.units + 64 < cLine) : OpR X (compareOp .Gt) (rGtU X.K) := op_gt.or (op_gt_str.or (by
  intro pins s σ H x y v u Q I rx ry h
  obtain ⟨d, e, hd, he, ha, hn, hz, q⟩ := h
  obtain ⟨as, r1⟩ := Dp.reads I d x v hd rx
  obtain ⟨bs, r2⟩ := Dp.reads I e y u he ry
  exact PySem.W.gt_data r1 r2 ha hn (by have := Nat.min_le_left d.depth e.depth; omega) ⟨.bl _, H, I, rfl, q⟩))
theorem op_geU (hu : X.A.units + 64 < cLine) : OpR X (compareOp .GtE) (rGeU X.K) := op_ge.or (op_ge_str.or (by
  intro pins s σ H x y v u Q I rx ry h
  obtain ⟨d, e, hd, he, ha, hn, hz, q⟩ := h
  obtain ⟨as, r1⟩ := Dp.reads I d x v hd rx
  obtain ⟨bs, r2⟩ := Dp.reads I e y u he ry
  exact PySem.W.ge_data r1 r2 ha hn (by have := Nat.min_le_left d.depth e.depth; omega) ⟨.bl _, H, I, rfl, q⟩))
/-! x in t -/
def rInP (K : Frag) (neg : Bool) : R2 := fun x y H Q => ∃ d es, Dp K H x d ∧ (Dp K H y (.list es) ∨ Dp K H y (.tuple es)) ∧ d.plain = true ∧ PyData.plainAll es = true ∧ d.depth ≤ 63 ∧ Q (.bl (neg != es.any fun z => PyData.eqv z d)) H
theorem bne_ff (b : Bool) : (false != b) = b := by cases b <;> rfl
theorem bne_tt (b : Bool) : (true != b) = !b := by cases b <;> rfl
theorem op_inP (hu : X.A.units + 64 < cLine) : OpR X (compareOp .In) (rInP X.K false) := by
  intro pins s σ H x y v u Q I rx ry h
  obtain ⟨d, es, hd, he, ha, hn, hz, q⟩ := h
  obtain ⟨as, r1⟩ := Dp.reads I d x v hd rx
  rw [bne_ff] at q
  rcases he with he | he
  · obtain ⟨bs, r2⟩ := Dp.reads I _ y u he ry
    exact SeqAt.in_list_data r2 r1 hn ha (by have := Nat.min_le_right (PyData.depthAll es) d.depth; omega) ⟨.bl _, H, I, rfl, q⟩
  · obtain ⟨bs, r2⟩ := Dp.reads I _ y u he ry
    exact SeqAt.in_tuple_data r2 r1 hn ha (by have := Nat.min_le_right (PyData.depthAll es) d.depth; omega) ⟨.bl _, H, I, rfl, q⟩
theorem op_notInP (hu : X.A.units + 64 < cLine) : OpR X (compareOp .NotIn) (rInP X.K true) := by
  intro pins s σ H x y v u Q I rx ry h
  obtain ⟨d, es, hd, he, ha, hn, hz, q⟩ := h
  obtain ⟨as, r1⟩ := Dp.reads I d x v hd rx
  rw [bne_tt] at q
  rcases he with he | he
  · obtain ⟨bs, r2⟩ := Dp.reads I _ y u he ry
    exact SeqAt.notIn_list_data r2 r1 hn ha (by have := Nat.min_le_right (PyData.depthAll es) d.depth; omega) ⟨.bl _, H, I, rfl, q⟩
  · obtain ⟨bs, r2⟩ := Dp.reads I _ y u he ry
    exact SeqAt.notIn_tuple_data r2 r1 hn ha (by have := Nat.min_le_right (PyData.depthAll es) d.depth; omega) ⟨.bl _, H, I, rfl, q⟩
end
section
variable {K : Frag} {W : WX} {σ σ1 : L2.St} {ρ ρ1 : En} {F F1 H H1 : Hp} {x : PX} {P : Dt → En → Prop}
theorem o_cmpI {f : Int → Int → Bool} {g : List Nat → List Nat → Bool} {h : PyData → PyData → Bool} {i j : Int} (p : P (.bl (f i j)) ρ) : OpD K (rCmpU f g h K) (.int i) (.int j) ρ P := fun σ F H Q u v s e f' q => by
  cases e
  cases f'
  exact .inl ⟨i, j, rfl, rfl, q _ _ _ F H p (Step.refl s) rfl⟩
theorem o_cmpS {f : Int → Int → Bool} {g : List Nat → List Nat → Bool} {h : PyData → PyData → Bool} {i j : Str} (p : P (.bl (g i.cps.toList j.cps.toList)) ρ) : OpD K (rCmpU f g h K) (.str i) (.str j) ρ P := fun σ F H Q u v s e f' q => by
  cases e
  cases f'
  exact .inr (.inl ⟨i, j, rfl, rfl, q _ _ _ F H p (Step.refl s) rfl⟩)
theorem o_cmpD {f : Int → Int → Bool} {g : List Nat → List Nat → Bool} {h : PyData → PyData → Bool} {a b : Dt} {d e : PyData} (ha : a.pd = some d) (hb : b.pd = some e) (hal : PySem.W.alike d e = true) (hn : d ≠ .none) (hz : d.depth ≤ 64) (p : P (.bl (h d e)) ρ) : OpD K (rCmpU f g h K) a b ρ P := fun σ F H Q u v s r1 r2 q =>
  .inr (.inr ⟨d, e, ((r1.real (pd_real ha)).mono s.exx).dp ha, ((r2.real (pd_real hb)).mono s.exx).dp hb, hal, hn, hz, q _ _ _ F H p (Step.refl s) rfl⟩)
theorem o_eqP {a b : Dt} {d e : PyData} (ha : a.pd = some d) (hb : b.pd = some e) (hz : d.depth ≤ 64) (p : P (.bl (PyData.eqv d e)) ρ) : OpD K (rEqU K) a b ρ P := fun σ F H Q u v s r1 r2 q =>
  .inr ⟨d, e, ((r1.real (pd_real ha)).mono s.exx).dp ha, ((r2.real (pd_real hb)).mono s.exx).dp hb, Dt.pd_plain ha, Dt.pd_plain hb, hz, q _ _ _ F H p (Step.refl s) rfl⟩
theorem o_neP {a b : Dt} {d e : PyData} (ha : a.pd = some d) (hb : b.pd = some e) (hz : d.depth ≤ 64) (p : P (.bl (!PyData.eqv d e)) ρ) : OpD K (rNeU K) a b ρ P := fun σ F H Q u v s r1 r2 q =>
  .inr ⟨d, e, ((r1.real (pd_real ha)).mono s.exx).dp ha, ((r2.real (pd_real hb)).mono s.exx).dp hb, Dt.pd_plain ha, Dt.pd_plain hb, hz, q _ _ _ F H p (Step.refl s) rfl⟩
theorem o_inL {neg : Bool} {a : Dt} {bs : List Dt} {d : PyData} {es : List PyData} (ha : a.pd = some d) (hb : pdL bs = some es) (hz : d.depth ≤ 63) (p : P (.bl (neg != es.any fun z => PyData.eqv z d)) ρ) : OpD K (rInP K neg) a (.lst bs) ρ P := fun σ F H Q u v s r1 r2 q =>
  ⟨d, es, ((r1.real (pd_real ha)).mono s.exx).dp ha, .inl (((r2.real rfl).mono s.exx).dp (show (Dt.lst bs).pd = _ by unfold Dt.pd; rw [hb]; rfl)), Dt.pd_plain ha, pdL_plain hb, hz, q _ _ _ F H p (Step.refl s) rfl⟩
theorem o_inT {neg : Bool} {a : Dt} {bs : List Dt} {d : PyData} {es : List PyData} (ha : a.pd = some d) (hb : pdL bs = some es) (hz : d.depth ≤ 63) (p : P (.bl (neg != es.any fun z => PyData.eqv z d)) ρ) : OpD K (rInP K neg) a (.tup bs) ρ P := fun σ F H Q u v s r1 r2 q =>
  ⟨d, es, ((r1.real (pd_real ha)).mono s.exx).dp ha, .inr (((r2.real rfl).mono s.exx).dp (show (Dt.tup bs).pd = _ by unfold Dt.pd; rw [hb]; rfl)), Dt.pd_plain ha, pdL_plain hb, hz, q _ _ _ F H p (Step.refl s) rfl⟩
theorem e_chainU {f1 f2 : Int → Int → Bool} {g1 g2 : List Nat → List Nat → Bool} {h1 h2 : PyData → PyData → Bool} {ta tb tc : TE} (h : EvD K W ta ρ x fun d ρ1 => ∃ i, d = .int i ∧ EvD K W tb ρ1 x fun e ρ2 => ∃ j, e = .int j ∧ ∃ k, (∀ P : Dt → En → Prop, P (.int k) ρ2 → EvD K W tc ρ2 x P) ∧ P (.bl (f1 i j && f2 j k)) ρ2) :
    EvD K W (tChain (rCmpU f1 g1 h1 K) (rCmpU f2 g2 h2 K) ta tb tc) ρ x P := by
  refine e_chain (e_imp h fun d ρ1 hd => ?_)
  obtain ⟨i, rfl, h2⟩ := hd
  refine e_imp h2 fun e ρ2 he => ?_
  obtain ⟨j, rfl, k, h3, h4⟩ := he
  refine o_cmpI ⟨_, rfl, fun hb => ?_, fun hb => ?_⟩
  · rw [hb] at h4
    exact h3 _ (o_cmpI (by rw [Bool.true_and] at h4; exact h4))
  · rw [hb, Bool.false_and] at h4
    exact h4
/-! ### while, op= -/
theorem s_while {c : TT} {tb : TS} {P : Pd} (I : Nat → En → Prop) (h0 : ∃ m, I m ρ)
    (hs : ∀ m ρ', I m ρ' → TtD K W c ρ' P.ex fun b ρ1 => (b = true → StD K W tb ρ1 (P.loop (fun ρ2 => ∃ m', m' < m ∧ I m' ρ2) P.nx)) ∧ (b = false → P.nx ρ1)) : StD K W (tWhile c tb) ρ P := fun σ F H D s l => by
  obtain ⟨m0, h0⟩ := h0
  refine ⟨fun m σ' H' => ∃ F' ρ', I m ρ' ∧ Step K σ ρ F H σ' ρ' F' H', ⟨m0, F, ρ, h0, Step.refl s⟩, ?_⟩
  rintro m σ' H' ⟨F', ρ', p, st⟩
  refine hs m ρ' p σ' F' H' _ st.sym (fun b ρ1 F1 H1 pb s1 => ?_) fun c ρ2 cls dd F2 H2 p2 s2 xo => l.ex c ρ2 cls dd σ' F2 H2 p2 (st.trans s2) xo
  have all := st.trans s1
  cases b with
  | false => exact l.nx ρ1 σ' F1 H1 (pb.2 rfl) all
  | true =>
    refine ⟨fun σ2 H2 => ∃ m', m' < m ∧ ∃ F2 ρ2, I m' ρ2 ∧ Step K σ ρ F H σ2 ρ2 F2 H2, fun _ _ h => h, ?_⟩
    exact pb.1 rfl σ' F1 H1 _ s1.sym ⟨fun ρ2 σ2 F2 H2 ⟨ρ3, g3, m', hm, p3⟩ t2 => ⟨m', hm, F2, ρ3, p3, (all.trans t2).trans (Step.forget t2.sym g3)⟩, (l.later all).rt, (l.later all).rn, (l.later all).nx,
      fun ρ2 σ2 F2 H2 ⟨ρ3, g3, m', hm, p3⟩ t2 => ⟨m', hm, F2, ρ3, p3, (all.trans t2).trans (Step.forget t2.sym g3)⟩, (l.later all).ex⟩
theorem s_aug {i : Nat} {d : Dt} {te : TE} {r : R2} {P : Pd} (hi : ρ[i]? = some (.sh d)) (h : EvD K W te ρ P.ex fun e ρ1 => ρ1[i]? = some (.sh d) ∧ OpD K r d e ρ1 fun z ρ2 => z.real = true ∧ lent ρ2 i = false ∧ P.nx (ρ2.set i (.sh z))) : StD K W (tAug i te r) ρ P := fun σ F H D s l => by
  obtain ⟨v, e1, e2⟩ := s.sh i d hi
  refine ⟨v, e1, h σ F H _ s (fun e ρ1 u F1 H1 p s1 r1 => ?_) fun c ρ' cls dd F' H' p st xo => l.ex c ρ' cls dd σ F' H' p st xo⟩
  exact p.2 σ F1 H1 _ v u s1.sym (e2.mono s1.exF).toV r1 fun z ρ2 w F2 H2 p2 s2 r2 => l.nx _ _ F2 H2 p2.2.2 ((s1.trans s2).trans (Step.set s2.sym p2.2.1 (r2.real p2.1)))
/-! ### for over lists, tuples, texts -/
theorem s_forL {te : TE} {j : Nat} {tb : TS} {P : Pd} (h : EvD K W te ρ P.ex fun d ρ1 => ∃ ds, d = .lst ds ∧ ∃ I : Nat → En → Prop, I 0 ρ1 ∧
      (∀ (i : Nat) ρ' z, ds[i]? = some z → I i ρ' → lent ρ' j = false ∧ StD K W tb (ρ'.set j (.sh z)) (P.loop (I (i + 1)) P.nx)) ∧ ∀ ρ', I ds.length ρ' → P.nx ρ') :
    StD K W (tFor (iList K te) (gName j) tb) ρ P := fun σ F H D s l =>
  h σ F H _ s (fun d ρ1 v F1 H1 p s1 r => by
    obtain ⟨ds, rfl, I, h0, hs, hd⟩ := p
    have e : Rep K F1 (.lst ds) v := r
    unfold Rep at e
    obtain ⟨a, xs, rfl, h1, h2⟩ := e
    refine ⟨a, rfl, ⟨xs, ex_l s1.sym.ex h1⟩, for_list (xs := xs) (fun i σ' H' => ∃ F' ρ', I i ρ' ∧ Step K σ ρ1 F1 H1 σ' ρ' F' H') ⟨F1, ρ1, h0, Step.refl s1.sym⟩ (fun i σ' H' _ ⟨F', ρ', p, st⟩ => ex_l st.sym.ex (xe_l st.exF h1)) (fun i z σ' H' hi ⟨F', ρ', p, st⟩ => ?_)
          fun σ' H' ⟨F', ρ', p, st⟩ => l.nx ρ' σ' F' H' (hd ρ' (by rw [← h2.length]; exact p)) (s1.trans st)⟩
    obtain ⟨z', hz⟩ : ∃ z', ds[i]? = some z' := by
      have hl : i < xs.length := (List.getElem?_eq_some_iff.mp hi).1
      rw [h2.length] at hl
      exact ⟨_, List.getElem?_eq_getElem hl⟩
    obtain ⟨z2, hz2, hr⟩ := h2.get hz
    rw [hi] at hz2
    cases hz2
    obtain ⟨hl, hb⟩ := hs i ρ' z' hz p
    have st2 := Step.set (i := j) (d := z') (v := z) st.sym hl (hr.mono st.exF)
    have all := (s1.trans st).trans st2
    exact hb _ F' H' _ st2.sym ⟨fun ρ2 σ2 F2 H2 ⟨ρ3, g3, p3⟩ t2 => ⟨F2, ρ3, p3, ((st.trans st2).trans t2).trans (Step.forget t2.sym g3)⟩, (l.later all).rt, (l.later all).rn, (l.later all).nx,
      fun ρ2 σ2 F2 H2 ⟨ρ3, g3, p3⟩ t2 => ⟨F2, ρ3, p3, ((st.trans st2).trans t2).trans (Step.forget t2.sym g3)⟩, (l.later all).ex⟩) fun c ρ' cls dd F' H' p st xo => l.ex c ρ' cls dd σ F' H' p st xo
theorem s_forT {te : TE} {j : Nat} {tb : TS} {P : Pd} (h : EvD K W te ρ P.ex fun d ρ1 => ∃ ds, d = .tup ds ∧ ∃ I : Nat → En → Prop, I 0 ρ1 ∧
      (∀ (i : Nat) ρ' z, ds[i]? = some z → I i ρ' → lent ρ' j = false ∧ StD K W tb (ρ'.set j (.sh z)) (P.loop (I (i + 1)) P.nx)) ∧ ∀ ρ', I ds.length ρ' → P.nx ρ') :
    StD K W (tFor (iTup K te) (gName j) tb) ρ P := fun σ F H D s l =>
  h σ F H _ s (fun d ρ1 v F1 H1 p s1 r => by
    obtain ⟨ds, rfl, I, h0, hs, hd⟩ := p
    have e : Rep K F1 (.tup ds) v := r
    unfold Rep at e
    obtain ⟨a, xs, rfl, h1, h2⟩ := e
    refine ⟨a, rfl, ⟨xs, ex_t s1.sym.ex h1⟩, for_tup (xs := xs) (fun i σ' H' => ∃ F' ρ', I i ρ' ∧ Step K σ ρ1 F1 H1 σ' ρ' F' H') ⟨F1, ρ1, h0, Step.refl s1.sym⟩ (fun i σ' H' _ ⟨F', ρ', p, st⟩ => ex_t st.sym.ex (xe_t st.exF h1)) (fun i z σ' H' hi ⟨F', ρ', p, st⟩ => ?_)
          fun σ' H' ⟨F', ρ', p, st⟩ => l.nx ρ' σ' F' H' (hd ρ' (by rw [← h2.length]; exact p)) (s1.trans st)⟩
    obtain ⟨z', hz⟩ : ∃ z', ds[i]? = some z' := by
      have hl : i < xs.length := (List.getElem?_eq_some_iff.mp hi).1
      rw [h2.length] at hl
      exact ⟨_, List.getElem?_eq_getElem hl⟩
    obtain ⟨z2, hz2, hr⟩ := h2.get hz
    rw [hi] at hz2
    cases hz2
    obtain ⟨hl, hb⟩ := hs i ρ' z' hz p
    have st2 := Step.set (i := j) (d := z') (v := z) st.sym hl (hr.mono st.exF)
    have all := (s1.trans st).trans st2
    exact hb _ F' H' _ st2.sym ⟨fun ρ2 σ2 F2 H2 ⟨ρ3, g3, p3⟩ t2 => ⟨F2, ρ3, p3, ((st.trans st2).trans t2).trans (Step.forget t2.sym g3)⟩, (l.later all).rt, (l.later all).rn, (l.later all).nx,
      fun ρ2 σ2 F2 H2 ⟨ρ3, g3, p3⟩ t2 => ⟨F2, ρ3, p3, ((st.trans st2).trans t2).trans (Step.forget t2.sym g3)⟩, (l.later all).ex⟩) fun c ρ' cls dd F' H' p st xo => l.ex c ρ' cls dd σ F' H' p st xo
theorem for_strs {z : Str} {g : TG} {tb : TS} {D : Ends} {σ : L2.St} {H : Hp} (Pv : Nat → L2.St → Hp → Prop) (h0 : Pv 0 σ H)
    (hs : ∀ i c σ H, z.cps[i]? = some c → Pv i σ H → g (.str ⟨#[c]⟩) σ H fun σ2 H2 => tb { D with nx := Pv (i + 1), ct := Pv (i + 1), bk := D.nx } σ2 H2) (hd : ∀ σ H, Pv z.cps.size σ H → D.nx σ H) :
    ∃ W : Nat → Nat → L2.St → Hp → Prop, (∃ m, W 0 m σ H) ∧ ∀ i m σ H, W i m σ H →
      ((Its z).stop i H ∧ D.nx σ H) ∨ ((Its z).go i H ∧ ∃ N : L2.St → Hp → Prop, (∀ σ' H', N σ' H' → ∃ m', m' < m ∧ W (i + 1) m' σ' H') ∧ ∀ x H', (Its z).yld i H x H' → g x σ H' fun σ2 H2 => tb { D with nx := N, ct := N, bk := D.nx } σ2 H2) := by
  refine ⟨fun i m σ H => m = z.cps.size - i ∧ i ≤ z.cps.size ∧ Pv i σ H, ⟨z.cps.size, by simp, Nat.zero_le _, h0⟩, ?_⟩
  rintro i m σ H ⟨rfl, hi, p⟩
  by_cases hlt : i < z.cps.size
  · refine .inr ⟨hlt, Pv (i + 1), fun σ' H' p' => ⟨z.cps.size - (i + 1), by omega, rfl, hlt, p'⟩, fun x H' y => ?_⟩
    obtain ⟨e, c, hc, hx⟩ := y
    subst e hx
    exact hs i c σ _ hc p
  · have e : i = z.cps.size := by omega
    subst e
    exact .inl ⟨Nat.le_refl _, hd σ H p⟩
theorem s_forS {te : TE} {j : Nat} {tb : TS} {P : Pd} (h : EvD K W te ρ P.ex fun d ρ1 => ∃ z, d = .str z ∧ ∃ I : Nat → En → Prop, I 0 ρ1 ∧
      (∀ (i : Nat) ρ' c, (TL.tl z)[i]? = some c → I i ρ' → lent ρ' j = false ∧ StD K W tb (ρ'.set j (.sh (.str ⟨#[c]⟩))) (P.loop (I (i + 1)) P.nx)) ∧ ∀ ρ', I (TL.tl z).length ρ' → P.nx ρ') :
    StD K W (tFor (iStr te) (gName j) tb) ρ P := fun σ F H D s l =>
  h σ F H _ s (fun d ρ1 v F1 H1 p s1 r => by
    obtain ⟨z, rfl, I, h0, hs, hd⟩ := p
    have e : v = .str z := r
    subst e
    refine ⟨z, rfl, for_strs (z := z) (fun i σ' H' => ∃ F' ρ', I i ρ' ∧ Step K σ ρ1 F1 H1 σ' ρ' F' H') ⟨F1, ρ1, h0, Step.refl s1.sym⟩ (fun i c σ' H' hi ⟨F', ρ', p, st⟩ => ?_)
          fun σ' H' ⟨F', ρ', p, st⟩ => l.nx ρ' σ' F' H' (hd ρ' (show I z.cps.toList.length ρ' by rw [Array.length_toList]; exact p)) (s1.trans st)⟩
    obtain ⟨hl, hb⟩ := hs i ρ' c (show z.cps.toList[i]? = _ by rw [Array.getElem?_toList]; exact hi) p
    have st2 := Step.set (i := j) (d := .str ⟨#[c]⟩) (v := .str ⟨#[c]⟩) st.sym hl (by unfold Rep; rfl)
    have all := (s1.trans st).trans st2
    exact hb _ F' H' _ st2.sym ⟨fun ρ2 σ2 F2 H2 ⟨ρ3, g3, p3⟩ t2 => ⟨F2, ρ3, p3, ((st.trans st2).trans t2).trans (Step.forget t2.sym g3)⟩, (l.later all).rt, (l.later all).rn, (l.later all).nx,
      fun ρ2 σ2 F2 H2 ⟨ρ3, g3, p3⟩ t2 => ⟨F2, ρ3, p3, ((st.trans st2).trans t2).trans (Step.forget t2.sym g3)⟩, (l.later all).ex⟩) fun c ρ' cls dd F' H' p st xo => l.ex c ρ' cls dd σ F' H' p st xo
/-! ### more built-ins -/
theorem m_sindex {a b : Str} {i : Nat} {rest : List Nat} (h : Builtin.Str.occurrences a b 0 a.length 1 = i :: rest) (p : P (.int (i : Nat)) ρ) : MtD K (fun x xs H Q => ∃ a b i rest, x = .str a ∧ xs = [.str b] ∧ Builtin.Str.occurrences a b 0 a.length 1 = i :: rest ∧ Q (.int (i : Nat)) H) (.str a) [.str b] ρ P := fun σ F H Q u us s e r q => by
  cases e
  obtain ⟨v, _, rfl, rv, rfl⟩ := r
  have e : v = .str b := rv
  subst e
  exact ⟨a, b, i, rest, rfl, rfl, h, q _ _ _ F H p (Step.refl s) rfl⟩
theorem c_strI {i : Int} (h : i.natAbs.log2 < 1920) (p : P (.str (toString i)) ρ) : CaD K (fun xs H Q => ∃ i, xs = [.int i] ∧ i.natAbs.log2 < 1920 ∧ Q (.str (toString i)) H) [.int i] ρ P := fun σ F H Q us s r q => by
  obtain ⟨v, _, rfl, rv, rfl⟩ := r
  have e : v = .int i := rv
  subst e
  exact ⟨i, rfl, h, q _ _ _ F H p (Step.refl s) rfl⟩
theorem c_max2 {i j : Int} (p : P (.int (if j > i then j else i)) ρ) : CaD K (fun xs H Q => ∃ i j, xs = [.int i, .int j] ∧ Q (.int (if j > i then j else i)) H) [.int i, .int j] ρ P := fun σ F H Q us s r q => by
  obtain ⟨v, _, rfl, rv, v2, _, rfl, rv2, rfl⟩ := r
  have e : v = .int i := rv
  have e2 : v2 = .int j := rv2
  subst e e2
  exact ⟨i, j, rfl, q _ _ _ F H p (Step.refl s) rfl⟩
theorem c_min2 {i j : Int} (p : P (.int (if j < i then j else i)) ρ) : CaD K (fun xs H Q => ∃ i j, xs = [.int i, .int j] ∧ Q (.int (if j < i then j else i)) H) [.int i, .int j] ρ P := fun σ F H Q us s r q => by
  obtain ⟨v, _, rfl, rv, v2, _, rfl, rv2, rfl⟩ := r
  have e : v = .int i := rv
  have e2 : v2 = .int j := rv2
  subst e e2
  exact ⟨i, j, rfl, q _ _ _ F H p (Step.refl s) rfl⟩
/-! ### defaults -/
theorem e_callD {S : Fsp} {ta : TA} {dvs : List V} {dds : List Dt} (hdv : ∀ F, RepL K F dds dvs) (h : ArD K W ta ρ x fun ds ρ1 => ∃ i, ds ++ dds = S.arg i ∧ allReal ds = true ∧ S.pre i ∧ (∀ d, S.post i d → P d ρ1) ∧ ∀ c, S.exc i c → x c ρ1) :
    EvD K W (tCallSD (DSp K S) dvs (WE W) ta) ρ x P := fun σ F H Q s q w =>
  h σ F H _ s (fun ds ρ1 vs F1 H1 p s1 r => by
    obtain ⟨i, hi, hr, hp, hk, hx⟩ := p
    exact ⟨F1, i, s1.sym.ex, hi ▸ (r.real hr).app (hdv F1), hp, fun d pd v H' e rd => q d ρ1 v _ H' (hk d pd) (s1.trans (Step.growG s1.sym e)) rd.toV, fun c pc cls dd H' e xo => w c ρ1 cls dd _ H' (hx c pc) (s1.trans (Step.growG s1.sym e)) xo⟩) w
variable {u : TS} {Z : Pd}
theorem ss_while {c : TT} {tb : TS} (I : Nat → En → Prop) (h0 : ∃ m, I m ρ)
    (hs : ∀ m ρ', I m ρ' → TtD K W c ρ' Z.ex fun b ρ1 => (b = true → ∀ Z', LoopZ Z Z' (fun ρ2 => ∃ m', m' < m ∧ I m' ρ2) (fun ρ2 => StD K W u ρ2 Z) → StD K W tb ρ1 Z') ∧ (b = false → StD K W u ρ1 Z)) : StD K W (tSeq (tWhile c tb) u) ρ Z :=
  s_seq (s_while I h0 fun m ρ' p σ F H Q s q w => hs m ρ' p σ F H Q s (fun b ρ1 F1 H1 pb => q b ρ1 F1 H1 ⟨fun e => pb.1 e _ loopZ, pb.2⟩) w)
theorem ss_aug {i : Nat} {d : Dt} {te : TE} {r : R2} (hi : ρ[i]? = some (.sh d)) (h : EvD K W te ρ Z.ex fun e ρ1 => ρ1[i]? = some (.sh d) ∧ OpD K r d e ρ1 fun z ρ2 => z.real = true ∧ lent ρ2 i = false ∧ StD K W u (ρ2.set i (.sh z)) Z) : StD K W (tSeq (tAug i te r) u) ρ Z := s_seq (s_aug hi h)
theorem ss_forL {te : TE} {j : Nat} {tb : TS} (h : EvD K W te ρ Z.ex fun d ρ1 => ∃ ds, d = .lst ds ∧ ∃ I : Nat → En → Prop, I 0 ρ1 ∧
      (∀ (i : Nat) ρ' z, ds[i]? = some z → I i ρ' → lent ρ' j = false ∧ ∀ Z', LoopZ Z Z' (I (i + 1)) (fun ρ2 => StD K W u ρ2 Z) → StD K W tb (ρ'.set j (.sh z)) Z') ∧ ∀ ρ', I ds.length ρ' → StD K W u ρ' Z) :
    StD K W (tSeq (tFor (iList K te) (gName j) tb) u) ρ Z := s_seq (s_forL (e_imp h fun d ρ1 ⟨ds, e, I, h3, h4, h5⟩ => ⟨ds, e, I, h3, fun i ρ' z hi p => ⟨(h4 i ρ' z hi p).1, (h4 i ρ' z hi p).2 _ loopZ⟩, h5⟩))
theorem ss_forT {te : TE} {j : Nat} {tb : TS} (h : EvD K W te ρ Z.ex fun d ρ1 => ∃ ds, d = .tup ds ∧ ∃ I : Nat → En → Prop, I 0 ρ1 ∧
      (∀ (i : Nat) ρ' z, ds[i]? = some z → I i ρ' → lent ρ' j = false ∧ ∀ Z', LoopZ Z Z' (I (i + 1)) (fun ρ2 => StD K W u ρ2 Z) → StD K W tb (ρ'.set j (.sh z)) Z') ∧ ∀ ρ', I ds.length ρ' → StD K W u ρ' Z) :
    StD K W (tSeq (tFor (iTup K te) (gName j) tb) u) ρ Z := s_seq (s_forT (e_imp h fun d ρ1 ⟨ds, e, I, h3, h4, h5⟩ => ⟨ds, e, I, h3, fun i ρ' z hi p => ⟨(h4 i ρ' z hi p).1, (h4 i ρ' z hi p).2 _ loopZ⟩, h5⟩))
theorem ss_forS {te : TE} {j : Nat} {tb : TS} (h : EvD K W te ρ Z.ex fun d ρ1 => ∃ z, d = .str z ∧ ∃ I : Nat → En → Prop, I 0 ρ1 ∧
      (∀ (i : Nat) ρ' c, (TL.tl z)[i]? = some c → I i ρ' → lent ρ' j = false ∧ ∀ Z', LoopZ Z Z' (I (i + 1)) (fun ρ2 => StD K W u ρ2 Z) → StD K W tb (ρ'.set j (.sh (.str ⟨#[c]⟩))) Z') ∧ ∀ ρ', I (TL.tl z).length ρ' → StD K W u ρ' Z) :
    StD K W (tSeq (tFor (iStr te) (gName j) tb) u) ρ Z := s_seq (s_forS (e_imp h fun d ρ1 ⟨ds, e, I, h3, h4, h5⟩ => ⟨ds, e, I, h3, fun i ρ' z hi p => ⟨(h4 i ρ' z hi p).1, (h4 i ρ' z hi p).2 _ loopZ⟩, h5⟩))
end
/-- a def of the module, some of whose parameters are filled from its defaults -/
def FnGD (P : Program) (w : World) (K : Frag) (mg : Str → Option Value) (base : Heap) (k : Nat) (x : Str) (ps : List Str) (sp : Sp) (dvs : List V) : Prop :=
  ∃ (f : Addr) (fd : FuncData) (ds : List Value), mg x = some (.ref f) ∧ PySem.W.keepIn K (.ref f) = true ∧ FnOk P w K mg base (L2.CX P w) k f fd ps sp ∧ Binds K fd ps ds ∧ Vals dvs ds
theorem pe_fnD {X : Cx} {k : Nat} {x : Str} {ps : List Str} {sp : Sp} {dvs : List V} {p pos : Pos} {e : Expr} {es : List Expr} {t : TA} {W : WX} (G : FnGD X.prog X.w X.K X.mg X.base k x ps sp dvs) (hr : Room k X.A) (tk : Takes X W) (hg : Gl X x) (ha : PA X (e :: es) t) (hdb : (x == ("__debug__" : Str)) = false := by decide)
    (he : starEach (e :: es) X.env = (false, eval e X.env) :: starEach es X.env := by rfl) (hpl : (backTo pos (starEach es X.env)).any (·.1) = false := by rfl) : PE X (.Call (.Name x p) (e :: es) [] pos) (tCallSD sp dvs (WE W) t) := by
  obtain ⟨f, fd, ds, h1, h2, h3, h4, h5⟩ := G
  exact pe_callSD h3 hr hg h1 h2 h4 h5 (fun σ => passAt tk σ) ha hdb he hpl
end DL
set_option Elab.async false
set_option linter.all false
set_option maxRecDepth 100000
set_option autoImplicit false
set_option maxHeartbeats 4000000
namespace DL
open PySem L2 Evl PyProof.Rows
/-! the same in an except suite: K by itself -/
section
variable {X : Cx} {K : Frag}
theorem op_addK (hK : X.K = K) : OpR X (binaryOp .Add) (rAddU K) := hK ▸ op_addU
theorem op_eqK (hK : X.K = K) (hu : X.A.units + 64 < cLine) : OpR X (compareOp .Eq) (rEqU K) := hK ▸ op_eqU hu
theorem op_neK (hK : X.K = K) (hu : X.A.units + 64 < cLine) : OpR X (compareOp .NotEq) (rNeU K) := hK ▸ op_neU hu
theorem op_ltK (hK : X.K = K) (hu : X.A.units + 64 < cLine) : OpR X (compareOp .Lt) (rLtU K) := hK ▸ op_ltU hu
theorem op_leK (hK : X.K = K) (hu : X.A.units + 64 < cLine) : OpR X (compareOp .LtE) (rLeU K) := hK ▸ op_leU hu
theorem op_gtK (hK : X.K = K) (hu : X.A.units + 64 < cLine) : OpR X (compareOp .Gt) (rGtU K) := hK ▸ op_gtU hu
theorem op_geK (hK : X.K = K) (hu : X.A.units + 64 < cLine) : OpR X (compareOp .GtE) (rGeU K) := hK ▸ op_geU hu
theorem op_inK (hK : X.K = K) (hu : X.A.units + 64 < cLine) : OpR X (compareOp .In) (rInP K false) := hK ▸ op_inP hu
theorem op_notInK (hK : X.K = K) (hu : X.A.units + 64 < cLine) : OpR X (compareOp .NotIn) (rInP K true) := hK ▸ op_notInP hu
theorem sl_K (hK : X.K = K) : SlR X (rSlU K) := hK ▸ sl_u
theorem call_isiK (hK : X.K = K) : CallR X (.builtin "isinstance") (rIsi K) := hK ▸ call_isi
theorem pi_listK {tg l : Expr} {tl : TE} (hK : X.K = K) (hl : PE X l tl) : PI X tg l (iList K tl) := hK ▸ pi_list hl
theorem pg_tupK {es : List Expr} {k : Nat} {t : TGs} {pos : Pos} (n : Nat) (hK : X.K = K) (hc : X.calm = true) (h : PGs X es t)
    (hn : (assignEach es X.env).length = n := by rfl) (hst : (assignEach es X.env).findIdx? (·.1) = none := by rfl) : PG X (.Tuple es k pos) (gTup K n t) := hK ▸ pg_tup hc h hn hst
theorem pi_tupK {tg l : Expr} {tl : TE} (hK : X.K = K) (hl : PE X l tl) : PI X tg l (iTup K tl) := hK ▸ pi_tup hl
theorem pe_bm0K {o : Expr} {to : TE} {name : Str} {apos cpos : Pos} {T id : String} {r : V → List V → Hp → VK → Prop} (hK : X.K = K) (pa : PlainAttrs T) (slot : Slot T name id) (hty : typeOf (.builtin id) = pure (.type "method_descriptor")) (hm : MtR X id r) (ho : PE X o to)
    (hbase : attributeBase o name X.env (eval o X.env) = eval o X.env := by rfl) (hline : (apos.endLine == cpos.line) = true := by rfl) : PE X (.Call (.Attribute o name apos) [] [] cpos) (tBM0 K T r to) := hK ▸ pe_bm0 pa slot hty hm ho hbase hline
theorem pe_bmK {o e : Expr} {es : List Expr} {to : TE} {t : TA} {name : Str} {apos cpos : Pos} {T id : String} {r : V → List V → Hp → VK → Prop} (hK : X.K = K) (pa : PlainAttrs T) (slot : Slot T name id) (hty : typeOf (.builtin id) = pure (.type "method_descriptor")) (hm : MtR X id r) (ho : PE X o to) (ha : PA X (e :: es) t)
    (hbase : attributeBase o name X.env (eval o X.env) = eval o X.env := by rfl)
    (hfew : ((backTo cpos (starEach (e :: es) X.env)).all (fun x => !x.1) && (backToKw cpos (keywordEach [] X.env)).all (fun x => x.1.isSome)
      && decide ((e :: es).length + ([] : List Keyword).length + (if ([] : List Keyword).isEmpty then 0 else 1) < 30)) = true := by rfl)
    (hline : (apos.endLine == cpos.line) = true := by rfl) (hs : starEach (e :: es) X.env = (false, eval e X.env) :: starEach es X.env := by rfl) (hplain : (backTo cpos (starEach es X.env)).any (·.1) = false := by rfl) :
    PE X (.Call (.Attribute o name apos) (e :: es) [] cpos) (tBM K T r to t) := hK ▸ pe_bm pa slot hty hm ho ha hbase hfew hline hs hplain
theorem call_lenK (hK : X.K = K) : CallR X (.builtin "len") (rLenU K) := hK ▸ call_lenU
theorem ix_seqK (hK : X.K = K) : IxR X (rIxU K) := hK ▸ ix_seqU
theorem pt_truK (hK : X.K = K) {a : Expr} {ta : TE} (ha : PE X a ta) (he : ∀ whole, isTrue a X.env whole = (do let v ← whole; standAt a.pos; holding [v] (truthy v)) := by intro _; rfl) : PT X a (tTru K ta) := hK ▸ pt_tru ha he
end
section
variable {K : Frag} {W : WX} {σ σ1 : L2.St} {ρ ρ1 ρ2 : En} {F F1 F2 H H1 H2 H3 : Hp} {x : PX} {P : Dt → En → Prop}
/-- a new object that no slot owns is changed -/
theorem Step.side {p : Addr} (st : Step K σ ρ F H σ1 ρ2 F2 H2) (hp : H p = none) (hno : ¬ OwA σ1 ρ2 p) (hF : F2 p = none) (h2 : H2 p ≠ none) (h3 : H3 p ≠ none) (b : Bt F2 H2 H3 p) : Step K σ ρ F H σ1 ρ2 (Fz F2 H2 H3) H3 := by
  have s := st.sym
  have np : ∀ a u, F2 a = some u → a ≠ p := fun a u e z => by
    subst z
    rw [hF] at e
    cases e
  have exF : Xe F2 (Fz F2 H2 H3) := fun a u e => by
    rw [fz_have (s.ex a u e) e]
    rcases b a u (s.ex a u e) (np a u e) with z | ⟨_, z⟩
    · exact .inl z
    · exact .inr z
  exact {
    sym := {
      ex := fz_in
      len := s.len
      sh := fun j e h => by
        obtain ⟨v, a, r⟩ := s.sh j e h
        exact ⟨v, a, r.mono exF⟩
      ow := fun j m e h => by
        obtain ⟨q, a, r, c⟩ := s.ow j m e h
        have ne : q ≠ p := fun z => by
          subst z
          exact hno ⟨j, m, e, h, a⟩
        cases hq : H2 q with
        | none => exact absurd hq c.there
        | some u =>
          refine ⟨q, a, fz_old hq r, c.mono exF ?_⟩
          rcases b q u hq ne with z | ⟨z, _⟩
          · rw [hq]; exact z
          · exact absurd r z
      inj := s.inj }
    exF := st.exF.trans exF
    keep := fun a u h n => by
      have ne : a ≠ p := fun z => by
        subst z
        rw [hp] at h
        cases h
      have f1 : F2 a ≠ none → F a ≠ none := fun z => by
        rcases st.new a z with y | y | y
        · exact y
        · rw [h] at y
          cases y
        · exact absurd y n
      rcases st.keep a u h n with h1 | ⟨hf, v, h1, l⟩
      · rcases b a u h1 ne with h2 | ⟨hg, v, h2, l2⟩
        · exact .inl h2
        · exact .inr ⟨f1 hg, v, h2, l2⟩
      · rcases b a v h1 ne with h2 | ⟨hg, v', h2, l2⟩
        · exact .inr ⟨hf, v, h2, l⟩
        · exact (l.noL l2).elim
    own := st.own
    new := fun a h => by
      rcases fz_some h with z | z
      · exact st.new a z
      · refine .inr (.inl ?_)
        cases e : H a with
        | none => rfl
        | some u => exact absurd z (st.all a (by rw [e]; exact fun z => nomatch z))
    all := fun a h => by
      have ne : a ≠ p := fun z => by
        subst z
        exact h hp
      cases q : H2 a with
      | none => exact absurd q (st.all a h)
      | some u =>
        rcases b a u q ne with z | ⟨_, v, z, _⟩
        · rw [z]; exact fun z => nomatch z
        · rw [z]; exact fun z => nomatch z
    stay := st.stay }
/-- f(g(..), ..): the first argument is a new object that f changes -/
theorem e_callNO {S : Osp} {te : TE} {ta : TA} (h : EvN K W te ρ x fun d ρ1 => ArD K W ta ρ1 x fun es ρ2 => ∃ (i : S.I), d = S.own i ∧ es = S.arg i ∧ allReal es = true ∧ S.pre i ∧
      (∀ r o, S.post i r o → P r ρ2) ∧ ∀ c o, S.exc i c o → x c ρ2) : EvD K W (tCallS (OSp K S) (WE W) (tCons te ta)) ρ x P := fun σ F H Q s q w =>
  h σ F H _ s (fun d ρ1 p o F1 H1 pa s1 hp ho => by
    have st1 := s1.trans (Step.more (o := o) s1.sym hp)
    have hpH : H p = none := by
      cases e : H p with
      | none => rfl
      | some u => exact absurd hp (s1.all p (by rw [e]; exact fun z => nomatch z))
    have nof : ∀ {F' H' : Hp} {ρ' : En}, Step K σ ρ1 F1 (upd H1 p o) σ ρ' F' H' → ¬ OwA σ ρ' p ∧ F' p = none ∧ H' p = some o := fun {F' H' ρ'} st => by
      have n1 : ¬ OwA σ ρ1 p := fun ⟨j, l, e, h1, h2⟩ => by
        obtain ⟨q, a, b, c⟩ := s1.sym.ow j l e h1
        rw [h2] at a
        have z := Option.some.inj (Option.some.inj a)
        injection z with z
        subst z
        exact c.there hp
      have h0 : upd H1 p o p = some o := upd_same
      have fp : F1 p = none := ex_free s1.sym.ex hp
      refine ⟨fun z => ?_, ?_, ?_⟩
      · rcases st.own p z with y | y
        · exact n1 y
        · rw [h0] at y
          cases y
      · cases e : F' p with
        | none => rfl
        | some u =>
          rcases st.new p (by rw [e]; exact fun z => nomatch z) with y | y | y
          · exact absurd (ex_free s1.sym.ex hp) y
          · rw [h0] at y
            cases y
          · exact absurd y n1
      · rcases st.keep p o h0 n1 with z | ⟨z, _⟩
        · exact z
        · exact absurd fp z
    refine pa σ F1 _ _ (Step.more s1.sym hp).sym (fun es ρ2 us F2 H2 p2 s2 r2 => ?_) fun c ρ' cls dd F' H' px st xo => w c ρ' cls dd F' H' px (st1.trans st) xo
    obtain ⟨i, rfl, rfl, hr, hpre, hk, hx⟩ := p2
    obtain ⟨n1, n2, n3⟩ := nof s2
    have st2 := st1.trans s2
    have ho2 : Own K F2 H2 p (S.own i) := ho.mono s2.exF (by rw [n3, upd_same])
    refine ⟨F2, i, p, us, rfl, s2.sym.ex, n2, ho2, r2.real hr, hpre, fun r o' pd v H3 b ow rd => ?_, fun c o' pc cls dd H3 b ow xo => ?_⟩
    · exact q r ρ2 v _ H3 (hk r o' pd) (st2.side hpH n1 n2 (by rw [n3]; exact fun z => nomatch z) ow.there b) rd.toV
    · exact w c ρ2 cls dd _ H3 (hx c o' pc) (st2.side hpH n1 n2 (by rw [n3]; exact fun z => nomatch z) ow.there b) xo) w
/-- if c: ..: c is false -/
theorem ss_skip {c : TT} {t v : TS} {Z : Pd} {ρ' : En} (h : TtD K W c ρ Z.ex fun b ρ1 => b = false ∧ ρ1 = ρ') (k : StD K W v ρ' Z) : StD K W (tSeq (tIfS c t tNext) v) ρ Z :=
  ss_if fun σ F H Q s q w => h σ F H Q s (fun b ρ1 F1 H1 ⟨hb, hr⟩ => q b ρ1 F1 H1 ⟨fun e => absurd (hb.symm.trans e) (by decide), fun _ => hr ▸ ss_next k⟩) w
theorem s_skip {c : TT} {t : TS} {Z : Pd} (h : TtD K W c ρ Z.ex fun b ρ1 => b = false ∧ Z.nx ρ1) : StD K W (tIfS c t tNext) ρ Z :=
  s_if fun σ F H Q s q w => h σ F H Q s (fun b ρ1 F1 H1 ⟨hb, hr⟩ => q b ρ1 F1 H1 ⟨fun e => absurd (hb.symm.trans e) (by decide), fun _ => s_next hr⟩) w
theorem ss_join {t v : TS} {Z : Pd} (J : En → Prop) (h : StD K W t ρ { Z with nx := J }) (k : ∀ ρ', J ρ' → StD K W v ρ' Z) : StD K W (tSeq t v) ρ Z :=
  s_seq (s_imp h (fun ρ' j => k ρ' j) (fun _ _ z => z) (fun _ _ z => z) (fun _ z => z) (fun _ z => z) (fun _ _ z => z))
theorem u_neg {i : Int} (p : P (.int (-i)) ρ) : UnD K (rU fun i => .int (-i)) (.int i) ρ P := fun σ F H Q u s e q => by
  cases e
  exact ⟨i, rfl, q _ _ _ F H p (Step.refl s) rfl⟩
end
end DL
set_option Elab.async false
set_option linter.all false
set_option maxRecDepth 100000
set_option autoImplicit false
set_option maxHeartbeats 4000000
/-! what is walked: for, comprehensions; targets -/
namespace DL
open PySem L2 Evl PyProof.Rows
theorem fz_self {F H : Hp} (e : Ex F H) : Fz F H H = F := by
  funext a
  cases q : H a with
  | none => rw [fz_new q, q, ex_free e q]
  | some o =>
    cases r : F a with
    | none => rw [fz_old q r]
    | some u => rw [fz_have q r, e a u r]
/-- the items of a walk, by data -/
structure WkD (K : Frag) (J : It) (F : Hp) (zs : List Dt) : Prop where
  go : ∀ i F' H, i < zs.length → Xe F F' → Ex F' H → J.go i H
  stop : ∀ F' H, Xe F F' → Ex F' H → J.stop zs.length H
  yld : ∀ i F' H v H' z, zs[i]? = some z → Xe F F' → Ex F' H → J.yld i H v H' → Ex H H' ∧ Rep K (Fz F' H H') z v
def ItD (K : Frag) (W : WX) (wi : TI) (ρ : En) (x : PX) (P : List Dt → En → Prop) : Prop :=
  ∀ (σ : L2.St) (F H : Hp) (R : It → Hp → Prop), Sym K F H σ ρ → (∀ zs ρ' J F' H', P zs ρ' → Step K σ ρ F H σ ρ' F' H' → WkD K J F' zs → R J H') →
    (∀ c ρ' cls dd F' H', x c ρ' → Step K σ ρ F H σ ρ' F' H' → XOk K F' c cls dd → W cls dd σ H') → wi σ H R
section
variable {K : Frag} {W : WX} {σ σ1 : L2.St} {ρ ρ1 : En} {F F1 H H1 : Hp} {x : PX} {P : List Dt → En → Prop}
theorem wk_list {a : Addr} {xs : List V} {zs : List Dt} (h : SqL K F a xs) (r : RepL K F zs xs) : WkD K (Itl K a) F zs where
  go := fun i F' H hi e g => ⟨xs, xs[i]'(by rw [r.length]; exact hi), ex_l g (xe_l e h), by simp [r.length, hi]⟩
  stop := fun F' H e g => ⟨xs, ex_l g (xe_l e h), by rw [r.length]; exact Nat.le_refl _⟩
  yld := fun i F' H v H' z hz e g y => by
    obtain ⟨rfl, y⟩ := y
    have hy := y xs (ex_l g (xe_l e h))
    obtain ⟨u, h1, h2⟩ := r.get hz
    rw [hy] at h1
    cases h1
    exact ⟨Ex.refl _, by rw [fz_self g]; exact h2.mono e⟩
theorem wk_tup {a : Addr} {xs : List V} {zs : List Dt} (h : SqT K F a xs) (r : RepL K F zs xs) : WkD K (Itt K a) F zs where
  go := fun i F' H hi e g => ⟨xs, xs[i]'(by rw [r.length]; exact hi), ex_t g (xe_t e h), by simp [r.length, hi]⟩
  stop := fun F' H e g => ⟨xs, ex_t g (xe_t e h), by rw [r.length]; exact Nat.le_refl _⟩
  yld := fun i F' H v H' z hz e g y => by
    obtain ⟨rfl, y⟩ := y
    have hy := y xs (ex_t g (xe_t e h))
    obtain ⟨u, h1, h2⟩ := r.get hz
    rw [hy] at h1
    cases h1
    exact ⟨Ex.refl _, by rw [fz_self g]; exact h2.mono e⟩
theorem i_list {te : TE} (h : EvD K W te ρ x fun d ρ1 => ∃ zs, d = .lst zs ∧ P zs ρ1) : ItD K W (iList K te) ρ x P := fun σ F H R s q w =>
  h σ F H _ s (fun d ρ1 v F1 H1 p s1 r => by
    obtain ⟨zs, rfl, p⟩ := p
    have e : Rep K F1 (.lst zs) v := r
    unfold Rep at e
    obtain ⟨a, xs, rfl, h1, h2⟩ := e
    exact ⟨a, rfl, ⟨xs, ex_l s1.sym.ex h1⟩, q zs ρ1 _ F1 H1 p s1 (wk_list h1 h2)⟩) w
theorem i_tup {te : TE} (h : EvD K W te ρ x fun d ρ1 => ∃ zs, d = .tup zs ∧ P zs ρ1) : ItD K W (iTup K te) ρ x P := fun σ F H R s q w =>
  h σ F H _ s (fun d ρ1 v F1 H1 p s1 r => by
    obtain ⟨zs, rfl, p⟩ := p
    have e : Rep K F1 (.tup zs) v := r
    unfold Rep at e
    obtain ⟨a, xs, rfl, h1, h2⟩ := e
    exact ⟨a, rfl, ⟨xs, ex_t s1.sym.ex h1⟩, q zs ρ1 _ F1 H1 p s1 (wk_tup h1 h2)⟩) w
def rngD (lo : Int) (n : Nat) : List Dt := (List.range n).map fun i => .int (lo + (i : Nat))
theorem rngD_len (lo : Int) (n : Nat) : (rngD lo n).length = n := by unfold rngD; simp
theorem rngD_get {lo : Int} {n i : Nat} (h : i < n) : (rngD lo n)[i]? = some (.int (lo + (i : Nat))) := by unfold rngD; simp [h]
theorem wk_rng {lo : Int} {n : Nat} : WkD K (Itr lo n) F (rngD lo n) where
  go := fun i F' H hi _ _ => by rw [rngD_len] at hi; exact hi
  stop := fun F' H _ _ => by rw [rngD_len]; exact Nat.le_refl _
  yld := fun i F' H v H' z hz e g y => by
    obtain ⟨rfl, y⟩ := y
    have hi : i < n := by
      have := (List.getElem?_eq_some_iff.mp hz).1
      rw [rngD_len] at this
      exact this
    rw [rngD_get hi] at hz
    cases hz
    subst y
    exact ⟨Ex.refl _, by unfold Rep; rfl⟩
theorem i_rng1 {ta : TA} (h : ArD K W ta ρ x fun ds ρ1 => ∃ n : Int, ds = [.int n] ∧ -100000 ≤ n ∧ n ≤ 100000 ∧ P (rngD 0 n.toNat) ρ1) : ItD K W (iRng1 ta) ρ x P := fun σ F H R s q w =>
  h σ F H _ s (fun ds ρ1 vs F1 H1 p s1 r => by
    obtain ⟨n, rfl, h1, h2, p⟩ := p
    obtain ⟨v, _, rfl, rv, rfl⟩ := r
    have e : v = .int n := rv
    subst e
    exact ⟨n, rfl, by omega, by omega, q _ ρ1 _ F1 H1 p s1 wk_rng⟩) w
theorem i_rng2 {ta : TA} (h : ArD K W ta ρ x fun ds ρ1 => ∃ m n : Int, ds = [.int m, .int n] ∧ -100000 ≤ m ∧ m ≤ 100000 ∧ -100000 ≤ n ∧ n ≤ 100000 ∧ P (rngD m (n - m).toNat) ρ1) : ItD K W (iRng2 ta) ρ x P := fun σ F H R s q w =>
  h σ F H _ s (fun ds ρ1 vs F1 H1 p s1 r => by
    obtain ⟨m, n, rfl, h1, h2, h3, h4, p⟩ := p
    obtain ⟨v, _, rfl, rv, v2, _, rfl, rv2, rfl⟩ := r
    have e : v = .int m := rv
    have e2 : v2 = .int n := rv2
    subst e e2
    exact ⟨m, n, rfl, by omega, q _ ρ1 _ F1 H1 p s1 wk_rng⟩) w
def signsD (z : Str) : List Dt := (TL.tl z).map fun c => .str ⟨#[c]⟩
theorem wk_str {z : Str} : WkD K (Its z) F (signsD z) where
  go := fun i F' H hi _ _ => by
    unfold signsD at hi
    rw [List.length_map] at hi
    have : (TL.tl z).length = z.cps.size := by show z.cps.toList.length = _; rw [Array.length_toList]
    show i < z.cps.size
    omega
  stop := fun F' H _ _ => by
    unfold signsD
    rw [List.length_map]
    have : (TL.tl z).length = z.cps.size := by show z.cps.toList.length = _; rw [Array.length_toList]
    show z.cps.size ≤ _
    omega
  yld := fun i F' H v H' d hz e g y => by
    obtain ⟨rfl, c, hc, rfl⟩ := y
    have e2 : (signsD z)[i]? = some (.str ⟨#[c]⟩) := by
      unfold signsD
      rw [List.getElem?_map]
      have : (TL.tl z)[i]? = some c := by show z.cps.toList[i]? = _; rw [Array.getElem?_toList]; exact hc
      rw [this]
      rfl
    rw [e2] at hz
    cases hz
    exact ⟨Ex.refl _, by unfold Rep; rfl⟩
theorem i_str {te : TE} (h : EvD K W te ρ x fun d ρ1 => ∃ z, d = .str z ∧ P (signsD z) ρ1) : ItD K W (iStr te) ρ x P := fun σ F H R s q w =>
  h σ F H _ s (fun d ρ1 v F1 H1 p s1 r => by
    obtain ⟨z, rfl, p⟩ := p
    have e : v = .str z := r
    subst e
    exact ⟨z, rfl, q _ ρ1 _ F1 H1 p s1 wk_str⟩) w
/-- a new pair -/
theorem wk_pair {J : It} {xs ys : List Dt} {us vs : Hp → Nat → Option V} {n : Nat} (hn : xs.length = n ∧ ys.length = n)
    (go : ∀ i F' H, i < n → Xe F F' → Ex F' H → J.go i H) (stop : ∀ F' H, Xe F F' → Ex F' H → J.stop n H)
    (yld : ∀ i F' H v H', i < n → Xe F F' → Ex F' H → J.yld i H v H' → ∃ T u w, v = .ref T ∧ H T = none ∧ H' = upd H T (.tup [u, w]) ∧ (∀ d, xs[i]? = some d → Rep K F' d u) ∧ ∀ d, ys[i]? = some d → Rep K F' d w) :
    WkD K J F ((xs.zip ys).map fun p => .tup [p.1, p.2]) where
  go := fun i F' H hi e g => go i F' H (by simpa [hn.1, hn.2] using hi) e g
  stop := fun F' H e g => by
    have := stop F' H e g
    simpa [hn.1, hn.2] using this
  yld := fun i F' H v H' z hz e g y => by
    have hi : i < n := by
      have := (List.getElem?_eq_some_iff.mp hz).1
      simpa [hn.1, hn.2] using this
    obtain ⟨T, u, w, rfl, hT, rfl, h1, h2⟩ := yld i F' H v H' hi e g y
    have hx : i < xs.length := by omega
    have hy : i < ys.length := by omega
    have e1 : xs[i]? = some xs[i] := by simp [hx]
    have e2 : ys[i]? = some ys[i] := by simp [hy]
    have ez : z = .tup [xs[i], ys[i]] := by
      rw [List.getElem?_map, (List.getElem?_zip_eq_some (z := (xs[i], ys[i]))).mpr ⟨e1, e2⟩] at hz
      exact (Option.some.inj hz).symm
    subst ez
    have gx : Ex H (upd H T (.tup [u, w])) := Ex.new hT
    refine ⟨gx, ?_⟩
    unfold Rep
    refine ⟨T, [u, w], rfl, st_of (fz_at hT), repL_cons ((h1 _ e1).mono (fz_ex g gx)) (repL_cons ((h2 _ e2).mono (fz_ex g gx)) repL_nil)⟩
/-! ### targets -/
def Wp : Option (List Nat) → L2.St → L2.St → Prop
  | none, _, _ => True
  | some vs, σ', σ => wipe σ' vs = wipe σ vs
def inV : Option (List Nat) → Nat → Bool
  | none, _ => true
  | some vs, i => vs.contains i
theorem wipe_get (σ : L2.St) (j : Nat) : ∀ vs : List Nat, (wipe σ vs)[j]? = if j ∈ vs then σ[j]?.map (fun _ => none) else σ[j]?
  | [] => by simp [wipe]
  | v :: vs => by
    unfold wipe
    by_cases e : v = j
    · subst e
      rw [List.getElem?_set_self', if_pos List.mem_cons_self, wipe_get σ v vs]
      split
      · cases σ[v]? <;> rfl
      · cases σ[v]? <;> rfl
    · rw [List.getElem?_set_ne e, wipe_get σ j vs]
      have : (j ∈ v :: vs) ↔ (j ∈ vs) := by
        rw [List.mem_cons]
        exact ⟨fun h => h.elim (fun z => absurd z.symm e) id, Or.inr⟩
      by_cases h : j ∈ vs
      · rw [if_pos h, if_pos (this.mpr h)]
      · rw [if_neg h, if_neg (fun z => h (this.mp z))]
theorem wipe_set {σ : L2.St} {i : Nat} {v : Option V} {vs : List Nat} (h : i ∈ vs) : wipe (σ.set i v) vs = wipe σ vs := by
  apply List.ext_getElem?
  intro j
  rw [wipe_get, wipe_get]
  by_cases hj : j ∈ vs
  · rw [if_pos hj, if_pos hj]
    by_cases e : i = j
    · subst e
      rw [List.getElem?_set_self']
      cases σ[i]? <;> rfl
    · rw [List.getElem?_set_ne e]
  · rw [if_neg hj, if_neg hj, List.getElem?_set_ne (fun e => hj (by rw [← e]; exact h))]
theorem wipe_wipe (σ : L2.St) (vs : List Nat) : wipe (wipe σ vs) vs = wipe σ vs := by
  apply List.ext_getElem?
  intro j
  rw [wipe_get, wipe_get]
  by_cases hj : j ∈ vs
  · rw [if_pos hj, if_pos hj]
    cases σ[j]? <;> rfl
  · rw [if_neg hj, if_neg hj]
theorem Wp.refl (vo : Option (List Nat)) (σ : L2.St) : Wp vo σ σ := by
  cases vo with
  | none => trivial
  | some vs => exact rfl
theorem Wp.trans {vo : Option (List Nat)} {σ σ1 σ2 : L2.St} (a : Wp vo σ1 σ) (b : Wp vo σ2 σ1) : Wp vo σ2 σ := by
  cases vo with
  | none => trivial
  | some vs => exact (show wipe σ2 vs = wipe σ1 vs from b).trans a
theorem Wp.set {vo : Option (List Nat)} {i : Nat} {v : Option V} (h : inV vo i = true) : Wp vo (σ.set i v) σ := by
  cases vo with
  | none => trivial
  | some vs => exact wipe_set (List.contains_iff_mem.mp h)
def TgD (K : Frag) (vo : Option (List Nat)) (g : TG) (z : Dt) (ρ : En) (P : En → Prop) : Prop :=
  ∀ (σ : L2.St) (F H : Hp) (Q : L2.St → Hp → Prop) (v : V), Sym K F H σ ρ → Rep K F z v → (∀ ρ' σ', P ρ' → Wp vo σ' σ → Step K σ ρ F H σ' ρ' F H → Q σ' H) → g v σ H Q
def TgsD (K : Frag) (vo : Option (List Nat)) (g : TGs) (zs : List Dt) (ρ : En) (P : En → Prop) : Prop :=
  ∀ (σ : L2.St) (F H : Hp) (Q : L2.St → Hp → Prop) (vs : List V), Sym K F H σ ρ → RepL K F zs vs → (∀ ρ' σ', P ρ' → Wp vo σ' σ → Step K σ ρ F H σ' ρ' F H → Q σ' H) → g vs σ H Q
theorem g_name {vo : Option (List Nat)} {i : Nat} {z : Dt} {P : En → Prop} (hv : inV vo i = true) (hl : lent ρ i = false) (p : P (ρ.set i (.sh z))) : TgD K vo (gName i) z ρ P := fun σ F H Q v s r q =>
  q _ _ p (Wp.set hv) (Step.set s hl r)
theorem gs_nil {vo : Option (List Nat)} {P : En → Prop} (p : P ρ) : TgsD K vo gNil [] ρ P := fun σ F H Q vs s r q => by
  unfold RepL at r
  exact ⟨r, q ρ σ p (Wp.refl vo σ) (Step.refl s)⟩
theorem gs_cons {vo : Option (List Nat)} {t : TG} {u : TGs} {z : Dt} {zs : List Dt} {P : En → Prop} (h : TgD K vo t z ρ fun ρ1 => TgsD K vo u zs ρ1 P) : TgsD K vo (gCons t u) (z :: zs) ρ P := fun σ F H Q vs s r q => by
  unfold RepL at r
  obtain ⟨v, vs', rfl, r1, r2⟩ := r
  refine ⟨v, vs', rfl, h σ F H _ v s r1 fun ρ1 σ1 p1 w1 s1 => p1 σ1 F H Q vs' s1.sym r2 fun ρ2 σ2 p2 w2 s2 => q ρ2 σ2 p2 (w1.trans w2) (s1.trans s2)⟩
theorem g_tup {vo : Option (List Nat)} {n : Nat} {t : TGs} {zs : List Dt} {P : En → Prop} (hn : zs.length = n) (h : TgsD K vo t zs ρ P) : TgD K vo (gTup K n t) (.tup zs) ρ P := fun σ F H Q v s r q => by
  unfold Rep at r
  obtain ⟨a, xs, rfl, h1, h2⟩ := r
  exact ⟨a, xs, rfl, ex_t s.ex h1, by rw [h2.length]; exact hn, h σ F H Q xs s h2 q⟩
/-- a, b = e -/
theorem s_unp {te : TE} {g : TG} {Z : Pd} (h : EvD K W te ρ Z.ex fun d ρ1 => d.real = true ∧ TgD K none g d ρ1 Z.nx) : StD K W (tAsg te g) ρ Z := fun σ F H D s l =>
  h σ F H _ s (fun d ρ1 v F1 H1 p s1 r => p.2 σ F1 H1 _ v s1.sym (r.real p.1) fun ρ2 σ2 p2 _ s2 => l.nx ρ2 σ2 F1 H1 p2 (s1.trans s2)) fun c ρ' cls dd F' H' p st xo => l.ex c ρ' cls dd σ F' H' p st xo
/-! ### for -/
theorem s_for {wi : TI} {g : TG} {tb : TS} {Z : Pd} (h : ItD K W wi ρ Z.ex fun zs ρ1 => ∃ I : Nat → En → Prop, I 0 ρ1 ∧
      (∀ (i : Nat) ρ' z, zs[i]? = some z → I i ρ' → TgD K none g z ρ' fun ρ2 => StD K W tb ρ2 (Z.loop (I (i + 1)) Z.nx)) ∧ ∀ ρ', I zs.length ρ' → Z.nx ρ') :
    StD K W (tFor wi g tb) ρ Z := fun σ F H D s l =>
  h σ F H _ s (fun zs ρ1 J F1 H1 p s1 wk => by
    obtain ⟨I, h0, hs, hd⟩ := p
    refine ⟨fun i m σ' H' => m = zs.length - i ∧ i ≤ zs.length ∧ ∃ F' ρ', I i ρ' ∧ Step K σ ρ1 F1 H1 σ' ρ' F' H', ⟨zs.length, by simp, Nat.zero_le _, F1, ρ1, h0, Step.refl s1.sym⟩, ?_⟩
    rintro i m σ' H' ⟨rfl, hi, F', ρ', p, st⟩
    by_cases hlt : i < zs.length
    · refine .inr ⟨wk.go i F' H' hlt st.exF st.sym.ex, fun σ2 H2 => ∃ F2 ρ2, I (i + 1) ρ2 ∧ Step K σ ρ1 F1 H1 σ2 ρ2 F2 H2, fun σ2 H2 ⟨F2, ρ2, p2, st2⟩ => ⟨zs.length - (i + 1), by omega, rfl, hlt, F2, ρ2, p2, st2⟩, fun v H2 y => ?_⟩
      have hz : zs[i]? = some zs[i] := by simp [hlt]
      obtain ⟨g1, r1⟩ := wk.yld i F' H' v H2 _ hz st.exF st.sym.ex y
      have st1 := Step.grow st.sym g1
      refine hs i ρ' _ hz p σ' _ H2 _ v st1.sym r1 fun ρ3 σ3 p3 _ st3 => ?_
      have all := (s1.trans (st.trans st1)).trans st3
      exact p3 σ3 _ H2 _ st3.sym ⟨fun ρ4 σ4 F4 H4 ⟨ρ5, g5, p5⟩ t4 => ⟨F4, ρ5, p5, (((st.trans st1).trans st3).trans t4).trans (Step.forget t4.sym g5)⟩, (l.later all).rt, (l.later all).rn, (l.later all).nx,
        fun ρ4 σ4 F4 H4 ⟨ρ5, g5, p5⟩ t4 => ⟨F4, ρ5, p5, (((st.trans st1).trans st3).trans t4).trans (Step.forget t4.sym g5)⟩, (l.later all).ex⟩
    · have e : i = zs.length := by omega
      subst e
      exact .inl ⟨wk.stop F' H' st.exF st.sym.ex, l.nx ρ' σ' F' H' (hd ρ' p) (s1.trans st)⟩) fun c ρ' cls dd F' H' p st xo => l.ex c ρ' cls dd σ F' H' p st xo
theorem ss_for {wi : TI} {g : TG} {tb u : TS} {Z : Pd} (h : ItD K W wi ρ Z.ex fun zs ρ1 => ∃ I : Nat → En → Prop, I 0 ρ1 ∧
      (∀ (i : Nat) ρ' z, zs[i]? = some z → I i ρ' → ∀ Z', LoopZ Z Z' (I (i + 1)) (fun ρ2 => StD K W u ρ2 Z) → TgD K none g z ρ' fun ρ2 => StD K W tb ρ2 Z') ∧ ∀ ρ', I zs.length ρ' → StD K W u ρ' Z) :
    StD K W (tSeq (tFor wi g tb) u) ρ Z := s_seq (s_for fun σ F H R s q w => h σ F H R s (fun zs ρ1 J F1 H1 ⟨I, h0, h1, h2⟩ => q zs ρ1 J F1 H1 ⟨I, h0, fun i ρ' z hz p => h1 i ρ' z hz p _ loopZ, h2⟩) w)
/-! ### an object aside -/
structure Aside (σ : L2.St) (ρ : En) (F H : Hp) (D : Addr) (o : HO) : Prop where
  ow : ¬ OwA σ ρ D
  fr : F D = none
  at_ : H D = some o
theorem Aside.step {D : Addr} {o : HO} (a : Aside σ ρ F H D o) (st : Step K σ ρ F H σ1 ρ1 F1 H1) : Aside σ1 ρ1 F1 H1 D o := by
  refine ⟨fun z => ?_, ?_, ?_⟩
  · rcases st.own D z with y | y
    · exact a.ow y
    · rw [a.at_] at y
      cases y
  · cases e : F1 D with
    | none => rfl
    | some u =>
      rcases st.new D (by rw [e]; exact fun z => nomatch z) with y | y | y
      · exact absurd a.fr y
      · rw [a.at_] at y
        cases y
      · exact absurd y a.ow
  · rcases st.keep D o a.at_ a.ow with y | ⟨y, _⟩
    · exact y
    · exact absurd a.fr y
theorem Aside.upd {D : Addr} {o u : HO} (a : Aside σ ρ F H D o) : Aside σ ρ F (L2.upd H D u) D u := ⟨a.ow, a.fr, upd_same⟩
/-- what is aside is changed -/
theorem Step.aside {p : Addr} {o u : HO} (st : Step K σ ρ F H σ1 ρ1 F1 H1) (hp : H p = none) (a : Aside σ1 ρ1 F1 H1 p o) : Step K σ ρ F H σ1 ρ1 F1 (upd H1 p u) := by
  have s := st.sym
  have np : ∀ b v, F1 b = some v → b ≠ p := fun b v e z => by
    subst z
    rw [a.fr] at e
    cases e
  exact {
    sym := {
      ex := fun b v e => by rw [upd_ne (np b v e)]; exact s.ex b v e
      len := s.len
      sh := s.sh
      ow := fun j m e h => by
        obtain ⟨q, h1, h2, h3⟩ := s.ow j m e h
        have ne : q ≠ p := fun z => by
          subst z
          exact a.ow ⟨j, m, e, h, h1⟩
        exact ⟨q, h1, h2, h3.mono (Xe.refl _) (upd_ne ne)⟩
      inj := s.inj }
    exF := st.exF
    keep := fun b v h n => by
      have ne : b ≠ p := fun z => by
        subst z
        rw [hp] at h
        cases h
      rw [upd_ne ne]
      exact st.keep b v h n
    own := st.own
    new := st.new
    all := fun b h => by
      have ne : b ≠ p := fun z => by
        subst z
        exact h hp
      rw [upd_ne ne]
      exact st.all b h
    stay := st.stay }
theorem Aside.new {D : Addr} {o : HO} (s : Sym K F H σ ρ) (h : H D = none) : Aside σ ρ F (L2.upd H D o) D o := by
  refine ⟨fun z => ?_, ex_free s.ex h, upd_same⟩
  obtain ⟨j, l, e, h1, h2⟩ := z
  obtain ⟨q, a, b, c⟩ := s.ow j l e h1
  rw [h2] at a
  have z := Option.some.inj (Option.some.inj a)
  injection z with z
  subst z
  exact c.there h
theorem del_back {D : Addr} {o : HO} (h : H D = some o) : upd (del1 H D) D o = H := upd_del1 h
/-- a step up to what is aside, the thing itself taken away -/
theorem Step.without {p : Addr} {o : HO} (st : Step K σ ρ F H σ1 ρ1 F1 H1) (hp : H p = none) (a : Aside σ1 ρ1 F1 H1 p o) : Step K σ ρ F H σ1 ρ1 F1 (del1 H1 p) := by
  have s := st.sym
  have ne1 : ∀ b, b ≠ p → del1 H1 p b = H1 b := fun b e => if_neg e
  have np : ∀ b v, F1 b = some v → b ≠ p := fun b v e z => by
    subst z
    rw [a.fr] at e
    cases e
  exact {
    sym := {
      ex := fun b v e => by rw [ne1 b (np b v e)]; exact s.ex b v e
      len := s.len
      sh := s.sh
      ow := fun j m e h => by
        obtain ⟨q, h1, h2, h3⟩ := s.ow j m e h
        have ne : q ≠ p := fun z => by
          subst z
          exact a.ow ⟨j, m, e, h, h1⟩
        exact ⟨q, h1, h2, h3.mono (Xe.refl _) (ne1 q ne)⟩
      inj := s.inj }
    exF := st.exF
    keep := fun b v h n => by
      have ne : b ≠ p := fun z => by
        subst z
        rw [hp] at h
        cases h
      rw [ne1 b ne]
      exact st.keep b v h n
    own := st.own
    new := st.new
    all := fun b h => by
      have ne : b ≠ p := fun z => by
        subst z
        exact h hp
      rw [ne1 b ne]
      exact st.all b h
    stay := st.stay }
/-! ### the block's own slots -/
def wipeE (ρ : En) : List Nat → En
  | [] => ρ
  | v :: vs => (wipeE ρ vs).set v .no
theorem wipeE_get (ρ : En) (j : Nat) : ∀ vs : List Nat, (wipeE ρ vs)[j]? = if j ∈ vs then ρ[j]?.map (fun _ => .no) else ρ[j]?
  | [] => by simp [wipeE]
  | v :: vs => by
    unfold wipeE
    by_cases e : v = j
    · subst e
      rw [List.getElem?_set_self', if_pos List.mem_cons_self, wipeE_get ρ v vs]
      split
      · cases ρ[v]? <;> rfl
      · cases ρ[v]? <;> rfl
    · rw [List.getElem?_set_ne e, wipeE_get ρ j vs]
      have : (j ∈ v :: vs) ↔ (j ∈ vs) := by
        rw [List.mem_cons]
        exact ⟨fun h => h.elim (fun z => absurd z.symm e) id, Or.inr⟩
      by_cases h : j ∈ vs
      · rw [if_pos h, if_pos (this.mpr h)]
      · rw [if_neg h, if_neg (fun z => h (this.mp z))]
theorem wipeE_have {ρ : En} {j : Nat} {vs : List Nat} {z : Sl} (h : (wipeE ρ vs)[j]? = some z) (hz : z ≠ .no) : j ∉ vs ∧ ρ[j]? = some z := by
  rw [wipeE_get] at h
  by_cases hj : j ∈ vs
  · rw [if_pos hj] at h
    cases e : ρ[j]? with
    | none => rw [e] at h; cases h
    | some y =>
      rw [e] at h
      exact absurd (Option.some.inj h).symm hz
  · rw [if_neg hj] at h
    exact ⟨hj, h⟩
def noLent (ρ : En) (vs : List Nat) : Bool := vs.all fun v => !lent ρ v
theorem Step.wipe : ∀ {vs : List Nat} (s : Sym K F H σ ρ) (hl : noLent ρ vs = true), Step K σ ρ F H (wipe σ vs) (wipeE ρ vs) F H
  | [], s, _ => Step.refl s
  | v :: vs, s, hl => by
    unfold noLent at hl
    rw [List.all_cons, Bool.and_eq_true] at hl
    have st := Step.wipe (vs := vs) s hl.2
    refine st.trans (Step.unset st.sym ?_)
    cases e : lent (wipeE ρ vs) v with
    | false => rfl
    | true =>
      exfalso
      unfold lent at e
      split at e
      · rename_i d hd
        obtain ⟨_, h2⟩ := wipeE_have hd (by intro z; cases z)
        have h3 : lent ρ v = true := by unfold lent; rw [h2]
        rw [h3] at hl
        exact absurd hl.1 (by decide)
      · cases e
theorem Sym.unwipe {vs : List Nat} (s : Sym K F H (wipe σ vs) (wipeE ρ vs)) : Sym K F H σ (wipeE ρ vs) := by
  have back : ∀ {j : Nat} {z : Sl}, (wipeE ρ vs)[j]? = some z → z ≠ .no → (wipe σ vs)[j]? = σ[j]? := fun {j z} h hz => by
    rw [wipe_get, if_neg (wipeE_have h hz).1]
  exact {
    ex := s.ex
    len := by have := s.len; rw [wipe_length] at this; exact this
    sh := fun i d h => by rw [← back h (by intro z; cases z)]; exact s.sh i d h
    ow := fun i l d h => by rw [← back h (by intro z; cases z)]; exact s.ow i l d h
    inj := fun i j l m d e p h1 h2 h3 h4 => s.inj i j l m d e p h1 h2 (by rw [back h1 (by intro z; cases z)]; exact h3) (by rw [back h2 (by intro z; cases z)]; exact h4) }
theorem Step.unwipe {vs : List Nat} {σ0 : L2.St} {ρ0 : En} {F0 H0 : Hp} (st : Step K σ0 ρ0 F0 H0 (L2.wipe σ vs) (wipeE ρ vs) F H) (e : σ0 = σ) : Step K σ0 ρ0 F0 H0 σ (wipeE ρ vs) F H := by
  have back : ∀ {j : Nat} {z : Sl}, (wipeE ρ vs)[j]? = some z → z ≠ .no → (L2.wipe σ vs)[j]? = σ[j]? := fun {j z} h hz => by
    rw [wipe_get, if_neg (wipeE_have h hz).1]
  exact {
    sym := st.sym.unwipe
    exF := st.exF
    keep := st.keep
    own := fun a ⟨j, l, d, h1, h2⟩ => st.own a ⟨j, l, d, h1, by rw [back h1 (by intro z; cases z)]; exact h2⟩
    new := st.new
    all := st.all
    stay := fun i d h => by
      obtain ⟨d', h1, h2⟩ := st.stay i d h
      exact ⟨d', h1, by rw [back h1 (by intro z; cases z)] at h2; exact h2⟩ }
/-! ### comprehensions -/
variable {Q : Dt → En → Prop}
theorem t_yes {P : Bool → En → Prop} (p : P true ρ) : TtD K W tYes ρ x P := fun σ F H Q s q _ => q true ρ F H p (Step.refl s)
theorem n_lc {wi : TI} {g : TG} {tt : TT} {te : TE} {vs : List Nat} (h : ItD K W wi ρ x fun zs ρ1 => noLent ρ1 vs = true ∧ ∃ I : Nat → List Dt → En → Prop, I 0 [] (wipeE ρ1 vs) ∧
      (∀ i acc ρ' z, zs[i]? = some z → I i acc ρ' → TgD K (some vs) g z ρ' fun ρ2 => TtD K w0 tt ρ2 px0 fun b ρ3 =>
        (b = true → EvD K w0 te ρ3 px0 fun d ρ4 => d.real = true ∧ acc.length < 100000 ∧ noLent ρ4 vs = true ∧ I (i + 1) (acc ++ [d]) (wipeE ρ4 vs)) ∧ (b = false → noLent ρ3 vs = true ∧ I (i + 1) acc (wipeE ρ3 vs))) ∧
      ∀ acc ρ', I zs.length acc ρ' → Q (.lst acc) ρ') : EvN K W (tLc wi g tt te vs) ρ x Q := fun σ F H R s q w =>
  h σ F H _ s (fun zs ρ1 J F1 H1 p s1 wk D hD => by
    obtain ⟨hl, I, h0, hs, hd⟩ := p
    have sw := Step.wipe (vs := vs) s1.sym hl
    -- the thing aside
    refine ⟨fun i m H' => m = zs.length - i ∧ i ≤ zs.length ∧ ∃ F' ρ' acc xs, I i acc (wipeE ρ' vs) ∧ Step K σ ρ1 F1 H1 (wipe σ vs) (wipeE ρ' vs) F' H' ∧ Aside (wipe σ vs) (wipeE ρ' vs) F' H' D (.lst xs) ∧ RepL K F' acc xs,
      ⟨zs.length, by simp, Nat.zero_le _, F1, ρ1, [], [], h0, sw.trans (Step.more sw.sym hD), Aside.new sw.sym hD, repL_nil⟩, ?_⟩
    rintro i m H' ⟨rfl, hi, F', ρ', acc, xs, pI, st, as, ra⟩
    by_cases hlt : i < zs.length
    · refine .inr ⟨wk.go i F' H' hlt st.exF st.sym.ex, fun H2 => ∃ F2 ρ2 acc2 xs2, I (i + 1) acc2 (wipeE ρ2 vs) ∧ Step K σ ρ1 F1 H1 (wipe σ vs) (wipeE ρ2 vs) F2 H2 ∧ Aside (wipe σ vs) (wipeE ρ2 vs) F2 H2 D (.lst xs2) ∧ RepL K F2 acc2 xs2,
        fun H2 ⟨F2, ρ2, acc2, xs2, p2, st2, as2, ra2⟩ => ⟨zs.length - (i + 1), by omega, rfl, hlt, F2, ρ2, acc2, xs2, p2, st2, as2, ra2⟩, fun v H2 y => ?_⟩
      have hz : zs[i]? = some zs[i] := by simp [hlt]
      obtain ⟨g1, r1⟩ := wk.yld i F' H' v H2 _ hz st.exF st.sym.ex y
      have st1 := Step.grow st.sym g1
      refine hs i acc _ _ hz pI (wipe σ vs) _ H2 _ v st1.sym r1 fun ρ3 σ3 p3 w3 st3 => ⟨?_, ?_⟩
      · exact (show L2.wipe σ3 vs = L2.wipe (L2.wipe σ vs) vs from w3).trans (wipe_wipe σ vs)
      · have ew : L2.wipe σ3 vs = L2.wipe σ vs := (show L2.wipe σ3 vs = L2.wipe (L2.wipe σ vs) vs from w3).trans (wipe_wipe σ vs)
        have b3 := st1.trans st3
        refine p3 σ3 _ H2 _ st3.sym (fun b ρ4 F4 H4 pb st4 => ?_) fun _ _ _ _ _ _ z => z.elim
        have b4 := b3.trans st4
        cases b with
        | true =>
          rw [if_pos rfl]
          refine pb.1 rfl σ3 F4 H4 _ st4.sym (fun d ρ5 u F5 H5 p5 st5 r5 => ?_) fun _ _ _ _ _ _ z => z.elim
          have b5 := b4.trans st5
          have sw5 := Step.wipe (vs := vs) st5.sym p5.2.2.1
          rw [ew] at sw5
          have b6 := b5.trans sw5
          have as6 := as.step b6
          refine ⟨xs, as6.at_, ?_, F5, ρ5, acc ++ [d], xs ++ [u], p5.2.2.2, (st.trans b6).aside hD as6, as6.upd, (ra.mono b6.exF).app (repL_cons (r5.real p5.1) repL_nil)⟩
          rw [ra.length]
          exact Nat.lt_of_lt_of_le p5.2.1 (by decide)
        | false =>
          rw [if_neg (by decide)]
          obtain ⟨hl5, p5⟩ := pb.2 rfl
          have sw5 := Step.wipe (vs := vs) st4.sym hl5
          rw [ew] at sw5
          have b6 := b4.trans sw5
          exact ⟨F4, ρ4, acc, xs, p5, st.trans b6, as.step b6, ra.mono b6.exF⟩
    · have e : i = zs.length := by omega
      subst e
      refine .inl ⟨wk.stop F' H' st.exF st.sym.ex, ?_⟩
      have su := (st.unwipe (σ := σ) rfl)
      have as2 : Aside σ (wipeE ρ' vs) F' H' D (.lst xs) := ⟨fun z => by
        obtain ⟨j, l, d, h1, h2⟩ := z
        refine as.ow ⟨j, l, d, h1, ?_⟩
        rw [wipe_get, if_neg (wipeE_have h1 (by intro z; cases z)).1]
        exact h2, as.fr, as.at_⟩
      have key := q (.lst acc) _ D (.lst xs) F' (del1 H' D) (hd acc _ pI) (s1.trans (su.without hD as2)) (if_pos rfl) (by rw [del_back as.at_]; exact ⟨xs, as.at_, ra⟩)
      rw [del_back as.at_] at key
      exact key) w
end
end DL
set_option Elab.async false
set_option linter.all false
set_option maxRecDepth 100000
set_option autoImplicit false
set_option maxHeartbeats 4000000
/-! dicts -/
namespace DL
open PySem L2 Evl PyProof.Rows
def keyD : Key → Dt
  | .inl i => .int i
  | .inr z => .str z
def Dt.key : Dt → Option Key
  | .int i => some (.inl i)
  | .str z => some (.inr z)
  | _ => none
theorem key_of_D {d : Dt} {k : Key} (h : d.key = some k) : d = keyD k := by
  cases d with
  | int i => cases h; rfl
  | str z => cases h; rfl
  | _ => cases h
theorem rep_key {K : Frag} {F : Hp} {k : Key} {v : V} (h : Rep K F (keyD k) v) : v = kV k := by
  cases k with
  | inl i => unfold keyD Rep at h; exact h
  | inr z => unfold keyD Rep at h; exact h
theorem key_rep {K : Frag} {F : Hp} {k : Key} : Rep K F (keyD k) (kV k) := by
  cases k with
  | inl i => unfold keyD Rep; rfl
  | inr z => unfold keyD Rep; rfl
def dicD (l : List (Key × Dt)) : Dt := .dic (l.map (·.1)) (l.map (·.2))
def RepKV (K : Frag) (F : Hp) : List (Key × Dt) → List (Key × V) → Prop
  | [], kvs => kvs = []
  | p :: l, kvs => ∃ v r, kvs = (p.1, v) :: r ∧ Rep K F p.2 v ∧ RepKV K F l r
section
variable {K : Frag} {F F' H : Hp}
theorem RepKV.mono (e : Xe F F') : ∀ {l : List (Key × Dt)} {kvs : List (Key × V)}, RepKV K F l kvs → RepKV K F' l kvs
  | [], _, h => h
  | p :: l, _, ⟨v, r, h1, h2, h3⟩ => ⟨v, r, h1, h2.mono e, RepKV.mono e h3⟩
theorem RepKV.len : ∀ {l : List (Key × Dt)} {kvs : List (Key × V)}, RepKV K F l kvs → kvs.length = l.length
  | [], _, h => by cases h; rfl
  | p :: l, _, ⟨v, r, h1, h2, h3⟩ => by subst h1; rw [List.length_cons, List.length_cons, RepKV.len h3]
theorem RepKV.keys : ∀ {l : List (Key × Dt)} {kvs : List (Key × V)}, RepKV K F l kvs → kvs.map (·.1) = l.map (·.1)
  | [], _, h => by cases h; rfl
  | p :: l, _, ⟨v, r, h1, h2, h3⟩ => by subst h1; rw [List.map_cons, List.map_cons, RepKV.keys h3]
theorem repKV_of : ∀ {l : List (Key × Dt)} {xs : List V}, RepL K F (l.map (·.2)) xs → RepKV K F l ((l.map (·.1)).zip xs)
  | [], xs, h => rfl
  | p :: l, xs, h => by
    rw [List.map_cons] at h
    unfold RepL at h
    obtain ⟨v, r, rfl, h1, h2⟩ := h
    exact ⟨v, _, rfl, h1, repKV_of h2⟩
theorem of_repKV : ∀ {l : List (Key × Dt)} {kvs : List (Key × V)}, RepKV K F l kvs → ∃ xs, kvs = (l.map (·.1)).zip xs ∧ RepL K F (l.map (·.2)) xs
  | [], _, h => by cases h; exact ⟨[], rfl, repL_nil⟩
  | p :: l, _, ⟨v, r, h1, h2, h3⟩ => by
    obtain ⟨xs, e, h4⟩ := of_repKV h3
    subst h1 e
    exact ⟨v :: xs, rfl, repL_cons h2 h4⟩
theorem rep_dic {l : List (Key × Dt)} {v : V} : Rep K F (dicD l) v ↔ ∃ a kvs, v = .ref a ∧ Rd F a (.dK kvs) ∧ RepKV K F l kvs := by
  unfold dicD Rep
  constructor
  · rintro ⟨a, xs, rfl, h1, h2, h3⟩
    exact ⟨a, _, rfl, h1, repKV_of h3⟩
  · rintro ⟨a, kvs, rfl, h1, h2⟩
    obtain ⟨xs, rfl, h3⟩ := of_repKV h2
    exact ⟨a, xs, rfl, h1, by simp, h3⟩
theorem own_dic {l : List (Key × Dt)} {p : Addr} : Own K F H p (dicD l) ↔ ∃ kvs, H p = some (.dK kvs) ∧ RepKV K F l kvs := by
  show (∃ xs, H p = some (.dK ((l.map (·.1)).zip xs)) ∧ (l.map (·.1)).length = (l.map (·.2)).length ∧ RepL K F (l.map (·.2)) xs) ↔ _
  constructor
  · rintro ⟨xs, h1, h2, h3⟩
    exact ⟨_, h1, repKV_of h3⟩
  · rintro ⟨kvs, h1, h2⟩
    obtain ⟨xs, rfl, h3⟩ := of_repKV h2
    exact ⟨xs, h1, by simp, h3⟩
def valD (l : List (Key × Dt)) (k : Key) : Option Dt := (l.find? fun kv => decide (kv.1 = k)).map (·.2)
def putD (l : List (Key × Dt)) (k : Key) (d : Dt) : List (Key × Dt) :=
  if (l.any fun kv => decide (kv.1 = k)) = true then l.map (fun kv => if kv.1 = k then (kv.1, d) else kv) else l ++ [(k, d)]
def dropD (l : List (Key × Dt)) (k : Key) : List (Key × Dt) := l.filter fun kv => decide (kv.1 ≠ k)
theorem RepKV.val (k : Key) : ∀ {l : List (Key × Dt)} {kvs : List (Key × V)}, RepKV K F l kvs → (∀ d, valD l k = some d → ∃ v, valV kvs k = some v ∧ Rep K F d v) ∧ (valD l k = none → valV kvs k = none)
  | [], _, h => by
    cases h
    exact ⟨(fun d z => nomatch z), fun _ => rfl⟩
  | p :: l, _, ⟨v, r, h1, h2, h3⟩ => by
    subst h1
    obtain ⟨i1, i2⟩ := RepKV.val k h3
    by_cases e : p.1 = k
    · have e1 : valD (p :: l) k = some p.2 := by simp [valD, List.find?_cons, e]
      have e2 : valV ((p.1, v) :: r) k = some v := valV_pos e
      rw [e1, e2]
      exact ⟨fun d z => by cases z; exact ⟨v, rfl, h2⟩, fun z => nomatch z⟩
    · have e1 : valD (p :: l) k = valD l k := by simp [valD, List.find?_cons, e]
      have e2 : valV ((p.1, v) :: r) k = valV r k := valV_neg e
      rw [e1, e2]
      exact ⟨i1, i2⟩
theorem RepKV.has {k : Key} {l : List (Key × Dt)} {kvs : List (Key × V)} (h : RepKV K F l kvs) : (valV kvs k).isSome = (valD l k).isSome := by
  obtain ⟨h1, h2⟩ := h.val k
  cases e : valD l k with
  | none => rw [h2 e] <;> rfl
  | some d =>
    obtain ⟨v, h3, _⟩ := h1 d e
    rw [h3] <;> rfl
theorem RepKV.app : ∀ {l m : List (Key × Dt)} {a b : List (Key × V)}, RepKV K F l a → RepKV K F m b → RepKV K F (l ++ m) (a ++ b)
  | [], m, a, b, h, g => by cases h; exact g
  | p :: l, m, _, b, ⟨v, r, h1, h2, h3⟩, g => by subst h1; exact ⟨v, r ++ b, rfl, h2, RepKV.app h3 g⟩
theorem RepKV.any (k : Key) : ∀ {l : List (Key × Dt)} {kvs : List (Key × V)}, RepKV K F l kvs → (kvs.any fun kv => decide (kv.1 = k)) = (l.any fun kv => decide (kv.1 = k))
  | [], _, h => by cases h; rfl
  | p :: l, _, ⟨v, r, h1, h2, h3⟩ => by subst h1; rw [List.any_cons, List.any_cons, RepKV.any k h3]
theorem RepKV.over (k : Key) {d : Dt} {w : V} (hr : Rep K F d w) : ∀ {l : List (Key × Dt)} {kvs : List (Key × V)}, RepKV K F l kvs → RepKV K F (l.map fun kv => if kv.1 = k then (kv.1, d) else kv) (kvs.map fun kv => if kv.1 = k then (kv.1, w) else kv)
  | [], _, h => by cases h; rfl
  | p :: l, _, ⟨v, r, h1, h2, h3⟩ => by
    subst h1
    have ih := RepKV.over k hr h3
    rw [List.map_cons, List.map_cons]
    by_cases e : p.1 = k
    · rw [if_pos e, if_pos e]
      exact ⟨w, _, rfl, hr, ih⟩
    · rw [if_neg e, if_neg e]
      exact ⟨v, _, rfl, h2, ih⟩
theorem RepKV.put {k : Key} {d : Dt} {w : V} (hr : Rep K F d w) {l : List (Key × Dt)} {kvs : List (Key × V)} (h : RepKV K F l kvs) : RepKV K F (putD l k d) (putK kvs k w) := by
  unfold putD putK
  rw [h.any k]
  split
  · exact RepKV.over k hr h
  · exact RepKV.app h ⟨w, [], rfl, hr, rfl⟩
theorem RepKV.drop (k : Key) : ∀ {l : List (Key × Dt)} {kvs : List (Key × V)}, RepKV K F l kvs → RepKV K F (dropD l k) (dropK kvs k)
  | [], _, h => by cases h; rfl
  | p :: l, _, ⟨v, r, h1, h2, h3⟩ => by
    subst h1
    have ih := RepKV.drop k h3
    unfold dropD dropK at ih ⊢
    rw [List.filter_cons, List.filter_cons]
    by_cases e : p.1 = k
    · rw [if_neg (by simp [e]), if_neg (by simp [e])]
      exact ih
    · rw [if_pos (by simp [e]), if_pos (by simp [e])]
      exact ⟨v, _, rfl, h2, ih⟩
theorem RepKV.get : ∀ {l : List (Key × Dt)} {kvs : List (Key × V)} {i : Nat} {p : Key × Dt}, RepKV K F l kvs → l[i]? = some p → ∃ v, kvs[i]? = some (p.1, v) ∧ Rep K F p.2 v
  | [], _, i, p, _, e => by simp at e
  | q :: l, _, 0, p, ⟨v, r, h1, h2, h3⟩, e => by
    simp at e
    subst e h1
    exact ⟨v, rfl, h2⟩
  | q :: l, _, i + 1, p, ⟨v, r, h1, h2, h3⟩, e => by
    subst h1
    obtain ⟨u, e1, e2⟩ := RepKV.get (i := i) (p := p) h3 (by simpa using e)
    exact ⟨u, by simpa using e1, e2⟩
end
/-- a dict in hand -/
def DicAt (ρ : En) (e : Dt) (l : List (Key × Dt)) : Prop := e = dicD l ∨ ∃ k b, e = .own k ∧ ρ[k]? = some (.ow b (dicD l))
section
variable {K : Frag} {W : WX} {σ σ1 : L2.St} {ρ ρ1 : En} {F F1 H H1 : Hp} {x : PX} {P : Dt → En → Prop} {l : List (Key × Dt)}
theorem DicAt.at_ {e : Dt} {u : V} (d : DicAt ρ e l) (s : Sym K F H σ ρ) (r : RepV K F σ e u) : ∃ a kvs, u = .ref a ∧ Rd H a (.dK kvs) ∧ RepKV K F l kvs := by
  rcases d with rfl | ⟨k, b, rfl, hk⟩
  · have h : Rep K F (dicD l) u := r
    obtain ⟨a, kvs, rfl, h1, h2⟩ := rep_dic.mp h
    exact ⟨a, kvs, rfl, ex_rd s.ex h1, h2⟩
  · obtain ⟨a, e1, e2, e3⟩ := s.ow k b _ hk
    obtain ⟨kvs, h1, h2⟩ := own_dic.mp e3
    have eu : u = .ref a := by
      have z : σ[k]? = some (some u) := r
      rw [e1] at z
      exact (Option.some.inj (Option.some.inj z)).symm
    exact ⟨a, kvs, eu, .inl h1, h2⟩
/-! ### d[k] -/
def rIxDic : R2 := fun x y H Q => ∃ a v, x = .ref a ∧ DGet H a y (some v) ∧ Q v H
theorem ix_dic {X : Cx} (hu : X.A.units + 64 < cLine) : IxR X rIxDic := by
  intro value slice pins s σ H x y v u Q I rx ry h hs
  obtain ⟨a, z, rfl, g, q⟩ := h
  cases (show v = Value.ref a from rx)
  have hT := dict_typeIs I g
  unfold subscriptTail
  refine wpAny_bind ?_
  rw [getitemInPython_of_ne hT.not_modules]
  refine wpAny_bind (wpAny_specialOf hT PySem.F.slot_dict_getitem.lookup ?_)
  have done : wpAny (model X.prog X.w) X.A (subscripted slice false (.ref a) u) (fun r s3 => wpAny (model X.prog X.w) X.A (letTemporaryGo value (.ref a) r >>= fun _ => pure r) (EP X pins σ Q) X.xe s3) X.xe s := by
    rw [hs]
    refine wpAny_operating (d_getItem (by omega) I g ry fun w' s' I' r' => ?_)
    exact wpAny_bind (wpAny_letTemporaryGo (wpAny_pure ⟨z, H, I', r', q⟩))
  first
    | exact wpAny_pure (wpAny_bind done)
    | exact wpAny_bind (wpAny_pure (wpAny_bind done))
    | exact wpAny_bind done
def rIxV (K : Frag) : R2 := fun x y H Q => rIxU K x y H Q ∨ rIxDic x y H Q
theorem ix_V {X : Cx} (hK : X.K = K) (hu : X.A.units + 64 < cLine) : IxR X (rIxV K) := (ix_seqK hK).or (ix_dic hu)
theorem v_ix {d e : Dt} (h : OpD K (rIxU K) d e ρ P) : OpD K (rIxV K) d e ρ P := fun σ F H Q u v s r1 r2 q => .inl (h σ F H Q u v s r1 r2 q)
theorem o_ixD {d e v : Dt} {k : Key} (hd : DicAt ρ d l) (hk : e.key = some k) (hv : valD l k = some v) (p : P v ρ) : OpD K (rIxV K) d e ρ P := fun σ F H Q u y s r1 r2 q => by
  obtain ⟨a, kvs, rfl, h1, h2⟩ := hd.at_ s r1
  have ek := key_of_D hk
  subst ek
  have ey : y = kV k := rep_key (r2.real (by cases k <;> rfl))
  subst ey
  obtain ⟨z, e1, e2⟩ := (h2.val k).1 v hv
  exact .inr ⟨a, z, rfl, .inl ⟨kvs, k, h1, rfl, e1.symm⟩, q v ρ z F H p (Step.refl s) e2.toV⟩
/-! ### k in d -/
def rInDic (neg : Bool) : R2 := fun y x H Q => ∃ a o, x = .ref a ∧ DGet H a y o ∧ Q (.bl (neg != o.isSome)) H
theorem op_inDic {X : Cx} (hu : X.A.units + 64 < cLine) : OpR X (compareOp .In) (rInDic false) := by
  intro pins s σ H y x u v Q I ry rx h
  obtain ⟨a, o, rfl, g, q⟩ := h
  cases (show v = Value.ref a from rx)
  rw [bne_ff] at q
  exact d_in (by omega) I g ry fun s' I' => ⟨.bl _, H, I', rfl, q⟩
theorem op_notInDic {X : Cx} (hu : X.A.units + 64 < cLine) : OpR X (compareOp .NotIn) (rInDic true) := by
  intro pins s σ H y x u v Q I ry rx h
  obtain ⟨a, o, rfl, g, q⟩ := h
  cases (show v = Value.ref a from rx)
  rw [bne_tt] at q
  exact d_notIn (by omega) I g ry fun s' I' => ⟨.bl _, H, I', rfl, q⟩
def rInV (K : Frag) (neg : Bool) : R2 := fun x y H Q => rInP K neg x y H Q ∨ rInDic neg x y H Q
theorem op_inV {X : Cx} (hK : X.K = K) (hu : X.A.units + 64 < cLine) : OpR X (compareOp .In) (rInV K false) := (op_inK hK hu).or (op_inDic hu)
theorem op_notInV {X : Cx} (hK : X.K = K) (hu : X.A.units + 64 < cLine) : OpR X (compareOp .NotIn) (rInV K true) := (op_notInK hK hu).or (op_notInDic hu)
theorem v_in {neg : Bool} {d e : Dt} (h : OpD K (rInP K neg) d e ρ P) : OpD K (rInV K neg) d e ρ P := fun σ F H Q u v s r1 r2 q => .inl (h σ F H Q u v s r1 r2 q)
theorem o_inD {neg : Bool} {d e : Dt} {k : Key} (hd : DicAt ρ d l) (hk : e.key = some k) (p : P (.bl (neg != (valD l k).isSome)) ρ) : OpD K (rInV K neg) e d ρ P := fun σ F H Q y u s r2 r1 q => by
  obtain ⟨a, kvs, rfl, h1, h2⟩ := hd.at_ s r1
  have ek := key_of_D hk
  subst ek
  have ey : y = kV k := rep_key (r2.real (by cases k <;> rfl))
  subst ey
  refine .inr ⟨a, _, rfl, .inl ⟨kvs, k, h1, rfl, rfl⟩, ?_⟩
  rw [h2.has]
  exact q _ ρ _ F H p (Step.refl s) rfl
/-! ### d[k] = v -/
def rSetV : TSet := fun o i v H Q => rSetL o i v H Q ∨ rSetD o i v H Q
theorem set_V {X : Cx} (hu : X.A.units + 64 < cLine) : PSet X rSetV := by
  intro pins s σ H o i v ov iv u Q I ro ri rv h
  rcases h with h | h
  · exact set_list pins s σ H o i v ov iv u Q I ro ri rv h
  · exact set_dict (by omega) pins s σ H o i v ov iv u Q I ro ri rv h
theorem w_lstV {k : Nat} {b : Bool} {ds : List Dt} {i : Int} {j : Nat} {d : Dt} {P : En → Prop} (hk : ρ[k]? = some (.ow b (.lst ds))) (hj : ixN ds.length i = some j) (p : P (ρ.set k (.ow b (.lst (ds.set j d))))) : SeD K rSetV (.own k) (.int i) d ρ P := fun σ F H Q u v z s e f g q => .inl (w_lst hk hj p σ F H Q u v z s e f g q)
theorem w_dic {k : Nat} {b : Bool} {e d : Dt} {y : Key} {P : En → Prop} (hk : ρ[k]? = some (.ow b (dicD l))) (hy : e.key = some y) (hl : l.length < 100000) (p : P (ρ.set k (.ow b (dicD (putD l y d))))) : SeD K rSetV (.own k) e d ρ P := fun σ F H Q u v z s r1 r2 g q => by
  obtain ⟨a, e1, e2, e3⟩ := s.ow k b _ hk
  obtain ⟨kvs, h1, h2⟩ := own_dic.mp e3
  have eu : u = .ref a := by
    have z : σ[k]? = some (some u) := r1
    rw [e1] at z
    exact (Option.some.inj (Option.some.inj z)).symm
  subst eu
  have ek := key_of_D hy
  subst ek
  have ev : v = kV y := rep_key (r2.real (by cases y <;> rfl))
  subst ev
  refine .inr ⟨a, _, rfl, DPut.k h1 (by rw [h2.len]; exact Nat.lt_of_lt_of_le hl (by decide)), ?_⟩
  exact q _ F _ p (Step.write s hk e1 (own_dic.mpr ⟨_, upd_same, h2.put g⟩))
/-! ### walks of dicts -/
/-- the dict is locked from here on -/
def tLkf (t : TE) : TE := fun σ H Q => t σ H fun x H1 => (∃ d kvs, H1 d = some (.dK kvs) ∧ x = .ref d ∧ ∀ ob, Q x (upd H1 d (.frz ob (.dK kvs)))) ∨ Q x H1
theorem pe_lkf {X : Cx} {e : Expr} {t : TE} (h : PE X e t) : PE X e (tLkf t) := by
  refine ⟨fun pins s σ H Q I q => wpAny_mono (h.run pins s σ H _ I q) (fun u s1 z => ?_) fun _ _ z => z⟩
  obtain ⟨v, H1, I1, r, q1⟩ := z
  rcases q1 with ⟨d, kvs, hd, rfl, q1⟩ | q1
  · obtain ⟨ob, I2⟩ := I1.lock hd trivial
    exact ⟨_, _, I2, r, q1 ob⟩
  · exact ⟨v, H1, I1, r, q1⟩
theorem frz_at {F' : Hp} {d : Addr} {ob : Obj} {u : HO} (h : F d = some (.frz ob u)) (e : Xe F F') (g : Ex F' H) : H d = some (.frz ob u) := by
  rcases e d _ h with z | ⟨u, _, _, _, z, _⟩
  · exact g _ _ z
  · cases z
def keysD (l : List (Key × Dt)) : List Dt := l.map fun p => keyD p.1
def valsD (l : List (Key × Dt)) : List Dt := l.map (·.2)
def itemsD (l : List (Key × Dt)) : List Dt := ((keysD l).zip (valsD l)).map fun p => .tup [p.1, p.2]
theorem wk_keys {d : Addr} {ob : Obj} {kvs : List (Key × V)} (h : F d = some (.frz ob (.dK kvs))) (r : RepKV K F l kvs) : WkD K (Itk d ob kvs) F (keysD l) where
  go := fun i F' H hi e g => ⟨frz_at h e g, by
    unfold keysD at hi
    rw [List.length_map] at hi
    rw [r.len]
    exact hi⟩
  stop := fun F' H e g => ⟨frz_at h e g, by
    unfold keysD
    rw [List.length_map, r.len]
    exact Nat.le_refl _⟩
  yld := fun i F' H v H' z hz e g y => by
    obtain ⟨rfl, k, w, h1, rfl⟩ := y
    have hi : i < l.length := by
      have := (List.getElem?_eq_some_iff.mp hz).1
      unfold keysD at this
      rw [List.length_map] at this
      exact this
    obtain ⟨u, h2, _⟩ := r.get (i := i) (p := l[i]) (by simp [hi])
    rw [h1] at h2
    cases h2
    have ez : z = keyD l[i].1 := by
      unfold keysD at hz
      rw [List.getElem?_map, List.getElem?_eq_getElem hi] at hz
      exact (Option.some.inj hz).symm
    subst ez
    exact ⟨Ex.refl _, by rw [fz_self g]; exact key_rep⟩
theorem wk_vals {d : Addr} {ob : Obj} {kvs : List (Key × V)} (h : F d = some (.frz ob (.dK kvs))) (r : RepKV K F l kvs) : WkD K (Itd d ob kvs) F (valsD l) where
  go := fun i F' H hi e g => ⟨frz_at h e g, by
    unfold valsD at hi
    rw [List.length_map] at hi
    rw [r.len]
    exact hi⟩
  stop := fun F' H e g => ⟨frz_at h e g, by
    unfold valsD
    rw [List.length_map, r.len]
    exact Nat.le_refl _⟩
  yld := fun i F' H v H' z hz e g y => by
    obtain ⟨rfl, k, h1⟩ := y
    have hi : i < l.length := by
      have := (List.getElem?_eq_some_iff.mp hz).1
      unfold valsD at this
      rw [List.length_map] at this
      exact this
    obtain ⟨u, h2, h3⟩ := r.get (i := i) (p := l[i]) (by simp [hi])
    rw [h1] at h2
    cases h2
    have ez : z = l[i].2 := by
      unfold valsD at hz
      rw [List.getElem?_map, List.getElem?_eq_getElem hi] at hz
      exact (Option.some.inj hz).symm
    subst ez
    exact ⟨Ex.refl _, by rw [fz_self g]; exact h3.mono e⟩
theorem wk_items {d : Addr} {ob : Obj} {kvs : List (Key × V)} (h : F d = some (.frz ob (.dK kvs))) (r : RepKV K F l kvs) : WkD K (Iti d ob kvs) F (itemsD l) := by
  refine wk_pair (us := fun _ _ => none) (vs := fun _ _ => none) (n := l.length) ⟨by unfold keysD; simp, by unfold valsD; simp⟩ (fun i F' H hi e g => ⟨?_, by rw [r.len]; exact hi⟩) (fun F' H e g => ⟨?_, by rw [r.len]; exact Nat.le_refl _⟩) fun i F' H v H' hi e g y => ?_
  · exact frz_at h e g
  · exact frz_at h e g
  · obtain ⟨T, k, w, h1, rfl, hT, rfl⟩ := y
    obtain ⟨u, h2, h3⟩ := r.get (i := i) (p := l[i]) (by simp [hi])
    rw [h1] at h2
    cases h2
    refine ⟨T, _, _, rfl, hT, rfl, fun z hz => ?_, fun z hz => ?_⟩
    · have ez : z = keyD l[i].1 := by
        unfold keysD at hz
        rw [List.getElem?_map, List.getElem?_eq_getElem hi] at hz
        exact (Option.some.inj hz).symm
      subst ez
      exact key_rep
    · have ez : z = l[i].2 := by
        unfold valsD at hz
        rw [List.getElem?_map, List.getElem?_eq_getElem hi] at hz
        exact (Option.some.inj hz).symm
      subst ez
      exact h3.mono e
/-- what is read is locked -/
theorem lkf {te : TE} {R : VK} {Q : List (Key × Dt) → En → Prop} (h : EvD K W te ρ x fun d ρ1 => ∃ l, d = dicD l ∧ Q l ρ1) (s : Sym K F H σ ρ)
    (q : ∀ (d : Addr) (ob : Obj) (kvs : List (Key × V)) (l : List (Key × Dt)) (ρ1 : En) (F1 H1 : Hp), Q l ρ1 → Step K σ ρ F H σ ρ1 F1 H1 → F1 d = some (.frz ob (.dK kvs)) → RepKV K F1 l kvs → R (.ref d) H1)
    (w : ∀ c ρ' cls dd F' H', x c ρ' → Step K σ ρ F H σ ρ' F' H' → XOk K F' c cls dd → W cls dd σ H') : tLkf te σ H R :=
  h σ F H _ s (fun d ρ1 v F1 H1 p s1 r => by
    obtain ⟨l, rfl, p⟩ := p
    have e : Rep K F1 (dicD l) v := r
    obtain ⟨a, kvs, rfl, h1, h2⟩ := rep_dic.mp e
    rcases h1 with h1 | ⟨ob, h1⟩
    · refine .inl ⟨a, kvs, s1.sym.ex _ _ h1, rfl, fun ob => ?_⟩
      have st := Step.lock (ob := ob) s1.sym h1
      exact q a ob kvs l ρ1 _ _ p (s1.trans st) upd_same (h2.mono st.exF)
    · exact .inr (q a ob kvs l ρ1 F1 H1 p s1 h1 h2)) w
theorem i_keys {te : TE} {P : List Dt → En → Prop} (h : EvD K W te ρ x fun d ρ1 => ∃ l, d = dicD l ∧ P (keysD l) ρ1) : ItD K W (iKeys (tLkf te)) ρ x P := fun σ F H R s q w =>
  lkf (Q := fun l ρ1 => P (keysD l) ρ1) h s (fun d ob kvs l ρ1 F1 H1 p s1 h1 h2 => ⟨d, ob, rfl, .inl ⟨kvs, s1.sym.ex _ _ h1, q _ ρ1 _ F1 H1 p s1 (wk_keys h1 h2)⟩⟩) w
theorem i_vals {te : TE} {P : List Dt → En → Prop} (h : EvD K W te ρ x fun d ρ1 => ∃ l, d = dicD l ∧ P (valsD l) ρ1) : ItD K W (iVals (tLkf te)) ρ x P := fun σ F H R s q w =>
  lkf (Q := fun l ρ1 => P (valsD l) ρ1) h s (fun d ob kvs l ρ1 F1 H1 p s1 h1 h2 => ⟨d, ob, kvs, rfl, s1.sym.ex _ _ h1, q _ ρ1 _ F1 H1 p s1 (wk_vals h1 h2)⟩) w
theorem i_items {te : TE} {P : List Dt → En → Prop} (h : EvD K W te ρ x fun d ρ1 => ∃ l, d = dicD l ∧ P (itemsD l) ρ1) : ItD K W (iItems (tLkf te)) ρ x P := fun σ F H R s q w =>
  lkf (Q := fun l ρ1 => P (itemsD l) ρ1) h s (fun d ob kvs l ρ1 F1 H1 p s1 h1 h2 => ⟨d, ob, kvs, rfl, s1.sym.ex _ _ h1, q _ ρ1 _ F1 H1 p s1 (wk_items h1 h2)⟩) w
/-! ### new dicts -/
theorem n_dic0 (p : P (dicD []) ρ) : EvN K W tDNewK ρ x P := fun σ F H Q s q _ a ha => q (dicD []) ρ a (.dK []) F H p (Step.refl s) ha (own_dic.mpr ⟨[], upd_same, rfl⟩)
/-- a call that makes a new object -/
def CaN (K : Frag) (r : List V → Hp → VK → Prop) (ds : List Dt) (ρ : En) (P : Dt → En → Prop) : Prop :=
  ∀ (σ : L2.St) (F H : Hp) (Q : VK) (us : List V), Sym K F H σ ρ → RepVL K F σ ds us → (∀ d ρ' p o F' H', P d ρ' → Step K σ ρ F H σ ρ' F' H' → H' p = none → Own K F' (upd H' p o) p d → Q (.ref p) (upd H' p o)) → r us H Q
theorem n_cb {r : List V → Hp → VK → Prop} {ta : TA} (h : ArD K W ta ρ x fun ds ρ1 => CaN K r ds ρ1 P) : EvN K W (tCB r ta) ρ x P := fun σ F H Q s q w =>
  h σ F H _ s (fun ds ρ1 vs F1 H1 p1 s1 r1 => p1 σ F1 H1 Q vs s1.sym r1 fun d ρ' p o F' H' pp st hp ho => q d ρ' p o F' H' pp (s1.trans st) hp ho) w
def rDictU (K : Frag) : List V → Hp → VK → Prop := fun xs H Q => (∃ (a : Addr) (kvs : List (Key × V)), xs = [.ref a] ∧ Rd H a (.dK kvs) ∧ ∀ p, H p = none → Q (.ref p) (upd H p (.dK kvs))) ∨
  ∃ (a : Addr) (ps : List Addr) (kvs : List (Key × V)), xs = [.ref a] ∧ SqL K H a (ps.map V.ref) ∧ Paired (fun p kv => SqT K H p [kV kv.1, kv.2]) ps kvs ∧ ∀ p, H p = none → Q (.ref p) (upd H p (.dK (mergeK [] kvs)))
theorem call_dictU {X : Cx} (hK : X.K = K) (hc : X.calm = true) : CallR X (.type "dict") (rDictU K) := hK ▸ call_dictD.or (call_dictP hc)
theorem cn_dict {d : Dt} (hd : DicAt ρ d l) (p : P (dicD l) ρ) : CaN K (rDictU K) [d] ρ P := fun σ F H Q us s r q => by
  obtain ⟨v, _, rfl, rv, rfl⟩ := r
  obtain ⟨a, kvs, rfl, h1, h2⟩ := hd.at_ s rv
  exact .inl ⟨a, kvs, rfl, h1, fun b hb => q _ ρ b _ F H p (Step.refl s) hb (own_dic.mpr ⟨kvs, upd_same, h2⟩)⟩
/-- dict([(k, v), ..]) -/
def pairsD (ps : List (Key × Dt)) : List Dt := ps.map fun p => .tup [keyD p.1, p.2]
def mergeD (l more : List (Key × Dt)) : List (Key × Dt) := more.foldl (fun acc kv => putD acc kv.1 kv.2) l
theorem RepKV.merge : ∀ {more : List (Key × Dt)} {kvs : List (Key × V)} {l0 : List (Key × Dt)} {k0 : List (Key × V)}, RepKV K F more kvs → RepKV K F l0 k0 → RepKV K F (mergeD l0 more) (mergeK k0 kvs)
  | [], _, l0, k0, h, g => by cases h; exact g
  | p :: more, _, l0, k0, ⟨v, r, h1, h2, h3⟩, g => by
    subst h1
    exact RepKV.merge (l0 := putD l0 p.1 p.2) (k0 := putK k0 p.1 v) h3 (g.put h2)
theorem pairs_rep : ∀ {ps : List (Key × Dt)} {xs : List V}, RepL K F (pairsD ps) xs → ∃ as kvs, xs = as.map V.ref ∧ Paired (fun p (kv : Key × V) => SqT K F p [kV kv.1, kv.2]) as kvs ∧ RepKV K F ps kvs
  | [], xs, h => by
    unfold pairsD at h
    rw [List.map_nil] at h
    unfold RepL at h
    exact ⟨[], [], h, .nil, rfl⟩
  | p :: ps, xs, h => by
    unfold pairsD at h
    rw [List.map_cons] at h
    unfold RepL at h
    obtain ⟨v, r, rfl, h1, h2⟩ := h
    obtain ⟨as, kvs, e, h3, h4⟩ := pairs_rep (ps := ps) h2
    unfold Rep at h1
    obtain ⟨a, ys, rfl, h5, h6⟩ := h1
    unfold RepL at h6
    obtain ⟨y1, r1, rfl, h7, h8⟩ := h6
    unfold RepL at h8
    obtain ⟨y2, r2, rfl, h9, h10⟩ := h8
    unfold RepL at h10
    subst h10
    have ek := rep_key h7
    subst ek
    exact ⟨a :: as, (p.1, y2) :: kvs, by rw [e]; rfl, .cons h5 h3, y2, kvs, rfl, h9, h4⟩
theorem cn_dictP {ps : List (Key × Dt)} (p : P (dicD (mergeD [] ps)) ρ) : CaN K (rDictU K) [.lst (pairsD ps)] ρ P := fun σ F H Q us s r q => by
  obtain ⟨v, _, rfl, rv, rfl⟩ := r
  have e : Rep K F (.lst (pairsD ps)) v := rv
  unfold Rep at e
  obtain ⟨a, xs, rfl, h1, h2⟩ := e
  obtain ⟨as, kvs, rfl, h3, h4⟩ := pairs_rep h2
  refine .inr ⟨a, as, kvs, rfl, ex_l s.ex h1, Paired.mapP h3 fun _ _ z => ex_t s.ex z, fun b hb => ?_⟩
  exact q _ ρ b _ F H p (Step.refl s) hb (own_dic.mpr ⟨_, upd_same, RepKV.merge h4 rfl⟩)
/-! ### dict comprehensions -/
theorem n_dc {wi : TI} {g : TG} {tt : TT} {tk tv : TE} {vs : List Nat} (h : ItD K W wi ρ x fun zs ρ1 => noLent ρ1 vs = true ∧ ∃ I : Nat → List (Key × Dt) → En → Prop, I 0 [] (wipeE ρ1 vs) ∧
      (∀ i acc ρ' z, zs[i]? = some z → I i acc ρ' → TgD K (some vs) g z ρ' fun ρ2 => TtD K w0 tt ρ2 px0 fun b ρ3 =>
        (b = true → EvD K w0 tk ρ3 px0 fun kd ρ4 => ∃ k, kd.key = some k ∧ EvD K w0 tv ρ4 px0 fun d ρ5 => d.real = true ∧ acc.length < 100000 ∧ noLent ρ5 vs = true ∧ I (i + 1) (putD acc k d) (wipeE ρ5 vs)) ∧ (b = false → noLent ρ3 vs = true ∧ I (i + 1) acc (wipeE ρ3 vs))) ∧
      ∀ acc ρ', I zs.length acc ρ' → P (dicD acc) ρ') : EvN K W (tDc wi g tt tk tv vs) ρ x P := fun σ F H R s q w =>
  h σ F H _ s (fun zs ρ1 J F1 H1 p s1 wk D hD => by
    obtain ⟨hl, I, h0, hs, hd⟩ := p
    have sw := Step.wipe (vs := vs) s1.sym hl
    refine ⟨fun i m H' => m = zs.length - i ∧ i ≤ zs.length ∧ ∃ F' ρ' acc xs, I i acc (wipeE ρ' vs) ∧ Step K σ ρ1 F1 H1 (wipe σ vs) (wipeE ρ' vs) F' H' ∧ Aside (wipe σ vs) (wipeE ρ' vs) F' H' D (.dK xs) ∧ RepKV K F' acc xs,
      ⟨zs.length, by simp, Nat.zero_le _, F1, ρ1, [], [], h0, sw.trans (Step.more sw.sym hD), Aside.new sw.sym hD, rfl⟩, ?_⟩
    rintro i m H' ⟨rfl, hi, F', ρ', acc, xs, pI, st, as, ra⟩
    by_cases hlt : i < zs.length
    · refine .inr ⟨wk.go i F' H' hlt st.exF st.sym.ex, fun H2 => ∃ F2 ρ2 acc2 xs2, I (i + 1) acc2 (wipeE ρ2 vs) ∧ Step K σ ρ1 F1 H1 (wipe σ vs) (wipeE ρ2 vs) F2 H2 ∧ Aside (wipe σ vs) (wipeE ρ2 vs) F2 H2 D (.dK xs2) ∧ RepKV K F2 acc2 xs2,
        fun H2 ⟨F2, ρ2, acc2, xs2, p2, st2, as2, ra2⟩ => ⟨zs.length - (i + 1), by omega, rfl, hlt, F2, ρ2, acc2, xs2, p2, st2, as2, ra2⟩, fun v H2 y => ?_⟩
      have hz : zs[i]? = some zs[i] := by simp [hlt]
      obtain ⟨g1, r1⟩ := wk.yld i F' H' v H2 _ hz st.exF st.sym.ex y
      have st1 := Step.grow st.sym g1
      refine hs i acc _ _ hz pI (wipe σ vs) _ H2 _ v st1.sym r1 fun ρ3 σ3 p3 w3 st3 => ⟨?_, ?_⟩
      · exact (show wipe σ3 vs = wipe (wipe σ vs) vs from w3).trans (wipe_wipe σ vs)
      · have ew : wipe σ3 vs = wipe σ vs := (show wipe σ3 vs = wipe (wipe σ vs) vs from w3).trans (wipe_wipe σ vs)
        have b3 := st1.trans st3
        refine p3 σ3 _ H2 _ st3.sym (fun b ρ4 F4 H4 pb st4 => ?_) fun _ _ _ _ _ _ z => z.elim
        have b4 := b3.trans st4
        cases b with
        | true =>
          rw [if_pos rfl]
          refine pb.1 rfl σ3 F4 H4 _ st4.sym (fun kd ρ5 ku F5 H5 ⟨k, hk, p5⟩ st5 r5 => ?_) fun _ _ _ _ _ _ z => z.elim
          have b5 := b4.trans st5
          have ek := key_of_D hk
          subst ek
          have ey : ku = kV k := rep_key (r5.real (by cases k <;> rfl))
          subst ey
          refine p5 σ3 F5 H5 _ st5.sym (fun d ρ6 u F6 H6 p6 st6 r6 => ?_) fun _ _ _ _ _ _ z => z.elim
          have b6 := b5.trans st6
          have sw6 := Step.wipe (vs := vs) st6.sym p6.2.2.1
          rw [ew] at sw6
          have b7 := b6.trans sw6
          have as7 := as.step b7
          refine ⟨xs, k, rfl, as7.at_, ?_, F6, ρ6, putD acc k d, putK xs k u, p6.2.2.2, (st.trans b7).aside hD as7, as7.upd, (ra.mono b7.exF).put (r6.real p6.1)⟩
          rw [ra.len]
          exact Nat.lt_of_lt_of_le p6.2.1 (by decide)
        | false =>
          rw [if_neg (by decide)]
          obtain ⟨hl5, p5⟩ := pb.2 rfl
          have sw5 := Step.wipe (vs := vs) st4.sym hl5
          rw [ew] at sw5
          have b6 := b4.trans sw5
          exact ⟨F4, ρ4, acc, xs, p5, st.trans b6, as.step b6, ra.mono b6.exF⟩
    · have e : i = zs.length := by omega
      subst e
      refine .inl ⟨wk.stop F' H' st.exF st.sym.ex, ?_⟩
      have su := (st.unwipe (σ := σ) rfl)
      have as2 : Aside σ (wipeE ρ' vs) F' H' D (.dK xs) := ⟨fun z => by
        obtain ⟨j, l, d, h1, h2⟩ := z
        refine as.ow ⟨j, l, d, h1, ?_⟩
        rw [wipe_get, if_neg (wipeE_have h1 (by intro z; cases z)).1]
        exact h2, as.fr, as.at_⟩
      have key := q (dicD acc) _ D (.dK xs) F' (del1 H' D) (hd acc _ pI) (s1.trans (su.without hD as2)) (if_pos rfl) (by rw [del_back as.at_]; exact own_dic.mpr ⟨xs, as.at_, ra⟩)
      rw [del_back as.at_] at key
      exact key) w
/-! ### d.get, len -/
theorem e_get2 {td ty tx : TE} (h : EvD K W td ρ x fun d ρ1 => ∃ l, d = dicD l ∧ EvD K W ty ρ1 x fun kd ρ2 => ∃ k, kd.key = some k ∧ EvD K W tx ρ2 x fun z ρ3 => z.real = true ∧ P ((valD l k).getD z) ρ3) : EvD K W (tDGet2 td ty tx) ρ x P := fun σ F H Q s q w =>
  h σ F H _ s (fun d ρ1 v F1 H1 p1 s1 r1 => by
    obtain ⟨l, rfl, p1⟩ := p1
    have e : Rep K F1 (dicD l) v := r1
    obtain ⟨a, kvs, rfl, h1, h2⟩ := rep_dic.mp e
    refine ⟨a, rfl, .inl ⟨kvs, ex_rd s1.sym.ex h1⟩, p1 σ F1 H1 _ s1.sym (fun kd ρ2 y F2 H2 p2 s2 r2 => ?_) fun c ρ' cls dd F' H' px st xo => w c ρ' cls dd F' H' px (s1.trans st) xo⟩
    obtain ⟨k, hk, p2⟩ := p2
    have ek := key_of_D hk
    subst ek
    have ey : y = kV k := rep_key (r2.real (by cases k <;> rfl))
    subst ey
    refine p2 σ F2 H2 _ s2.sym (fun z ρ3 zv F3 H3 p3 s3 r3 => ?_) fun c ρ' cls dd F' H' px st xo => w c ρ' cls dd F' H' px ((s1.trans s2).trans st) xo
    have h3 := ex_rd s3.sym.ex (s3.exF.dic (s2.exF.dic h1))
    have h4 := (h2.mono s2.exF).mono s3.exF
    refine ⟨_, .inl ⟨kvs, k, h3, rfl, rfl⟩, ?_⟩
    have all := (s1.trans s2).trans s3
    cases e : valD l k with
    | none =>
      rw [(h4.val k).2 e]
      rw [e] at p3
      exact q z ρ3 zv F3 H3 p3.2 all r3
    | some d =>
      obtain ⟨u, e1, e2⟩ := (h4.val k).1 d e
      rw [e1]
      rw [e] at p3
      exact q d ρ3 u F3 H3 p3.2 all e2.toV) w
def rLenV (K : Frag) : List V → Hp → VK → Prop := fun xs H Q => rLenU K xs H Q ∨ ∃ a kvs, xs = [V.ref a] ∧ Rd H a (.dK kvs) ∧ Q (.int kvs.length) H
theorem call_lenV {X : Cx} (hK : X.K = K) : CallR X (.builtin "len") (rLenV K) := (call_lenK hK).or (by
  intro pins s σ H xs us Q I r h
  obtain ⟨a, kvs, rfl, hd, q⟩ := h
  obtain ⟨u, rfl, ru⟩ := r.one
  cases (show u = Value.ref a from ru)
  exact d_len I hd fun t s' I' => ⟨.int _, H, I', ⟨t, rfl⟩, q⟩)
theorem v_len {ds : List Dt} (h : CaD K (rLenU K) ds ρ P) : CaD K (rLenV K) ds ρ P := fun σ F H Q us s r q => .inl (h σ F H Q us s r q)
theorem c_lenD {d : Dt} (hd : DicAt ρ d l) (p : P (.int l.length) ρ) : CaD K (rLenV K) [d] ρ P := fun σ F H Q us s r q => by
  obtain ⟨v, _, rfl, rv, rfl⟩ := r
  obtain ⟨a, kvs, rfl, h1, h2⟩ := hd.at_ s rv
  refine .inr ⟨a, kvs, rfl, h1, ?_⟩
  rw [h2.len]
  exact q _ _ _ F H p (Step.refl s) rfl
end
end DL
set_option Elab.async false
set_option linter.all false
set_option maxRecDepth 100000
set_option autoImplicit false
set_option maxHeartbeats 4000000
/-! own classes and their instances -/
namespace DL
open PySem L2 Evl PyProof.Rows
/-! ### what the head tells of a class -/
def tyNs : List String := ["NoneType", "bool", "int", "str", "list", "tuple", "dict"]
structure ClC (K : Frag) (C : Addr) : Prop where
  cl : Cls K C
  mks : PySem.W.makesIn K C = true
  kp : PySem.W.keepIn K (.ref C) = true
  is : C8.InsC K C
  sf : PySem.W.selfFirst K C = true
  ks : ∀ T ∈ tyNs, PySem.W.kitOne K (.type T) (.ref C) = some false
  sb : ∀ T ∈ tyNs, PySem.W.subIn K (.type T) (.ref C) = some false
def clB (K : Frag) (C : Addr) : Bool := PySem.W.plainGet K C Str.empty && (PySem.W.hasDictIn K C && (PySem.W.plainOver K C && (eqO2 (PySem.W.findIn K (.ref C) "__setattr__") (some (some (.builtin "object.__setattr__"))) && (PySem.W.makesIn K C && (PySem.W.keepIn K (.ref C) &&
  (eqO2 (PySem.W.findIn K (.ref C) "__class__") (some (some (.builtin "object.__class__"))) && (eqO2 (PySem.W.specialIn K (.builtin "object.__class__") "__get__") (some (some (.builtin "getset_descriptor.__get__"))) &&
    (decide (PySem.W.takesIn K (.builtin "object.__class__") = some true) && (decide (PySem.W.mroIn K C (.type "object") = some true) && (decide (PySem.W.kitOne K (.ref C) (.ref C) = some true) && (PySem.W.selfFirst K C && ((tyNs.all fun T => decide (PySem.W.kitOne K (.type T) (.ref C) = some false)) && (tyNs.all fun T => decide (PySem.W.subIn K (.type T) (.ref C) = some false))))))))))))))
theorem clB_ok {K : Frag} {C : Addr} (h : clB K C = true) : ClC K C := by
  obtain ⟨h1, h⟩ := band h
  obtain ⟨h2, h⟩ := band h
  obtain ⟨h3, h⟩ := band h
  obtain ⟨h4, h⟩ := band h
  obtain ⟨h5, h⟩ := band h
  obtain ⟨h6, h⟩ := band h
  obtain ⟨h7, h⟩ := band h
  obtain ⟨h8, h⟩ := band h
  obtain ⟨h9, h⟩ := band h
  obtain ⟨h10, h⟩ := band h
  obtain ⟨h11, h⟩ := band h
  obtain ⟨h12, h⟩ := band h
  obtain ⟨h13, h14⟩ := band h
  have c : Cls K C := ⟨h1, h2, h3, of_decide_eq_true h4⟩
  exact ⟨c, h5, h6, ⟨c, of_decide_eq_true h7, of_decide_eq_true h8, of_decide_eq_true h9, of_decide_eq_true h10, of_decide_eq_true h11⟩, h12, fun T hT => of_decide_eq_true (List.all_eq_true.mp h13 T hT), fun T hT => of_decide_eq_true (List.all_eq_true.mp h14 T hT)⟩
def meB (K : Frag) (C : Addr) (m : Str) : Bool := eqO2 (PySem.W.findIn K (.ref C) m) (some (some (.ref (He.ma K C m)))) && (PySem.W.isFn K (.ref (He.ma K C m)) && PySem.W.keepIn K (.ref (He.ma K C m)))
theorem meB_ok {K : Frag} {C : Addr} {m : Str} (h : meB K C m = true) : Meth K C m (He.ma K C m) := by
  obtain ⟨h1, h⟩ := band h
  obtain ⟨h2, h3⟩ := band h
  exact ⟨of_decide_eq_true h1, h2, h3⟩
def naB (K : Frag) (C : Addr) (f : Str) : Bool := eqO2 (PySem.W.findIn K (.ref C) f) (some none)
theorem naB_ok {K : Frag} {C : Addr} {f : Str} (h : naB K C f = true) : NoAttr K C f := of_decide_eq_true (p := PySem.W.findIn K (.ref C) f = some none) h
/-! ### calls, what is raised at the caller's slots -/
section
variable {X : Cx} {CX : CXT} {k : Nat} {f C : Addr} {fd : FuncData} {ps : List Str} {sp : Sp} {dvs : List V} {ds : List Value} {E : L2.St → XK} {x m : Str} {p pos apos : Pos} {e o : Expr} {es : List Expr} {ta : TE} {t : TA}
def tMakeS (C : Addr) (sp : Sp) (dvs : List V) (E : L2.St → XK) (t : TA) : TE := fun σ H Q => t σ H fun vs H1 => ∀ x dx, H1 x = none → H1 dx = none → dx ≠ x →
  sp (.ref x :: (vs ++ dvs)) (upd (upd H1 dx (.own x)) x (.ins C dx [])) (fun v H2 => v = .non ∧ Q (.ref x) H2) (E σ)
theorem run_makeS {pins : List (Addr × Obj)} {σ : L2.St} {H : Hp} {s : Shared} {Q : VK} {us : List Value} {vs : List V} (M : Mk X.K C f) (F : FnOk X.prog X.w X.K X.mg X.base CX k f fd ps sp) (hr : Room (k + 1) X.A) (hb : Binds X.K fd ps ds) (hd : Vals dvs ds) (hx : PassesAt CX X σ (E σ)) (I : Inv X pins σ H s) (rel : Vals vs us)
    (h : ∀ x dx, H x = none → H dx = none → dx ≠ x → sp (.ref x :: (vs ++ dvs)) (upd (upd H dx (.own x)) x (.ins C dx [])) (fun v H2 => v = .non ∧ Q (.ref x) H2) (E σ)) :
    wpAny (model X.prog X.w) X.A (call (.ref C) us) (EP X pins σ Q) X.xe s := by
  have n := s.heap.objs.size
  have want := h (s.heap.objs.size + 1) s.heap.objs.size (I.hok.fresh (Nat.le_succ _)) (I.hok.fresh (Nat.le_refl _)) (Nat.ne_of_lt (Nat.lt_succ_self _))
  have J := Inv.made (C := C) I
  have rel2 : Vals (V.ref (s.heap.objs.size + 1) :: (vs ++ dvs)) (Value.ref (s.heap.objs.size + 1) :: (us ++ ds)) := .cons rfl (rel.append hd)
  have many : (Value.ref (s.heap.objs.size + 1) :: us ++ ds).length = ps.length := (rel2.length.symm.trans (F.len _ _ _ _ want))
  refine wpAny_call (make_map (f := f) I.kIn M.makes M.init (beq_iff_eq.mp M.fn) (codeAny_mono (F.run _ X.stack _ _ ⟨Value.ref (s.heap.objs.size + 1) :: us, []⟩ (Value.ref (s.heap.objs.size + 1) :: (us ++ ds)) _ _ (E σ) (hr.make C us []) (J.env0.make C us []) (hb _ (Value.ref (s.heap.objs.size + 1) :: us) J.kIn many) rel2 want) fun res s' got => ?_))
  cases res with
  | error er => exact hx pins _ _ er s' J got
  | ok fl =>
    cases fl with
    | ret u =>
      obtain ⟨v, H', J2, rv, ev, q⟩ := J.after got
      subst ev
      exact ⟨rv, V.ref (s.heap.objs.size + 1), H', J2, rfl, q⟩
    | next => exact got.elim
    | brk => exact got.elim
    | cont => exact got.elim
theorem pe_makeS (M : Mk X.K C f) (F : FnOk X.prog X.w X.K X.mg X.base CX k f fd ps sp) (hr : Room (k + 1) X.A) (hg : Gl X x) (hm : X.mg x = some (.ref C)) (hb : Binds X.K fd ps ds) (hd : Vals dvs ds) (hx : ∀ σ, PassesAt CX X σ (E σ)) (ha : PA X (e :: es) t) (hdb : (x == ("__debug__" : Str)) = false := by decide)
    (he : starEach (e :: es) X.env = (false, eval e X.env) :: starEach es X.env := by rfl) (hpl : (backTo pos (starEach es X.env)).any (·.1) = false := by rfl) : PE X (.Call (.Name x p) (e :: es) [] pos) (tMakeS C sp dvs E t) :=
  ⟨fun pins s σ H Q I h => wpAny_Call_Name_kw (ld_glob I hg hm (PySem.W.callWith_K (h₀ := X.base) I.ok.mod.kin M.kp (thn (ha.run pos pins s σ H _ I h) fun us s1 ⟨vs, H1, I1, rel, q⟩ => ⟨I1.kIn, run_makeS M F hr hb hd (hx σ) I1 rel q⟩) he hpl) hdb)⟩
def tMethS (C : Addr) (m : Str) (sp : Sp) (dvs : List V) (E : L2.St → XK) (ta : TE) (t : TA) : TE := fun σ H Q => ta σ H fun x H1 => ∃ a dx fs, x = .ref a ∧ H1 a = some (.ins C dx fs) ∧ fs.lookup m = none ∧ t σ H1 fun vs H2 => sp (x :: (vs ++ dvs)) H2 Q (E σ)
theorem pe_methS {pl : Sem Bool} (he : PE X o ta) (c : Cls X.K C) (hm : Meth X.K C m f) (F : FnOk X.prog X.w X.K X.mg X.base CX k f fd ps sp) (hr : Room k X.A) (hb : Binds X.K fd ps ds) (hd : Vals dvs ds) (hx : ∀ σ, PassesAt CX X σ (E σ)) (ha : PA X (e :: es) t)
    (hst : starEach (e :: es) X.env = (false, eval e X.env) :: starEach es X.env := by rfl) (hpl : (backTo pos (starEach es X.env)).any (·.1) = false := by rfl)
    (ht : eval (.Call (.Attribute o m apos) (e :: es) [] pos) X.env = (do
      let ov ← eval o X.env
      standAt apos.atName
      let (g, first) ← holding [ov] (getMethod ov m pl)
      callWith pos g first (backTo pos (starEach (e :: es) X.env)) (backToKw pos (keywordEach [] X.env))) := by rfl) : PE X (.Call (.Attribute o m apos) (e :: es) [] pos) (tMethS C m sp dvs E ta t) := by
  refine ⟨fun pins s σ H Q I h => PySem.W.methodCall_KW (pl := pl) (thn (he.run pins s σ H _ I h) fun u s1 ⟨y, H1, I1, ry, a, dx, fs, ey, ea, l, q⟩ => ?_) ht⟩
  subst ey
  cases (show u = Value.ref a from ry)
  refine getmeth_ok I1 ea c hm l (PySem.W.callWith_K (first := [.ref a]) (h₀ := X.base) I.ok.mod.kin hm.kp (thn (ha.run pos pins s1 σ H1 _ I1 q) fun us s2 ⟨vs, H2, I2, rel, q2⟩ => ⟨I2.kIn, ?_⟩) hst hpl)
  exact run_fnSD (us := .ref a :: us) (vs := .ref a :: vs) F hr hb hd (hx σ) I2 (.cons rfl rel) q2
theorem pe_methS0 {pl : Sem Bool} (he : PE X o ta) (c : Cls X.K C) (hm : Meth X.K C m f) (F : FnOk X.prog X.w X.K X.mg X.base CX k f fd ps sp) (hr : Room k X.A) (hb : Binds X.K fd ps ds) (hd : Vals dvs ds) (hx : ∀ σ, PassesAt CX X σ (E σ))
    (ht : eval (.Call (.Attribute o m apos) [] [] pos) X.env = (do
      let ov ← eval o X.env
      standAt apos.atName
      let (g, first) ← holding [ov] (getMethod ov m pl)
      callWith pos g first (backTo pos (starEach [] X.env)) (backToKw pos (keywordEach [] X.env))) := by rfl) : PE X (.Call (.Attribute o m apos) [] [] pos) (tMethS C m sp dvs E ta tNil) := by
  refine ⟨fun pins s σ H Q I h => PySem.W.methodCall_KW (pl := pl) (thn (he.run pins s σ H _ I h) fun u s1 ⟨y, H1, I1, ry, a, dx, fs, ey, ea, l, q⟩ => ?_) ht⟩
  subst ey
  cases (show u = Value.ref a from ry)
  exact getmeth_ok I1 ea c hm l (PySem.W.callWith_K0 (first := [.ref a]) I1.kIn hm.kp (run_fnSD (us := [.ref a]) (vs := [.ref a]) F hr hb hd (hx σ) I1 (.cons rfl .nil) q))
/-- e.f of an instance of the class at C -/
def tFldC (C : Addr) (f : Str) (ta : TE) : TE := fun σ H Q => ta σ H fun x H1 => ∃ a dx fs v, x = .ref a ∧ H1 a = some (.ins C dx fs) ∧ fs.lookup f = some v ∧ Q v H1


theorem pe_fldC {g : Str} (he : PE X o ta) (c : Cls X.K C) (n : NoAttr X.K C g) (hb : attributeBase o g X.env (eval o X.env) = eval o X.env := by rfl) : PE X (.Attribute o g pos) (tFldC C g ta) := by
  refine ⟨fun pins s σ H Q I h => attr_of hb (thn (he.run pins s σ H _ I h) fun u s1 ⟨y, H1, I1, ry, a, dx, fs, v, ey, ea, l, q⟩ => ?_)⟩
  subst ey
  cases (show u = Value.ref a from ry)
  exact getattr_ok I1 ea c n l fun u2 s2 I2 ru => ⟨v, H1, I2, ru, q⟩
def sFldC (C : Addr) (f : Str) (ta tv : TE) : TS := fun D σ H => tv σ H fun y H1 => ta σ H1 fun x H2 => ∃ a dx fs, x = .ref a ∧ H2 a = some (.ins C dx fs) ∧ fs.length < 1000 ∧ D.nx σ (upd H2 a (.ins C dx (putF f y fs)))
theorem ps_fldC {g : Str} {value : Expr} {tv : TE} {pos' : Pos} (ha : PE X o ta) (hv : PE X value tv) (c : Cls X.K C) (n : NoAttr X.K C g) (hs : swapsWith value (some (.Attribute o g pos')) pos.line X.env = pure false := by rfl) : PS X (.Assign [.Attribute o g pos'] value pos) (sFldC C g ta tv) := by
  refine ⟨fun pins s σ H D I h => plainObj_wpAny_Assign_Attribute (thn (hv.run pins s σ H _ I h) fun u s1 ⟨y, H1, I1, ry, q⟩ => thn (ha.run pins s1 σ H1 _ I1 q) fun ov s2 ⟨z, H2, I2, rz, a, dx, fs, ez, ea, l, q2⟩ => ?_) hs⟩
  subst ez
  cases (show ov = Value.ref a from rz)
  exact setattr_ok I2 ea c n l ry fun s3 I3 => ⟨σ, _, I3, q2⟩
end
/-! ### by data -/
section
variable {K : Frag} {W : WX} {σ σ1 : L2.St} {ρ ρ1 : En} {F F1 H H1 : Hp} {x : PX} {P : Dt → En → Prop} {C : Addr} {m f : Str}
theorem zip_look {α β : Type} {f : Str} : ∀ {fs : List Str} {xs : List α}, fs.contains f = false → (fs.zip xs).lookup f = none
  | [], _, _ => rfl
  | g :: fs, [], _ => rfl
  | g :: fs, y :: ys, h => by
    rw [List.contains_cons, Bool.or_eq_false_iff] at h
    show (match f == g with | true => some y | false => (fs.zip ys).lookup f) = none
    rw [h.1]
    exact zip_look (β := β) h.2
theorem zip_get {f : Str} {z : Dt} : ∀ {fs : List Str} {ds : List Dt} {xs : List V}, RepL K F ds xs → (fs.zip ds).lookup f = some z → ∃ v, (fs.zip xs).lookup f = some v ∧ Rep K F z v
  | [], _, _, _, h => nomatch h
  | g :: fs, [], _, _, h => nomatch h
  | g :: fs, d :: ds, xs, r, h => by
    unfold RepL at r
    obtain ⟨v, ys, rfl, r1, r2⟩ := r
    have h2 : (match f == g with | true => some d | false => (fs.zip ds).lookup f) = some z := h
    show ∃ u, (match f == g with | true => some v | false => (fs.zip ys).lookup f) = some u ∧ Rep K F z u
    cases e : f == g with
    | true =>
      rw [e] at h2
      cases h2
      exact ⟨v, rfl, r1⟩
    | false =>
      rw [e] at h2
      exact zip_get r2 h2
/-- an instance in hand -/
def InsAt (ρ : En) (e : Dt) (C : Addr) (fs : List Str) (ds : List Dt) : Prop := e = .ins C fs ds ∨ ∃ k b, e = .own k ∧ ρ[k]? = some (.ow b (.ins C fs ds))
theorem InsAt.at_ {e : Dt} {u : V} {fs : List Str} {ds : List Dt} (d : InsAt ρ e C fs ds) (s : Sym K F H σ ρ) (r : RepV K F σ e u) : ∃ a dx xs, u = .ref a ∧ H a = some (.ins C dx (fs.zip xs)) ∧ fs.length = ds.length ∧ RepL K F ds xs := by
  rcases d with rfl | ⟨k, b, rfl, hk⟩
  · have h : Rep K F (.ins C fs ds) u := r
    unfold Rep at h
    obtain ⟨a, dx, xs, rfl, h1, h2, h3⟩ := h
    exact ⟨a, dx, xs, rfl, s.ex _ _ h1, h2, h3⟩
  · obtain ⟨a, e1, e2, dx, xs, h1, h2, h3⟩ := s.ow k b _ hk
    have eu : u = .ref a := by
      have z : σ[k]? = some (some u) := r
      rw [e1] at z
      exact (Option.some.inj (Option.some.inj z)).symm
    exact ⟨a, dx, xs, eu, h1, h2, h3⟩
theorem e_fld {te : TE} (h : EvD K W te ρ x fun d ρ1 => ∃ fs ds z, InsAt ρ1 d C fs ds ∧ (fs.zip ds).lookup f = some z ∧ P z ρ1) : EvD K W (tFldC C f te) ρ x P := fun σ F H Q s q w =>
  h σ F H _ s (fun d ρ1 v F1 H1 p s1 r => by
    obtain ⟨fs, ds, z, h1, h2, p⟩ := p
    obtain ⟨a, dx, xs, rfl, h3, _, h4⟩ := h1.at_ s1.sym r
    obtain ⟨y, e1, e2⟩ := zip_get h4 h2
    exact ⟨a, dx, _, y, rfl, h3, e1, q z ρ1 y F1 H1 p s1 e2.toV⟩) w
theorem allReal_cons {d : Dt} {ds : List Dt} (h : d.real = true) (g : allReal ds = true) : allReal (d :: ds) = true := by
  unfold allReal at g ⊢
  rw [List.all_cons, h, g]
  rfl
/-- o.m(..), o is not changed -/
theorem e_meth {S : Fsp} {te : TE} {ta : TA} (h : EvD K W te ρ x fun d ρ1 => ∃ fs ds, d = .ins C fs ds ∧ fs.contains m = false ∧ ArD K W ta ρ1 x fun es ρ2 => ∃ i, d :: es = S.arg i ∧ allReal es = true ∧ S.pre i ∧ (∀ z, S.post i z → P z ρ2) ∧ ∀ c, S.exc i c → x c ρ2) :
    EvD K W (tMethS C m (DSp K S) [] (WE W) te ta) ρ x P := fun σ F H Q s q w =>
  h σ F H _ s (fun d ρ1 v F1 H1 p s1 r => by
    obtain ⟨fs, ds, rfl, hm, p⟩ := p
    have e : Rep K F1 (.ins C fs ds) v := r
    have e' := e
    unfold Rep at e
    obtain ⟨a, dx, xs, rfl, h1, h2, h3⟩ := e
    refine ⟨a, dx, _, rfl, s1.sym.ex _ _ h1, zip_look (β := Unit) hm, p σ F1 H1 _ s1.sym (fun es ρ2 vs F2 H2 p2 s2 r2 => ?_) fun c ρ' cls dd F' H' px st xo => w c ρ' cls dd F' H' px (s1.trans st) xo⟩
    obtain ⟨i, hi, hr, hp, hk, hx⟩ := p2
    have all := s1.trans s2
    refine ⟨F2, i, s2.sym.ex, ?_, hp, fun d pd u H' g rd => q d ρ2 u _ H' (hk d pd) (all.trans (Step.growG s2.sym g)) rd.toV, fun c pc cls dd H' g xo => w c ρ2 cls dd _ H' (hx c pc) (all.trans (Step.growG s2.sym g)) xo⟩
    rw [← hi, List.append_nil]
    exact repL_cons (e'.mono s2.exF) (r2.real hr)) w
/-- .. that hands back a new object -/
theorem n_meth {S : Fsp} {te : TE} {ta : TA} (h : EvD K W te ρ x fun d ρ1 => ∃ fs ds, d = .ins C fs ds ∧ fs.contains m = false ∧ ArD K W ta ρ1 x fun es ρ2 => ∃ i, d :: es = S.arg i ∧ allReal es = true ∧ S.pre i ∧ (∀ z, S.post i z → P z ρ2) ∧ ∀ c, S.exc i c → x c ρ2) :
    EvN K W (tMethS C m (NSp K S) [] (WE W) te ta) ρ x P := fun σ F H Q s q w =>
  h σ F H _ s (fun d ρ1 v F1 H1 p s1 r => by
    obtain ⟨fs, ds, rfl, hm, p⟩ := p
    have e : Rep K F1 (.ins C fs ds) v := r
    have e' := e
    unfold Rep at e
    obtain ⟨a, dx, xs, rfl, h1, h2, h3⟩ := e
    refine ⟨a, dx, _, rfl, s1.sym.ex _ _ h1, zip_look (β := Unit) hm, p σ F1 H1 _ s1.sym (fun es ρ2 vs F2 H2 p2 s2 r2 => ?_) fun c ρ' cls dd F' H' px st xo => w c ρ' cls dd F' H' px (s1.trans st) xo⟩
    obtain ⟨i, hi, hr, hp, hk, hx⟩ := p2
    have all := s1.trans s2
    refine ⟨F2, i, s2.sym.ex, ?_, hp, fun d pd b o H' g hb ho => q d ρ2 b o _ H' (hk d pd) (all.trans (Step.growG s2.sym g)) hb ho, fun c pc cls dd H' g xo => w c ρ2 cls dd _ H' (hx c pc) (all.trans (Step.growG s2.sym g)) xo⟩
    rw [← hi, List.append_nil]
    exact repL_cons (e'.mono s2.exF) (r2.real hr)) w
/-- o.m(..), o is a slot's own -/
theorem e_methO {S : Osp} {te : TE} {ta : TA} (h : EvD K W te ρ x fun d ρ1 => ∃ (j : Nat) (l : Bool) (fs : List Str) (ds : List Dt), d = .own j ∧ ρ1[j]? = some (.ow l (.ins C fs ds)) ∧ fs.contains m = false ∧ ArD K W ta ρ1 x fun es ρ2 => ∃ (l : Bool) (o0 : Dt) (i : S.I), ρ2[j]? = some (.ow l o0) ∧ o0 = S.own i ∧ es = S.arg i ∧ allReal es = true ∧ S.pre i ∧
      (∀ z o, S.post i z o → P z (ρ2.set j (.ow l o))) ∧ ∀ c o, S.exc i c o → x c (ρ2.set j (.ow l o))) : EvD K W (tMethS C m (OSp K S) [] (WE W) te ta) ρ x P := fun σ F H Q s q w =>
  h σ F H _ s (fun d ρ1 v F1 H1 p s1 r => by
    obtain ⟨j, l, fs, ds, rfl, hj, hm, p⟩ := p
    obtain ⟨a, e1, e2, dx, xs, h1, h2, h3⟩ := s1.sym.ow j l _ hj
    have ev : v = .ref a := by
      have z : σ[j]? = some (some v) := r
      rw [e1] at z
      exact (Option.some.inj (Option.some.inj z)).symm
    subst ev
    refine ⟨a, dx, _, rfl, h1, zip_look (β := Unit) hm, p σ F1 H1 _ s1.sym (fun es ρ2 vs F2 H2 p2 s2 r2 => ?_) fun c ρ' cls dd F' H' px st xo => w c ρ' cls dd F' H' px (s1.trans st) xo⟩
    obtain ⟨l', o0, i, hj2, rfl, rfl, hr, hp, hk, hx⟩ := p2
    have all := s1.trans s2
    obtain ⟨a', e1', e2', e3'⟩ := s2.sym.ow j l' _ hj2
    have ea : a' = a := by
      rw [e1] at e1'
      have z := Option.some.inj (Option.some.inj e1')
      injection z with z
      exact z.symm
    subst ea
    refine ⟨F2, i, a', vs, by rw [List.append_nil], s2.sym.ex, e2', e3', r2.real hr, hp, fun z o pd u H' b ow rd => q z _ u _ H' (hk z o pd) (all.trans (Step.lend s2.sym hj2 e1 b ow)) rd.toV,
      fun c o pc cls dd H' b ow xo => w c _ cls dd _ H' (hx c o pc) (all.trans (Step.lend s2.sym hj2 e1 b ow)) xo⟩) w
/-- C(..): a new instance -/
theorem n_make {S : Osp} {ta : TA} {dvs : List V} {dds : List Dt} (hdv : ∀ F, RepL K F dds dvs) (h : ArD K W ta ρ x fun es ρ1 => ∃ i, S.own i = .ins C [] [] ∧ es ++ dds = S.arg i ∧ allReal es = true ∧ S.pre i ∧ (∀ z o, S.post i z o → z = .non ∧ P o ρ1) ∧ ∀ c o, S.exc i c o → x c ρ1) :
    EvN K W (tMakeS C (OSp K S) dvs (WE W) ta) ρ x P := fun σ F H Q s q w =>
  h σ F H _ s (fun es ρ1 vs F1 H1 p s1 r a dx ha hd hne => by
    obtain ⟨i, ho, hi, hr, hp, hk, hx⟩ := p
    have st1 := Step.more (o := .own a) s1.sym hd
    have ha2 : upd H1 dx (.own a) a = none := by rw [upd_ne (Ne.symm hne)]; exact ha
    have st2 := st1.trans (Step.more (o := .ins C dx []) st1.sym ha2)
    have as2 := Aside.new (o := .ins C dx []) st1.sym ha2
    have hq : ∀ {H' : Hp} {o : Dt}, Bt F1 (upd (upd H1 dx (.own a)) a (.ins C dx [])) H' a → Own K (Fz F1 (upd (upd H1 dx (.own a)) a (.ins C dx [])) H') H' a o → Step K σ ρ F H σ ρ1 (Fz F1 (upd (upd H1 dx (.own a)) a (.ins C dx [])) H') H' := fun b ow =>
      s1.trans (Step.side st2 ha as2.ow as2.fr (by rw [as2.at_]; exact fun z => nomatch z) ow.there b)
    refine ⟨F1, i, a, vs ++ dvs, rfl, st2.sym.ex, as2.fr, ?_, hi ▸ (r.real hr).app (hdv F1), hp, fun z o pd v H' b ow rd => ?_, fun c o pc cls dd H' b ow xo => w c ρ1 cls dd _ H' (hx c o pc) (hq b ow) xo⟩
    · rw [ho]
      exact ⟨dx, [], upd_same, rfl, repL_nil⟩
    · obtain ⟨ez, pP⟩ := hk z o pd
      subst ez
      unfold Rep at rd
      refine ⟨rd, ?_⟩
      obtain ⟨u, hu⟩ : ∃ u, H' a = some u := by
        cases e : H' a with
        | none => exact absurd e ow.there
        | some u => exact ⟨u, rfl⟩
      have as3 : Aside σ ρ1 (Fz F1 (upd (upd H1 dx (.own a)) a (.ins C dx [])) H') H' a u := ⟨as2.ow, fz_old as2.at_ as2.fr, hu⟩
      have hn : H a = none := by
        cases e : H a with
        | none => rfl
        | some y => exact absurd ha (s1.all a (by rw [e]; exact fun z => nomatch z))
      have key := q o ρ1 a u _ (del1 H' a) pP ((hq b ow).without hn as3) (if_pos rfl) (by rw [del_back hu]; exact ow)
      rw [del_back hu] at key
      exact key) w
/-- self.f = e: a new field -/
theorem putF_new {v : V} : ∀ {fs : List Str} {xs : List V}, fs.contains f = false → fs.length = xs.length → putF f v (fs.zip xs) = (fs ++ [f]).zip (xs ++ [v])
  | [], [], _, _ => rfl
  | g :: fs, y :: ys, h, hl => by
    rw [List.contains_cons, Bool.or_eq_false_iff] at h
    show (if g = f then (g, v) :: fs.zip ys else (g, y) :: putF f v (fs.zip ys)) = _
    rw [if_neg (fun e => by rw [e] at h; simp at h), putF_new h.2 (by simpa using hl)]
    rfl
theorem s_fldN {te to : TE} {Z : Pd} (h : EvD K W te ρ Z.ex fun d ρ1 => d.real = true ∧ EvD K W to ρ1 Z.ex fun o ρ2 => ∃ (j : Nat) (l : Bool) (fs : List Str) (ds : List Dt), o = .own j ∧ ρ2[j]? = some (.ow l (.ins C fs ds)) ∧ fs.contains f = false ∧ fs.length < 900 ∧ Z.nx (ρ2.set j (.ow l (.ins C (fs ++ [f]) (ds ++ [d]))))) :
    StD K W (sFldC C f to te) ρ Z := fun σ F H D s l =>
  h σ F H _ s (fun d ρ1 v F1 H1 p1 s1 r1 => by
    obtain ⟨hr, p1⟩ := p1
    refine p1 σ F1 H1 _ s1.sym (fun o ρ2 u F2 H2 p2 s2 r2 => ?_) fun c ρ' cls dd F' H' px st xo => l.ex c ρ' cls dd σ F' H' px (s1.trans st) xo
    obtain ⟨j, b, fs, ds, rfl, hj, hf, hl, pn⟩ := p2
    obtain ⟨a, e1, e2, dx, xs, h1, h2, h3⟩ := s2.sym.ow j b _ hj
    have eu : u = .ref a := by
      have z : σ[j]? = some (some u) := r2
      rw [e1] at z
      exact (Option.some.inj (Option.some.inj z)).symm
    subst eu
    have hlx : fs.length = xs.length := by rw [h3.length]; exact h2
    refine ⟨a, dx, _, rfl, h1, by rw [List.length_zip]; omega, ?_⟩
    rw [putF_new hf hlx]
    refine l.nx _ σ F2 _ pn ((s1.trans s2).trans (Step.write s2.sym hj e1 ⟨dx, _, upd_same, by rw [List.length_append, List.length_append, h2] <;> rfl, h3.app (repL_cons ((r1.real hr).mono s2.exF) repL_nil)⟩))) fun c ρ' cls dd F' H' p st xo => l.ex c ρ' cls dd σ F' H' p st xo
theorem ss_fldN {te to : TE} {Z : Pd} {u : TS} (h : EvD K W te ρ Z.ex fun d ρ1 => d.real = true ∧ EvD K W to ρ1 Z.ex fun o ρ2 => ∃ (j : Nat) (l : Bool) (fs : List Str) (ds : List Dt), o = .own j ∧ ρ2[j]? = some (.ow l (.ins C fs ds)) ∧ fs.contains f = false ∧ fs.length < 900 ∧ StD K W u (ρ2.set j (.ow l (.ins C (fs ++ [f]) (ds ++ [d])))) Z) :
    StD K W (tSeq (sFldC C f to te) u) ρ Z := s_seq (s_fldN h)
/-! isinstance -/
theorem c_isIns {e : Dt} {fs : List Str} {ds : List Dt} {D : Addr} {b : Bool} (hi : InsAt ρ e C fs ds) (T : ClC K C) (hk : PySem.W.kitOne K (.ref C) (.ref D) = some b) (p : P (.bl b) ρ) : CaD K (rIsi K) [e, .ref D] ρ P := fun σ F H Q us s r q => by
  obtain ⟨v, _, rfl, rv, w, _, rfl, rw', rfl⟩ := r
  have ew : w = .ref D := rw'
  subst ew
  obtain ⟨a, dx, xs, rfl, h1, _, _⟩ := hi.at_ s rv
  exact ⟨_, _, .ref C, .ref D, b, rfl, .own D, .base (.ins h1 T.cl T.is.ha T.is.hn T.is.htk T.is.hm), hk, q _ _ _ F H p (Step.refl s) rfl⟩
theorem c_isNo {d : Dt} {T : String} {D : Addr} (ht : d.tyN = some T) (hD : ClC K D) (p : P (.bl false) ρ) : CaD K (rIsi K) [d, .ref D] ρ P := fun σ F H Q us s r q => by
  obtain ⟨v, _, rfl, rv, w, _, rfl, rw', rfl⟩ := r
  have ew : w = .ref D := rw'
  subst ew
  have hr : d.real = true := by
    cases d with
    | own i => cases ht
    | _ => rfl
  have hT : T ∈ tyNs := by
    cases d <;> first | (cases ht; done) | (cases ht; decide)
  exact ⟨v, .ref D, .type T, .ref D, false, rfl, .own D, tyX_of (rv.real hr) s.ex ht, hD.ks T hT, q _ _ _ F H p (Step.refl s) rfl⟩
end
end DL
set_option Elab.async false
set_option linter.all false
set_option maxRecDepth 100000
set_option autoImplicit false
set_option maxHeartbeats 4000000
/-! dicts compared; operators of own classes -/
namespace DL
open PySem L2 Evl PyProof.Rows
/-- the pairs of ks, looked up in ls, with the comparison's answers -/
inductive KvE (K : Frag) (H : Hp) (ls : List (Key × V)) : List (Key × V) → Bool → Prop
  | nil : KvE K H ls [] true
  | miss {k : Key} {v : V} {r : List (Key × V)} : valV ls k = none → KvE K H ls ((k, v) :: r) false
  | hit {k : Key} {v u : V} {r : List (Key × V)} {p q : PyData} {b : Bool} : valV ls k = some u → Dp K H v p → Dp K H u q → p.plain = true → q.plain = true → p.depth ≤ 60 → KvE K H ls r b → KvE K H ls ((k, v) :: r) (PyData.eqv p q && b)
theorem KvE.hits {X : Cx} {pins : List (Addr × Obj)} {σ : L2.St} {H : Hp} {s : Shared} {A : Around} (I : Inv X pins σ H s) (hu : A.units + 60 < cLine) {ls : List (Key × V)} {vb : List (Key × Value)} (rb : KV ls vb) {ks : List (Key × V)} {b : Bool} (h : KvE X.K H ls ks b) :
    ∀ {va : List (Key × Value)}, KV ks va → PySem.W.KeqHits A s vb va b := by
  induction h with
  | nil =>
    intro va ra
    cases ra
    exact .nil
  | @miss k v r hm =>
    intro va ra
    cases ra with
    | @cons _ q _ qs h1 h2 =>
      obtain ⟨k2, v2⟩ := q
      obtain ⟨e, _⟩ := h1
      cases (show k = k2 from e)
      exact .miss (RelO.none_of (by rw [← hm]; exact rb.val k))
  | @hit k v u r p q b hs hp hq pp pq hd _ ih =>
    intro va ra
    cases ra with
    | @cons _ q2 _ qs h1 h2 =>
      obtain ⟨k2, v2⟩ := q2
      obtain ⟨e, rv⟩ := h1
      cases (show k = k2 from e)
      have rr : RelO (some u) (valueAt vb k) := by rw [← hs]; exact rb.val k
      obtain ⟨y, hy, ry⟩ := rr.some_of
      obtain ⟨as, r1⟩ := Dp.reads I p v v2 hp rv
      obtain ⟨bs, r2⟩ := Dp.reads I q u y hq ry
      exact .hit hy (SeqAt.eqAt_plain p q A s v2 y as bs r1 r2 pp pq (by have := Nat.min_le_left p.depth q.depth; omega)) (ih h2)
def rEqDic (K : Frag) (neg : Bool) : R2 := fun x y H Q => ∃ a b ks ls r, x = .ref a ∧ y = .ref b ∧ Rd H a (.dK ks) ∧ Rd H b (.dK ls) ∧ (ks.length = ls.length → KvE K H ls ks r) ∧ Q (.bl (neg != (ks.length == ls.length && r))) H
section
variable {X : Cx} {K : Frag}
theorem op_eqDic (hu : X.A.units + 64 < cLine) : OpR X (compareOp .Eq) (rEqDic X.K false) := by
  intro pins s σ H x y v u Q I rx ry h
  obtain ⟨a, b, ks, ls, r, rfl, rfl, ea, eb, hk, q⟩ := h
  cases (show v = Value.ref a from rx)
  cases (show u = Value.ref b from ry)
  obtain ⟨_, ya, va, ra, da⟩ := dk_rd I.hok ea
  obtain ⟨_, yb, vb, rb, db⟩ := dk_rd I.hok eb
  rw [bne_ff] at q
  refine PySem.W.keq_eq (knd := mixKind X.prog X.w) (r := r) ya yb da db (by omega) (fun e => (hk (by rw [ra.length, rb.length]; exact e)).hits I (by show X.A.units + 1 + 60 < cLine; omega) rb ra) ⟨.bl _, H, I, rfl, ?_⟩
  rw [← ra.length, ← rb.length]
  exact q
theorem op_neDic (hu : X.A.units + 64 < cLine) : OpR X (compareOp .NotEq) (rEqDic X.K true) := by
  intro pins s σ H x y v u Q I rx ry h
  obtain ⟨a, b, ks, ls, r, rfl, rfl, ea, eb, hk, q⟩ := h
  cases (show v = Value.ref a from rx)
  cases (show u = Value.ref b from ry)
  obtain ⟨_, ya, va, ra, da⟩ := dk_rd I.hok ea
  obtain ⟨_, yb, vb, rb, db⟩ := dk_rd I.hok eb
  rw [bne_tt] at q
  refine PySem.W.keq_ne (knd := mixKind X.prog X.w) (r := r) ya yb da db (by omega) (fun e => (hk (by rw [ra.length, rb.length]; exact e)).hits I (by show X.A.units + 1 + 60 < cLine; omega) rb ra) ⟨.bl _, H, I, rfl, ?_⟩
  rw [← ra.length, ← rb.length]
  exact q
def rEqV2 (K : Frag) : R2 := fun x y H Q => rEqU K x y H Q ∨ rEqDic K false x y H Q
def rNeV2 (K : Frag) : R2 := fun x y H Q => rNeU K x y H Q ∨ rEqDic K true x y H Q
theorem op_eqV2 (hK : X.K = K) (hu : X.A.units + 64 < cLine) : OpR X (compareOp .Eq) (rEqV2 K) := hK ▸ (op_eqU hu).or (op_eqDic hu)
theorem op_neV2 (hK : X.K = K) (hu : X.A.units + 64 < cLine) : OpR X (compareOp .NotEq) (rNeV2 K) := hK ▸ (op_neU hu).or (op_neDic hu)
end
/-- two dicts of plain data compared -/
def kvEq (m : List (Key × Dt)) : List (Key × Dt) → Option Bool
  | [] => some true
  | p :: l => match valD m p.1 with
    | none => some false
    | some e => match p.2.pd, e.pd, kvEq m l with
      | some a, some b, some r => if a.depth ≤ 60 then some (PyData.eqv a b && r) else none
      | _, _, _ => none
def eqDic (l m : List (Key × Dt)) : Option Bool := if l.length = m.length then kvEq m l else some false
section
variable {K : Frag} {W : WX} {σ σ1 : L2.St} {ρ ρ1 : En} {F F1 H H1 : Hp} {x : PX} {P : Dt → En → Prop}
theorem kvE_of (e : Ex F H) {m : List (Key × Dt)} {ls : List (Key × V)} (rm : RepKV K F m ls) : ∀ {l : List (Key × Dt)} {ks : List (Key × V)} {b : Bool}, RepKV K F l ks → kvEq m l = some b → KvE K H ls ks b
  | [], _, b, h, g => by
    cases h
    cases g
    exact .nil
  | p :: l, _, b, ⟨v, r, h1, h2, h3⟩, g => by
    subst h1
    unfold kvEq at g
    cases e1 : valD m p.1 with
    | none =>
      rw [e1] at g
      cases g
      exact .miss ((rm.val p.1).2 e1)
    | some z =>
      rw [e1] at g
      obtain ⟨u, hu1, hu2⟩ := (rm.val p.1).1 z e1
      cases e2 : p.2.pd with
      | none => simp only [e2] at g; cases g
      | some pa =>
        cases e3 : z.pd with
        | none => simp only [e2, e3] at g; cases g
        | some pb =>
          cases e4 : kvEq m l with
          | none => simp only [e2, e3, e4] at g; cases g
          | some rb =>
            simp only [e2, e3, e4] at g
            by_cases hd : pa.depth ≤ 60
            · rw [if_pos hd] at g
              cases g
              exact .hit hu1 ((h2.mono (Xe.of e)).dp e2) ((hu2.mono (Xe.of e)).dp e3) (Dt.pd_plain e2) (Dt.pd_plain e3) hd (kvE_of e rm h3 e4)
            · rw [if_neg hd] at g
              cases g
theorem rEqDic_of {neg : Bool} {a b : Dt} {l m : List (Key × Dt)} {r : Bool} (ha : DicAt ρ a l) (hb : DicAt ρ b m) (h : eqDic l m = some r) (p : P (.bl (neg != r)) ρ) : OpD K (rEqDic K neg) a b ρ P := fun σ F H Q u v s r1 r2 q => by
  obtain ⟨a, ks, rfl, h1, h2⟩ := ha.at_ s r1
  obtain ⟨b, ls, rfl, h3, h4⟩ := hb.at_ s r2
  unfold eqDic at h
  by_cases e : l.length = m.length
  · rw [if_pos e] at h
    refine ⟨a, b, ks, ls, r, rfl, rfl, h1, h3, fun _ => kvE_of s.ex h4 h2 h, ?_⟩
    have e2 : (ks.length == ls.length && r) = r := by rw [h2.len, h4.len, e]; simp
    rw [e2]
    exact q _ ρ _ F H p (Step.refl s) rfl
  · rw [if_neg e] at h
    cases h
    refine ⟨a, b, ks, ls, true, rfl, rfl, h1, h3, fun z => absurd (by rw [h2.len, h4.len] at z; exact z) e, ?_⟩
    have e2 : (ks.length == ls.length && true) = false := by rw [h2.len, h4.len]; simpa using e
    rw [e2]
    exact q _ ρ _ F H p (Step.refl s) rfl
theorem v_eq {d e : Dt} (h : OpD K (rEqU K) d e ρ P) : OpD K (rEqV2 K) d e ρ P := fun σ F H Q u v s r1 r2 q => .inl (h σ F H Q u v s r1 r2 q)
theorem v_ne {d e : Dt} (h : OpD K (rNeU K) d e ρ P) : OpD K (rNeV2 K) d e ρ P := fun σ F H Q u v s r1 r2 q => .inl (h σ F H Q u v s r1 r2 q)
theorem o_eqDic {a b : Dt} {l m : List (Key × Dt)} {r : Bool} (ha : DicAt ρ a l) (hb : DicAt ρ b m) (h : eqDic l m = some r) (p : P (.bl r) ρ) : OpD K (rEqV2 K) a b ρ P := fun σ F H Q u v s r1 r2 q => .inr (rEqDic_of (neg := false) ha hb h (by rw [bne_ff]; exact p) σ F H Q u v s r1 r2 q)
theorem o_neDic {a b : Dt} {l m : List (Key × Dt)} {r : Bool} (ha : DicAt ρ a l) (hb : DicAt ρ b m) (h : eqDic l m = some r) (p : P (.bl (!r)) ρ) : OpD K (rNeV2 K) a b ρ P := fun σ F H Q u v s r1 r2 q => .inr (rEqDic_of (neg := true) ha hb h (by rw [bne_tt]; exact p) σ F H Q u v s r1 r2 q)
end
/-! ### operators of own classes, what is raised at the caller's slots -/
def OpRS (X : Cx) (σ : L2.St) (f : Value → Value → Sem Value) (r : R2) : Prop :=
  ∀ (pins : List (Addr × Obj)) (s : Shared) (H : Hp) (x y : V) (v u : Value) (Q : VK), Inv X pins σ H s → RelV x v → RelV y u → r x y H Q → wpAny (model X.prog X.w) X.A (f v u) (EP X pins σ Q) X.xe s
def tOpS (r : L2.St → R2) (ta tb : TE) : TE := fun σ H Q => ta σ H fun x H1 => tb σ H1 fun y H2 => r σ x y H2 Q
section
variable {X : Cx} {K : Frag} {C g : Addr} {k : Nat} {fd : FuncData} {ps : List Str} {sp : Sp} {W : WX}
theorem OpR.at_ {f : Value → Value → Sem Value} {r : R2} (h : OpR X f r) (σ : L2.St) : OpRS X σ f r := fun pins s H x y v u Q I rx ry q => h pins s σ H x y v u Q I rx ry q
theorem OpRS.or {σ : L2.St} {f : Value → Value → Sem Value} {r r' : R2} (h : OpRS X σ f r) (h' : OpRS X σ f r') : OpRS X σ f (fun x y H Q => r x y H Q ∨ r' x y H Q) := fun pins s H x y v u Q I rx ry q => q.elim (h pins s H x y v u Q I rx ry) (h' pins s H x y v u Q I rx ry)
theorem pe_opS {a b : Expr} {op : Operator} {pos : Pos} {ta tb : TE} {r : L2.St → R2} (ho : ∀ σ, OpRS X σ (binaryOp op) (r σ)) (ha : PE X a ta) (hb : PE X b tb) : PE X (.BinOp a op b pos) (tOpS r ta tb) :=
  ⟨fun pins s σ H Q I h => wpAny_BinOp (binT ha hb I h fun v u s2 x y H2 I2 rx ry q => ho σ pins s2 H2 x y v u Q I2 rx ry q)⟩
/-- what a built-in type has for the operator nm -/
structure BiT (T nm : String) : Prop where
  fl : ∃ r, fillsNumberSlot (.type T) nm = pure r
  lk : ∃ r, typeLookup (.type T) (dunderR nm) = pure r
open PySem.W in
theorem binop1_T {prog : Program} {w : World} {A : Around} {E : Value → Shared → Prop} {s : Shared} {x f : Addr} {ox : Obj} {od : Option Obj} {nm : String} {b : Value} {T : String} {Q : Value → Shared → Prop} (X : K.In s.heap) (I : InstAt s.heap x ox C od)
    (hb : Looks (model prog w) s.heap (typeOf b) (.type T)) (hc : selfFirst K C = true) (hs : findIn K (.ref C) (PySem.dunder nm) = some (some (.ref f))) (hn : findIn K (.ref C) (dunderR nm) = some none) (hf : isFn K (.ref f) = true) (bt : BiT T nm) (hsub : subIn K (.type T) (.ref C) = some false)
    (h : wpAny (model prog w) A (call (.ref f) [.ref x, b]) (PySem.W.CmpBack Q) E s) : wpAny (model prog w) A (binaryOp1 nm (.ref x) b) (fun r s' => ∃ v, r = some v ∧ Q v s') E s := by
  obtain ⟨cd, hcd, hm⟩ := any_some hc
  obtain ⟨rest, hm⟩ : ∃ rest, cd.mro = .ref C :: rest := by
    cases q : cd.mro with
    | nil => rw [q] at hm; cases hm
    | cons a r =>
      rw [q, List.head?_cons] at hm
      cases (beq_iff_eq.mp hm)
      exact ⟨r, rfl⟩
  obtain ⟨r0, hfl⟩ := bt.fl
  obtain ⟨q0, hlk⟩ := bt.lk
  have hit : wpAny (model prog w) A (tryMethod (.ref x) (PySem.dunder nm) b) (fun r s' => ∃ v, r = some v ∧ Q v s') E s := by
    unfold tryMethod
    refine wpAny_bind (special_fn X I hs (beq_iff_eq.mp hf) (wpAny_mono h (fun v s' hv => ?_) fun _ _ e => e))
    cases v <;> first | exact hv.elim | exact wpAny_pure ⟨_, rfl, hv⟩
  unfold binaryOp1
  refine wpAny_bind (I.type.here (wpAny_bind (hb.here (wpAny_bind ((fills_K X hcd hm hs).here ?_)))))
  have ne : ((Value.ref C == Value.type T) = true) = False := by simp
  simp only [ne, if_false]
  refine wpAny_bind (wpAny_of_eq hfl ?_)
  cases r0 with
  | false =>
    simp only [Bool.and_false, Bool.false_eq_true, if_false, Bool.false_and]
    refine wpAny_bind (wpAny_pure ?_)
    simp only [Bool.false_eq_true, if_false, if_true]
    refine wpAny_bind (wpAny_mono hit (fun r s' hr => ?_) fun _ _ e => e)
    obtain ⟨v, rfl, hq⟩ := hr
    exact wpAny_pure ⟨v, rfl, hq⟩
  | true =>
    simp only [Bool.and_true, if_true]
    refine wpAny_bind ((looks_subIn X hsub).here ?_)
    simp only [Bool.false_eq_true, if_false, Bool.not_false, Bool.and_true, if_true]
    have py : wpAny (model prog w) A (numberSlotInPython (.ref C) nm) (fun r s' => r = true ∧ s' = s) E s := by
      unfold numberSlotInPython
      refine wpAny_bind (looks_findIn X hs |>.here ?_)
      refine wpAny_bind (wpAny_pure ?_)
      refine wpAny_bind (looks_findIn X hn |>.here ?_)
      refine wpAny_bind (wpAny_pure ?_)
      simp only [Bool.or_false, if_true]
      exact wpAny_pure ⟨rfl, rfl⟩
    refine wpAny_bind (wpAny_mono py (fun r s1 hr => ?_) fun _ _ e => e)
    obtain ⟨rfl, rfl⟩ := hr
    simp only [if_true]
    refine wpAny_bind (wpAny_of_eq (a := false) rfl ?_)
    simp only [Bool.not_false, if_true]
    refine wpAny_bind (wpAny_of_eq hlk (wpAny_bind (wpAny_mono hit (fun r s2 hr => ?_) fun _ _ e => e)))
    obtain ⟨v, rfl, hq⟩ := hr
    exact wpAny_pure ⟨v, rfl, hq⟩
theorem binop_T {prog : Program} {w : World} {A : Around} {E : Value → Shared → Prop} {s : Shared} {x f : Addr} {ox : Obj} {od : Option Obj} {op : Operator} {b : Value} {T : String} {Q : Value → Shared → Prop} (X : K.In s.heap) (I : PySem.W.InstAt s.heap x ox C od)
    (hb : PySem.W.Looks (model prog w) s.heap (typeOf b) (.type T)) (hc : PySem.W.selfFirst K C = true) (hs : PySem.W.findIn K (.ref C) (PySem.dunder op.info.2) = some (some (.ref f))) (hn : PySem.W.findIn K (.ref C) (dunderR op.info.2) = some none) (hf : PySem.W.isFn K (.ref f) = true) (bt : BiT T op.info.2) (hsub : PySem.W.subIn K (.type T) (.ref C) = some false)
    (h : wpAny (model prog w) A (call (.ref f) [.ref x, b]) (PySem.W.CmpBack Q) E s) : wpAny (model prog w) A (binaryOp op (.ref x) b) Q E s := by
  unfold binaryOp
  refine wpAny_holding (wpAny_bind (wpAny_mono (binop1_T X I hb hc hs hn hf bt hsub h) (fun r s' hr => ?_) fun _ _ e => e))
  obtain ⟨v, rfl, hq⟩ := hr
  exact wpAny_pure hq
/-- what a built-in operand must have -/
def OthT (K : Frag) (C : Addr) (nm : String) (t : Value) : Prop := t = .ref C ∨ ∃ T, t = .type T ∧ BiT T nm ∧ PySem.W.subIn K (.type T) (.ref C) = some false
def rOwnOp (K : Frag) (C : Addr) (nm : String) (sp : Sp) (E : XK) : R2 := fun x y H Q => ∃ a dx fs t, x = .ref a ∧ H a = some (.ins C dx fs) ∧ TyX K H y t ∧ OthT K C nm t ∧ sp [x, y] H Q E
theorem op_ownS {op : Operator} (hK : X.K = K) (c : ClC K C) (hm : Meth K C (PySem.dunder op.info.2) g) (hn : NoAttr K C (dunderR op.info.2)) (F : FnOk X.prog X.w X.K X.mg X.base (L2.CX X.prog X.w) k g fd ps sp) (hr : Room k X.A) (hb : Binds X.K fd ps []) (tk : Takes X W) (σ : L2.St) :
    OpRS X σ (binaryOp op) (rOwnOp K C op.info.2 sp (WE W σ)) := by
  subst hK
  intro pins s H x y v u Q I rx ry h
  obtain ⟨a, dx, fs, t, rfl, ha, ty, ot, q⟩ := h
  cases (show v = Value.ref a from rx)
  obtain ⟨mA, O, _, _, _, _⟩ := ins_get I.hok ha
  obtain ⟨od, J, _⟩ := O.look
  obtain ⟨Pz, Z, pz, _⟩ := kit_of I ry ty
  obtain ⟨m, hF⟩ := I.fr
  have run : wpAny (model X.prog X.w) X.A (call (.ref g) [.ref a, u]) (PySem.W.CmpBack (EP X pins σ Q)) X.xe s :=
    wpAny_mono (run_fnS (us := [.ref a, u]) (vs := [.ref a, y]) F hr hb (passAt tk σ) I (.cons rfl (.cons ry .nil)) q) (fun w s' ⟨z, H', I', rz, qz⟩ => SlX.cmpback rz ⟨z, H', I', rz, qz⟩) fun _ _ e => e
  rcases ot with rfl | ⟨T, rfl, bt, hsub⟩
  · exact PySem.W.binop_K hF I.ok.mod.kin J (Z.ty _ _ I.kIn pz) c.sf hm.at_ hm.fn run
  · exact binop_T I.kIn J (Z.ty _ _ I.kIn pz) c.sf hm.at_ hn hm.fn bt hsub run
/-- x == y by an own __eq__ that raises nothing -/
def rOwnEq (K : Frag) (C : Addr) (sp : Sp) : R2 := fun x y H Q => ∃ a dx fs t, x = .ref a ∧ H a = some (.ins C dx fs) ∧ TyX K H y t ∧ PySem.W.notFirst K C t = true ∧ sp [x, y] H Q (fun _ _ _ => False)
theorem op_ownEq (hK : X.K = K) (hm : Meth K C "__eq__" g) (F : FnOk X.prog X.w X.K X.mg X.base (L2.CX X.prog X.w) k g fd ps sp) (hr : Room k X.A) (hb : Binds X.K fd ps []) : OpR X (compareOp .Eq) (rOwnEq K C sp) := by
  subst hK
  intro pins s σ H x y v u Q I rx ry h
  obtain ⟨a, dx, fs, t, rfl, ha, ty, ot, q⟩ := h
  cases (show v = Value.ref a from rx)
  obtain ⟨mA, O, _, _, _, _⟩ := ins_get I.hok ha
  obtain ⟨od, J, _⟩ := O.look
  obtain ⟨Pz, Z, pz, _⟩ := kit_of I ry ty
  obtain ⟨m, hF⟩ := I.fr
  refine PySem.W.cmp_K (op := .Eq) hr.units0 hF I.ok.mod.kin J (Z.ty _ _ I.kIn pz) ot hm.at_ hm.fn ?_
  exact wpAny_mono (run_fnS (us := [.ref a, u]) (vs := [.ref a, y]) (E := fun _ => fun _ _ _ => False) F hr hb (passAt takes0 σ) I (.cons rfl (.cons ry .nil)) q) (fun w s' ⟨z, H', I', rz, qz⟩ => SlX.cmpback rz ⟨z, H', I', rz, qz⟩) fun _ _ e => e
/-- str(x) by an own __str__ -/
def rOwnStr (C : Addr) (sp : Sp) : List V → Hp → VK → Prop := fun xs H Q => ∃ a dx fs, xs = [.ref a] ∧ H a = some (.ins C dx fs) ∧ sp [.ref a] H (fun v H' => (∃ z, v = .str z) ∧ Q v H') (fun _ _ _ => False)
theorem call_ownStr (hK : X.K = K) (hm : Meth K C "__str__" g) (F : FnOk X.prog X.w X.K X.mg X.base (L2.CX X.prog X.w) k g fd ps sp) (hr : Room (k + 2) X.A) (hb : Binds X.K fd ps []) : CallR X (.type "str") (rOwnStr C sp) := by
  subst hK
  intro pins s σ H xs us Q I r h
  obtain ⟨a, dx, fs, rfl, ha, q⟩ := h
  obtain ⟨u, rfl, ru⟩ := r.one
  cases (show u = Value.ref a from ru)
  obtain ⟨mA, O, _, _, _, _⟩ := ins_get I.hok ha
  obtain ⟨od, J, _⟩ := O.look
  have hr2 : Room k X.A.in1.in1 := (show Room (k + 1) X.A.in1 from Room.in1 hr).in1
  refine PySem.W.kso_call hr2.units0 I.kIn J hm.at_ hm.fn ?_
  have hl : [Value.ref a].length = ps.length := F.len [V.ref a] _ _ _ q
  have b := hb s [.ref a] I.kIn (by rw [List.append_nil]; exact hl)
  rw [List.append_nil] at b
  refine wpAny_call (codeAny_mono (F.run X.A.in1.in1 X.stack s H ⟨[.ref a], []⟩ [.ref a] [.ref a] _ (fun _ _ _ => False) hr2 I.env0.in1.in1 b (.cons rfl .nil) q) fun res s' got => ?_)
  cases res with
  | error er => exact passAt takes0 σ pins H s er s' I got
  | ok fl =>
    cases fl with
    | ret w =>
      obtain ⟨z, H', I', rz, ⟨y, rfl⟩, qz⟩ := I.after got
      obtain ⟨t, rfl⟩ := (show ∃ t, w = Value.str y t from rz)
      exact ⟨.str y, H', I', ⟨t, rfl⟩, qz⟩
    | next => exact got.elim
    | brk => exact got.elim
    | cont => exact got.elim
end
/-! ### by data -/
section
variable {K : Frag} {W : WX} {σ σ1 : L2.St} {ρ ρ1 : En} {F F1 H H1 : Hp} {x : PX} {P : Dt → En → Prop} {C : Addr} {S : Fsp}
def OpX (K : Frag) (W : WX) (r : L2.St → R2) (d e : Dt) (ρ : En) (x : PX) (P : Dt → En → Prop) : Prop :=
  ∀ (σ : L2.St) (F H : Hp) (Q : VK) (u v : V), Sym K F H σ ρ → RepV K F σ d u → RepV K F σ e v → (∀ d' ρ' v' F' H', P d' ρ' → Step K σ ρ F H σ ρ' F' H' → RepV K F' σ d' v' → Q v' H') →
    (∀ c ρ' cls dd F' H', x c ρ' → Step K σ ρ F H σ ρ' F' H' → XOk K F' c cls dd → W cls dd σ H') → r σ u v H Q
theorem e_opS {r : L2.St → R2} {ta tb : TE} (h : EvD K W ta ρ x fun d ρ1 => EvD K W tb ρ1 x fun e ρ2 => OpX K W r d e ρ2 x P) : EvD K W (tOpS r ta tb) ρ x P := fun σ F H Q s q w =>
  h σ F H _ s (fun d ρ1 v F1 H1 p1 s1 r1 => p1 σ F1 H1 _ s1.sym (fun e ρ2 u F2 H2 p2 s2 r2 => p2 σ F2 H2 Q v u s2.sym (r1.mono s2.exF) r2 (fun d' ρ3 v' F3 H3 p3 s3 r3 => q d' ρ3 v' F3 H3 p3 ((s1.trans s2).trans s3) r3)
      fun c ρ' cls dd F' H' px st xo => w c ρ' cls dd F' H' px ((s1.trans s2).trans st) xo)
    fun c ρ' cls dd F' H' px st xo => w c ρ' cls dd F' H' px (s1.trans st) xo) w
def rOrS (r0 : R2) (r1 : L2.St → R2) : L2.St → R2 := fun σ x y H Q => r0 x y H Q ∨ r1 σ x y H Q
theorem ox_l {r0 : R2} {r1 : L2.St → R2} {d e : Dt} (h : OpD K r0 d e ρ P) : OpX K W (rOrS r0 r1) d e ρ x P := fun σ F H Q u v s r1 r2 q _ => .inl (h σ F H Q u v s r1 r2 q)
/-- the type of data -/
def TyD (K : Frag) (d : Dt) (t : Value) : Prop := (∃ T, d.tyN = some T ∧ t = .type T) ∨ ∃ C fs ds, d = .ins C fs ds ∧ ClC K C ∧ t = .ref C
theorem TyD.tyX {d : Dt} {t : Value} {v : V} (h : TyD K d t) (r : Rep K F d v) (e : Ex F H) : TyX K H v t := by
  rcases h with ⟨T, h, rfl⟩ | ⟨C, fs, ds, rfl, c, rfl⟩
  · exact tyX_of r e h
  · unfold Rep at r
    obtain ⟨a, dx, xs, rfl, h1, _, _⟩ := r
    exact .base (.ins (e _ _ h1) c.cl c.is.ha c.is.hn c.is.htk c.is.hm)
theorem o_ownOp {r0 : R2} {nm : String} {d e : Dt} {t : Value} {fs : List Str} {ds : List Dt} (hd : d = .ins C fs ds) (hr : e.real = true) (ht : TyD K e t) (ho : OthT K C nm t) (i : S.I) (hi : [d, e] = S.arg i) (hp : S.pre i) (hk : ∀ z, S.post i z → P z ρ) (hx : ∀ c, S.exc i c → x c ρ) :
    OpX K W (rOrS r0 fun σ => rOwnOp K C nm (DSp K S) (WE W σ)) d e ρ x P := fun σ F H Q u v s r1 r2 q w => by
  subst hd
  have e1 : Rep K F (.ins C fs ds) u := r1
  have e1' := e1
  unfold Rep at e1
  obtain ⟨a, dx, xs, rfl, h1, h2, h3⟩ := e1
  have e2 := r2.real hr
  refine .inr ⟨a, dx, _, t, rfl, s.ex _ _ h1, ht.tyX e2 s.ex, ho, F, i, s.ex, ?_, hp, fun z pz v' H' g rd => q z ρ v' _ H' (hk z pz) (Step.growG s g) rd.toV, fun c pc cls dd H' g xo => w c ρ cls dd _ H' (hx c pc) (Step.growG s g) xo⟩
  rw [← hi]
  exact repL_cons e1' (repL_cons e2 repL_nil)
theorem o_ownEq {d e : Dt} {t : Value} {fs : List Str} {ds : List Dt} (hd : d = .ins C fs ds) (hr : e.real = true) (ht : TyD K e t) (ho : PySem.W.notFirst K C t = true) (i : S.I) (hi : [d, e] = S.arg i) (hp : S.pre i) (hk : ∀ z, S.post i z → P z ρ) (hx : ∀ c, ¬ S.exc i c) :
    OpD K (rOwnEq K C (DSp K S)) d e ρ P := fun σ F H Q u v s r1 r2 q => by
  subst hd
  have e1 : Rep K F (.ins C fs ds) u := r1
  have e1' := e1
  unfold Rep at e1
  obtain ⟨a, dx, xs, rfl, h1, h2, h3⟩ := e1
  have e2 := r2.real hr
  refine ⟨a, dx, _, t, rfl, s.ex _ _ h1, ht.tyX e2 s.ex, ho, F, i, s.ex, ?_, hp, fun z pz v' H' g rd => q z ρ v' _ H' (hk z pz) (Step.growG s g) rd.toV, fun c pc => absurd pc (hx c)⟩
  rw [← hi]
  exact repL_cons e1' (repL_cons e2 repL_nil)
theorem o_or1 {r r' : R2} {d e : Dt} (h : OpD K r d e ρ P) : OpD K (fun x y H Q => r x y H Q ∨ r' x y H Q) d e ρ P := fun σ F H Q u v s r1 r2 q => .inl (h σ F H Q u v s r1 r2 q)
theorem o_or2 {r r' : R2} {d e : Dt} (h : OpD K r' d e ρ P) : OpD K (fun x y H Q => r x y H Q ∨ r' x y H Q) d e ρ P := fun σ F H Q u v s r1 r2 q => .inr (h σ F H Q u v s r1 r2 q)
theorem c_or1 {r r' : List V → Hp → VK → Prop} {ds : List Dt} (h : CaD K r ds ρ P) : CaD K (fun xs H Q => r xs H Q ∨ r' xs H Q) ds ρ P := fun σ F H Q us s r q => .inl (h σ F H Q us s r q)
theorem c_or2 {r r' : List V → Hp → VK → Prop} {ds : List Dt} (h : CaD K r' ds ρ P) : CaD K (fun xs H Q => r xs H Q ∨ r' xs H Q) ds ρ P := fun σ F H Q us s r q => .inr (h σ F H Q us s r q)
theorem cn_or1 {r r' : List V → Hp → VK → Prop} {ds : List Dt} (h : CaN K r ds ρ P) : CaN K (fun xs H Q => r xs H Q ∨ r' xs H Q) ds ρ P := fun σ F H Q us s r q => .inl (h σ F H Q us s r q)
theorem cn_or2 {r r' : List V → Hp → VK → Prop} {ds : List Dt} (h : CaN K r' ds ρ P) : CaN K (fun xs H Q => r xs H Q ∨ r' xs H Q) ds ρ P := fun σ F H Q us s r q => .inr (h σ F H Q us s r q)
theorem c_ownStr {fs : List Str} {ds : List Dt} (i : S.I) (hi : [.ins C fs ds] = S.arg i) (hp : S.pre i) (hk : ∀ z, S.post i z → (∃ y, z = .str y) ∧ P z ρ) (hx : ∀ c, ¬ S.exc i c) : CaD K (rOwnStr C (DSp K S)) [.ins C fs ds] ρ P := fun σ F H Q us s r q => by
  obtain ⟨v, _, rfl, rv, rfl⟩ := r
  have e1 : Rep K F (.ins C fs ds) v := rv
  have e1' := e1
  unfold Rep at e1
  obtain ⟨a, dx, xs, rfl, h1, h2, h3⟩ := e1
  refine ⟨a, dx, _, rfl, s.ex _ _ h1, F, i, s.ex, ?_, hp, fun z pz v' H' g rd => ?_, fun c pc => absurd pc (hx c)⟩
  · rw [← hi]
    exact repL_cons e1' repL_nil
  · obtain ⟨⟨y, rfl⟩, pp⟩ := hk z pz
    refine ⟨⟨y, by unfold Rep at rd; exact rd⟩, q _ ρ v' _ H' pp (Step.growG s g) rd.toV⟩
end
/-! types and operators -/
theorem bi_of {T nm : String} {f r : Option Value} (hf : typeLookup (.type T) (dunder nm) = pure f) (hr : typeLookup (.type T) (dunderR nm) = pure r) : BiT T nm := by
  refine ⟨⟨(f.isSome && !isSeqSlot f) || (r.isSome && !isSeqSlot r), ?_⟩, ⟨r, hr⟩⟩
  unfold fillsNumberSlot
  simp only [hf, hr, pure_bind]
theorem bi_int_mul : BiT "int" "mul" := bi_of (f := some (.builtin "int.__mul__")) (r := some (.builtin "int.__rmul__")) (by rw [typeLookup_type, builtinLookup_eq_fast]; kernel_rfl) (by rw [typeLookup_type, builtinLookup_eq_fast]; kernel_rfl)
theorem bi_bool_mul : BiT "bool" "mul" := bi_of (f := some (.builtin "int.__mul__")) (r := some (.builtin "int.__rmul__")) (by rw [typeLookup_type, builtinLookup_eq_fast]; kernel_rfl) (by rw [typeLookup_type, builtinLookup_eq_fast]; kernel_rfl)
theorem bi_none_mul : BiT "NoneType" "mul" := bi_of (f := none) (r := none) (by rw [typeLookup_type, builtinLookup_eq_fast]; kernel_rfl) (by rw [typeLookup_type, builtinLookup_eq_fast]; kernel_rfl)
theorem bi_str_mul : BiT "str" "mul" := bi_of (f := some (.builtin "str.__mul__")) (r := some (.builtin "str.__rmul__")) (by rw [typeLookup_type, builtinLookup_eq_fast]; kernel_rfl) (by rw [typeLookup_type, builtinLookup_eq_fast]; kernel_rfl)
theorem bi_list_mul : BiT "list" "mul" := bi_of (f := some (.builtin "list.__mul__")) (r := some (.builtin "list.__rmul__")) (by rw [typeLookup_type, builtinLookup_eq_fast]; kernel_rfl) (by rw [typeLookup_type, builtinLookup_eq_fast]; kernel_rfl)
end DL
set_option Elab.async false
set_option linter.all false
set_option maxRecDepth 100000
set_option autoImplicit false
set_option maxHeartbeats 4000000
/-! lists, texts, sorting -/
namespace DL
open PySem L2 Evl PyProof.Rows
/-- a list in hand; a list or a tuple -/
def LstAt (ρ : En) (e : Dt) (ds : List Dt) : Prop := e = .lst ds ∨ ∃ k b, e = .own k ∧ ρ[k]? = some (.ow b (.lst ds))
section
variable {K : Frag} {W : WX} {σ σ1 : L2.St} {ρ ρ1 : En} {F F1 H H1 : Hp} {x : PX} {P : Dt → En → Prop} {ds es : List Dt}
theorem LstAt.at_ {e : Dt} {u : V} (d : LstAt ρ e ds) (s : Sym K F H σ ρ) (r : RepV K F σ e u) : ∃ a xs, u = .ref a ∧ SqL K H a xs ∧ RepL K F ds xs := by
  rcases d with rfl | ⟨k, b, rfl, hk⟩
  · have h : Rep K F (.lst ds) u := r
    unfold Rep at h
    obtain ⟨a, xs, rfl, h1, h2⟩ := h
    exact ⟨a, xs, rfl, ex_l s.ex h1, h2⟩
  · obtain ⟨a, e1, e2, xs, h1, h2⟩ := s.ow k b _ hk
    have eu : u = .ref a := by
      have z : σ[k]? = some (some u) := r
      rw [e1] at z
      exact (Option.some.inj (Option.some.inj z)).symm
    exact ⟨a, xs, eu, sq_of h1, h2⟩
/-! ### list + list -/
def rCatL (K : Frag) : R2 := fun x y H Q => ∃ l b xs zs, x = .ref l ∧ y = .ref b ∧ SqL K H l xs ∧ SqL K H b zs ∧ xs.length + zs.length ≤ sizeLine ∧ ∀ p, H p = none → Q (.ref p) (upd H p (.lst (xs ++ zs)))
theorem op_catL {X : Cx} : OpR X (binaryOp .Add) (rCatL X.K) := by
  intro pins s σ H x y v u Q I rx ry h
  obtain ⟨l, b, xs, zs, rfl, rfl, h1, h2, hz, q⟩ := h
  cases (show v = Value.ref l from rx)
  cases (show u = Value.ref b from ry)
  obtain ⟨i1, r1, p1, _⟩ := I.list h1
  obtain ⟨i2, r2, p2, _⟩ := I.list h2
  obtain ⟨⟨c1, d1, t1, sl1⟩, o1, e1, n1, f1⟩ := id p1.isList
  obtain ⟨⟨c2, d2, t2, sl2⟩, o2, e2, n2, f2⟩ := id p2.isList
  simp only at e1 f1 e2 f2
  subst e1 f1 e2 f2
  have l1 := r1.length
  have l2 := r2.length
  refine concat_meets ⟨_, o1, rfl⟩ ⟨_, o2, rfl⟩ noFill_list_add seq_list_add PySem.F.slot_list_add PySem.F.entry_list_add (PySem.F.args_list_add_2 _ _) (list_addW l b i1.toArray i2.toArray n1 n2 d1 d2 sl1 sl2 (by simp; omega)) ⟨o1, o2, ?_⟩
  rw [show i1.toArray ++ i2.toArray = (i1 ++ i2).toArray by simp]
  exact ⟨.ref _, _, I.lnew (t' := s.toks) (r1.append r2) (by rw [List.length_append]; omega), rfl, q _ I.fresh⟩
def rAddV (K : Frag) : R2 := fun x y H Q => rAddU K x y H Q ∨ rCatL K x y H Q
theorem op_addV {X : Cx} (hK : X.K = K) : OpR X (binaryOp .Add) (rAddV K) := hK ▸ op_addU.or op_catL
theorem v_add {d e : Dt} (h : OpD K (rAddU K) d e ρ P) : OpD K (rAddV K) d e ρ P := fun σ F H Q u v s r1 r2 q => .inl (h σ F H Q u v s r1 r2 q)
/-- an operation that makes a new object -/
def OpN (K : Frag) (r : R2) (d e : Dt) (ρ : En) (P : Dt → En → Prop) : Prop :=
  ∀ (σ : L2.St) (F H : Hp) (Q : VK) (u v : V), Sym K F H σ ρ → RepV K F σ d u → RepV K F σ e v → (∀ d' ρ' p o F' H', P d' ρ' → Step K σ ρ F H σ ρ' F' H' → H' p = none → Own K F' (upd H' p o) p d' → Q (.ref p) (upd H' p o)) → r u v H Q
theorem n_op {r : R2} {ta tb : TE} (h : EvD K W ta ρ x fun d ρ1 => EvD K W tb ρ1 x fun e ρ2 => OpN K r d e ρ2 P) : EvN K W (tOp r ta tb) ρ x P := fun σ F H Q s q w =>
  h σ F H _ s (fun d ρ1 v F1 H1 p1 s1 r1 => p1 σ F1 H1 _ s1.sym (fun e ρ2 u F2 H2 p2 s2 r2 => p2 σ F2 H2 Q v u s2.sym (r1.mono s2.exF) r2 fun d' ρ3 p o F3 H3 p3 s3 hp ho => q d' ρ3 p o F3 H3 p3 ((s1.trans s2).trans s3) hp ho)
    fun c ρ' cls dd F' H' px st xo => w c ρ' cls dd F' H' px (s1.trans st) xo) w
theorem o_new {r : R2} {d e : Dt} (h : OpN K r d e ρ P) : OpD K r d e ρ P := fun σ F H Q u v s r1 r2 q =>
  h σ F H Q u v s r1 r2 fun d' ρ' p o F' H' pp st hp ho => q d' ρ' (.ref p) _ _ pp (st.trans (Step.grow st.sym (Ex.new hp))) (rep_own ho hp st.sym.ex).toV
theorem on_cat {d e : Dt} (hd : LstAt ρ d ds) (he : LstAt ρ e es) (hl : ds.length + es.length ≤ 100000) (p : P (.lst (ds ++ es)) ρ) : OpN K (rAddV K) d e ρ P := fun σ F H Q u v s r1 r2 q => by
  obtain ⟨a, xs, rfl, h1, h2⟩ := hd.at_ s r1
  obtain ⟨b, ys, rfl, h3, h4⟩ := he.at_ s r2
  refine .inr ⟨a, b, xs, ys, rfl, rfl, h1, h3, ?_, fun z hz => q _ ρ z _ F H p (Step.refl s) hz ⟨_, upd_same, h2.app h4⟩⟩
  rw [h2.length, h4.length]
  exact Nat.le_trans hl (by decide)
theorem o_cat {d e : Dt} (hd : LstAt ρ d ds) (he : LstAt ρ e es) (hl : ds.length + es.length ≤ 100000) (p : P (.lst (ds ++ es)) ρ) : OpD K (rAddV K) d e ρ P := o_new (on_cat hd he hl p)
/-! ### list(x), tuple(x) -/
def rListU (K : Frag) : List V → Hp → VK → Prop := fun xs H Q => (∃ p ys, xs = [.ref p] ∧ (SqL K H p ys ∨ SqT K H p ys) ∧ ∀ l, H l = none → Q (.ref l) (upd H l (.lst ys))) ∨
  ∃ (a : Addr) (kvs : List (Key × V)), xs = [.ref a] ∧ Rd H a (.dK kvs) ∧ ∀ p, H p = none → Q (.ref p) (upd H p (.lst (kvs.map fun kv => kV kv.1)))
theorem call_listU {X : Cx} (hK : X.K = K) (hc : X.calm = true) : CallR X (.type "list") (rListU K) := hK ▸ call_list_of.or (call_listD hc)
theorem cn_list {d : Dt} (hd : LstAt ρ d ds) (p : P (.lst ds) ρ) : CaN K (rListU K) [d] ρ P := fun σ F H Q us s r q => by
  obtain ⟨v, _, rfl, rv, rfl⟩ := r
  obtain ⟨a, xs, rfl, h1, h2⟩ := hd.at_ s rv
  exact .inl ⟨a, xs, rfl, .inl h1, fun z hz => q _ ρ z _ F H p (Step.refl s) hz ⟨_, upd_same, h2⟩⟩
theorem cn_listT (p : P (.lst ds) ρ) : CaN K (rListU K) [.tup ds] ρ P := fun σ F H Q us s r q => by
  obtain ⟨v, _, rfl, rv, rfl⟩ := r
  have e : Rep K F (.tup ds) v := rv
  unfold Rep at e
  obtain ⟨a, xs, rfl, h1, h2⟩ := e
  exact .inl ⟨a, xs, rfl, .inr (ex_t s.ex h1), fun z hz => q _ ρ z _ F H p (Step.refl s) hz ⟨_, upd_same, h2⟩⟩
theorem repL_keys : ∀ {l : List (Key × Dt)} {kvs : List (Key × V)}, RepKV K F l kvs → RepL K F (keysD l) (kvs.map fun kv => kV kv.1)
  | [], _, h => by cases h; exact repL_nil
  | p :: l, _, ⟨v, r, h1, h2, h3⟩ => by
    subst h1
    exact repL_cons key_rep (repL_keys h3)
theorem cn_listD {d : Dt} {l : List (Key × Dt)} (hd : DicAt ρ d l) (p : P (.lst (keysD l)) ρ) : CaN K (rListU K) [d] ρ P := fun σ F H Q us s r q => by
  obtain ⟨v, _, rfl, rv, rfl⟩ := r
  obtain ⟨a, kvs, rfl, h1, h2⟩ := hd.at_ s rv
  exact .inr ⟨a, kvs, rfl, h1, fun z hz => q _ ρ z _ F H p (Step.refl s) hz ⟨_, upd_same, repL_keys h2⟩⟩
def rTupU (K : Frag) : List V → Hp → VK → Prop := fun xs H Q => ∃ p ys, xs = [.ref p] ∧ ((SqL K H p ys ∧ ∀ l, H l = none → Q (.ref l) (upd H l (.tup ys))) ∨ (SqT K H p ys ∧ Q (.ref p) H))
theorem call_tupU {X : Cx} (hK : X.K = K) : CallR X (.type "tuple") (rTupU K) := hK ▸ call_tuple_of
theorem c_tupL {d : Dt} (hd : LstAt ρ d ds) (p : P (.tup ds) ρ) : CaD K (rTupU K) [d] ρ P := fun σ F H Q us s r q => by
  obtain ⟨v, _, rfl, rv, rfl⟩ := r
  obtain ⟨a, xs, rfl, h1, h2⟩ := hd.at_ s rv
  refine ⟨a, xs, rfl, .inl ⟨h1, fun b hb => ?_⟩⟩
  have g : Ex H (upd H b (.tup xs)) := Ex.new hb
  refine q (.tup ds) ρ (.ref b) _ _ p (Step.grow s g) ?_
  show Rep K (Fz F H (upd H b (.tup xs))) (.tup ds) (.ref b)
  unfold Rep
  exact ⟨b, xs, rfl, st_of (fz_at hb), h2.mono (fz_ex s.ex g)⟩
theorem c_tupT (p : P (.tup ds) ρ) : CaD K (rTupU K) [.tup ds] ρ P := fun σ F H Q us s r q => by
  obtain ⟨v, _, rfl, rv, rfl⟩ := r
  have e : Rep K F (.tup ds) v := rv
  have e' := e
  unfold Rep at e
  obtain ⟨a, xs, rfl, h1, h2⟩ := e
  exact ⟨a, xs, rfl, .inr ⟨ex_t s.ex h1, q _ ρ _ F H p (Step.refl s) e'⟩⟩
/-! ### slices of lists -/
theorem cutV_rep {lo hi : Option Int} {xs : List V} (r : RepL K F ds xs) : RepL K F (ds.drop (HT.sIx ds.length 0 lo) |>.take (HT.sIx ds.length ds.length hi - HT.sIx ds.length 0 lo)) (cutV xs lo hi) := by
  have hl := r.length
  have dr : ∀ (n : Nat) {ds : List Dt} {xs : List V}, RepL K F ds xs → RepL K F (ds.drop n) (xs.drop n) := by
    intro n
    induction n with
    | zero => intro ds xs r; exact r
    | succ n ih =>
      intro ds xs r
      cases ds with
      | nil => unfold RepL at r; subst r; exact repL_nil
      | cons d ds => unfold RepL at r; obtain ⟨v, r', rfl, _, h⟩ := r; exact ih h
  have tk : ∀ (n : Nat) {ds : List Dt} {xs : List V}, RepL K F ds xs → RepL K F (ds.take n) (xs.take n) := by
    intro n
    induction n with
    | zero => intro ds xs r; exact repL_nil
    | succ n ih =>
      intro ds xs r
      cases ds with
      | nil => unfold RepL at r; subst r; exact repL_nil
      | cons d ds => unfold RepL at r; obtain ⟨v, r', rfl, h0, h⟩ := r; exact repL_cons h0 (ih h)
  show RepL K F _ ((xs.drop (HT.sIx xs.length 0 lo)).take (HT.sIx xs.length xs.length hi - HT.sIx xs.length 0 lo))
  rw [hl]
  exact tk _ (dr _ r)
def cutD (ds : List Dt) (lo hi : Option Int) : List Dt := (ds.drop (HT.sIx ds.length 0 lo)).take (HT.sIx ds.length ds.length hi - HT.sIx ds.length 0 lo)
def SlN (K : Frag) (r : V → Option Int → Option Int → Hp → VK → Prop) (d : Dt) (lo hi : Option Int) (ρ : En) (P : Dt → En → Prop) : Prop :=
  ∀ (σ : L2.St) (F H : Hp) (Q : VK) (u : V), Sym K F H σ ρ → RepV K F σ d u → (∀ d' ρ' p o F' H', P d' ρ' → Step K σ ρ F H σ ρ' F' H' → H' p = none → Own K F' (upd H' p o) p d' → Q (.ref p) (upd H' p o)) → r u lo hi H Q
theorem n_sl {r : V → Option Int → Option Int → Hp → VK → Prop} {te : TE} {tl th : TO} (h : EvD K W te ρ x fun d ρ1 => PtD K W tl ρ1 x fun lo ρ2 => PtD K W th ρ2 x fun hi ρ3 => SlN K r d lo hi ρ3 P) : EvN K W (L2.tSl r te tl th) ρ x P := fun σ F H Q s q w =>
  h σ F H _ s (fun d ρ1 v F1 H1 p1 s1 r1 => p1 σ F1 H1 _ s1.sym (fun lo ρ2 F2 H2 p2 s2 => p2 σ F2 H2 _ s2.sym (fun hi ρ3 F3 H3 p3 s3 => p3 σ F3 H3 Q v s3.sym ((r1.mono s2.exF).mono s3.exF) fun d' ρ4 p o F4 H4 p4 s4 hp ho => q d' ρ4 p o F4 H4 p4 (((s1.trans s2).trans s3).trans s4) hp ho)
      fun c ρ' cls dd F' H' px st xo => w c ρ' cls dd F' H' px ((s1.trans s2).trans st) xo)
    fun c ρ' cls dd F' H' px st xo => w c ρ' cls dd F' H' px (s1.trans st) xo) w
theorem ln_list {d : Dt} {lo hi : Option Int} (hd : LstAt ρ d ds) (p : P (.lst (cutD ds lo hi)) ρ) : SlN K (rSlU K) d lo hi ρ P := fun σ F H Q u s e q => by
  obtain ⟨a, xs, rfl, h1, h2⟩ := hd.at_ s e
  exact .inr (.inl ⟨a, xs, rfl, h1, fun z hz => q _ ρ z _ F H p (Step.refl s) hz ⟨_, upd_same, cutV_rep h2⟩⟩)
theorem l_list {d : Dt} {lo hi : Option Int} (hd : LstAt ρ d ds) (p : P (.lst (cutD ds lo hi)) ρ) : SlD K (rSlU K) d lo hi ρ P := fun σ F H Q u s e q =>
  ln_list (P := P) hd p σ F H Q u s e fun d' ρ' b o F' H' pp st hp ho => q d' ρ' (.ref b) _ _ pp (st.trans (Step.grow st.sym (Ex.new hp))) (rep_own ho hp st.sym.ex).toV
/-- xs[::-1] -/
theorem n_rev {te : TE} (h : EvD K W te ρ x fun d ρ1 => ∃ ds, LstAt ρ1 d ds ∧ P (.lst ds.reverse) ρ1) : EvN K W (tRevL K te) ρ x P := fun σ F H Q s q w =>
  h σ F H _ s (fun d ρ1 v F1 H1 p1 s1 r1 => by
    obtain ⟨ds, hd, p⟩ := p1
    obtain ⟨a, xs, rfl, h1, h2⟩ := hd.at_ s1.sym r1
    have rv : ∀ {ds : List Dt} {xs : List V}, RepL K F1 ds xs → RepL K F1 ds.reverse xs.reverse := by
      intro ds
      induction ds with
      | nil => intro xs r; unfold RepL at r; subst r; exact repL_nil
      | cons d ds ih =>
        intro xs r
        unfold RepL at r
        obtain ⟨v, r', rfl, h0, h⟩ := r
        rw [List.reverse_cons, List.reverse_cons]
        exact (ih h).app (repL_cons h0 repL_nil)
    exact ⟨a, xs, rfl, h1, fun z hz => q _ ρ1 z _ F1 H1 p s1 hz ⟨_, upd_same, rv h2⟩⟩) w
/-! ### sorted texts -/
def leS (a b : Str) : Bool := !decide (b.cps.toList < a.cps.toList)
def sortS (xs : List Str) : List Str := xs.mergeSort leS
theorem leS_trans (a b c : Str) (h : leS a b = true) (g : leS b c = true) : leS a c = true := by
  unfold leS at *
  simp only [Bool.not_eq_true', decide_eq_false_iff_not] at *
  exact fun z => by
    have h1 := List.not_lt.mp h
    have h2 := List.not_lt.mp g
    exact absurd z (List.not_lt.mpr (List.le_trans h1 h2))
theorem leS_total (a b : Str) : (leS a b || leS b a) = true := by
  unfold leS
  rw [Bool.or_eq_true]
  simp only [Bool.not_eq_true', decide_eq_false_iff_not]
  rcases List.le_total a.cps.toList b.cps.toList with h | h
  · exact .inl (List.not_lt.mpr h)
  · exact .inr (List.not_lt.mpr h)
theorem leS_anti (a b : Str) (h : leS a b = true) (g : leS b a = true) : a = b := by
  unfold leS at *
  simp only [Bool.not_eq_true', decide_eq_false_iff_not] at *
  have e := List.le_antisymm (List.not_lt.mp h) (List.not_lt.mp g)
  obtain ⟨⟨l⟩⟩ := a
  obtain ⟨⟨m⟩⟩ := b
  have e2 : l = m := e
  rw [e2]
theorem rising_le : ∀ (ys : List Str) (p : Str), risingS p ys = true → (∀ y ∈ ys, leS p y = true) ∧ ys.Pairwise fun a b => leS a b = true
  | [], p, _ => ⟨(fun y h => nomatch h), .nil⟩
  | y :: ys, p, h => by
    unfold risingS at h
    rw [Bool.and_eq_true] at h
    obtain ⟨h1, h2⟩ := h
    obtain ⟨i1, i2⟩ := rising_le ys y h2
    have hp : leS p y = true := by unfold leS; rw [← ltCps_eq]; exact h1
    exact ⟨fun z hz => by
      rcases List.mem_cons.mp hz with rfl | hz
      · exact hp
      · exact leS_trans _ _ _ hp (i1 z hz), .cons i1 i2⟩
theorem sortedS_eq {ys xs : List Str} (hp : ys.Perm xs) (hs : sortedS ys = true) : ys = sortS xs := by
  have h1 : ys.Pairwise fun a b => leS a b = true := by
    cases ys with
    | nil => exact .nil
    | cons y ys =>
      obtain ⟨i1, i2⟩ := rising_le ys y hs
      exact .cons i1 i2
  have h2 := List.pairwise_mergeSort (le := leS) leS_trans leS_total xs
  exact List.Perm.eq_of_pairwise (le := fun a b => leS a b = true) (fun a b _ _ h g => leS_anti a b h g) h1 h2 (hp.trans (List.mergeSort_perm xs leS).symm)
theorem sortS_perm (xs : List Str) : (sortS xs).Perm xs := List.mergeSort_perm xs leS
theorem sortS_len (xs : List Str) : (sortS xs).length = xs.length := (sortS_perm xs).length_eq
theorem sortS_pw (xs : List Str) : (sortS xs).Pairwise fun a b => leS a b = true := List.pairwise_mergeSort (le := leS) leS_trans leS_total xs
def rSortU (K : Frag) : List V → Hp → VK → Prop := fun vs H Q => (rSortedS K vs H Q ∨ rSorted K vs H Q) ∨ ∃ (a : Addr) (kvs : List (Key × V)) (ks : List Str), vs = [.ref a] ∧ Rd H a (.dK kvs) ∧ kvs.map (·.1) = ks.map Sum.inr ∧ ks.length < 64 ∧ ∀ ys p, ys.Perm ks → sortedS ys = true → H p = none → Q (.ref p) (upd H p (.lst (ys.map V.str)))
theorem call_sortU {X : Cx} (hK : X.K = K) (hc : X.calm = true) : CallR X (.builtin "sorted") (rSortU K) := hK ▸ (cr_sortedS.or cr_sorted).or (call_sortedD hc)
def strsD (xs : List Str) : List Dt := xs.map .str
theorem repL_strs : ∀ {xs : List Str} {vs : List V}, RepL K F (strsD xs) vs → vs = xs.map V.str
  | [], vs, h => by
    unfold strsD at h
    rw [List.map_nil] at h
    unfold RepL at h
    exact h
  | y :: xs, vs, h => by
    unfold strsD at h
    rw [List.map_cons] at h
    unfold RepL at h
    obtain ⟨v, r, rfl, h1, h2⟩ := h
    unfold Rep at h1
    subst h1
    rw [repL_strs (xs := xs) h2]
    rfl
theorem strs_repL : ∀ (xs : List Str), RepL K F (strsD xs) (xs.map V.str)
  | [] => repL_nil
  | y :: xs => repL_cons (by unfold Rep; rfl) (strs_repL xs)
theorem cn_sortS {d : Dt} {xs : List Str} (hd : LstAt ρ d (strsD xs)) (hl : xs.length < 64) (p : P (.lst (strsD (sortS xs))) ρ) : CaN K (rSortU K) [d] ρ P := fun σ F H Q us s r q => by
  obtain ⟨v, _, rfl, rv, rfl⟩ := r
  obtain ⟨a, vs, rfl, h1, h2⟩ := hd.at_ s rv
  have e := repL_strs h2
  subst e
  refine .inl (.inl ⟨a, xs, rfl, h1, hl, fun ys b hp hs hb => ?_⟩)
  have e := sortedS_eq hp hs
  subst e
  exact q _ ρ b _ F H p (Step.refl s) hb ⟨_, upd_same, strs_repL _⟩
def keysS (l : List (Key × Dt)) (ks : List Str) : Prop := l.map (·.1) = ks.map Sum.inr
theorem cn_sortD {d : Dt} {l : List (Key × Dt)} {ks : List Str} (hd : DicAt ρ d l) (hk : l.map (·.1) = ks.map Sum.inr) (hl : ks.length < 64) (p : P (.lst (strsD (sortS ks))) ρ) : CaN K (rSortU K) [d] ρ P := fun σ F H Q us s r q => by
  obtain ⟨v, _, rfl, rv, rfl⟩ := r
  obtain ⟨a, kvs, rfl, h1, h2⟩ := hd.at_ s rv
  refine .inr ⟨a, kvs, ks, rfl, h1, by rw [h2.keys]; exact hk, hl, fun ys b hp hs hb => ?_⟩
  have e := sortedS_eq hp hs
  subst e
  exact q _ ρ b _ F H p (Step.refl s) hb ⟨_, upd_same, strs_repL _⟩
/-! ### str(x), join, f-strings -/
def rStrU : List V → Hp → VK → Prop := fun xs H Q => (∃ i, xs = [.int i] ∧ i.natAbs.log2 < 1920 ∧ Q (.str (toString i)) H) ∨ ∃ a, xs = [.str a] ∧ Q (.str a) H
theorem call_strU {X : Cx} : CallR X (.type "str") rStrU := call_str_int.or SkE.call_str_str
theorem c_strS {z : Str} (p : P (.str z) ρ) : CaD K rStrU [.str z] ρ P := fun σ F H Q us s r q => by
  obtain ⟨v, _, rfl, rv, rfl⟩ := r
  have e : v = .str z := rv
  subst e
  exact .inr ⟨z, rfl, q _ _ _ F H p (Step.refl s) rfl⟩
theorem c_strN {i : Int} (h : i.natAbs.log2 < 1920) (p : P (.str (toString i)) ρ) : CaD K rStrU [.int i] ρ P := fun σ F H Q us s r q => by
  obtain ⟨v, _, rfl, rv, rfl⟩ := r
  have e : v = .int i := rv
  subst e
  exact .inl ⟨i, rfl, h, q _ _ _ F H p (Step.refl s) rfl⟩
def rJoinU (K : Frag) : V → List V → Hp → VK → Prop := fun x xs H Q => ∃ a p, ∃ ys : List Str, x = .str a ∧ xs = [.ref p] ∧ (SqL K H p (ys.map V.str) ∨ SqT K H p (ys.map V.str)) ∧ (ys.map (·.length)).sum + ys.length * a.length ≤ 16777216 ∧ Q (.str (Txt.join a ys)) H
theorem mt_joinU {X : Cx} (hK : X.K = K) : MtR X "str.join" (rJoinU K) := hK ▸ mt_join
theorem m_join {a : Str} {d : Dt} {ys : List Str} (hd : LstAt ρ d (strsD ys)) (hl : (ys.map (·.length)).sum + ys.length * a.length ≤ 1000000) (p : P (.str (Txt.join a ys)) ρ) : MtD K (rJoinU K) (.str a) [d] ρ P := fun σ F H Q u us s e r q => by
  cases e
  obtain ⟨v, _, rfl, rv, rfl⟩ := r
  obtain ⟨b, vs, rfl, h1, h2⟩ := hd.at_ s rv
  have e := repL_strs h2
  subst e
  exact ⟨a, b, ys, rfl, rfl, .inl h1, Nat.le_trans hl (by decide), q _ _ _ F H p (Step.refl s) rfl⟩
/-! ### methods that change a slot's own list -/
def MtO (K : Frag) (r : V → List V → Hp → VK → Prop) (j : Nat) (es : List Dt) (ρ : En) (P : Dt → En → Prop) : Prop :=
  ∀ (σ : L2.St) (F H : Hp) (Q : VK) (u : V) (us : List V), Sym K F H σ ρ → σ[j]? = some (some u) → RepVL K F σ es us → (∀ d' ρ' v' F' H', P d' ρ' → Step K σ ρ F H σ ρ' F' H' → RepV K F' σ d' v' → Q v' H') → r u us H Q
theorem e_bmL {r : V → List V → Hp → VK → Prop} {to : TE} {ta : TA} (h : EvD K W to ρ x fun d ρ1 => ∃ j b ds, d = .own j ∧ ρ1[j]? = some (.ow b (.lst ds)) ∧ ArD K W ta ρ1 x fun es ρ2 => MtO K r j es ρ2 P) : EvD K W (tBM K "list" r to ta) ρ x P := fun σ F H Q s q w =>
  h σ F H _ s (fun d ρ1 v F1 H1 p1 s1 r1 => by
    obtain ⟨j, b, ds, rfl, hj, p1⟩ := p1
    obtain ⟨a, e1, e2, xs, h1, h2⟩ := s1.sym.ow j b _ hj
    have ev : v = .ref a := by
      have z : σ[j]? = some (some v) := r1
      rw [e1] at z
      exact (Option.some.inj (Option.some.inj z)).symm
    subst ev
    refine ⟨.inl ⟨rfl, xs, sq_of h1⟩, p1 σ F1 H1 _ s1.sym (fun es ρ2 vs F2 H2 p2 s2 r2 => p2 σ F2 H2 Q _ vs s2.sym e1 r2 fun d' ρ3 v' F3 H3 p3 s3 r3 => q d' ρ3 v' F3 H3 p3 ((s1.trans s2).trans s3) r3)
      fun c ρ' cls dd F' H' px st xo => w c ρ' cls dd F' H' px (s1.trans st) xo⟩) w
theorem own_at {j : Nat} {b : Bool} {u : V} (s : Sym K F H σ ρ) (hj : ρ[j]? = some (.ow b (.lst ds))) (hu : σ[j]? = some (some u)) : ∃ a xs, u = .ref a ∧ F a = none ∧ H a = some (.lst xs) ∧ RepL K F ds xs ∧ σ[j]? = some (some (.ref a)) := by
  obtain ⟨a, e1, e2, xs, h1, h2⟩ := s.ow j b _ hj
  rw [e1] at hu
  exact ⟨a, xs, (Option.some.inj (Option.some.inj hu)).symm, e2, h1, h2, e1⟩
theorem mo_append {j : Nat} {b : Bool} {d : Dt} (hj : ρ[j]? = some (.ow b (.lst ds))) (hr : d.real = true) (hl : ds.length < 100000) (p : P .non (ρ.set j (.ow b (.lst (ds ++ [d]))))) : MtO K rAppend j [d] ρ P := fun σ F H Q u us s hu r q => by
  obtain ⟨a, xs, rfl, e2, h1, h2, e1⟩ := own_at s hj hu
  obtain ⟨v, _, rfl, rv, rfl⟩ := r
  refine ⟨a, xs, v, rfl, rfl, h1, by rw [h2.length]; exact Nat.lt_of_lt_of_le hl (by decide), ?_⟩
  exact q _ _ _ F _ p (Step.write s hj e1 ⟨_, upd_same, h2.app (repL_cons (rv.real hr) repL_nil)⟩) rfl
theorem repL_erase {xs : List V} (k : Nat) (r : RepL K F ds xs) : RepL K F (ds.eraseIdx k) (xs.eraseIdx k) := by
  induction ds generalizing xs k with
  | nil => unfold RepL at r; subst r; exact repL_nil
  | cons d ds ih =>
    unfold RepL at r
    obtain ⟨v, r', rfl, h0, h⟩ := r
    cases k with
    | zero => exact h
    | succ k => exact repL_cons h0 (ih k h)
theorem mo_popAt {j : Nat} {b : Bool} {i : Int} {k : Nat} {d : Dt} (hj : ρ[j]? = some (.ow b (.lst ds))) (h0 : 0 ≤ i) (hi : i < 100000) (hk : i.toNat = k) (hd : ds[k]? = some d) (p : P d (ρ.set j (.ow b (.lst (ds.eraseIdx k))))) : MtO K rPopAt j [.int i] ρ P := fun σ F H Q u us s hu r q => by
  obtain ⟨a, xs, rfl, e2, h1, h2, e1⟩ := own_at s hj hu
  obtain ⟨v, _, rfl, rv, rfl⟩ := r
  have ev : v = .int i := rv
  subst ev
  obtain ⟨z, z1, z2⟩ := h2.get hd
  have hlt : k < xs.length := (List.getElem?_eq_some_iff.mp z1).1
  refine ⟨a, xs, i, k, z, rfl, rfl, h1, by omega, by omega, ?_, z1, ?_⟩
  · unfold seqIndex?
    subst hk
    simp only [show ¬ i < 0 by omega, if_false]
    first
      | (rw [if_pos (by omega)])
      | (simp; omega)
  · exact q _ _ _ F _ p (Step.write s hj e1 ⟨_, upd_same, repL_erase k h2⟩) (z2.toV)
end
end DL
set_option Elab.async false
set_option linter.all false
set_option maxRecDepth 100000
set_option autoImplicit false
set_option maxHeartbeats 4000000
/-! what is known of methods; displays; f-strings; a comprehension kept -/
namespace DL
open PySem L2 Evl PyProof.Rows
/-- a method of the class at C that keeps a promise -/
def MtG (P : Program) (w : World) (K : Frag) (mg : Str → Option Value) (base : Heap) (k : Nat) (C : Addr) (m : Str) (ps : List Str) (sp : Sp) : Prop :=
  ∃ (f : Addr) (fd : FuncData), Meth K C m f ∧ FnOk P w K mg base (L2.CX P w) k f fd ps sp ∧ Binds K fd ps []
/-- the class x, made by its __init__ -/
def MkG (P : Program) (w : World) (K : Frag) (mg : Str → Option Value) (base : Heap) (k : Nat) (x : Str) (C : Addr) (ps : List Str) (sp : Sp) (dvs : List V) : Prop :=
  ∃ (f : Addr) (fd : FuncData) (ds : List Value), Mk K C f ∧ mg x = some (.ref C) ∧ FnOk P w K mg base (L2.CX P w) k f fd ps sp ∧ Binds K fd ps ds ∧ Vals dvs ds
def initB (K : Frag) (C : Addr) : Bool := PySem.W.makesIn K C && (eqO2 (PySem.W.findIn K (.ref C) "__init__") (some (some (.ref (He.ma K C "__init__")))) && (PySem.W.isFn K (.ref (He.ma K C "__init__")) && PySem.W.keepIn K (.ref C)))
theorem initB_ok {K : Frag} {C : Addr} (h : initB K C = true) : Mk K C (He.ma K C "__init__") := by
  obtain ⟨h1, h⟩ := band h
  obtain ⟨h2, h⟩ := band h
  obtain ⟨h3, h4⟩ := band h
  exact ⟨h1, of_decide_eq_true h2, h3, h4⟩
section
variable {X : Cx} {K : Frag} {W : WX} {k : Nat} {C : Addr} {x m : Str} {ps : List Str} {sp : Sp} {dvs : List V} {p pos apos : Pos} {e o : Expr} {es : List Expr} {ta : TE} {t : TA}
theorem pe_mt {pl : Sem Bool} (G : MtG X.prog X.w X.K X.mg X.base k C m ps sp) (c : ClC X.K C) (hr : Room k X.A) (tk : Takes X W) (he : PE X o ta) (ha : PA X (e :: es) t)
    (hst : starEach (e :: es) X.env = (false, eval e X.env) :: starEach es X.env := by rfl) (hpl : (backTo pos (starEach es X.env)).any (·.1) = false := by rfl)
    (ht : eval (.Call (.Attribute o m apos) (e :: es) [] pos) X.env = (do
      let ov ← eval o X.env
      standAt apos.atName
      let (g, first) ← holding [ov] (getMethod ov m pl)
      callWith pos g first (backTo pos (starEach (e :: es) X.env)) (backToKw pos (keywordEach [] X.env))) := by rfl) : PE X (.Call (.Attribute o m apos) (e :: es) [] pos) (tMethS C m sp [] (WE W) ta t) := by
  obtain ⟨f, fd, h1, h2, h3⟩ := G
  exact pe_methS he c.cl h1 h2 hr h3 .nil (fun σ => passAt tk σ) ha hst hpl ht
theorem pe_mt0 {pl : Sem Bool} (G : MtG X.prog X.w X.K X.mg X.base k C m ps sp) (c : ClC X.K C) (hr : Room k X.A) (tk : Takes X W) (he : PE X o ta)
    (ht : eval (.Call (.Attribute o m apos) [] [] pos) X.env = (do
      let ov ← eval o X.env
      standAt apos.atName
      let (g, first) ← holding [ov] (getMethod ov m pl)
      callWith pos g first (backTo pos (starEach [] X.env)) (backToKw pos (keywordEach [] X.env))) := by rfl) : PE X (.Call (.Attribute o m apos) [] [] pos) (tMethS C m sp [] (WE W) ta tNil) := by
  obtain ⟨f, fd, h1, h2, h3⟩ := G
  exact pe_methS0 he c.cl h1 h2 hr h3 .nil (fun σ => passAt tk σ) ht
theorem pe_mk (G : MkG X.prog X.w X.K X.mg X.base k x C ps sp dvs) (hr : Room (k + 1) X.A) (tk : Takes X W) (hg : Gl X x) (ha : PA X (e :: es) t) (hdb : (x == ("__debug__" : Str)) = false := by decide)
    (he : starEach (e :: es) X.env = (false, eval e X.env) :: starEach es X.env := by rfl) (hpl : (backTo pos (starEach es X.env)).any (·.1) = false := by rfl) : PE X (.Call (.Name x p) (e :: es) [] pos) (tMakeS C sp dvs (WE W) t) := by
  obtain ⟨f, fd, ds, h1, h2, h3, h4, h5⟩ := G
  exact pe_makeS h1 h3 hr hg h2 h4 h5 (fun σ => passAt tk σ) ha hdb he hpl
theorem pe_binG {op : Operator} {a b : Expr} {tb : TE} {r0 : R2} (hK : X.K = K) (h0 : OpR X (binaryOp op) r0) (G : MtG X.prog X.w X.K X.mg X.base k C (PySem.dunder op.info.2) ps sp) (c : ClC X.K C) (hn : NoAttr X.K C (dunderR op.info.2)) (hr : Room k X.A) (tk : Takes X W) (ha : PE X a ta) (hb : PE X b tb) :
    PE X (.BinOp a op b pos) (tOpS (rOrS r0 fun σ => rOwnOp K C op.info.2 sp (WE W σ)) ta tb) := by
  obtain ⟨f, fd, h1, h2, h3⟩ := G
  subst hK
  exact pe_opS (fun σ => (OpR.at_ h0 σ).or (op_ownS rfl c h1 hn h2 hr h3 tk σ)) ha hb
theorem op_eqG {r0 : R2} (hK : X.K = K) (h0 : OpR X (compareOp .Eq) r0) (G : MtG X.prog X.w X.K X.mg X.base k C "__eq__" ps sp) (hr : Room k X.A) : OpR X (compareOp .Eq) (fun x y H Q => r0 x y H Q ∨ rOwnEq K C sp x y H Q) := by
  obtain ⟨f, fd, h1, h2, h3⟩ := G
  subst hK
  exact h0.or (op_ownEq rfl h1 h2 hr h3)
theorem call_strG {r0 : List V → Hp → VK → Prop} (hK : X.K = K) (h0 : CallR X (.type "str") r0) (G : MtG X.prog X.w X.K X.mg X.base k C "__str__" ps sp) (hr : Room (k + 2) X.A) : CallR X (.type "str") (fun xs H Q => r0 xs H Q ∨ rOwnStr C sp xs H Q) := by
  obtain ⟨f, fd, h1, h2, h3⟩ := G
  subst hK
  exact h0.or (call_ownStr rfl h1 h2 hr h3)
end
section
variable {K : Frag} {W : WX} {σ σ1 : L2.St} {ρ ρ1 : En} {F F1 H H1 : Hp} {x : PX} {P : Dt → En → Prop}
/-! ### {k: v, ..} -/
/-- the pairs of a display, one after another -/
def PrD (K : Frag) (W : WX) : List (TE × TE) → En → PX → (List (Key × Dt) → En → Prop) → Prop
  | [], ρ, x, P => P [] ρ
  | t :: ts, ρ, x, P => EvD K W t.1 ρ x fun kd ρ1 => ∃ k, kd.key = some k ∧ EvD K W t.2 ρ1 x fun d ρ2 => d.real = true ∧ PrD K W ts ρ2 x fun l ρ3 => P ((k, d) :: l) ρ3
theorem n_disp {trs : List (TE × TE)} (h : PrD K W trs ρ x fun l ρ1 => l.length ≤ 15 ∧ P (dicD (mergeD [] l)) ρ1) : EvN K W (tDisp trs) ρ x P := fun σ F H Q s q w p hp => by
  have st0 := Step.more (o := .dK []) s hp
  have as0 := Aside.new (o := .dK []) s hp
  -- the pairs, the new dict aside
  have go : ∀ (trs : List (TE × TE)) (ρ1 : En) (F1 H1 : Hp) (R : List (V × V) → Hp → Prop) (T : List (Key × Dt) → En → Prop), Step K σ ρ F H σ ρ1 F1 H1 → Aside σ ρ1 F1 H1 p (.dK []) → PrD K W trs ρ1 x T →
      (∀ l kvs ρ2 F2 H2, T l ρ2 → Step K σ ρ F H σ ρ2 F2 H2 → Aside σ ρ2 F2 H2 p (.dK []) → RepKV K F2 l kvs → Xe F1 F2 → R (kvs.map fun kv => (kV kv.1, kv.2)) H2) → tPairs trs σ H1 R := by
    intro trs
    induction trs with
    | nil =>
      intro ρ1 F1 H1 R T st as h k
      exact k [] [] ρ1 F1 H1 h st as rfl (Xe.refl _)
    | cons t ts ih =>
      intro ρ1 F1 H1 R T st as h k
      show t.1 σ H1 _
      refine (show EvD K W t.1 ρ1 x _ from h) σ F1 H1 _ st.sym (fun kd ρ2 ku F2 H2 ⟨y, hy, h2⟩ st2 r2 => ?_) fun c ρ' cls dd F' H' px st' xo => w c ρ' cls dd F' H' px (st.trans st') xo
      have ek := key_of_D hy
      subst ek
      have ey : ku = kV y := rep_key (r2.real (by cases y <;> rfl))
      subst ey
      have s2 := st.trans st2
      refine h2 σ F2 H2 _ st2.sym (fun d ρ3 u F3 H3 ⟨hr, h3⟩ st3 r3 => ?_) fun c ρ' cls dd F' H' px st' xo => w c ρ' cls dd F' H' px (s2.trans st') xo
      have s3 := s2.trans st3
      refine ih ρ3 F3 H3 _ _ s3 ((as.step st2).step st3) h3 fun l kvs ρ4 F4 H4 t4 s4 as4 r4 e4 => ?_
      exact k ((y, d) :: l) ((y, u) :: kvs) ρ4 F4 H4 t4 s4 as4 ⟨u, kvs, rfl, (r3.real hr).mono e4, r4⟩ ((st2.exF.trans st3.exF).trans e4)
  refine go trs ρ F _ _ _ st0 as0 h fun l kvs ρ2 F2 H2 ⟨hl, pp⟩ s2 as2 r2 _ => ⟨as2.at_, kvs, rfl, by rw [r2.len]; exact hl, ?_⟩
  have hn : del1 H2 p p = none := if_pos rfl
  have key := q (dicD (mergeD [] l)) ρ2 p (.dK (mergeK [] kvs)) F2 (del1 H2 p) pp (s2.without hp as2) hn (own_dic.mpr ⟨_, upd_same, RepKV.merge r2 rfl⟩)
  have e : upd (del1 H2 p) p (.dK (mergeK [] kvs)) = upd H2 p (.dK (mergeK [] kvs)) := by
    funext b
    by_cases z : b = p
    · subst z
      rw [upd_same, upd_same]
    · rw [upd_ne z, upd_ne z]
      exact if_neg z
  rw [e] at key
  exact key
/-! ### f-strings -/
theorem e_fmtS {te : TE} (h : EvD K W te ρ x fun d ρ1 => ∃ z, d = .str z ∧ z.length ≤ 1000000 ∧ P (.str z) ρ1) : EvD K W (tFmt te) ρ x P := fun σ F H Q s q w =>
  h σ F H _ s (fun d ρ1 v F1 H1 ⟨z, e, hz, p⟩ s1 r => by
    subst e
    have ev : v = .str z := r
    subst ev
    exact .inl ⟨z, rfl, Nat.le_trans hz (by decide), q _ ρ1 _ F1 H1 p s1 rfl⟩) w
theorem e_fmtI {te : TE} (h : EvD K W te ρ x fun d ρ1 => ∃ i, d = .int i ∧ i.natAbs.log2 < 1920 ∧ P (.str (toString i)) ρ1) : EvD K W (tFmt te) ρ x P := fun σ F H Q s q w =>
  h σ F H _ s (fun d ρ1 v F1 H1 ⟨z, e, hz, p⟩ s1 r => by
    subst e
    have ev : v = .int z := r
    subst ev
    exact .inr ⟨z, rfl, hz, q _ ρ1 _ F1 H1 p s1 rfl⟩) w
def JsD (K : Frag) (W : WX) : List TE → Str → En → PX → (Dt → En → Prop) → Prop
  | [], acc, ρ, x, P => P (.str acc) ρ
  | t :: ts, acc, ρ, x, P => EvD K W t ρ x fun d ρ1 => ∃ y, d = .str y ∧ (acc ++ y).length ≤ 1000000 ∧ JsD K W ts (acc ++ y) ρ1 x P
theorem js_run : ∀ (ts : List TE) (acc : Str) (ρ : En) (F H : Hp) (P : Dt → En → Prop) (Q : Str → Hp → Prop), Sym K F H σ ρ → JsD K W ts acc ρ x P → (∀ z ρ' F' H', P (.str z) ρ' → Step K σ ρ F H σ ρ' F' H' → Q z H') →
    (∀ c ρ' cls dd F' H', x c ρ' → Step K σ ρ F H σ ρ' F' H' → XOk K F' c cls dd → W cls dd σ H') → tJs ts acc σ H Q
  | [], acc, ρ, F, H, P, Q, s, h, q, w => q acc ρ F H h (Step.refl s)
  | t :: ts, acc, ρ, F, H, P, Q, s, h, q, w => by
    show t σ H _
    refine (show EvD K W t ρ x _ from h) σ F H _ s (fun d ρ1 v F1 H1 ⟨y, e, hl, h1⟩ s1 r => ?_) w
    subst e
    have ev : v = .str y := r
    subst ev
    exact ⟨y, rfl, Nat.le_trans hl (by decide), js_run ts _ ρ1 F1 H1 P Q s1.sym h1 (fun z ρ' F' H' p st => q z ρ' F' H' p (s1.trans st)) fun c ρ' cls dd F' H' px st xo => w c ρ' cls dd F' H' px (s1.trans st) xo⟩
theorem e_js {ts : List TE} (h : JsD K W ts Str.empty ρ x P) : EvD K W (fun σ H Q => tJs ts Str.empty σ H fun out H1 => Q (.str out) H1) ρ x P := fun σ F H Q s q w =>
  js_run ts _ ρ F H P _ s h (fun z ρ' F' H' p st => q _ ρ' _ F' H' p st rfl) w
end
end DL
set_option Elab.async false
set_option linter.all false
set_option maxRecDepth 100000
set_option autoImplicit false
set_option maxHeartbeats 4000000
/-! defs that run where no repr is under way: repr of lists and tuples -/
namespace DL
open PySem L2 Evl PyProof.Rows
/-- a promise that is kept where nothing is being shown -/
structure FnQ (P : Program) (w : World) (K : Frag) (mg : Str → Option Value) (base : Heap) (k : Nat) (f : Addr) (fd : FuncData) (ps : List Str) (sp : Sp) : Prop where
  len : ∀ vs H Q E, sp vs H Q E → vs.length = ps.length
  run : ∀ (A : Around) (outer : List PySem.Env) (s : Shared) (H : Hp) (args : Args) (us : List Value) (vs : List V) (Q : VK) (E : XK), A.guards = some [] → Room k A → Env0 P w K mg base A outer s H → BindsTo s fd args (ps.zip us) → Vals vs us → sp vs H Q E →
    codeAny (model P w) A (.call (.ref f) args) (CR (L2.CX P w) outer P w H s Q E) s
section
variable {P : Program} {w : World} {K : Frag} {mg : Str → Option Value} {base : Heap} {x qual : Str} {params : Arguments} {body : List Stmt} {scope : Scope} {dvs : List V} {kws : List (Str × V)} {f : Addr} {fd : FuncData}
theorem FunD.okQ {N ps : List Str} {k : Nat} {sp : Sp} (F : FunD K x qual params body scope dvs kws f fd) (S : FnScope N ps scope) (len : ∀ vs H Q E, sp vs H Q E → vs.length = ps.length)
    (hb : ∀ (cdv : Value) (A : Around) (outer : List PySem.Env) (s : Shared) (H : Hp) (vs : List V) (Q : VK) (E : XK), A.guards = some [] → Room k (A.deeper (envOfC qual scope s.heap.objs.size f cdv)) → sp vs H Q E →
      ∃ t, PSs (cxOf (L2.CX P w) P w K mg base N qual scope f cdv A outer s H E) body t ∧ t { nx := fun _ H' => Q .non H', rt := Q } (start N vs) H) : FnQ P w K mg base (k + 1) f fd ps sp := by
  obtain ⟨oc, od, dV, kV, doc, pm, an, cdv, ct, osl, rfl, look, code, _, _⟩ := F.ex
  refine ⟨len, fun A outer s H args us vs Q E quiet room e0 bind rel want => ?_⟩
  have there : ∀ b o, base.get? b = some o → s.heap.get? b = some o := fun b o e => (e0.bs b o e).1
  have KX : K.In s.heap := e0.mod.kin.keeps there
  have kinds : ∀ y ∈ ps.zip us, scope.names.lookup y.1 = some .local ∨ (scope.names.lookup y.1 = some .cell ∧ ((cellsFrom (s.heap.objs.size + 1) scope.names []).lookup y.1).isSome = true) := fun y hy => by
    obtain ⟨n, v⟩ := y
    exact (S.par n (List.of_mem_zip hy).1).imp id fun q => ⟨q, PySem.W.cellsFrom_some _ _ _ (.inl q)⟩
  refine codeAny_call_function room.depth (KX _ _ look) rfl S.co S.gen rfl (PySem.W.codeRec_of KX code) (bind _ _ _ _ (wpAny_newFunctionEnv_cells S.kind kinds fun env he s1 y => ?_))
  subst he
  refine ⟨(e0.mod.nolimit.keeps there).keeps y.toInCall.keep, codeAny_func ?_⟩
  obtain ⟨t, ht, hq⟩ := hb cdv A outer s H vs Q E quiet (room.deeper _) want
  have I0 : Inv (cxOf (L2.CX P w) P w K mg base N qual scope f cdv A outer s H E) [] (start N vs) H s1 := inv_start S room.hd e0 (len _ _ _ _ want) rel y
  refine wpAny_mono (ht.run [] s1 (start N vs) H _ I0 hq) (fun fl s' got => ?_) fun _ _ got => got
  cases fl with
  | next =>
    obtain ⟨σ', H', J, q⟩ := got
    exact ⟨V.non, H', J.os, J.bare, J.base, J.hok, rfl, q⟩
  | ret u =>
    obtain ⟨v, σ', H', J, rv, q⟩ := got
    exact ⟨v, H', J.os, J.bare, J.base, J.hok, rv, q⟩
  | brk => exact got.choose_spec.choose_spec.2.elim
  | cont => exact got.choose_spec.choose_spec.2.elim
end
section
variable {X : Cx} {k : Nat} {f : Addr} {fd : FuncData} {ps : List Str} {sp : Sp} {W : WX} {x : Str} {p pos : Pos} {e : Expr} {es : List Expr} {t : TA}
theorem pe_callQ (F : FnQ X.prog X.w X.K X.mg X.base k f fd ps sp) (hq : X.A.guards = some []) (hr : Room k X.A) (tk : Takes X W) (hg : Gl X x) (hm : X.mg x = some (.ref f)) (hk : PySem.W.keepIn X.K (.ref f) = true) (hb : Binds X.K fd ps []) (ha : PA X (e :: es) t)
    (hdb : (x == ("__debug__" : Str)) = false := by decide) (he : starEach (e :: es) X.env = (false, eval e X.env) :: starEach es X.env := by rfl) (hpl : (backTo pos (starEach es X.env)).any (·.1) = false := by rfl) : PE X (.Call (.Name x p) (e :: es) [] pos) (tCallS sp (WE W) t) := by
  refine ⟨fun pins s σ H Q I h => wpAny_Call_Name_kw (ld_glob I hg hm (PySem.W.callWith_K (h₀ := X.base) I.ok.mod.kin hk (thn (ha.run pos pins s σ H _ I h) fun us s1 ⟨vs, H1, I1, rel, q⟩ => ⟨I1.kIn, ?_⟩) he hpl) hdb)⟩
  have many : us.length = ps.length := rel.length.symm.trans (F.len _ _ _ _ q)
  have bind := hb s1 us I1.kIn (by rw [List.append_nil]; exact many)
  rw [List.append_nil] at bind
  refine wpAny_call (codeAny_mono (F.run X.A X.stack s1 H1 ⟨us, []⟩ us vs Q (WE W σ) hq hr I1.env0 bind rel q) fun res s' got => ?_)
  cases res with
  | error er => exact passAt tk σ pins H1 s1 er s' I1 got
  | ok fl =>
    cases fl with
    | ret u => exact I1.after got
    | next => exact got.elim
    | brk => exact got.elim
    | cont => exact got.elim
/-- a def of the module, where nothing is being shown -/
def FnGQ (P : Program) (w : World) (K : Frag) (mg : Str → Option Value) (base : Heap) (k : Nat) (x : Str) (ps : List Str) (sp : Sp) : Prop :=
  ∃ (f : Addr) (fd : FuncData), mg x = some (.ref f) ∧ PySem.W.keepIn K (.ref f) = true ∧ FnQ P w K mg base k f fd ps sp ∧ Binds K fd ps []
theorem pe_fnQ (G : FnGQ X.prog X.w X.K X.mg X.base k x ps sp) (hq : X.A.guards = some []) (hr : Room k X.A) (tk : Takes X W) (hg : Gl X x) (ha : PA X (e :: es) t) (hdb : (x == ("__debug__" : Str)) = false := by decide)
    (he : starEach (e :: es) X.env = (false, eval e X.env) :: starEach es X.env := by rfl) (hpl : (backTo pos (starEach es X.env)).any (·.1) = false := by rfl) : PE X (.Call (.Name x p) (e :: es) [] pos) (tCallS sp (WE W) t) := by
  obtain ⟨f, fd, h1, h2, h3, h4⟩ := G
  exact pe_callQ h3 hq hr tk hg h1 h2 h4 ha hdb he hpl
/-! ### repr -/
def rRepr (K : Frag) : List V → Hp → VK → Prop := fun xs H Q => ∃ a p, xs = [.ref a] ∧ Dp K H (.ref a) p ∧ p.showable = true ∧ p.hasDict = false ∧ p.depth ≤ 60 ∧ p.shown.length ≤ sizeLine ∧ Q (.str p.shown) H
theorem call_reprQ {K : Frag} (hK : X.K = K) (hq : X.A.guards = some []) (hu : X.A.units + 64 < cLine) : CallR X (.builtin "repr") (rRepr K) := by
  subst hK
  intro pins s σ H xs us Q I r h
  obtain ⟨a, d, rfl, hd, hs, hn, hz, hl, q⟩ := h
  obtain ⟨u, rfl, ru⟩ := r.one
  cases (show u = Value.ref a from ru)
  obtain ⟨as, rd⟩ := Dp.reads I d _ _ hd rfl
  exact repr_of_reads' rd hs (fun e => by rw [hn] at e; cases e) hq (by omega) (fun _ _ e => e) (fun h' t tk keep => ⟨.str _, H, I.kept (t' := tk) keep, ⟨t, rfl⟩, q⟩) hl
end
section
variable {K : Frag} {W : WX} {σ σ1 : L2.St} {ρ ρ1 : En} {F F1 H H1 : Hp} {x : PX} {P : Dt → En → Prop}
theorem c_repr {d : Dt} {p : PyData} (hd : d.pd = some p) (hs : (∃ xs, d = .lst xs) ∨ ∃ xs, d = .tup xs) (h1 : p.showable = true) (h2 : p.hasDict = false) (h3 : p.depth ≤ 60) (h4 : p.shown.length ≤ 1000000) (k : P (.str p.shown) ρ) : CaD K (rRepr K) [d] ρ P := fun σ F H Q us s r q => by
  obtain ⟨v, _, rfl, rv, rfl⟩ := r
  have e := rv.real (pd_real hd)
  have hv : ∃ a, v = .ref a := by
    rcases hs with ⟨xs, rfl⟩ | ⟨xs, rfl⟩
    · unfold Rep at e
      obtain ⟨a, _, rfl, _⟩ := e
      exact ⟨a, rfl⟩
    · unfold Rep at e
      obtain ⟨a, _, rfl, _⟩ := e
      exact ⟨a, rfl⟩
  obtain ⟨a, rfl⟩ := hv
  exact ⟨a, p, rfl, (e.mono s.exx).dp hd, h1, h2, h3, Nat.le_trans h4 (by decide), q _ ρ _ F H k (Step.refl s) rfl⟩
end
section
variable {P : Program} {w : World} {K : Frag} {mg : Str → Option Value} {base : Heap} {x qual : Str} {params : Arguments} {body : List Stmt} {scope : Scope} {dvs : List V} {kws : List (Str × V)} {f : Addr} {fd : FuncData}
theorem fn_bodyQ {S : Fsp} {N ps : List Str} {k : Nat} (F : FunD K x qual params body scope dvs kws f fd) (sc : FnScope N ps scope) (hl : ∀ i, (S.arg i).length = ps.length)
    (hb : ∀ (cdv : Value) (A : Around) (outer : List PySem.Env) (s : Shared) (H : Hp) (E : XK), (cxB P w K mg base N qual scope f cdv A outer s H E).A.guards = some [] → Room k (A.deeper (envOfC qual scope s.heap.objs.size f cdv)) → Takes (cxB P w K mg base N qual scope f cdv A outer s H E) (wE E) → PassesOwn (model P w) (cxB P w K mg base N qual scope f cdv A outer s H E).A (cxB P w K mg base N qual scope f cdv A outer s H E).env (cxB P w K mg base N qual scope f cdv A outer s H E).xe →
      ∃ t, PSs (cxB P w K mg base N qual scope f cdv A outer s H E) body t ∧ ∀ i, S.pre i → ∀ Z : Pd, (∀ ρ, S.post i .non → Z.nx ρ) → (∀ d ρ, S.post i d → Z.rt d ρ) → (∀ c ρ, S.exc i c → Z.ex c ρ) → StD K (wE E) t (st0 N.length (S.arg i)) Z) : FnQ P w K mg base (k + 1) f fd ps (DSp K S) := by
  refine FunD.okQ F sc (fun vs H Q E h => ?_) (fun cdv A outer s H vs Q E hq0 hr h => ?_)
  · obtain ⟨G, i, _, r, _⟩ := h
    rw [r.length, hl]
  · obtain ⟨G, i, ex, r, hp, hq, hx⟩ := h
    obtain ⟨t, ht, hd⟩ := hb cdv A outer s H E hq0 hr (takes_of rfl rfl rfl rfl) (passes_of rfl)
    refine ⟨t, ht, hd i hp { nx := fun _ => S.post i .non, rt := fun d _ => S.post i d, ex := fun c _ => S.exc i c } (fun _ h => h) (fun _ _ h => h) (fun _ _ h => h) _ G H _ (sym0 ex r) ⟨fun ρ' σ' F' H' p st => ?_, fun d ρ' v σ' F' H' p st rd => ?_, fun _ _ _ _ _ _ p => p.elim, fun _ _ _ _ p => p.elim, fun _ _ _ _ p => p.elim, fun c ρ' cls dd σ' F' H' p st xo => ?_⟩⟩
    · exact hq .non p .non H' (fun a o e => st.keep a o e noOw) (by unfold Rep; rfl)
    · exact hq d p v H' (fun a o e => st.keep a o e noOw) (rd.mono (Xe.of (st.out fun _ _ => noOw)))
    · exact hx c p cls dd H' (fun a o e => st.keep a o e noOw) (xo.mono (Xe.of (st.out fun _ _ => noOw)))
theorem fn_bodyOQ {S : Osp} {n : Str} {N ps : List Str} {k : Nat} (F : FunD K x qual params body scope dvs kws f fd) (sc : FnScope (n :: N) ps scope) (hl : ∀ i, (S.arg i).length + 1 = ps.length)
    (hb : ∀ (cdv : Value) (A : Around) (outer : List PySem.Env) (s : Shared) (H : Hp) (E : XK), (cxB P w K mg base (n :: N) qual scope f cdv A outer s H E).A.guards = some [] → Room k (A.deeper (envOfC qual scope s.heap.objs.size f cdv)) → Takes (cxB P w K mg base (n :: N) qual scope f cdv A outer s H E) (wE E) → PassesOwn (model P w) (cxB P w K mg base (n :: N) qual scope f cdv A outer s H E).A (cxB P w K mg base (n :: N) qual scope f cdv A outer s H E).env (cxB P w K mg base (n :: N) qual scope f cdv A outer s H E).xe →
      ∃ t, PSs (cxB P w K mg base (n :: N) qual scope f cdv A outer s H E) body t ∧ ∀ i, S.pre i → ∀ Z : Pd, (∀ o ρ, ρ[0]? = some (.ow true o) → S.post i .non o → Z.nx ρ) → (∀ d o ρ, ρ[0]? = some (.ow true o) → S.post i d o → Z.rt d ρ) → (∀ c o ρ, ρ[0]? = some (.ow true o) → S.exc i c o → Z.ex c ρ) → StD K (wE E) t (st1 (n :: N).length (S.own i) (S.arg i)) Z) : FnQ P w K mg base (k + 1) f fd ps (OSp K S) := by
  refine FunD.okQ F sc (fun vs H Q E h => ?_) (fun cdv A outer s H vs Q E hq0 hr h => ?_)
  · obtain ⟨G, i, p, us, rfl, _, _, _, r, _⟩ := h
    rw [List.length_cons, r.length, hl]
  · obtain ⟨G, i, p, us, rfl, ex, hp, ho, r, hpre, hq, hx⟩ := h
    obtain ⟨t, ht, hd⟩ := hb cdv A outer s H E hq0 hr (takes_of rfl rfl rfl rfl) (passes_of rfl)
    have e1 : L2.start (n :: N) (.ref p :: us) = some (.ref p) :: L2.start N us := by
      unfold L2.start
      simp
    have key : ∀ {σ' : L2.St} {ρ' : En} {F' H' : Hp} {o : Dt}, Step K (L2.start (n :: N) (.ref p :: us)) (st1 (n :: N).length (S.own i) (S.arg i)) G H σ' ρ' F' H' → ρ'[0]? = some (.ow true o) → Bt G H H' p ∧ Own K (Fz G H H') H' p o ∧ Xe F' (Fz G H H') := fun {σ' ρ' F' H' o} st h0 => by
      rw [e1] at st
      obtain ⟨q, h1, h2, h3⟩ := st.sym.ow 0 true o h0
      obtain ⟨d', g1, g2⟩ := st.stay 0 (S.own i) rfl
      have eq : q = p := by
        rw [h1] at g2
        have z := Option.some.inj (Option.some.inj g2)
        injection z
      subst eq
      have ex' : Xe F' (Fz G H H') := Xe.of <| st.out fun a ha z => by
        rw [ow1 z] at ha
        exact ha h2
      exact ⟨fun a u e ne => st.keep a u e fun z => ne (ow1 z), h3.mono ex' rfl, ex'⟩
    refine ⟨t, ht, hd i hpre { nx := fun ρ => ∃ o, ρ[0]? = some (.ow true o) ∧ S.post i .non o, rt := fun d ρ => ∃ o, ρ[0]? = some (.ow true o) ∧ S.post i d o, ex := fun c ρ => ∃ o, ρ[0]? = some (.ow true o) ∧ S.exc i c o } (fun o _ h0 h => ⟨o, h0, h⟩) (fun _ o _ h0 h => ⟨o, h0, h⟩) (fun _ o _ h0 h => ⟨o, h0, h⟩) _ G H _ (sym1 ex hp ho r) ⟨fun ρ' σ' F' H' z st => ?_, fun d ρ' v σ' F' H' z st rd => ?_, fun _ _ _ _ _ _ p => p.elim, fun _ _ _ _ p => p.elim, fun _ _ _ _ p => p.elim, fun c ρ' cls dd σ' F' H' z st xo => ?_⟩⟩
    · obtain ⟨o, h0, po⟩ := z
      obtain ⟨k1, k2, k3⟩ := key st h0
      exact hq .non o po .non H' k1 k2 (by unfold Rep; rfl)
    · obtain ⟨o, h0, po⟩ := z
      obtain ⟨k1, k2, k3⟩ := key st h0
      exact hq d o po v H' k1 k2 (rd.mono k3)
    · obtain ⟨o, h0, po⟩ := z
      obtain ⟨k1, k2, k3⟩ := key st h0
      exact hx c o po cls dd H' k1 k2 (xo.mono k3)
end
/-! ### the law's end -/
theorem law_callQ {P : Program} {w : World} {K : Frag} {mg mb : Str → Option Value} {k : Nat} {fa a : Addr} {fd : FuncData} {x : Str} {sp : Sp} {s1 : Shared} {vs : List Value} {ns : List Int}
    (KX : K.In s1.heap) (hns : s1.heap.Ns mainGlobals mg) (hb : s1.heap.Ns builtinsNs mb) (hbb : ∀ x : Str, x ≠ "__name__" → mb x = bootBuiltins x) (hlim : s1.heap.NoLimit) (hg : s1.gens = #[])
    (ha : s1.heap.get? a = some { cls := .type "list", data := .seq vs.toArray }) (hi : IntsAre vs ns) (hl : ns.length ≤ sizeLine) (hr : Room k callerA)
    (F : ∀ base : Heap, K.In base → base.Ns mainGlobals mg → FnQ P w K mg base k fa fd [x] sp) (hbind : ∀ (s : Shared) (u : Value), BindsTo s fd ⟨[u], []⟩ [(x, u)])
    (hsp : ∀ H : Hp, SqL K H a (ns.map V.int) → sp [.ref a] H (fun v _ => v = .bl true) fun _ _ _ => False) :
    codeAny (model P w) callerA (.call (.ref fa) ⟨[.ref a], []⟩) (fun r s' => r = .ok (.ret (.bool true)) ∧ OldK s1.heap s'.heap ∧ s'.os = s1.os ∧ AllBare s'.gens) s1 := by
  -- what is tracked: the script, unless it is the module's own
  have pick : ∃ H : Hp, SqL K H a (ns.map V.int) ∧ HOk P w H s1.heap ∧ ∀ b u, H b = some u → b = a ∧ K.lookup a = none ∧ ∃ xs, u = .frz { cls := .type "list", data := .seq vs.toArray } (.lst xs) := by
    cases hk : K.lookup a with
    | some o =>
      have e := (KX a o hk).symm.trans ha
      cases e
      exact ⟨fun _ => none, .inr ⟨_, vs.toArray, _, hk, rfl, rfl, rfl, by rw [List.size_toArray, hi.length]; exact hl, by simpa using vals_ints hi⟩, fun b u z => (nomatch (show (none : Option HO) = some u from z)), fun b u z => (nomatch (show (none : Option HO) = some u from z))⟩
    | none =>
      refine ⟨L2.upd (fun _ => none) a (.frz { cls := .type "list", data := .seq vs.toArray } (.lst (ns.map V.int))), .inl (.inr ⟨_, upd_same⟩), fun b u z => ?_, fun b u z => ?_⟩
      all_goals (by_cases e : b = a)
      · subst e
        rw [upd_same] at z
        cases z
        exact ⟨ha, by rw [List.length_map]; exact hl, vs, _, vals_ints hi, ha⟩
      · rw [upd_ne e] at z
        cases z
      · subst e
        rw [upd_same] at z
        cases z
        exact ⟨rfl, rfl, _, rfl⟩
      · rw [upd_ne e] at z
        cases z
  obtain ⟨H, hS, hok, only⟩ := pick
  have free : ∀ {b : Addr} {o : Obj}, s1.heap.get? b = some o → (b = a → K.lookup a ≠ none ∨ ∃ es ep, o.data = .dict es ep) → H b = none := fun {b o} e h => by
    cases q : H b with
    | none => rfl
    | some u =>
      obtain ⟨rfl, h2, _⟩ := only b u q
      rcases h rfl with z | ⟨es, ep, z⟩
      · exact absurd h2 z
      · rw [ha] at e
        cases e
        cases z
  have ns1 : ∀ {b : Addr} {m : Str → Option Value}, s1.heap.Ns b m → (hidT s1.heap H).Ns b m := fun {b m} z => by
    obtain ⟨o, es, ep, e, d, r⟩ := z
    exact ⟨o, es, ep, hidT_get e (free e fun _ => .inr ⟨es, ep, d⟩), d, r⟩
  have kin1 : K.In (hidT s1.heap H) := fun b o e => hidT_get (KX b o e) (free (KX b o e) fun z => .inl (by rw [← z, e]; exact fun y => nomatch y))
  obtain ⟨mc, l1, l2⟩ := hlim
  have env : Env0 P w K mg (hidT s1.heap H) callerA [] s1 H := ⟨rfl, ⟨kin1, ns1 hns, ⟨mb, ns1 hb, hbb⟩, ⟨mc, ns1 l1, l2⟩⟩, fun b o e => of_hidT e, Nat.le_of_eq (hidT_size _ _), trivial, (fun b z => nomatch z), hok, .of_eq hg⟩
  refine codeAny_mono ((F _ kin1 (ns1 hns)).run callerA [] s1 H ⟨[.ref a], []⟩ [.ref a] [.ref a] _ _ rfl hr env (hbind s1 (.ref a)) (.cons rfl .nil) (hsp H hS)) fun res s' got => ?_
  cases res with
  | error er =>
    obtain ⟨_, _, _, _, _, _, _, _, _, _, _, _, z⟩ := got
    exact z.elim
  | ok fl =>
    cases fl with
    | next => exact got.elim
    | brk => exact got.elim
    | cont => exact got.elim
    | ret u =>
      obtain ⟨v, H', os, bare, un, hok', r', q⟩ := got
      cases (show v = .bl true from q)
      cases (show u = Value.bool true from r')
      refine ⟨rfl, OldK.of_keep fun b o e => ?_, os, bare⟩
      cases q : H b with
      | none => exact un.keep b o e q (fun z => nomatch z) (by simp)
      | some u =>
        obtain ⟨rfl, _, xs, rfl⟩ := only b u q
        obtain ⟨z1, _⟩ := hok' b _ (un.frzs b _ _ q)
        rw [ha] at e
        cases e
        exact z1
theorem walk_WQ {l : PySem.W.OpenLaw} {n k : Nat} {q : Program} {loose : List Str} {XP : (Str → Option Value) → Heap → Prop} {YP : World → Heap → Prop} {d : DefRec} {x : Str}
    (hn : l.most = some n) (hn2 : n ≤ sizeLine) (hdf : d.params.defaults = []) (hr : Room k callerA)
    (F : ∀ (w : World) (mg : Str → Option Value) (fa : Addr) (h : Heap), YP w h → h.Ns mainGlobals mg → mg d.name = some (.ref fa) →
      ∃ (K : PySem.W.Frag) (fd : FuncData) (sp : Sp), K.In h ∧ (∀ (s : Shared) (u : Value), BindsTo s fd ⟨[u], []⟩ [(x, u)]) ∧
        (∀ (H : Hp) (a : Addr) (ns : List Int), ns.length ≤ n → SqL K H a (ns.map V.int) → sp [.ref a] H (fun v _ => v = .bl true) fun _ _ _ => False) ∧
        ∀ base : Heap, K.In base → base.Ns mainGlobals mg → FnQ l.prog w K mg base k fa fd [x] sp) :
    PySem.W.WalkO q loose XP YP l.row.toRowW d [] (fun f vs => PySem.call f vs) := by
  refine Att.attach_call hn hdf fun w s₀ s₁ mg mb fa o pm cd doc a vs ns G Y ho hd hcd hmg hobj hints hlen hg => ?_
  obtain ⟨K, fd, sp, KX, hb, hsp, hF⟩ := F w mg fa _ Y G.T.g hmg
  exact law_callQ KX G.T.g G.T.b G.T.builtins G.T.nolimit hg hobj hints (Nat.le_trans hlen hn2) hr hF hb (fun H hS => hsp H a ns hlen hS)
end DL
namespace DL
open PySem L2 Evl PyProof.Rows
theorem un1 {n : Nat} (h : n + 64 < cLine) : n + 1 < cLine := by omega
def tDead : TS := fun _ _ _ => False
theorem ps_dead {X : Cx} {st : Stmt} : PS X st tDead := ⟨fun _ _ _ _ _ _ h => h.elim⟩
section
variable {X : Cx} {K : Frag} {e : Expr} {te : TE} {p apos cpos pos : Pos}
/-- list(e.items()) -/
def tItV (te : TE) : TE := fun σ H Q => te σ H fun x H1 => ∃ (d : Addr) (kvs : List (Key × V)), x = .ref d ∧ Rd H1 d (.dK kvs) ∧ ∀ (H' : Hp) (l : Addr) (as : List Addr), (∀ b o, H1 b = some o → H' b = some o) → H1 l = none → (∀ t ∈ as, H1 t = none) → l ∉ as → H' l = some (.lst (as.map V.ref)) → Paired (fun (t : Addr) (q : Key × V) => H' t = some (.tup [kV q.1, q.2])) as kvs → Q (.ref l) H'
theorem pe_listItV (hK : X.K = K) (hc : X.calm = true) (he : PE X e te) (hg : Gl X "list") (hm : X.mg "list" = none) (hv : bootBuiltins "list" = some (.type "list")) (hbase : attributeBase e "items" X.env (eval e X.env) = eval e X.env := by rfl) (hline : (apos.endLine == cpos.line) = true := by rfl)
    (hs : starEach [.Call (.Attribute e "items" apos) [] [] cpos] X.env = (false, eval (.Call (.Attribute e "items" apos) [] [] cpos) X.env) :: starEach [] X.env := by rfl) : PE X (.Call (.Name "list" p) [.Call (.Attribute e "items" apos) [] [] cpos] [] pos) (tItV te) := by
  refine ⟨fun pins s σ H Q I want => wpAny_Call_Name_kw (ld_blt I hg hm hv (PyProof.Rows.callWith_type1 ?_ hs rfl))⟩
  rw [hs]
  show wpAny _ _ (spliced ((false, eval (.Call (.Attribute e "items" apos) [] [] cpos) X.env) :: backTo pos (starEach [] X.env))) _ X.xe s
  refine Calls.spliced_cons (wpAny_Call_method (T := "dict") (id := "dict.items") hbase rfl hline F.plainAttrs_dict F.slot_dict_items F.type_dict_items (thn (he.run pins s σ H _ I want) fun u s1 ⟨y, H1, J, ry, d, kvs, ey, hd, q⟩ => ?_))
  subst ey
  cases (show u = Value.ref d from ry)
  obtain ⟨size, low, vs, kv, isd⟩ := dk_rd J.hok hd
  obtain ⟨ep, at_⟩ := isd.dictAt
  have many : kvs.length = vs.length := Paired.length kv
  have J2 : Inv X pins σ H1 { s1 with heap := s1.heap.push { cls := .type "dict_items", data := .fields #[.ref d] } } := J.kept (t' := s1.toks) fun b ob z => Heap.get?_push_of_some _ z
  refine ⟨isd.typeIs, isd.mapOf.noDict, ?_⟩
  show wpAny (model X.prog X.w) X.A (callWith cpos (.builtin "dict.items") [.ref d] [] []) _ X.xe s1
  refine method_meetsIn F.slot_dict_items F.entry_dict_items rfl (PySem.evalArgs_none ⟨rfl, isd.typeIs, F.args_dict_items_1 _, _, meets_dict_items (mixKind X.prog X.w) d low, ⟨vs, isd⟩, Calls.spliced_nil ?_⟩)
  refine PySem.W.kdx_call (knd := mixKind X.prog X.w) (kvs := vs) (ep := ep) (J.ok.hd hc) ⟨_, Heap.get?_push_size _ rfl, rfl, rfl⟩ (at_.push _) (by omega) fun h' tk acc c as k1 k2 k3 k4 k5 => ?_
  obtain ⟨H', z1, z2, z3, z4, z5, z6, J3⟩ := LiI.items_laid (tk := tk) J2 size kv k1 k2 k3 k4 k5
  exact ⟨.ref _, H', J3, rfl, q H' _ as z1 z2 z3 z4 z5 z6⟩
end
section
variable {K : Frag} {W : WX} {σ σ1 : L2.St} {ρ ρ1 : En} {F F1 H H1 : Hp} {x : PX} {P : Dt → En → Prop}
theorem items_rep : ∀ {l : List (Key × Dt)} {kvs : List (Key × V)} {as : List Addr}, RepKV K F l kvs → Paired (fun (t : Addr) (q : Key × V) => H1 t = some (.tup [kV q.1, q.2])) as kvs → (∀ t ∈ as, H1 t = F t) → RepL K F (pairsD l) (as.map V.ref)
  | [], _, _, h, g, _ => by
    cases h
    cases g
    exact repL_nil
  | p :: l, _, _, ⟨v, r, h1, h2, h3⟩, g, hn => by
    subst h1
    cases g with
    | @cons t _ ts _ e1 e2 =>
      refine repL_cons ?_ (items_rep h3 e2 fun z hz => hn z (List.mem_cons_of_mem _ hz))
      unfold Rep
      exact ⟨t, _, rfl, st_of (by rw [← hn t List.mem_cons_self]; exact e1), repL_cons key_rep (repL_cons h2 repL_nil)⟩
theorem e_itV {te : TE} (h : EvD K W te ρ x fun d ρ1 => ∃ l, DicAt ρ1 d l ∧ P (.lst (pairsD l)) ρ1) : EvD K W (tItV te) ρ x P := fun σ F H Q s q w =>
  h σ F H _ s (fun d ρ1 v F1 H1 ⟨l, hd, p⟩ s1 r => by
    obtain ⟨a, kvs, rfl, h1, h2⟩ := hd.at_ s1.sym r
    refine ⟨a, kvs, rfl, h1, fun H' b as g hb hn hnb hl hp => ?_⟩
    have st := Step.grow s1.sym (show Ex H1 H' from g)
    refine q (.lst (pairsD l)) ρ1 (.ref b) _ H' p (s1.trans st) ?_
    show Rep K (Fz F1 H1 H') (.lst (pairsD l)) (.ref b)
    unfold Rep
    exact ⟨b, _, rfl, sq_of (by rw [fz_new hb]; exact hl), items_rep (h2.mono st.exF) hp fun t ht => (fz_new (hn t ht)).symm⟩) w
end
end DL
set_option Elab.async false
set_option linter.all false
set_option maxRecDepth 100000
set_option autoImplicit false
set_option maxHeartbeats 4000000
/-! comprehensions by a map and a filter -/
namespace DL
open PySem L2 Evl PyProof.Rows
section
variable {K : Frag} {W : WX} {ρ : En} {x : PX}
theorem EvD.mono {te : TE} {P Q : Dt → En → Prop} (h : EvD K W te ρ x P) (m : ∀ d ρ', P d ρ' → Q d ρ') : EvD K W te ρ x Q := fun σ F H R s q w =>
  h σ F H R s (fun d ρ' v F' H' p => q d ρ' v F' H' (m d ρ' p)) w
theorem EvN.mono {te : TE} {P Q : Dt → En → Prop} (h : EvN K W te ρ x P) (m : ∀ d ρ', P d ρ' → Q d ρ') : EvN K W te ρ x Q := fun σ F H R s q w =>
  h σ F H R s (fun d ρ' v o F' H' p => q d ρ' v o F' H' (m d ρ' p)) w
theorem TtD.mono {tt : TT} {P Q : Bool → En → Prop} (h : TtD K W tt ρ x P) (m : ∀ b ρ', P b ρ' → Q b ρ') : TtD K W tt ρ x Q := fun σ F H R s q w =>
  h σ F H R s (fun d ρ' F' H' p => q d ρ' F' H' (m d ρ' p)) w
theorem TgD.mono {vo : Option (List Nat)} {g : TG} {z : Dt} {P Q : En → Prop} (h : TgD K vo g z ρ P) (m : ∀ ρ', P ρ' → Q ρ') : TgD K vo g z ρ Q := fun σ F H R v s r q =>
  h σ F H R v s r fun ρ' σ' p => q ρ' σ' (m ρ' p)
theorem ItD.mono {wi : TI} {P Q : List Dt → En → Prop} (h : ItD K W wi ρ x P) (m : ∀ zs ρ', P zs ρ' → Q zs ρ') : ItD K W wi ρ x Q := fun σ F H R s q w =>
  h σ F H R s (fun zs ρ' J F' H' p => q zs ρ' J F' H' (m zs ρ' p)) w
theorem ArD.mono {ta : TA} {P Q : List Dt → En → Prop} (h : ArD K W ta ρ x P) (m : ∀ d ρ', P d ρ' → Q d ρ') : ArD K W ta ρ x Q := fun σ F H R s q w =>
  h σ F H R s (fun d ρ' v F' H' p => q d ρ' v F' H' (m d ρ' p)) w
/-- a call's new object, shared at once -/
theorem c_new {r : List V → Hp → VK → Prop} {ds : List Dt} {P : Dt → En → Prop} (h : CaN K r ds ρ P) : CaD K r ds ρ P := fun σ F H Q us s r q =>
  h σ F H Q us s r fun d ρ' p o F' H' pp st hp ho => q d ρ' (.ref p) _ _ pp (st.trans (Step.grow st.sym (Ex.new hp))) (rep_own ho hp st.sym.ex).toV
theorem take_next {α : Type} {l : List α} {i : Nat} {z : α} (h : l[i]? = some z) : l.take (i + 1) = l.take i ++ [z] := by rw [List.take_succ, h]; rfl
theorem n_lcF {wi : TI} {g : TG} {tt : TT} {te : TE} {vs : List Nat} {Q : Dt → En → Prop} (h : ItD K W wi ρ x fun zs ρ1 => noLent ρ1 vs = true ∧ ∃ (α : Type) (ys : List α) (w : α → Dt), zs = ys.map w ∧ ys.length < 100000 ∧ ∃ (p : α → Bool) (f : α → Dt),
      (∀ y ∈ ys, TgD K (some vs) g (w y) (wipeE ρ1 vs) fun ρ2 => TtD K w0 tt ρ2 px0 fun b ρ3 => b = p y ∧
        (b = true → EvD K w0 te ρ3 px0 fun d ρ4 => d = f y ∧ d.real = true ∧ noLent ρ4 vs = true ∧ wipeE ρ4 vs = wipeE ρ1 vs) ∧ (b = false → noLent ρ3 vs = true ∧ wipeE ρ3 vs = wipeE ρ1 vs)) ∧
      Q (.lst ((ys.filter p).map f)) (wipeE ρ1 vs)) : EvN K W (tLc wi g tt te vs) ρ x Q := by
  refine n_lc (h.mono fun zs ρ1 ⟨h1, α, ys, w, hw, h2, p, f, hb, hd⟩ => ⟨h1, fun k acc ρ' => k ≤ ys.length ∧ acc = ((ys.take k).filter p).map f ∧ ρ' = wipeE ρ1 vs, ⟨Nat.zero_le _, rfl, rfl⟩, ?_, ?_⟩)
  · rintro i acc _ z hz ⟨hi, rfl, rfl⟩
    obtain ⟨y, hy, rfl⟩ : ∃ y, ys[i]? = some y ∧ z = w y := by
      rw [hw, List.getElem?_map] at hz
      cases e : ys[i]? with
      | none => rw [e] at hz; cases hz
      | some y => rw [e] at hz; exact ⟨y, rfl, (Option.some.inj hz).symm⟩
    clear hz
    have hz := hy
    have hlt : i < ys.length := (List.getElem?_eq_some_iff.mp hz).1
    refine (hb y (List.mem_of_getElem? hz)).mono fun ρ2 t => t.mono fun b ρ3 ⟨e, u, v⟩ => ⟨fun hb => (u hb).mono fun d ρ4 ⟨e1, e2, e3, e4⟩ => ⟨e2, ?_, e3, hlt, ?_, e4⟩, fun hb => ⟨(v hb).1, hlt, ?_, (v hb).2⟩⟩
    · rw [List.length_map]
      have := List.length_filter_le p (ys.take i)
      rw [List.length_take] at this
      omega
    · rw [take_next hz, List.filter_append, List.map_append, List.filter_cons_of_pos (by rw [← e, hb]), e1]
      rfl
    · rw [take_next hz, List.filter_append, List.map_append, List.filter_cons_of_neg (by rw [← e, hb]; exact Bool.false_ne_true)]
      simp
  · rintro acc _ ⟨_, rfl, rfl⟩
    rw [hw, List.length_map, List.take_length]
    exact hd
/-- all of them -/
theorem n_lcM {wi : TI} {g : TG} {te : TE} {vs : List Nat} {Q : Dt → En → Prop} (h : ItD K W wi ρ x fun zs ρ1 => noLent ρ1 vs = true ∧ ∃ (α : Type) (ys : List α) (w : α → Dt), zs = ys.map w ∧ ys.length < 100000 ∧ ∃ (f : α → Dt),
      (∀ y ∈ ys, TgD K (some vs) g (w y) (wipeE ρ1 vs) fun ρ2 => EvD K w0 te ρ2 px0 fun d ρ4 => d = f y ∧ d.real = true ∧ noLent ρ4 vs = true ∧ wipeE ρ4 vs = wipeE ρ1 vs) ∧
      Q (.lst (ys.map f)) (wipeE ρ1 vs)) : EvN K W (tLc wi g tYes te vs) ρ x Q :=
  n_lcF (h.mono fun zs ρ1 ⟨h1, α, ys, w, hw, h2, f, hb, hd⟩ => ⟨h1, α, ys, w, hw, h2, fun _ => true, f, fun z hz => (hb z hz).mono fun ρ2 e => t_yes ⟨rfl, fun _ => e, fun h => nomatch h⟩, by rw [List.filter_eq_self.mpr (fun _ _ => rfl)]; exact hd⟩)
theorem mergeD_app (l a b : List (Key × Dt)) : mergeD l (a ++ b) = mergeD (mergeD l a) b := by unfold mergeD; rw [List.foldl_append]
theorem putD_len (l : List (Key × Dt)) (k : Key) (d : Dt) : (putD l k d).length ≤ l.length + 1 := by
  unfold putD
  split
  · rw [List.length_map]; omega
  · rw [List.length_append]; exact Nat.le_refl _
theorem mergeD_len : ∀ (b l : List (Key × Dt)), (mergeD l b).length ≤ l.length + b.length
  | [], l => Nat.le_refl _
  | p :: b, l => by
    have h := mergeD_len b (putD l p.1 p.2)
    have h2 := putD_len l p.1 p.2
    show (mergeD (putD l p.1 p.2) b).length ≤ _
    rw [List.length_cons]
    omega
theorem n_dcF {wi : TI} {g : TG} {tt : TT} {tk tv : TE} {vs : List Nat} {Q : Dt → En → Prop} (h : ItD K W wi ρ x fun zs ρ1 => noLent ρ1 vs = true ∧ ∃ (α : Type) (ys : List α) (w : α → Dt), zs = ys.map w ∧ ys.length < 100000 ∧ ∃ (p : α → Bool) (k : α → Key) (f : α → Dt),
      (∀ y ∈ ys, TgD K (some vs) g (w y) (wipeE ρ1 vs) fun ρ2 => TtD K w0 tt ρ2 px0 fun b ρ3 => b = p y ∧
        (b = true → EvD K w0 tk ρ3 px0 fun kd ρ4 => kd.key = some (k y) ∧ EvD K w0 tv ρ4 px0 fun d ρ5 => d = f y ∧ d.real = true ∧ noLent ρ5 vs = true ∧ wipeE ρ5 vs = wipeE ρ1 vs) ∧ (b = false → noLent ρ3 vs = true ∧ wipeE ρ3 vs = wipeE ρ1 vs)) ∧
      Q (dicD (mergeD [] ((ys.filter p).map fun y => (k y, f y)))) (wipeE ρ1 vs)) : EvN K W (tDc wi g tt tk tv vs) ρ x Q := by
  refine n_dc (h.mono fun zs ρ1 ⟨h1, α, ys, w, hw, h2, p, k, f, hb, hd⟩ => ⟨h1, fun j acc ρ' => j ≤ ys.length ∧ acc = mergeD [] (((ys.take j).filter p).map fun z => (k z, f z)) ∧ ρ' = wipeE ρ1 vs, ⟨Nat.zero_le _, rfl, rfl⟩, ?_, ?_⟩)
  · rintro i acc _ z hz ⟨hi, rfl, rfl⟩
    obtain ⟨y, hy, rfl⟩ : ∃ y, ys[i]? = some y ∧ z = w y := by
      rw [hw, List.getElem?_map] at hz
      cases e : ys[i]? with
      | none => rw [e] at hz; cases hz
      | some y => rw [e] at hz; exact ⟨y, rfl, (Option.some.inj hz).symm⟩
    clear hz
    have hz := hy
    have hlt : i < ys.length := (List.getElem?_eq_some_iff.mp hz).1
    refine (hb y (List.mem_of_getElem? hz)).mono fun ρ2 t => t.mono fun b ρ3 ⟨e, u, v⟩ => ⟨fun hb => (u hb).mono fun kd ρ4 ⟨ek, q⟩ => ⟨k y, ek, q.mono fun d ρ5 ⟨e1, e2, e3, e4⟩ => ⟨e2, ?_, e3, hlt, ?_, e4⟩⟩, fun hb => ⟨(v hb).1, hlt, ?_, (v hb).2⟩⟩
    · have := mergeD_len (((ys.take i).filter p).map fun z => (k z, f z)) []
      rw [List.length_map] at this
      have h3 := List.length_filter_le p (ys.take i)
      rw [List.length_take] at h3
      have : ([] : List (Key × Dt)).length = 0 := rfl
      omega
    · rw [take_next hz, List.filter_append, List.map_append, mergeD_app, List.filter_cons_of_pos (by rw [← e, hb]), e1]
      rfl
    · rw [take_next hz, List.filter_append, List.map_append, List.filter_cons_of_neg (by rw [← e, hb]; exact Bool.false_ne_true)]
      simp
  · rintro acc _ ⟨_, rfl, rfl⟩
    rw [hw, List.length_map, List.take_length]
    exact hd
/-- a slot that holds nothing of its own -/
def slS : Option Dt → Sl
  | none => .no
  | some d => .sh d
theorem slS_ln (s : Option Dt) : (slS s).ln = false := by cases s <;> rfl
/-- the n-th text of a list of texts -/
theorem strs_get {xs : List Str} {k : Nat} {z : Dt} (h : (strsD xs)[k]? = some z) : ∃ y, xs[k]? = some y ∧ z = .str y := by
  unfold strsD at h
  rw [List.getElem?_map] at h
  cases e : xs[k]? with
  | none => rw [e] at h; cases h
  | some y => rw [e] at h; exact ⟨y, rfl, (Option.some.inj h).symm⟩
theorem strs_mem {xs : List Str} {z : Dt} (h : z ∈ strsD xs) : ∃ y ∈ xs, z = .str y := by
  obtain ⟨y, h1, rfl⟩ := List.mem_map.mp h
  exact ⟨y, h1, rfl⟩
theorem strs_len (xs : List Str) : (strsD xs).length = xs.length := List.length_map _
theorem atI_get {ds : List Dt} {i : Int} (h0 : 0 ≤ i) (h : i < ds.length) : atI ds i = ds[i.toNat]? := by
  unfold atI ixN
  rw [if_pos h0, if_pos h]
  rfl
/-- a place that is there -/
theorem atI_at {ds : List Dt} {i : Int} (h0 : 0 ≤ i) (h : i < ds.length) : ∃ d, atI ds i = some d ∧ d ∈ ds ∧ ds[i.toNat]? = some d := by
  have hk : i.toNat < ds.length := by omega
  rw [atI_get h0 h]
  exact ⟨_, List.getElem?_eq_getElem hk, List.getElem_mem hk, List.getElem?_eq_getElem hk⟩
theorem strs_perm {ys : List Dt} {xs : List Str} (h : ys.Perm (strsD xs)) : ∃ ns : List Str, ys = strsD ns ∧ ns.Perm xs := by
  have hs : ∀ {ys : List Dt}, (∀ y ∈ ys, ∃ z, y = Dt.str z) → ∃ ns : List Str, ys = strsD ns := by
    intro ys
    induction ys with
    | nil => exact fun _ => ⟨[], rfl⟩
    | cons a l ih =>
      intro h
      obtain ⟨z, rfl⟩ := h _ List.mem_cons_self
      obtain ⟨ns, rfl⟩ := ih fun y hy => h y (List.mem_cons_of_mem _ hy)
      exact ⟨z :: ns, rfl⟩
  obtain ⟨ns, rfl⟩ := hs fun y hy => by
    obtain ⟨z, _, rfl⟩ := strs_mem (h.mem_iff.mp hy)
    exact ⟨z, rfl⟩
  refine ⟨ns, rfl, ?_⟩
  have := h.map fun d => match d with | Dt.str z => z | _ => Str.empty
  unfold strsD at this
  rw [List.map_map, List.map_map] at this
  simpa [Function.comp_def] using this
theorem strs_take (xs : List Str) (n : Nat) : (strsD xs).take n = strsD (xs.take n) := by unfold strsD; rw [List.map_take]
/-- xs[:n] -/
theorem cut_take {ds : List Dt} {n : Int} (h0 : 0 ≤ n) : cutD ds none (some n) = ds.take n.toNat := by
  unfold cutD
  rw [HT.sIx_none, List.drop_zero]
  show ds.take ((if n < 0 then (n + (ds.length : Int)).toNat else min n.toNat ds.length) - 0) = _
  rw [if_neg (by omega), Nat.sub_zero, Nat.min_def]
  split
  · rfl
  · rw [List.take_length, List.take_of_length_le (by omega)]
/-! ### the values of a dict, plainly -/
theorem valD_cons {p : Key × Dt} {l : List (Key × Dt)} {k : Key} : valD (p :: l) k = if p.1 = k then some p.2 else valD l k := by
  unfold valD
  rw [List.find?_cons]
  by_cases h : p.1 = k
  · rw [if_pos h]
    simp [h]
  · rw [if_neg h]
    simp [h]
theorem valD_mem {l : List (Key × Dt)} {k : Key} {d : Dt} (h : valD l k = some d) : (k, d) ∈ l := by
  induction l with
  | nil => cases h
  | cons p l ih =>
    rw [valD_cons] at h
    by_cases e : p.1 = k
    · rw [if_pos e] at h
      cases h
      subst e
      exact List.mem_cons_self
    · rw [if_neg e] at h
      exact List.mem_cons_of_mem _ (ih h)
theorem valD_of {l : List (Key × Dt)} {k : Key} {d : Dt} (nd : (l.map (·.1)).Nodup) (h : (k, d) ∈ l) : valD l k = some d := by
  induction l with
  | nil => cases h
  | cons p l ih =>
    rw [valD_cons]
    rw [List.map_cons, List.nodup_cons] at nd
    rcases List.mem_cons.mp h with e | e
    · subst e
      rw [if_pos rfl]
    · rw [if_neg, ih nd.2 e]
      intro z
      exact nd.1 (z ▸ List.mem_map.mpr ⟨_, e, rfl⟩)
theorem valD_none {l : List (Key × Dt)} {k : Key} (h : k ∉ l.map (·.1)) : valD l k = none := by
  cases e : valD l k with
  | none => rfl
  | some d => exact absurd (List.mem_map.mpr ⟨_, valD_mem e, rfl⟩) h
theorem putD_new {l : List (Key × Dt)} {k : Key} {d : Dt} (h : k ∉ l.map (·.1)) : putD l k d = l ++ [(k, d)] := by
  unfold putD
  rw [if_neg]
  intro z
  obtain ⟨p, hp, e⟩ := List.any_eq_true.mp z
  exact h (by rw [← of_decide_eq_true e]; exact List.mem_map.mpr ⟨p, hp, rfl⟩)
theorem valD_over (k : Key) (d : Dt) (j : Key) : ∀ l : List (Key × Dt), valD (l.map fun p => if p.1 = k then (p.1, d) else p) j = if j = k then (valD l j).map (fun _ => d) else valD l j
  | [] => by simp [valD]
  | p :: l => by
    rw [List.map_cons, valD_cons, valD_cons, valD_over k d j l]
    by_cases e : p.1 = k
    · rw [if_pos e]
      by_cases e2 : p.1 = j
      · rw [if_pos e2, if_pos e2, if_pos (e2.symm.trans e)]
        rfl
      · rw [if_neg (show ¬ (p.1, d).1 = j from e2), if_neg e2]
    · rw [if_neg e]
      by_cases e2 : p.1 = j
      · rw [if_pos e2, if_pos e2, if_neg (fun z => e (e2.trans z))]
      · rw [if_neg e2, if_neg e2]
theorem valD_have {k : Key} : ∀ {l : List (Key × Dt)}, k ∈ l.map (·.1) → ∃ d, valD l k = some d
  | p :: l, h => by
    rw [valD_cons]
    by_cases e : p.1 = k
    · exact ⟨_, if_pos e⟩
    · rw [if_neg e]
      rw [List.map_cons] at h
      rcases List.mem_cons.mp h with z | z
      · exact absurd z.symm e
      · exact valD_have z
theorem valD_app1 (k : Key) (d : Dt) (j : Key) : ∀ l : List (Key × Dt), k ∉ l.map (·.1) → valD (l ++ [(k, d)]) j = if k = j then some d else valD l j
  | [], _ => by
    rw [List.nil_append, valD_cons]
  | p :: l, h => by
    rw [List.map_cons] at h
    rw [List.cons_append, valD_cons, valD_app1 k d j l fun z => h (List.mem_cons_of_mem _ z), valD_cons]
    by_cases e : p.1 = j
    · rw [if_pos e, if_pos e, if_neg]
      rintro rfl
      exact h (by rw [e]; exact List.mem_cons_self)
    · rw [if_neg e, if_neg e]
theorem any_mem (l : List (Key × Dt)) (k : Key) : (l.any (fun p => decide (p.1 = k)) = true) ↔ k ∈ l.map (·.1) := by
  rw [List.any_eq_true, List.mem_map]
  exact ⟨fun ⟨p, h1, h2⟩ => ⟨p, h1, of_decide_eq_true h2⟩, fun ⟨p, h1, h2⟩ => ⟨p, h1, decide_eq_true h2⟩⟩
theorem valD_put (l : List (Key × Dt)) (k : Key) (d : Dt) (j : Key) : valD (putD l k d) j = if k = j then some d else valD l j := by
  unfold putD
  by_cases h : k ∈ l.map (·.1)
  · rw [if_pos ((any_mem l k).mpr h), valD_over]
    by_cases e : k = j
    · obtain ⟨z, hz⟩ := valD_have h
      rw [if_pos e.symm, if_pos e, ← e, hz]
      rfl
    · rw [if_neg (fun z => e z.symm), if_neg e]
  · rw [if_neg (fun z => h ((any_mem l k).mp z)), valD_app1 k d j l h]
theorem mergeD_new : ∀ (b l : List (Key × Dt)), ((l ++ b).map (·.1)).Nodup → mergeD l b = l ++ b
  | [], l, _ => (List.append_nil l).symm
  | p :: b, l, h => by
    show mergeD (putD l p.1 p.2) b = _
    have hp : p.1 ∉ l.map (·.1) := fun z => by
      rw [List.map_append, List.nodup_append] at h
      exact h.2.2 _ z _ (by simp) rfl
    rw [putD_new hp, mergeD_new b _ (by simpa using h)]
    simp
/-- a dict whose keys are texts -/
def kvL (m : List (Str × Dt)) : List (Key × Dt) := m.map fun p => (Sum.inr p.1, p.2)
theorem kvL_keys (m : List (Str × Dt)) : (kvL m).map (·.1) = (m.map (·.1)).map Sum.inr := by unfold kvL; simp
theorem nodup_inr {xs : List Str} : (xs.map (Sum.inr : Str → Key)).Nodup ↔ xs.Nodup := by
  induction xs with
  | nil => simp
  | cons a xs ih =>
    rw [List.map_cons, List.nodup_cons, List.nodup_cons, ih]
    simp
theorem kvL_app (a b : List (Str × Dt)) : kvL (a ++ b) = kvL a ++ kvL b := by unfold kvL; simp
theorem keys_strs (m : List (Str × Dt)) : keysD (kvL m) = strsD (m.map (·.1)) := by
  unfold keysD kvL strsD
  rw [List.map_map, List.map_map]
  rfl
/-- a text's value put -/
def putM (m : List (Str × Dt)) (k : Str) (d : Dt) : List (Str × Dt) := if m.any (fun p => decide (p.1 = k)) then m.map (fun p => if p.1 = k then (p.1, d) else p) else m ++ [(k, d)]
theorem kvL_put (m : List (Str × Dt)) (k : Str) (d : Dt) : putD (kvL m) (Sum.inr k) d = kvL (putM m k d) := by
  unfold putD putM
  have ha : ((kvL m).any fun p => decide (p.1 = Sum.inr k)) = m.any fun p => decide (p.1 = k) := by
    unfold kvL
    rw [List.any_map]
    congr 1
    funext p
    exact decide_eq_decide.mpr ⟨fun h => Sum.inr.inj h, fun h => congrArg Sum.inr (show p.1 = k from h)⟩
  rw [ha]
  by_cases h : (m.any fun p => decide (p.1 = k)) = true
  · rw [if_pos h, if_pos h]
    unfold kvL
    rw [List.map_map, List.map_map]
    refine List.map_congr_left fun p _ => ?_
    dsimp only [Function.comp]
    by_cases e : p.1 = k
    · rw [if_pos (by rw [e]), if_pos e]
    · rw [if_neg (fun z => e (Sum.inr.inj z)), if_neg e]
  · rw [if_neg h, if_neg h, kvL_app]
    rfl
theorem putM_keys (m : List (Str × Dt)) (k : Str) (d : Dt) : (putM m k d).map (·.1) = if k ∈ m.map (·.1) then m.map (·.1) else m.map (·.1) ++ [k] := by
  unfold putM
  have hi : (m.any (fun p => decide (p.1 = k)) = true) ↔ k ∈ m.map (·.1) := by
    rw [List.any_eq_true, List.mem_map]
    exact ⟨fun ⟨p, h1, h2⟩ => ⟨p, h1, of_decide_eq_true h2⟩, fun ⟨p, h1, h2⟩ => ⟨p, h1, decide_eq_true h2⟩⟩
  by_cases h : k ∈ m.map (·.1)
  · rw [if_pos (hi.mpr h), if_pos h, List.map_map]
    refine List.map_congr_left fun p _ => ?_
    show (if p.1 = k then (p.1, d) else p).1 = p.1
    split <;> rfl
  · rw [if_neg (fun z => h (hi.mp z)), if_neg h, List.map_append]
    rfl
theorem putM_mem {m : List (Str × Dt)} {k : Str} {d : Dt} {p : Str × Dt} (h : p ∈ putM m k d) : p = (k, d) ∨ p ∈ m := by
  unfold putM at h
  split at h
  · obtain ⟨q, h1, h2⟩ := List.mem_map.mp h
    by_cases e : q.1 = k
    · rw [if_pos e, e] at h2
      exact .inl h2.symm
    · rw [if_neg e] at h2
      exact .inr (h2 ▸ h1)
  · rcases List.mem_append.mp h with h | h
    · exact .inr h
    · exact .inl (List.mem_singleton.mp h)
/-- the least one that a test takes -/
theorem find_least {q : Str → Bool} {n : Str} : ∀ {xs : List Str}, xs.Pairwise (fun a b => leS a b = true) → n ∈ xs → q n = true → (∀ y ∈ xs, q y = true → leS n y = true) → xs.find? q = some n
  | a :: l, pw, hn, hq, hm => by
    rw [List.find?_cons]
    cases e : q a with
    | true =>
      rcases List.mem_cons.mp hn with z | z
      · rw [z]
      · rw [leS_anti n a (hm a List.mem_cons_self e) ((List.pairwise_cons.mp pw).1 n z)]
    | false =>
      rcases List.mem_cons.mp hn with z | z
      · rw [← z, hq] at e
        cases e
      · exact find_least (List.pairwise_cons.mp pw).2 z hq fun y hy => hm y (List.mem_cons_of_mem _ hy)
theorem leS_refl (a : Str) : leS a a = true := by
  have := leS_total a a
  rwa [Bool.or_self] at this
/-- [str(name) for name in d] -/
theorem n_lcStr {te : TE} {j : Nat} {Q : Dt → En → Prop} (h : EvD K W te ρ x fun d ρ1 => ∃ m, d = dicD (kvL m) ∧ lent ρ1 j = false ∧ j < ρ1.length ∧ m.length < 100000 ∧ Q (.lst (strsD (m.map (·.1)))) (ρ1.set j .no)) :
    EvN K W (tLc (iKeys (tLkf te)) (gName j) tYes (tCB rStrU (tCons (tVar j) tNil)) [j]) ρ x Q := by
  refine n_lcM (i_keys (h.mono fun d ρ1 ⟨m, e1, e2, e3, e4, e5⟩ => ⟨kvL m, e1, ?_, Str, m.map (fun q : Str × Dt => q.1), .str, keys_strs m, ?_, .str, fun y hz => ?_, e5⟩))
  · unfold noLent
    rw [List.all_cons, e2]
    rfl
  · rw [List.length_map]
    exact e4
  · have hl : lent ((ρ1.set j .no).set j (.sh (.str y))) j = false := by
      unfold lent
      rw [List.getElem?_set_self (by rw [List.length_set]; exact e3)]
    have hl0 : lent (ρ1.set j .no) j = false := by
      unfold lent
      rw [List.getElem?_set_self e3]
    refine g_name (by unfold inV; simp) hl0 ?_
    refine e_cb (a_cons (e_var (d := .str y) ?_ (a_nil (c_strS ⟨rfl, rfl, ?_, ?_⟩))))
    · exact List.getElem?_set_self (by rw [show wipeE ρ1 [j] = ρ1.set j .no from rfl, List.length_set]; exact e3)
    · unfold noLent
      rw [List.all_cons, show wipeE ρ1 [j] = ρ1.set j .no from rfl, hl]
      rfl
    · show ((ρ1.set j .no).set j _).set j _ = ρ1.set j .no
      rw [List.set_set, List.set_set]
theorem items_kvL (m : List (Str × Dt)) : itemsD (kvL m) = m.map fun p => .tup [.str p.1, p.2] := by
  unfold itemsD keysD valsD kvL
  induction m with
  | nil => rfl
  | cons p m ih =>
    simp only [List.map_cons, List.zip_cons_cons] at ih ⊢
    rw [ih]
    rfl
end
end DL
set_option Elab.async false
set_option linter.all false
set_option maxRecDepth 100000
set_option autoImplicit false
set_option maxHeartbeats 4000000
namespace T
open PySem L2 PyProof.Rows DL
def top (i : Nat) : Stmt := PySem.Challenge.pw_partlabels_k62_powers_of_actions.main.body.getD i (.Pass ⟨0, 0, 0, 0⟩)
abbrev s_BadNumberu_initu : Stmt := inClass (top 2) 0
abbrev s_BadChangeu_initu : Stmt := inClass (top 3) 0
abbrev s_BadTimesu_initu : Stmt := inClass (top 4) 0
abbrev s_is_name : Stmt := top 8
abbrev s_is_integer : Stmt := top 10
abbrev s_is_change : Stmt := top 14
abbrev s_behind : Stmt := top 15
abbrev s_repeated : Stmt := top 16
abbrev s_Actionu_initu : Stmt := inClass (top 17) 0
abbrev s_Actionu_equ : Stmt := inClass (top 17) 1
abbrev s_Actionu_addu : Stmt := inClass (top 17) 2
abbrev s_Actionu_mulu : Stmt := inClass (top 17) 3
abbrev s_Actionu_stru : Stmt := inClass (top 17) 4
abbrev s_Action_changes : Stmt := inClass (top 17) 5
abbrev s_Action_of : Stmt := inClass (top 17) 6
abbrev s_law_tape : Stmt := top 19
abbrev s_law_pick : Stmt := top 20
abbrev s_law_shuffled : Stmt := top 21
abbrev s_law_changes : Stmt := top 22
abbrev s_law_power : Stmt := top 23
abbrev s_law_made : Stmt := top 24
abbrev s_law_times : Stmt := top 25
abbrev s_law_of : Stmt := top 26
abbrev s_law_refused : Stmt := top 27
abbrev s_law : Stmt := top 28
theorem sc_BadNumberu_initu : FnScope ["self", "number"] ["self", "number"] (defScope s_BadNumberu_initu) := ⟨rfl, rfl, rfl, by decide +kernel, rfl, by decide +kernel, by decide +kernel⟩
theorem sc_BadChangeu_initu : FnScope ["self", "counter"] ["self", "counter"] (defScope s_BadChangeu_initu) := ⟨rfl, rfl, rfl, by decide +kernel, rfl, by decide +kernel, by decide +kernel⟩
theorem sc_BadTimesu_initu : FnScope ["self", "times"] ["self", "times"] (defScope s_BadTimesu_initu) := ⟨rfl, rfl, rfl, by decide +kernel, rfl, by decide +kernel, by decide +kernel⟩
theorem sc_is_name : FnScope ["text"] ["text"] (defScope s_is_name) := ⟨rfl, rfl, rfl, by decide +kernel, rfl, by decide +kernel, by decide +kernel⟩
theorem sc_is_integer : FnScope ["value", "low", "high"] ["value", "low", "high"] (defScope s_is_integer) := ⟨rfl, rfl, rfl, by decide +kernel, rfl, by decide +kernel, by decide +kernel⟩
theorem sc_is_change : FnScope ["change"] ["change"] (defScope s_is_change) := ⟨rfl, rfl, rfl, by decide +kernel, rfl, by decide +kernel, by decide +kernel⟩
theorem sc_behind : FnScope ["one", "other"] ["one", "other"] (defScope s_behind) := ⟨rfl, rfl, rfl, by decide +kernel, rfl, by decide +kernel, by decide +kernel⟩
theorem sc_repeated : FnScope ["change", "times"] ["change", "times"] (defScope s_repeated) := ⟨rfl, rfl, rfl, by decide +kernel, rfl, by decide +kernel, by decide +kernel⟩
theorem sc_Actionu_initu : FnScope ["self", "changes", "name", "change"] ["self", "changes"] (defScope s_Actionu_initu) := ⟨rfl, rfl, rfl, by decide +kernel, rfl, by decide +kernel, by decide +kernel⟩
theorem sc_Actionu_equ : FnScope ["self", "other"] ["self", "other"] (defScope s_Actionu_equ) := ⟨rfl, rfl, rfl, by decide +kernel, rfl, by decide +kernel, by decide +kernel⟩
theorem sc_Actionu_addu : FnScope ["self", "other", "found", "name", "change"] ["self", "other"] (defScope s_Actionu_addu) := ⟨rfl, rfl, rfl, by decide +kernel, rfl, by decide +kernel, by decide +kernel⟩
theorem sc_Actionu_mulu : FnScope ["self", "times", "name"] ["self", "times"] (defScope s_Actionu_mulu) := ⟨rfl, rfl, rfl, by decide +kernel, rfl, by decide +kernel, by decide +kernel⟩
theorem sc_Actionu_stru : FnScope ["self", "names", "words", "name"] ["self"] (defScope s_Actionu_stru) := ⟨rfl, rfl, rfl, by decide +kernel, rfl, by decide +kernel, by decide +kernel⟩
theorem sc_Action_changes : FnScope ["self"] ["self"] (defScope s_Action_changes) := ⟨rfl, rfl, rfl, by decide +kernel, rfl, by decide +kernel, by decide +kernel⟩
theorem sc_Action_of : FnScope ["self", "values", "name", "found", "number", "kind", "amount"] ["self", "values"] (defScope s_Action_of) := ⟨rfl, rfl, rfl, by decide +kernel, rfl, by decide +kernel, by decide +kernel⟩
theorem sc_law_tape : FnScope ["_law_script", "_law_k", "_law_cell"] ["_law_script", "_law_k"] (defScope s_law_tape) := ⟨rfl, rfl, rfl, by decide +kernel, rfl, by decide +kernel, by decide +kernel⟩
theorem sc_law_pick : FnScope ["_law_tape_here", "_law_many", "_law_digit", "_law_mixed"] ["_law_tape_here", "_law_many"] (defScope s_law_pick) := ⟨rfl, rfl, rfl, by decide +kernel, rfl, by decide +kernel, by decide +kernel⟩
theorem sc_law_shuffled : FnScope ["_law_tape_here", "_law_items", "_law_left", "_law_found", "_law_turn"] ["_law_tape_here", "_law_items"] (defScope s_law_shuffled) := ⟨rfl, rfl, rfl, by decide +kernel, rfl, by decide +kernel, by decide +kernel⟩
theorem sc_law_changes : FnScope ["_law_tape_here", "_law_found", "_law_name", "_law_number"] ["_law_tape_here"] (defScope s_law_changes) := ⟨rfl, rfl, rfl, by decide +kernel, rfl, by decide +kernel, by decide +kernel⟩
theorem sc_law_power : FnScope ["_law_changes_here", "_law_times_here", "_law_found", "_law_name", "_law_word", "_law_number"] ["_law_changes_here", "_law_times_here"] (defScope s_law_power) := ⟨rfl, rfl, rfl, by decide +kernel, rfl, by decide +kernel, by decide +kernel⟩
theorem sc_law_made : FnScope ["_law_changes_here", "e"] ["_law_changes_here"] (defScope s_law_made) := ⟨rfl, rfl, rfl, by decide +kernel, rfl, by decide +kernel, by decide +kernel⟩
theorem sc_law_times : FnScope ["_law_made_here", "_law_times_here", "e"] ["_law_made_here", "_law_times_here"] (defScope s_law_times) := ⟨rfl, rfl, rfl, by decide +kernel, rfl, by decide +kernel, by decide +kernel⟩
theorem sc_law_of : FnScope ["_law_made_here", "_law_numbers", "e"] ["_law_made_here", "_law_numbers"] (defScope s_law_of) := ⟨rfl, rfl, rfl, by decide +kernel, rfl, by decide +kernel, by decide +kernel⟩
theorem sc_law_refused : FnScope ["_law_tape_here", "_law_changes_here", "_law_made_here", "_law_names", "_law_at", "_law_odd", "_law_wrong", "_law_bad", "_law_times_here", "_law_numbers", "_law_told", "_law_due", "_law_name"] ["_law_tape_here", "_law_changes_here", "_law_made_here"] (defScope s_law_refused) := ⟨rfl, rfl, rfl, by decide +kernel, rfl, by decide +kernel, by decide +kernel⟩
theorem sc_law : FnScope ["_law_script", "_law_k", "_law_tape_here", "_law_changes_here", "_law_made_here", "_law_few", "_law_great", "_law_added", "_law_turn", "_law_times_here", "_law_both"] ["_law_script"] (defScope s_law) := ⟨rfl, rfl, rfl, by decide +kernel, rfl, by decide +kernel, by decide +kernel⟩
structure Tx (K : DL.Frag) (mg : Str → Option Value) : Prop where
  n_abs : mg "abs" = none
  n_bool : mg "bool" = none
  n_dict : mg "dict" = none
  n_int : mg "int" = none
  n_isinstance : mg "isinstance" = none
  n_len : mg "len" = none
  n_list : mg "list" = none
  n_max : mg "max" = none
  n_min : mg "min" = none
  n_range : mg "range" = none
  n_repr : mg "repr" = none
  n_sorted : mg "sorted" = none
  n_str : mg "str" = none
  n_tuple : mg "tuple" = none
  e_LONGEST : ∃ t, mg "LONGEST" = some (.int 8 t)
  e_SIGNS : ∃ t, mg "SIGNS" = some (.str "abcdefghijklmnopqrstuvwxyz" t)
  e_ADD : ∃ t, mg "ADD" = some (.str "add" t)
  e_SET : ∃ t, mg "SET" = some (.str "set" t)
  g_is_name : mg "is_name" = some (.ref (He.ga K "is_name"))
  F_is_name : ∃ fd, FunD K "is_name" "is_name" (defArgs s_is_name) (defBody s_is_name) (defScope s_is_name) [] [] (He.ga K "is_name") fd
  g_is_integer : mg "is_integer" = some (.ref (He.ga K "is_integer"))
  F_is_integer : ∃ fd, FunD K "is_integer" "is_integer" (defArgs s_is_integer) (defBody s_is_integer) (defScope s_is_integer) [V.non] [] (He.ga K "is_integer") fd
  g_is_change : mg "is_change" = some (.ref (He.ga K "is_change"))
  F_is_change : ∃ fd, FunD K "is_change" "is_change" (defArgs s_is_change) (defBody s_is_change) (defScope s_is_change) [] [] (He.ga K "is_change") fd
  g_behind : mg "behind" = some (.ref (He.ga K "behind"))
  F_behind : ∃ fd, FunD K "behind" "behind" (defArgs s_behind) (defBody s_behind) (defScope s_behind) [] [] (He.ga K "behind") fd
  g_repeated : mg "repeated" = some (.ref (He.ga K "repeated"))
  F_repeated : ∃ fd, FunD K "repeated" "repeated" (defArgs s_repeated) (defBody s_repeated) (defScope s_repeated) [] [] (He.ga K "repeated") fd
  g_law_tape : mg "_law_tape" = some (.ref (He.ga K "_law_tape"))
  F_law_tape : ∃ fd, FunD K "_law_tape" "_law_tape" (defArgs s_law_tape) (defBody s_law_tape) (defScope s_law_tape) [] [] (He.ga K "_law_tape") fd
  g_law_pick : mg "_law_pick" = some (.ref (He.ga K "_law_pick"))
  F_law_pick : ∃ fd, FunD K "_law_pick" "_law_pick" (defArgs s_law_pick) (defBody s_law_pick) (defScope s_law_pick) [] [] (He.ga K "_law_pick") fd
  g_law_shuffled : mg "_law_shuffled" = some (.ref (He.ga K "_law_shuffled"))
  F_law_shuffled : ∃ fd, FunD K "_law_shuffled" "_law_shuffled" (defArgs s_law_shuffled) (defBody s_law_shuffled) (defScope s_law_shuffled) [] [] (He.ga K "_law_shuffled") fd
  g_law_changes : mg "_law_changes" = some (.ref (He.ga K "_law_changes"))
  F_law_changes : ∃ fd, FunD K "_law_changes" "_law_changes" (defArgs s_law_changes) (defBody s_law_changes) (defScope s_law_changes) [] [] (He.ga K "_law_changes") fd
  g_law_power : mg "_law_power" = some (.ref (He.ga K "_law_power"))
  F_law_power : ∃ fd, FunD K "_law_power" "_law_power" (defArgs s_law_power) (defBody s_law_power) (defScope s_law_power) [] [] (He.ga K "_law_power") fd
  g_law_made : mg "_law_made" = some (.ref (He.ga K "_law_made"))
  F_law_made : ∃ fd, FunD K "_law_made" "_law_made" (defArgs s_law_made) (defBody s_law_made) (defScope s_law_made) [] [] (He.ga K "_law_made") fd
  g_law_times : mg "_law_times" = some (.ref (He.ga K "_law_times"))
  F_law_times : ∃ fd, FunD K "_law_times" "_law_times" (defArgs s_law_times) (defBody s_law_times) (defScope s_law_times) [] [] (He.ga K "_law_times") fd
  g_law_of : mg "_law_of" = some (.ref (He.ga K "_law_of"))
  F_law_of : ∃ fd, FunD K "_law_of" "_law_of" (defArgs s_law_of) (defBody s_law_of) (defScope s_law_of) [] [] (He.ga K "_law_of") fd
  g_law_refused : mg "_law_refused" = some (.ref (He.ga K "_law_refused"))
  F_law_refused : ∃ fd, FunD K "_law_refused" "_law_refused" (defArgs s_law_refused) (defBody s_law_refused) (defScope s_law_refused) [] [] (He.ga K "_law_refused") fd
  g_law : mg "law" = some (.ref (He.ga K "law"))
  F_law : ∃ fd, FunD K "law" "law" (defArgs s_law) (defBody s_law) (defScope s_law) [] [] (He.ga K "law") fd
  g_PartError : mg "PartError" = some (.ref (He.ga K "PartError"))
  g_BadNumber : mg "BadNumber" = some (.ref (He.ga K "BadNumber"))
  x_BadNumber : XcC K (He.ga K "BadNumber")
  i_BadNumber : PySem.W.findIn K (.ref (He.ga K "BadNumber")) "__init__" = some (some (.ref (He.ma K (He.ga K "BadNumber") "__init__")))
  t_BadNumber : PySem.W.typeIn K (.ref (He.ma K (He.ga K "BadNumber") "__init__")) = some (.type "function")
  F_BadNumber : ∃ fd, FunD K "__init__" "BadNumber.__init__" (defArgs s_BadNumberu_initu) (defBody s_BadNumberu_initu) (defScope s_BadNumberu_initu) [] [] (He.ma K (He.ga K "BadNumber") "__init__") fd
  no_BadNumber_number : PySem.W.findIn K (.ref (He.ga K "BadNumber")) "number" = some none
  g_BadChange : mg "BadChange" = some (.ref (He.ga K "BadChange"))
  x_BadChange : XcC K (He.ga K "BadChange")
  i_BadChange : PySem.W.findIn K (.ref (He.ga K "BadChange")) "__init__" = some (some (.ref (He.ma K (He.ga K "BadChange") "__init__")))
  t_BadChange : PySem.W.typeIn K (.ref (He.ma K (He.ga K "BadChange") "__init__")) = some (.type "function")
  F_BadChange : ∃ fd, FunD K "__init__" "BadChange.__init__" (defArgs s_BadChangeu_initu) (defBody s_BadChangeu_initu) (defScope s_BadChangeu_initu) [] [] (He.ma K (He.ga K "BadChange") "__init__") fd
  no_BadChange_counter : PySem.W.findIn K (.ref (He.ga K "BadChange")) "counter" = some none
  g_BadTimes : mg "BadTimes" = some (.ref (He.ga K "BadTimes"))
  x_BadTimes : XcC K (He.ga K "BadTimes")
  i_BadTimes : PySem.W.findIn K (.ref (He.ga K "BadTimes")) "__init__" = some (some (.ref (He.ma K (He.ga K "BadTimes") "__init__")))
  t_BadTimes : PySem.W.typeIn K (.ref (He.ma K (He.ga K "BadTimes") "__init__")) = some (.type "function")
  F_BadTimes : ∃ fd, FunD K "__init__" "BadTimes.__init__" (defArgs s_BadTimesu_initu) (defBody s_BadTimesu_initu) (defScope s_BadTimesu_initu) [] [] (He.ma K (He.ga K "BadTimes") "__init__") fd
  no_BadTimes_times : PySem.W.findIn K (.ref (He.ga K "BadTimes")) "times" = some none
  g_Action : mg "Action" = some (.ref (He.ga K "Action"))
  c_Action : ClC K (He.ga K "Action")
  i_Action : Mk K (He.ga K "Action") (He.ma K (He.ga K "Action") "__init__")
  F_Actionu_initu : ∃ fd, FunD K "__init__" "Action.__init__" (defArgs s_Actionu_initu) (defBody s_Actionu_initu) (defScope s_Actionu_initu) [] [] (He.ma K (He.ga K "Action") "__init__") fd
  m_Action___eq__ : Meth K (He.ga K "Action") "__eq__" (He.ma K (He.ga K "Action") "__eq__")
  F_Actionu_equ : ∃ fd, FunD K "__eq__" "Action.__eq__" (defArgs s_Actionu_equ) (defBody s_Actionu_equ) (defScope s_Actionu_equ) [] [] (He.ma K (He.ga K "Action") "__eq__") fd
  m_Action___add__ : Meth K (He.ga K "Action") "__add__" (He.ma K (He.ga K "Action") "__add__")
  F_Actionu_addu : ∃ fd, FunD K "__add__" "Action.__add__" (defArgs s_Actionu_addu) (defBody s_Actionu_addu) (defScope s_Actionu_addu) [] [] (He.ma K (He.ga K "Action") "__add__") fd
  r_Action_add : NoAttr K (He.ga K "Action") "__radd__"
  m_Action___mul__ : Meth K (He.ga K "Action") "__mul__" (He.ma K (He.ga K "Action") "__mul__")
  F_Actionu_mulu : ∃ fd, FunD K "__mul__" "Action.__mul__" (defArgs s_Actionu_mulu) (defBody s_Actionu_mulu) (defScope s_Actionu_mulu) [] [] (He.ma K (He.ga K "Action") "__mul__") fd
  r_Action_mul : NoAttr K (He.ga K "Action") "__rmul__"
  m_Action___str__ : Meth K (He.ga K "Action") "__str__" (He.ma K (He.ga K "Action") "__str__")
  F_Actionu_stru : ∃ fd, FunD K "__str__" "Action.__str__" (defArgs s_Actionu_stru) (defBody s_Actionu_stru) (defScope s_Actionu_stru) [] [] (He.ma K (He.ga K "Action") "__str__") fd
  m_Action_changes : Meth K (He.ga K "Action") "changes" (He.ma K (He.ga K "Action") "changes")
  F_Action_changes : ∃ fd, FunD K "changes" "Action.changes" (defArgs s_Action_changes) (defBody s_Action_changes) (defScope s_Action_changes) [] [] (He.ma K (He.ga K "Action") "changes") fd
  m_Action_of : Meth K (He.ga K "Action") "of" (He.ma K (He.ga K "Action") "of")
  F_Action_of : ∃ fd, FunD K "of" "Action.of" (defArgs s_Action_of) (defBody s_Action_of) (defScope s_Action_of) [] [] (He.ma K (He.ga K "Action") "of") fd
  n_Action_made_of : NoAttr K (He.ga K "Action") "made_of"
  m_BadNumber_BadNumber : PySem.W.exmOne K (.ref (He.ga K "BadNumber")) (.ref (He.ga K "BadNumber")) = some true
  m_BadNumber_BadChange : PySem.W.exmOne K (.ref (He.ga K "BadNumber")) (.ref (He.ga K "BadChange")) = some false
  m_BadNumber_BadTimes : PySem.W.exmOne K (.ref (He.ga K "BadNumber")) (.ref (He.ga K "BadTimes")) = some false
  m_BadChange_BadNumber : PySem.W.exmOne K (.ref (He.ga K "BadChange")) (.ref (He.ga K "BadNumber")) = some false
  m_BadChange_BadChange : PySem.W.exmOne K (.ref (He.ga K "BadChange")) (.ref (He.ga K "BadChange")) = some true
  m_BadChange_BadTimes : PySem.W.exmOne K (.ref (He.ga K "BadChange")) (.ref (He.ga K "BadTimes")) = some false
  m_BadTimes_BadNumber : PySem.W.exmOne K (.ref (He.ga K "BadTimes")) (.ref (He.ga K "BadNumber")) = some false
  m_BadTimes_BadChange : PySem.W.exmOne K (.ref (He.ga K "BadTimes")) (.ref (He.ga K "BadChange")) = some false
  m_BadTimes_BadTimes : PySem.W.exmOne K (.ref (He.ga K "BadTimes")) (.ref (He.ga K "BadTimes")) = some true
  k_BadNumber_PartError : PySem.W.kitOne K (.ref (He.ga K "BadNumber")) (.ref (He.ga K "PartError")) = some true
  k_BadChange_PartError : PySem.W.kitOne K (.ref (He.ga K "BadChange")) (.ref (He.ga K "PartError")) = some true
  k_BadTimes_PartError : PySem.W.kitOne K (.ref (He.ga K "BadTimes")) (.ref (He.ga K "PartError")) = some true
  k_Action_Action : PySem.W.kitOne K (.ref (He.ga K "Action")) (.ref (He.ga K "Action")) = some true
section
variable {P : Program} {w : World} {K : DL.Frag} {mg : Str → Option Value} {base : Heap}
theorem G_BadNumber (T : Tx K mg) : XG P w K mg base "BadNumber" (He.ga K "BadNumber") ["self", "number"] (spX1 (He.ga K "BadNumber") "number") := by
  obtain ⟨fd, F⟩ := T.F_BadNumber
  exact ⟨T.g_BadNumber, T.x_BadNumber, _, fd, T.i_BadNumber, T.t_BadNumber, ok_x1 F sc_BadNumberu_initu rfl T.x_BadNumber T.no_BadNumber_number (.inl rfl) (.inl rfl) (by decide) (by decide), F.bindsN fun _ _ _ _ _ _ us hl => match us, hl with | [_, _], _ => rfl⟩
theorem G_BadChange (T : Tx K mg) : XG P w K mg base "BadChange" (He.ga K "BadChange") ["self", "counter"] (spX1 (He.ga K "BadChange") "counter") := by
  obtain ⟨fd, F⟩ := T.F_BadChange
  exact ⟨T.g_BadChange, T.x_BadChange, _, fd, T.i_BadChange, T.t_BadChange, ok_x1 F sc_BadChangeu_initu rfl T.x_BadChange T.no_BadChange_counter (.inl rfl) (.inl rfl) (by decide) (by decide), F.bindsN fun _ _ _ _ _ _ us hl => match us, hl with | [_, _], _ => rfl⟩
theorem G_BadTimes (T : Tx K mg) : XG P w K mg base "BadTimes" (He.ga K "BadTimes") ["self", "times"] (spX1 (He.ga K "BadTimes") "times") := by
  obtain ⟨fd, F⟩ := T.F_BadTimes
  exact ⟨T.g_BadTimes, T.x_BadTimes, _, fd, T.i_BadTimes, T.t_BadTimes, ok_x1 F sc_BadTimesu_initu rfl T.x_BadTimes T.no_BadTimes_times (.inl rfl) (.inl rfl) (by decide) (by decide), F.bindsN fun _ _ _ _ _ _ us hl => match us, hl with | [_, _], _ => rfl⟩
end
end T
set_option Elab.async false
set_option linter.all false
set_option maxRecDepth 100000
set_option autoImplicit false
set_option maxHeartbeats 4000000
namespace T
open PySem L2 PyProof.Rows DL
local macro_rules | `(tactic| walk_at "dlE") => `(tactic| first
  | ((with_reducible refine' e_var ?k1 ?_); (case k1 => rfl))
  | (with_reducible refine e_op ?_)
  | (with_reducible refine e_int ?_)
  | (with_reducible refine e_str ?_)
  | ((with_reducible refine' e_own ?k1 ?_); (case k1 => rfl))
  | (with_reducible refine e_cb ?_)
  | (with_reducible refine e_fld ?_)
  | (with_reducible refine e_bl ?_)
  | (with_reducible refine e_non ?_)
  | (with_reducible refine e_tup ?_)
  | (with_reducible refine e_lst ?_)
  | (with_reducible refine e_andV ?_)
  | (with_reducible refine e_orV ?_)
  | (with_reducible refine e_notV ?_)
  | (with_reducible refine e_chainC ?_)
  | (with_reducible refine e_chainU ?_)
  | (with_reducible refine e_chain ?_)
  | (with_reducible refine e_if ?_)
  | (with_reducible refine e_sl ?_)
  | (with_reducible refine e_bmS ?_)
  | (with_reducible refine e_bmL ?_)
  | (with_reducible refine e_opS ?_)
  | (with_reducible refine e_un ?_)
  | (with_reducible refine e_ty ?_)
  | (with_reducible refine e_ref ?_)
  | (with_reducible refine e_get2 ?_)
  | fail "dl")
local macro_rules | `(tactic| walk_at "dlO") => `(tactic| first
  | (with_reducible refine v_add (o_add ?_))
  | (with_reducible refine v_eq (o_eqI ?_))
  | (with_reducible refine v_eq (o_eqS ?_))
  | (with_reducible refine v_ne (o_neI ?_))
  | (with_reducible refine v_ne (o_neS ?_))
  | (with_reducible refine v_eq (o_eqB ?_))
  | (with_reducible refine v_ne (o_neB ?_))
  | (with_reducible refine o_cmpI ?_)
  | (with_reducible refine o_cmpS ?_)
  | ((with_reducible refine' v_ix (o_ixO ?k1 ?k2 ?_)); (case k1 => rfl); (case k2 => rfl))
  | ((with_reducible refine' v_ix (o_ixT ?k1 ?_)); (case k1 => rfl))
  | ((with_reducible refine' v_ix (o_ixL ?k1 ?_)); (case k1 => rfl))
  | (with_reducible refine o_I0 ?_)
  | (with_reducible refine o_B0 ?_)
  | ((with_reducible refine o_mul ?k1 ?_); (case k1 => omega))
  | ((with_reducible refine o_mod ?k1 ?_); (case k1 => omega))
  | ((with_reducible refine o_fdiv ?k1 ?k2 ?_); (case k1 => omega); (case k2 => omega))
  | ((with_reducible refine o_pow ?k1 ?_); (case k1 => exact ⟨by decide, by decide, by decide⟩))
  | ((with_reducible refine o_isN ?k1 ?_); (case k1 => rfl))
  | ((with_reducible refine o_isNotN ?k1 ?_); (case k1 => rfl))
  | (with_reducible refine o_isB ?_)
  | (with_reducible refine o_isNotB ?_)
  | ((with_reducible refine' v_eq (o_eqP ?k1 ?k2 ?k3 ?_)); (case k1 => rfl); (case k2 => rfl); (case k3 => exact Nat.le_of_ble_eq_true rfl))
  | ((with_reducible refine' v_ne (o_neP ?k1 ?k2 ?k3 ?_)); (case k1 => rfl); (case k2 => rfl); (case k3 => exact Nat.le_of_ble_eq_true rfl))
  | ((with_reducible refine' v_in (o_inT ?k1 ?k2 ?k3 ?_)); (case k1 => rfl); (case k2 => rfl); (case k3 => exact Nat.le_of_ble_eq_true rfl))
  | ((with_reducible refine' v_in (o_inL ?k1 ?k2 ?k3 ?_)); (case k1 => rfl); (case k2 => rfl); (case k3 => exact Nat.le_of_ble_eq_true rfl))
  | ((with_reducible refine' o_inD ?k1 ?k2 ?_); (case k1 => first | exact .inl rfl | exact .inr ⟨_, _, rfl, rfl⟩); (case k2 => rfl))
  | ((with_reducible refine v_add (o_addS ?k1 ?_)); (case k1 => (first | omega | (simp only [len_app, len_one]; omega))))
  | fail "dl")
local macro_rules | `(tactic| walk_at "dlS") => `(tactic| first
  | (with_reducible refine ss_set ?_)
  | (with_reducible refine ss_if ?_)
  | (with_reducible refine ss_drop ?_)
  | (with_reducible refine ss_put ?_)
  | (with_reducible refine ss_next ?_)
  | (with_reducible refine ss_ret ?_)
  | (with_reducible refine ss_assoc ?_)
  | ((with_reducible refine' ss_aug ?k1 ?_); (case k1 => rfl))
  | (with_reducible refine ss_rai1 ?_)
  | (with_reducible refine ss_rai0 ?_)
  | (with_reducible refine ss_fldN ?_)
  | ((with_reducible refine' s_aug ?k1 ?_); (case k1 => rfl))
  | (with_reducible refine s_rai1 ?_)
  | (with_reducible refine s_rai0 ?_)
  | (with_reducible refine s_set ?_)
  | (with_reducible refine s_if ?_)
  | (with_reducible refine s_drop ?_)
  | (with_reducible refine s_ret ?_)
  | (with_reducible refine s_put ?_)
  | (with_reducible refine s_next ?_)
  | (with_reducible refine s_fldN ?_)
  | fail "dl")
local macro_rules | `(tactic| walk_at "dlT") => `(tactic| first
  | (with_reducible refine t_test ?_)
  | (with_reducible refine t_tru ?_)
  | (with_reducible refine t_and ?_)
  | (with_reducible refine t_or ?_)
  | (with_reducible refine t_not ?_)
  | (with_reducible refine t_yes ?_)
  | fail "dl")
local macro_rules | `(tactic| walk_at "dlA") => `(tactic| first
  | (with_reducible refine a_cons ?_)
  | (with_reducible refine a_nil ?_)
  | fail "dl")
local macro_rules | `(tactic| walk_at "dlC") => `(tactic| first
  | (with_reducible refine v_len (c_lenL ?_))
  | (with_reducible refine v_len (c_lenT ?_))
  | ((with_reducible refine' v_len (c_lenO ?k1 ?_)); (case k1 => rfl))
  | (with_reducible refine c_int ?_)
  | (with_reducible refine c_abs ?_)
  | (with_reducible refine c_strS ?_)
  | (with_reducible refine c_tupT ?_)
  | (with_reducible refine c_max2 ?_)
  | (with_reducible refine c_min2 ?_)
  | ((with_reducible refine v_len (c_lenS ?k1 ?_)); (case k1 => omega))
  | ((with_reducible refine' c_isi ?k1 ?k2 ?_); (case k1 => rfl); (case k2 => first | exact kb_NoneType_bool | exact kb_NoneType_int | exact kb_NoneType_str | exact kb_NoneType_list | exact kb_NoneType_tuple | exact kb_NoneType_dict | exact kb_bool_bool | exact kb_bool_int | exact kb_bool_str | exact kb_bool_list | exact kb_bool_tuple | exact kb_bool_dict | exact kb_int_bool | exact kb_int_int | exact kb_int_str | exact kb_int_list | exact kb_int_tuple | exact kb_int_dict | exact kb_str_bool | exact kb_str_int | exact kb_str_str | exact kb_str_list | exact kb_str_tuple | exact kb_str_dict | exact kb_list_bool | exact kb_list_int | exact kb_list_str | exact kb_list_list | exact kb_list_tuple | exact kb_list_dict | exact kb_tuple_bool | exact kb_tuple_int | exact kb_tuple_str | exact kb_tuple_list | exact kb_tuple_tuple | exact kb_tuple_dict | exact kb_dict_bool | exact kb_dict_int | exact kb_dict_str | exact kb_dict_list | exact kb_dict_tuple | exact kb_dict_dict))
  | ((with_reducible refine' c_lenD ?k1 ?_); (case k1 => first | exact .inl rfl | exact .inr ⟨_, _, rfl, rfl⟩))
  | fail "dl")
local macro_rules | `(tactic| walk_at "dlU") => `(tactic| first
  | (with_reducible refine u_neg ?_)
  | fail "dl")
local macro_rules | `(tactic| walk_at "dlM") => `(tactic| first
  | ((with_reducible refine m_stripC ?k1 ?_); (case k1 => omega))
  | fail "dl")
local macro_rules | `(tactic| walk_at "dlL") => `(tactic| first
  | ((with_reducible refine l_str ?k1 ?_); (case k1 => omega))
  | fail "dl")
local macro_rules | `(tactic| walk_at "dlP") => `(tactic| first
  | (with_reducible refine p_none ?_)
  | (with_reducible refine p_some ?_)
  | fail "dl")
local macro_rules | `(tactic| walk_at "dlI") => `(tactic| first
  | (with_reducible refine i_list ?_)
  | (with_reducible refine i_tup ?_)
  | (with_reducible refine i_str ?_)
  | (with_reducible refine i_keys ?_)
  | (with_reducible refine i_items ?_)
  | (with_reducible refine i_vals ?_)
  | (with_reducible refine i_rng1 ?_)
  | (with_reducible refine i_rng2 ?_)
  | fail "dl")
local macro_rules | `(tactic| walk_at "dlg") => `(tactic| first
  | ((with_reducible refine g_name ?k1 ?k2 ?_); (case k1 => rfl); (case k2 => rfl); dsimp only [List.set])
  | ((with_reducible refine g_tup ?k1 ?_); (case k1 => rfl))
  | fail "dl")
local macro_rules | `(tactic| walk_at "dlh") => `(tactic| first
  | (with_reducible refine gs_nil ?_)
  | (with_reducible refine gs_cons ?_)
  | fail "dl")
local macro_rules | `(tactic| walk_at "dlW") => `(tactic| first
  | ((with_reducible refine' w_lstV ?k1 ?k2 ?_); (case k1 => rfl); (case k2 => rfl); dsimp only [List.set])
  | fail "dl")
local macro_rules | `(tactic| walk_at "dl1") => `(tactic| first
  | ((with_reducible show EvD _ _ _ _ _ _); walk_at "dlE")
  | ((with_reducible show OpD _ _ _ _ _ _); walk_at "dlO")
  | ((with_reducible show StD _ _ _ _ _); walk_at "dlS")
  | ((with_reducible show ArD _ _ _ _ _ _); walk_at "dlA")
  | ((with_reducible show TtD _ _ _ _ _ _); walk_at "dlT")
  | ((with_reducible show CaD _ _ _ _ _); walk_at "dlC")
  | ((with_reducible show PtD _ _ _ _ _ _); walk_at "dlP")
  | ((with_reducible show TgD _ _ _ _ _ _); walk_at "dlg")
  | ((with_reducible show ItD _ _ _ _ _ _); walk_at "dlI")
  | ((with_reducible show TgsD _ _ _ _ _ _); walk_at "dlh")
  | ((with_reducible show UnD _ _ _ _ _); walk_at "dlU")
  | ((with_reducible show MtD _ _ _ _ _ _); walk_at "dlM")
  | ((with_reducible show SlD _ _ _ _ _ _ _); walk_at "dlL")
  | ((with_reducible show SeD _ _ _ _ _ _ _); walk_at "dlW")
  | ((with_reducible show ∃ _ _ _, InsAt _ _ _ _ _ ∧ List.lookup _ _ = some _ ∧ _); refine ⟨_, _, _, .inl rfl, rfl, ?_⟩)
  | (show (∃ z, Dt.str _ = .str z) ∧ _; refine ⟨⟨_, rfl⟩, ?_⟩)
  | (show getElem? _ _ = some (Sl.sh _) ∧ _; refine ⟨rfl, ?_⟩)
  | (show Dt.real _ = true ∧ lent _ _ = false ∧ _; refine ⟨rfl, rfl, ?_⟩; dsimp only [List.set])
  | (show Dt.real _ = true ∧ _; refine ⟨rfl, ?_⟩)
  | (show lent _ _ = false ∧ _; refine ⟨rfl, ?_⟩; dsimp only [List.set])
  | (show allReal _ = true ∧ _; refine ⟨rfl, Nat.le_of_ble_eq_true rfl, ?_⟩)
  | (show (true = true → _) ∧ (true = false → _); refine ⟨fun _ => ?_, fun h => nomatch h⟩)
  | (show (false = true → _) ∧ (false = false → _); refine ⟨(fun h => nomatch h), fun _ => ?_⟩)
  | (refine ⟨_, rfl, _, (fun P p => e_int p), ?_⟩)
  | (refine ⟨_, rfl, _, (fun P p => e_var rfl p), ?_⟩)
  | (refine ⟨_, rfl, ?_⟩)
  | fail "dl")
local macro_rules | `(tactic| walk_at "dl") => `(tactic| repeat' walk_at "dl1")
local macro_rules | `(tactic| walk_at "dq") => `(tactic| repeat' ((fail_if_success (with_reducible show StD _ _ (tSeq (tAsg _ _) _) _ _)); (fail_if_success (with_reducible show StD _ _ (tAsg _ _) _ _)); walk_at "dl1"))
local macro_rules | `(tactic| walk_at "dls") => `(tactic| repeat' (first | walk_at "dl1" | (refine ⟨fun hb => ?_, fun hb => ?_⟩) | fail "dls"))
local macro_rules | `(tactic| walk_at "fg") => `(tactic| repeat (first | exact Fg.nil | (with_reducible refine Fg.keep ?_) | (refine Fg.drop ?_) | (refine Fg.drop ?_ (slS_ln _))))

section
variable {P : Program} {w : World} {K : DL.Frag} {mg : Str → Option Value} {base : Heap}
/-! ### the tape -/
def tapeD (t : Int × Int) : Dt := .lst [.int t.1, .int t.2]
def tapeOk (t : Int × Int) : Prop := 0 ≤ t.1 ∧ 0 ≤ t.2 ∧ t.2 < 2 ^ 40
def sp_law_tape : Fsp where
  I := List Int × Int
  arg i := [.lst (i.1.map .int), .int i.2]
  pre i := 0 ≤ i.2 ∧ i.2 ≤ 1000 ∧ i.1.length ≤ 63
  post _ d := ∃ t, d = tapeD t ∧ tapeOk t
theorem atI_ints {ns : List Int} {k : Int} (h0 : 0 ≤ k) (h : k < ns.length) : ∃ n, atI (ns.map Dt.int) k = some (.int n) := by
  have hk : k.toNat < ns.length := by omega
  refine ⟨ns[k.toNat], ?_⟩
  unfold atI ixN
  rw [List.length_map, if_pos h0, if_pos h]
  show (ns.map Dt.int)[k.toNat]? = _
  rw [List.getElem?_map, List.getElem?_eq_getElem hk]
  rfl
theorem ok_law_tape (T : Tx K mg) : FnG P w K mg base 1 "_law_tape" ["_law_script", "_law_k"] (NSp K sp_law_tape) := by
  obtain ⟨fd, F⟩ := T.F_law_tape
  refine ⟨_, fd, T.g_law_tape, F.kp, fn_bodyN F sc_law_tape (fun _ => rfl) (fun cdv A outer s H E hr tk po => ?_), F.bindsN fun _ _ _ _ _ _ us hl => match us, hl with | [_, _], _ => rfl⟩
  refine ⟨_, (pss_cons (ps_set (i := 2) sc_law_tape.nd rfl (Or.inl rfl) (pe_ifExp (pt_cmpR (op_ltK (K := K) rfl hr.units) (pv 1) (pe_callB (call_lenV (K := K) rfl) (by rfl) T.n_len (by decide +kernel) (pa_cons (pv 0) pa_nil)) (nomark _)) (pe_ix (ix_V (K := K) rfl hr.units) (pv 0) (pv 1) (fun _ _ => rfl)) pe_int))
  (pss_one (ps_ret (pe_lst (pa_cons (pe_callB call_abs (by rfl) T.n_abs (by decide +kernel) (pa_cons (pv 2) pa_nil)) (pa_cons (pe_op (op_addV (K := K) rfl) (pe_op op_mulU pe_int (pv 1)) pe_int) pa_nil)))))), fun i hp Z hq hx => ?_⟩
  obtain ⟨ns, k⟩ := i
  obtain ⟨h0, h1, h2⟩ : 0 ≤ k ∧ k ≤ 1000 ∧ ns.length ≤ 63 := hp
  try dsimp only [cxB, cxOf]
  show StD K _ _ [.sh (.lst (ns.map .int)), .sh (.int k), .no] _
  clear tk po hr F
  have fin : ∀ c : Int, StD K (wE E) (tRet (tLst (tCons (tCB (fun xs H Q => ∃ i, xs = [V.int i] ∧ Q (V.int (if i < 0 then -i else i)) H) (tCons (tVar 2) tNil)) (tCons (tOp (rAddV K) (tOp rMulU (tC (V.int 7919)) (tVar 1)) (tC (V.int 104729))) tNil)))) [.sh (.lst (ns.map .int)), .sh (.int k), .sh (.int c)] Z := by
    intro c
    refine s_retNew (n_lst ?_)
    walk_at "dl"
    refine hq _ _ ⟨(if c < 0 then -c else c, 7919 * k + 104729), rfl, ?_, ?_, ?_⟩
    · show 0 ≤ (if c < 0 then -c else c)
      split <;> omega
    · show 0 ≤ 7919 * k + 104729
      omega
    · show 7919 * k + 104729 < 2 ^ 40
      omega
  walk_at "dl"
  refine ⟨fun hb => ?_, fun hb => ?_⟩
  · walk_at "dl"
    obtain ⟨n, hn⟩ := atI_ints h0 (show k < ns.length by simpa using hb)
    refine v_ix (o_ixL hn ?_)
    walk_at "dl1"
    exact fin n
  · walk_at "dl1"
    walk_at "dl1"
    exact fin 0
def sp_law_pick : Osp where
  I := (Int × Int) × Int
  own i := tapeD i.1
  arg i := [.int i.2]
  pre i := tapeOk i.1 ∧ 0 < i.2 ∧ i.2 < 2 ^ 200
  post i d o := ∃ r t, d = .int r ∧ o = tapeD t ∧ tapeOk t ∧ 0 ≤ r ∧ r < i.2
theorem ok_law_pick (T : Tx K mg) : FnG P w K mg base 1 "_law_pick" ["_law_tape_here", "_law_many"] (OSp K sp_law_pick) := by
  obtain ⟨fd, F⟩ := T.F_law_pick
  refine ⟨_, fd, T.g_law_pick, F.kp, fn_bodyO F sc_law_pick (fun _ => rfl) (fun cdv A outer s H E hr tk po => ?_), F.bindsN fun _ _ _ _ _ _ us hl => match us, hl with | [_, _], _ => rfl⟩
  refine ⟨_, (pss_cons (ps_if (pt_cmpR (op_geK (K := K) rfl hr.units) (pe_ix (ix_V (K := K) rfl hr.units) (pv 0) pe_int (fun _ _ => rfl)) (pe_op op_pow pe_int pe_int) (nomark _)) (pss_cons (ps_set (i := 2) sc_law_pick.nd rfl (Or.inl rfl) (pe_op op_mod (pe_callTy call_intU (by rfl) T.n_int (by decide +kernel) (pa_cons (pe_ix (ix_V (K := K) rfl hr.units) (pv 0) pe_int (fun _ _ => rfl)) pa_nil)) (pv 1)))
  (pss_cons (ps_asg (pe_op op_fdivW (pe_ix (ix_V (K := K) rfl hr.units) (pv 0) pe_int (fun _ _ => rfl)) (pv 1)) (pg_sub (pv 0) pe_int (set_V hr.units)))
  (pss_one (ps_ret (pv 2))))) pss_nil)
  (pss_cons (ps_asg (pe_op op_mod (pe_callTy call_intU (by rfl) T.n_int (by decide +kernel) (pa_cons (pe_op (op_addV (K := K) rfl) (pe_op (op_addV (K := K) rfl) (pe_op op_mulU (pe_ix (ix_V (K := K) rfl hr.units) (pv 0) pe_int (fun _ _ => rfl)) pe_int) (pe_op op_mulU (pe_ix (ix_V (K := K) rfl hr.units) (pv 0) pe_int (fun _ _ => rfl)) pe_int)) pe_int) pa_nil)) pe_int) (pg_sub (pv 0) pe_int (set_V hr.units)))
  (pss_cons (ps_set (i := 3) sc_law_pick.nd rfl (Or.inl rfl) (pe_op op_mod (pe_callTy call_intU (by rfl) T.n_int (by decide +kernel) (pa_cons (pe_op (op_addV (K := K) rfl) (pe_op (op_addV (K := K) rfl) (pe_op op_mulU (pe_ix (ix_V (K := K) rfl hr.units) (pv 0) pe_int (fun _ _ => rfl)) (pe_ix (ix_V (K := K) rfl hr.units) (pv 0) pe_int (fun _ _ => rfl))) (pe_op op_mulU (pe_ix (ix_V (K := K) rfl hr.units) (pv 0) pe_int (fun _ _ => rfl)) pe_int)) pe_int) pa_nil)) pe_int))
  (pss_one (ps_ret (pe_op op_mod (pe_callTy call_intU (by rfl) T.n_int (by decide +kernel) (pa_cons (pe_op op_fdivW (pv 3) pe_int) pa_nil)) (pv 1))))))), fun i hp Z hn hq hx => ?_⟩
  obtain ⟨⟨a, b⟩, m⟩ := i
  obtain ⟨⟨h0, h1, h2⟩, h3, h4⟩ : (0 ≤ a ∧ 0 ≤ b ∧ b < 2 ^ 40) ∧ 0 < m ∧ m < 2 ^ 200 := hp
  try dsimp only [cxB, cxOf]
  show StD K _ _ [.ow true (.lst [.int a, .int b]), .sh (.int m), .no, .no] _
  clear tk po hr F
  walk_at "dl"
  refine ⟨fun hb => ?_, fun hb => ?_⟩
  · walk_at "dl"
    refine hq _ _ _ rfl ⟨a % m, (a / m, b), rfl, rfl, ⟨Int.ediv_nonneg h0 (Int.le_of_lt h3), h1, h2⟩, Int.emod_nonneg _ (by omega), Int.emod_lt_of_pos _ h3⟩
  · have hb : a < 10 ^ 18 := by
      have z : (10 : Int) ^ (Int.toNat 18) = 10 ^ 18 := rfl
      rw [z] at hb
      simpa using hb
    walk_at "dl"
    refine hq _ _ _ rfl ⟨_, (a, (b * 48271 + a * 69621 + 11) % 2147483647), rfl, rfl, ⟨h0, Int.emod_nonneg _ (by decide), ?_⟩, Int.emod_nonneg _ (by omega), Int.emod_lt_of_pos _ h3⟩
    have := Int.emod_lt_of_pos (b * 48271 + a * 69621 + 11) (show (0 : Int) < 2147483647 by decide)
    show (b * 48271 + a * 69621 + 11) % 2147483647 < 2 ^ 40
    omega
/-- a draw -/
theorem e_pick {W : WX} {ρ : En} {x : PX} {j : Nat} {te : TE} {Q : Dt → En → Prop}
    (h : EvD K W te ρ x fun d ρ1 => ∃ m l t, d = .int m ∧ ρ1[j]? = some (.ow l (tapeD t)) ∧ tapeOk t ∧ 0 < m ∧ m < 2 ^ 200 ∧ ∀ r t', tapeOk t' → 0 ≤ r → r < m → Q (.int r) (ρ1.set j (.ow l (tapeD t'))))
    (hj : ∃ l d, ρ[j]? = some (.ow l d)) : EvD K W (tCallS (OSp K sp_law_pick) (WE W) (tCons (tVar j) (tCons te tNil))) ρ x Q := by
  obtain ⟨l0, d0, hj⟩ := hj
  refine e_callO (a_cons (e_own hj (a_cons (e_imp h fun d ρ1 hd => a_nil ?_))))
  obtain ⟨m, l, t, rfl, h1, h2, h3, h4, h5⟩ := hd
  exact ⟨j, l, _, _, (t, m), rfl, h1, rfl, rfl, rfl, ⟨h2, h3, h4⟩, fun r o ⟨r', t', e1, e2, e3, e4, e5⟩ => by subst e1 e2; exact h5 r' t' e3 e4 e5, fun _ _ z => z.elim⟩

/-! ### integers -/
def isInt (d : Dt) (lo : Int) (hi : Option Int) : Bool := match d with
  | .int n => decide (lo ≤ n) && (match hi with
    | none => true
    | some h => decide (n ≤ h))
  | _ => false
def hiD : Option Int → Dt
  | none => .non
  | some h => .int h
def sp_is_integer : Fsp where
  I := Dt × Int × Option Int
  arg i := [i.1, .int i.2.1, hiD i.2.2]
  pre i := i.1.tyN.isSome = true
  post i d := d = .bl (isInt i.1 i.2.1 i.2.2)
theorem fn_is_integer (T : Tx K mg) {fd : FuncData} (F : FunD K "is_integer" "is_integer" (defArgs s_is_integer) (defBody s_is_integer) (defScope s_is_integer) [V.non] [] (He.ga K "is_integer") fd) : FnOk P w K mg base (L2.CX P w) 1 (He.ga K "is_integer") fd ["value", "low", "high"] (DSp K sp_is_integer) := by
  refine fn_body F sc_is_integer (fun _ => rfl) (fun cdv A outer s H E hr tk po => ?_)
  refine ⟨_, (pss_one (ps_ret (pe_and (pe_callB (call_isiK (K := K) rfl) (by rfl) T.n_isinstance (by decide +kernel) (pa_cons (pv 0) (pa_cons (pe_bltn (v := .ty "int") (u := .type "int") (by rfl) T.n_int (by decide +kernel) rfl) pa_nil))) (pe_and (pe_not (pe_callB (call_isiK (K := K) rfl) (by rfl) T.n_isinstance (by decide +kernel) (pa_cons (pv 0) (pa_cons (pe_bltn (v := .ty "bool") (u := .type "bool") (by rfl) T.n_bool (by decide +kernel) rfl) pa_nil)))) (pe_and (pe_cmpR (op_leK (K := K) rfl hr.units) (pv 1) (pv 0) (nomark _)) (pe_one (pe_or (pe_cmpR op_isU (pv 2) pe_non (nomark _)) (pe_one (pe_cmpR (op_leK (K := K) rfl hr.units) (pv 0) (pv 2) (nomark _)))))))))), fun i hp Z hn hq hx => ?_⟩
  obtain ⟨d, lo, hi⟩ := i
  have hp : d.tyN.isSome = true := hp
  have hq : ∀ b ρ, b = isInt d lo hi → Z.rt (.bl b) ρ := fun b ρ e => hq _ ρ (by rw [e]; rfl)
  try dsimp only [cxB, cxOf]
  show StD K _ _ [.sh d, .sh (.int lo), .sh (hiD hi)] _
  clear tk po hr F
  cases d with
  | non => walk_at "dl"; exact hq _ _ rfl
  | bl b => walk_at "dl"; exact hq _ _ rfl
  | str b => walk_at "dl"; exact hq _ _ rfl
  | lst b => walk_at "dl"; exact hq _ _ rfl
  | tup b => walk_at "dl"; exact hq _ _ rfl
  | dic b c => walk_at "dl"; exact hq _ _ rfl
  | int n =>
    cases hi with
    | none =>
      dsimp only [hiD]
      walk_at "dls"
      all_goals refine hq _ _ ?_
      all_goals (unfold isInt; first | (simp_all; done) | (simp_all; intros; omega))
    | some h =>
      dsimp only [hiD]
      walk_at "dls"
      all_goals refine hq _ _ ?_
      all_goals (unfold isInt; first | (simp_all; done) | (simp_all; intros; omega))
  | _ => cases hp
theorem ok_is_integer_2 (T : Tx K mg) : FnGD P w K mg base 1 "is_integer" ["value", "low", "high"] (DSp K sp_is_integer) [V.non] := by
  obtain ⟨fd, F⟩ := T.F_is_integer
  obtain ⟨ds, h1, h2⟩ := F.binds1 (ps := ["value", "low", "high"]) 2 0 (by simp) rfl (fun _ _ _ _ _ _ _ us its hu hi => match us, its, hu, hi with | [_, _], [_], _, _ => ⟨_, rfl, rfl⟩)
  exact ⟨_, fd, ds, T.g_is_integer, F.kp, fn_is_integer T F, h2, h1⟩
theorem e_isInt {W : WX} {ρ : En} {x : PX} {ta : TA} {Q : Dt → En → Prop} (h : ArD K W ta ρ x fun ds ρ1 => ∃ d lo, ds = [d, .int lo] ∧ d.real = true ∧ d.tyN.isSome = true ∧ Q (.bl (isInt d lo none)) ρ1) : EvD K W (tCallSD (DSp K sp_is_integer) [V.non] (WE W) ta) ρ x Q := by
  refine e_callD (dds := [.non]) (fun F => repL_cons (by unfold Rep; rfl) repL_nil) (fun σ F H Q s q w => h σ F H Q s (fun ds ρ1 vs F1 H1 ⟨d, lo, e, hr, ht, hQ⟩ => q ds ρ1 vs F1 H1 ⟨(d, lo, none), by rw [e]; rfl, by rw [e]; unfold allReal; rw [List.all_cons, hr]; rfl, ht, fun z hz => by cases (show z = _ from hz); exact hQ, fun _ z => z.elim⟩) w)

end
end T
set_option Elab.async false
set_option linter.all false
set_option maxRecDepth 100000
set_option autoImplicit false
set_option maxHeartbeats 4000000
namespace T
open PySem L2 PyProof.Rows DL
local macro_rules | `(tactic| walk_at "dlE") => `(tactic| first
  | ((with_reducible refine' e_var ?k1 ?_); (case k1 => rfl))
  | (with_reducible refine e_op ?_)
  | (with_reducible refine e_int ?_)
  | (with_reducible refine e_str ?_)
  | ((with_reducible refine' e_own ?k1 ?_); (case k1 => rfl))
  | (with_reducible refine e_cb ?_)
  | (with_reducible refine e_fld ?_)
  | (with_reducible refine e_bl ?_)
  | (with_reducible refine e_non ?_)
  | (with_reducible refine e_tup ?_)
  | (with_reducible refine e_lst ?_)
  | (with_reducible refine e_andV ?_)
  | (with_reducible refine e_orV ?_)
  | (with_reducible refine e_notV ?_)
  | (with_reducible refine e_chainC ?_)
  | (with_reducible refine e_chainU ?_)
  | (with_reducible refine e_chain ?_)
  | (with_reducible refine e_if ?_)
  | (with_reducible refine e_sl ?_)
  | (with_reducible refine e_bmS ?_)
  | (with_reducible refine e_bmL ?_)
  | (with_reducible refine e_opS ?_)
  | (with_reducible refine e_un ?_)
  | (with_reducible refine e_ty ?_)
  | (with_reducible refine e_ref ?_)
  | (with_reducible refine e_get2 ?_)
  | fail "dl")
local macro_rules | `(tactic| walk_at "dlO") => `(tactic| first
  | (with_reducible refine v_add (o_add ?_))
  | (with_reducible refine v_eq (o_eqI ?_))
  | (with_reducible refine v_eq (o_eqS ?_))
  | (with_reducible refine v_ne (o_neI ?_))
  | (with_reducible refine v_ne (o_neS ?_))
  | (with_reducible refine v_eq (o_eqB ?_))
  | (with_reducible refine v_ne (o_neB ?_))
  | (with_reducible refine o_cmpI ?_)
  | (with_reducible refine o_cmpS ?_)
  | ((with_reducible refine' v_ix (o_ixO ?k1 ?k2 ?_)); (case k1 => rfl); (case k2 => rfl))
  | ((with_reducible refine' v_ix (o_ixT ?k1 ?_)); (case k1 => rfl))
  | ((with_reducible refine' v_ix (o_ixL ?k1 ?_)); (case k1 => rfl))
  | (with_reducible refine o_I0 ?_)
  | (with_reducible refine o_B0 ?_)
  | ((with_reducible refine o_mul ?k1 ?_); (case k1 => omega))
  | ((with_reducible refine o_mod ?k1 ?_); (case k1 => omega))
  | ((with_reducible refine o_fdiv ?k1 ?k2 ?_); (case k1 => omega); (case k2 => omega))
  | ((with_reducible refine o_pow ?k1 ?_); (case k1 => exact ⟨by decide, by decide, by decide⟩))
  | ((with_reducible refine o_isN ?k1 ?_); (case k1 => rfl))
  | ((with_reducible refine o_isNotN ?k1 ?_); (case k1 => rfl))
  | (with_reducible refine o_isB ?_)
  | (with_reducible refine o_isNotB ?_)
  | ((with_reducible refine' v_eq (o_eqP ?k1 ?k2 ?k3 ?_)); (case k1 => rfl); (case k2 => rfl); (case k3 => exact Nat.le_of_ble_eq_true rfl))
  | ((with_reducible refine' v_ne (o_neP ?k1 ?k2 ?k3 ?_)); (case k1 => rfl); (case k2 => rfl); (case k3 => exact Nat.le_of_ble_eq_true rfl))
  | ((with_reducible refine' v_in (o_inT ?k1 ?k2 ?k3 ?_)); (case k1 => rfl); (case k2 => rfl); (case k3 => exact Nat.le_of_ble_eq_true rfl))
  | ((with_reducible refine' v_in (o_inL ?k1 ?k2 ?k3 ?_)); (case k1 => rfl); (case k2 => rfl); (case k3 => exact Nat.le_of_ble_eq_true rfl))
  | ((with_reducible refine' o_inD ?k1 ?k2 ?_); (case k1 => first | exact .inl rfl | exact .inr ⟨_, _, rfl, rfl⟩); (case k2 => rfl))
  | ((with_reducible refine v_add (o_addS ?k1 ?_)); (case k1 => (first | omega | (simp only [len_app, len_one]; omega))))
  | fail "dl")
local macro_rules | `(tactic| walk_at "dlS") => `(tactic| first
  | (with_reducible refine ss_set ?_)
  | (with_reducible refine ss_if ?_)
  | (with_reducible refine ss_drop ?_)
  | (with_reducible refine ss_put ?_)
  | (with_reducible refine ss_next ?_)
  | (with_reducible refine ss_ret ?_)
  | (with_reducible refine ss_assoc ?_)
  | ((with_reducible refine' ss_aug ?k1 ?_); (case k1 => rfl))
  | (with_reducible refine ss_rai1 ?_)
  | (with_reducible refine ss_rai0 ?_)
  | (with_reducible refine ss_fldN ?_)
  | ((with_reducible refine' s_aug ?k1 ?_); (case k1 => rfl))
  | (with_reducible refine s_rai1 ?_)
  | (with_reducible refine s_rai0 ?_)
  | (with_reducible refine s_set ?_)
  | (with_reducible refine s_if ?_)
  | (with_reducible refine s_drop ?_)
  | (with_reducible refine s_ret ?_)
  | (with_reducible refine s_put ?_)
  | (with_reducible refine s_next ?_)
  | (with_reducible refine s_fldN ?_)
  | fail "dl")
local macro_rules | `(tactic| walk_at "dlT") => `(tactic| first
  | (with_reducible refine t_test ?_)
  | (with_reducible refine t_tru ?_)
  | (with_reducible refine t_and ?_)
  | (with_reducible refine t_or ?_)
  | (with_reducible refine t_not ?_)
  | (with_reducible refine t_yes ?_)
  | fail "dl")
local macro_rules | `(tactic| walk_at "dlA") => `(tactic| first
  | (with_reducible refine a_cons ?_)
  | (with_reducible refine a_nil ?_)
  | fail "dl")
local macro_rules | `(tactic| walk_at "dlC") => `(tactic| first
  | (with_reducible refine v_len (c_lenL ?_))
  | (with_reducible refine v_len (c_lenT ?_))
  | ((with_reducible refine' v_len (c_lenO ?k1 ?_)); (case k1 => rfl))
  | (with_reducible refine c_int ?_)
  | (with_reducible refine c_abs ?_)
  | (with_reducible refine c_strS ?_)
  | (with_reducible refine c_tupT ?_)
  | (with_reducible refine c_max2 ?_)
  | (with_reducible refine c_min2 ?_)
  | ((with_reducible refine v_len (c_lenS ?k1 ?_)); (case k1 => omega))
  | ((with_reducible refine' c_isi ?k1 ?k2 ?_); (case k1 => rfl); (case k2 => first | exact kb_NoneType_bool | exact kb_NoneType_int | exact kb_NoneType_str | exact kb_NoneType_list | exact kb_NoneType_tuple | exact kb_NoneType_dict | exact kb_bool_bool | exact kb_bool_int | exact kb_bool_str | exact kb_bool_list | exact kb_bool_tuple | exact kb_bool_dict | exact kb_int_bool | exact kb_int_int | exact kb_int_str | exact kb_int_list | exact kb_int_tuple | exact kb_int_dict | exact kb_str_bool | exact kb_str_int | exact kb_str_str | exact kb_str_list | exact kb_str_tuple | exact kb_str_dict | exact kb_list_bool | exact kb_list_int | exact kb_list_str | exact kb_list_list | exact kb_list_tuple | exact kb_list_dict | exact kb_tuple_bool | exact kb_tuple_int | exact kb_tuple_str | exact kb_tuple_list | exact kb_tuple_tuple | exact kb_tuple_dict | exact kb_dict_bool | exact kb_dict_int | exact kb_dict_str | exact kb_dict_list | exact kb_dict_tuple | exact kb_dict_dict))
  | ((with_reducible refine' c_lenD ?k1 ?_); (case k1 => first | exact .inl rfl | exact .inr ⟨_, _, rfl, rfl⟩))
  | fail "dl")
local macro_rules | `(tactic| walk_at "dlU") => `(tactic| first
  | (with_reducible refine u_neg ?_)
  | fail "dl")
local macro_rules | `(tactic| walk_at "dlM") => `(tactic| first
  | ((with_reducible refine m_stripC ?k1 ?_); (case k1 => omega))
  | fail "dl")
local macro_rules | `(tactic| walk_at "dlL") => `(tactic| first
  | ((with_reducible refine l_str ?k1 ?_); (case k1 => omega))
  | fail "dl")
local macro_rules | `(tactic| walk_at "dlP") => `(tactic| first
  | (with_reducible refine p_none ?_)
  | (with_reducible refine p_some ?_)
  | fail "dl")
local macro_rules | `(tactic| walk_at "dlI") => `(tactic| first
  | (with_reducible refine i_list ?_)
  | (with_reducible refine i_tup ?_)
  | (with_reducible refine i_str ?_)
  | (with_reducible refine i_keys ?_)
  | (with_reducible refine i_items ?_)
  | (with_reducible refine i_vals ?_)
  | (with_reducible refine i_rng1 ?_)
  | (with_reducible refine i_rng2 ?_)
  | fail "dl")
local macro_rules | `(tactic| walk_at "dlg") => `(tactic| first
  | ((with_reducible refine g_name ?k1 ?k2 ?_); (case k1 => rfl); (case k2 => rfl); dsimp only [List.set])
  | ((with_reducible refine g_tup ?k1 ?_); (case k1 => rfl))
  | fail "dl")
local macro_rules | `(tactic| walk_at "dlh") => `(tactic| first
  | (with_reducible refine gs_nil ?_)
  | (with_reducible refine gs_cons ?_)
  | fail "dl")
local macro_rules | `(tactic| walk_at "dlW") => `(tactic| first
  | ((with_reducible refine' w_lstV ?k1 ?k2 ?_); (case k1 => rfl); (case k2 => rfl); dsimp only [List.set])
  | fail "dl")
local macro_rules | `(tactic| walk_at "dl1") => `(tactic| first
  | ((with_reducible show EvD _ _ _ _ _ _); walk_at "dlE")
  | ((with_reducible show OpD _ _ _ _ _ _); walk_at "dlO")
  | ((with_reducible show StD _ _ _ _ _); walk_at "dlS")
  | ((with_reducible show ArD _ _ _ _ _ _); walk_at "dlA")
  | ((with_reducible show TtD _ _ _ _ _ _); walk_at "dlT")
  | ((with_reducible show CaD _ _ _ _ _); walk_at "dlC")
  | ((with_reducible show PtD _ _ _ _ _ _); walk_at "dlP")
  | ((with_reducible show TgD _ _ _ _ _ _); walk_at "dlg")
  | ((with_reducible show ItD _ _ _ _ _ _); walk_at "dlI")
  | ((with_reducible show TgsD _ _ _ _ _ _); walk_at "dlh")
  | ((with_reducible show UnD _ _ _ _ _); walk_at "dlU")
  | ((with_reducible show MtD _ _ _ _ _ _); walk_at "dlM")
  | ((with_reducible show SlD _ _ _ _ _ _ _); walk_at "dlL")
  | ((with_reducible show SeD _ _ _ _ _ _ _); walk_at "dlW")
  | ((with_reducible show ∃ _ _ _, InsAt _ _ _ _ _ ∧ List.lookup _ _ = some _ ∧ _); refine ⟨_, _, _, .inl rfl, rfl, ?_⟩)
  | (show (∃ z, Dt.str _ = .str z) ∧ _; refine ⟨⟨_, rfl⟩, ?_⟩)
  | (show getElem? _ _ = some (Sl.sh _) ∧ _; refine ⟨rfl, ?_⟩)
  | (show Dt.real _ = true ∧ lent _ _ = false ∧ _; refine ⟨rfl, rfl, ?_⟩; dsimp only [List.set])
  | (show Dt.real _ = true ∧ _; refine ⟨rfl, ?_⟩)
  | (show lent _ _ = false ∧ _; refine ⟨rfl, ?_⟩; dsimp only [List.set])
  | (show allReal _ = true ∧ _; refine ⟨rfl, Nat.le_of_ble_eq_true rfl, ?_⟩)
  | (show (true = true → _) ∧ (true = false → _); refine ⟨fun _ => ?_, fun h => nomatch h⟩)
  | (show (false = true → _) ∧ (false = false → _); refine ⟨(fun h => nomatch h), fun _ => ?_⟩)
  | (refine ⟨_, rfl, _, (fun P p => e_int p), ?_⟩)
  | (refine ⟨_, rfl, _, (fun P p => e_var rfl p), ?_⟩)
  | (refine ⟨_, rfl, ?_⟩)
  | fail "dl")
local macro_rules | `(tactic| walk_at "dl") => `(tactic| repeat' walk_at "dl1")
local macro_rules | `(tactic| walk_at "dq") => `(tactic| repeat' ((fail_if_success (with_reducible show StD _ _ (tSeq (tAsg _ _) _) _ _)); (fail_if_success (with_reducible show StD _ _ (tAsg _ _) _ _)); walk_at "dl1"))
local macro_rules | `(tactic| walk_at "dls") => `(tactic| repeat' (first | walk_at "dl1" | (refine ⟨fun hb => ?_, fun hb => ?_⟩) | fail "dls"))
local macro_rules | `(tactic| walk_at "fg") => `(tactic| repeat (first | exact Fg.nil | (with_reducible refine Fg.keep ?_) | (refine Fg.drop ?_) | (refine Fg.drop ?_ (slS_ln _))))

section
variable {P : Program} {w : World} {K : DL.Frag} {mg : Str → Option Value} {base : Heap}
/-! ### names, changes -/
theorem eqv_str (a b : Str) : PyData.eqv (.str a) (.str b) = decide (a = b) := by
  have h : PyData.eqv (.str a) (.str b) = (a == b) := by simp [PyData.eqv]
  rw [h, Bool.eq_iff_iff]
  simp
def low : Str := "abcdefghijklmnopqrstuvwxyz"
def isN (z : Str) : Bool := decide (1 ≤ (z.length : Int)) && decide ((z.length : Int) ≤ 8) && decide (Txt.stripChars z low = "")
def sp_is_name : Fsp where
  I := Str
  arg z := [.str z]
  pre z := z.length ≤ 1000
  post z d := d = .bl (isN z)
theorem ok_is_name (T : Tx K mg) : FnG P w K mg base 1 "is_name" ["text"] (DSp K sp_is_name) := by
  obtain ⟨fd, F⟩ := T.F_is_name
  refine ⟨_, fd, T.g_is_name, F.kp, fn_body F sc_is_name (fun _ => rfl) (fun cdv A outer s H E hr tk po => ?_), F.bindsN fun _ _ _ _ _ _ us hl => match us, hl with | [_], _ => rfl⟩
  refine ⟨_, (pss_one (ps_ret (pe_and (pe_chain (op_leK (K := K) rfl hr.units) (op_leK (K := K) rfl hr.units) pe_int (pe_callB (call_lenV (K := K) rfl) (by rfl) T.n_len (by decide +kernel) (pa_cons (pv 0) pa_nil)) (pe_gI rfl T.e_LONGEST)) (pe_one (pe_cmpR (op_eqV2 (K := K) rfl hr.units) (pe_bmK (K := K) rfl PySem.F.plainAttrs_str PySem.F.slot_str_strip PySem.F.type_str_strip mt_stripC (pv 0) (pa_cons (pe_gS rfl T.e_SIGNS) pa_nil)) pe_str (nomark _)))))), fun (i : Str) hp Z hn hq hx => ?_⟩
  try dsimp only [cxB, cxOf]
  clear tk po hr F
  have hp : i.length ≤ 1000 := hp
  show StD K _ _ [.sh (.str i)] _
  walk_at "dls"
  · rename_i hb
    refine hq _ _ (show _ = Dt.bl (isN i) from ?_)
    unfold isN low
    rw [hb, Bool.true_and]
  · rename_i hb
    refine hq _ _ (show _ = Dt.bl (isN i) from ?_)
    unfold isN low
    rw [hb, Bool.false_and]
/-- a change: whether it sets, the number -/
abbrev Ch := Bool × Nat
def wdS (b : Bool) : Str := if b then "set" else "add"
def chD (c : Ch) : Dt := .tup [.str (wdS c.1), .int (c.2 : Nat)]
/-- whether data are a change -/
def isCh : Dt → Bool
  | .tup ds => match ds with
    | [a, d] => match a with
      | .str z => (decide (z = "add") || decide (z = "set")) && isInt d 0 none
      | _ => false
    | _ => false
  | _ => false
def plainD (d : Dt) : Prop := d.real = true ∧ d.tyN.isSome = true
def sp_is_change : Fsp where
  I := Dt
  arg d := [d]
  pre d := plainD d ∧ ∀ ds, d = .tup ds → ∀ z ∈ ds, plainD z
  post i d := d = .bl (isCh i)
theorem ok_is_change (T : Tx K mg) : FnG P w K mg base 2 "is_change" ["change"] (DSp K sp_is_change) := by
  have G_is_integer_2 := ok_is_integer_2 (P := P) (w := w) (base := base) T
  obtain ⟨fd, F⟩ := T.F_is_change
  refine ⟨_, fd, T.g_is_change, F.kp, fn_body F sc_is_change (fun _ => rfl) (fun cdv A outer s H E hr tk po => ?_), F.bindsN fun _ _ _ _ _ _ us hl => match us, hl with | [_], _ => rfl⟩
  refine ⟨_, (pss_cons (ps_if (PW.pt (pw_or (pt_not (pt_truK (K := K) rfl (pe_callB (call_isiK (K := K) rfl) (by rfl) T.n_isinstance (by decide +kernel) (pa_cons (pv 0) (pa_cons (pe_bltn (v := .ty "tuple") (u := .type "tuple") (by rfl) T.n_tuple (by decide +kernel) rfl) pa_nil))))) (pw_or1 (pt_cmpR (op_neV2 (K := K) rfl hr.units) (pe_callB (call_lenV (K := K) rfl) (by rfl) T.n_len (by decide +kernel) (pa_cons (pv 0) pa_nil)) pe_int (nomark _))))) (pss_one (ps_ret pe_bl)) pss_nil)
  (pss_one (ps_ret (pe_and (pe_callB (call_isiK (K := K) rfl) (by rfl) T.n_isinstance (by decide +kernel) (pa_cons (pe_ix (ix_V (K := K) rfl hr.units) (pv 0) pe_int (fun _ _ => rfl)) (pa_cons (pe_bltn (v := .ty "str") (u := .type "str") (by rfl) T.n_str (by decide +kernel) rfl) pa_nil))) (pe_and (pe_cmpR (op_inV (K := K) rfl hr.units) (pe_ix (ix_V (K := K) rfl hr.units) (pv 0) pe_int (fun _ _ => rfl)) (pe_tup (pa_cons (pe_gS rfl T.e_ADD) (pa_cons (pe_gS rfl T.e_SET) pa_nil))) rfl) (pe_one (pe_fnD G_is_integer_2 (hr.mono (by decide)) tk rfl (pa_cons (pe_ix (ix_V (K := K) rfl hr.units) (pv 0) pe_int (fun _ _ => rfl)) (pa_cons pe_int pa_nil))))))))), fun (i : Dt) hp Z hn hq hx => ?_⟩
  try dsimp only [cxB, cxOf]
  clear tk po hr F G_is_integer_2
  obtain ⟨h1, h2⟩ : plainD i ∧ ∀ ds, i = .tup ds → ∀ z ∈ ds, plainD z := hp
  have hq : ∀ b ρ, b = isCh i → Z.rt (.bl b) ρ := fun b ρ e => hq _ ρ (by rw [e]; rfl)
  show StD K _ _ [.sh i] _
  cases i with
  | non => walk_at "dl"; exact hq _ _ rfl
  | bl b => walk_at "dl"; exact hq _ _ rfl
  | str b => walk_at "dl"; exact hq _ _ rfl
  | lst b => walk_at "dl"; exact hq _ _ rfl
  | int b => walk_at "dl"; exact hq _ _ rfl
  | dic b c => walk_at "dl"; exact hq _ _ rfl
  | tup ds =>
    match ds, h2 ds rfl with
    | [], _ => walk_at "dl"; exact hq _ _ rfl
    | [_], _ => walk_at "dl"; exact hq _ _ (by unfold isCh; rfl)
    | a :: b :: c :: r, _ =>
      have hl : ¬ (((a :: b :: c :: r).length : Nat) : Int) = 2 := by simp only [List.length_cons]; omega
      walk_at "dl"
      exact hq _ _ (by unfold isCh; rfl)
    | [a, b], h3 =>
      have ha := h3 a (by simp)
      have hb := h3 b (by simp)
      walk_at "dl"
      cases a with
      | str z =>
        walk_at "dl"
        have e : (([PyData.str "add", .str "set"] : List PyData).any fun y => PyData.eqv y (.str z)) = (decide (z = "add") || decide (z = "set")) := by
          rw [List.any_cons, List.any_cons, List.any_nil, Bool.or_false, eqv_str, eqv_str]
          rw [decide_eq_decide.mpr (eq_comm (a := ("add" : Str)) (b := z)), decide_eq_decide.mpr (eq_comm (a := ("set" : Str)) (b := z))]
        rw [bne_ff, e]
        refine ⟨fun h => ?_, fun h => ⟨rfl, hq _ _ ?_⟩⟩
        · refine e_isInt ?_
          walk_at "dl1"
          walk_at "dl1"
          walk_at "dl"
          refine ⟨_, _, rfl, hb.1, hb.2, rfl, hq _ _ ?_⟩
          show _ = ((decide (z = "add") || decide (z = "set")) && isInt b 0 none)
          rw [h, Bool.true_and]
        · show _ = ((decide (z = "add") || decide (z = "set")) && isInt b 0 none)
          rw [h, Bool.false_and]
      | non => walk_at "dl"; exact hq _ _ (by unfold isCh; rfl)
      | bl y => walk_at "dl"; exact hq _ _ (by unfold isCh; rfl)
      | int y => walk_at "dl"; exact hq _ _ (by unfold isCh; rfl)
      | lst y => walk_at "dl"; exact hq _ _ (by unfold isCh; rfl)
      | tup y => walk_at "dl"; exact hq _ _ (by unfold isCh; rfl)
      | dic y z => walk_at "dl"; exact hq _ _ (by unfold isCh; rfl)
      | _ => cases ha.2
  | _ => cases h1.2

end
end T
set_option Elab.async false
set_option linter.all false
set_option maxRecDepth 100000
set_option autoImplicit false
set_option maxHeartbeats 4000000
namespace T
open PySem L2 PyProof.Rows DL
local macro_rules | `(tactic| walk_at "dlE") => `(tactic| first
  | ((with_reducible refine' e_var ?k1 ?_); (case k1 => rfl))
  | (with_reducible refine e_op ?_)
  | (with_reducible refine e_int ?_)
  | (with_reducible refine e_str ?_)
  | ((with_reducible refine' e_own ?k1 ?_); (case k1 => rfl))
  | (with_reducible refine e_cb ?_)
  | (with_reducible refine e_fld ?_)
  | (with_reducible refine e_bl ?_)
  | (with_reducible refine e_non ?_)
  | (with_reducible refine e_tup ?_)
  | (with_reducible refine e_lst ?_)
  | (with_reducible refine e_andV ?_)
  | (with_reducible refine e_orV ?_)
  | (with_reducible refine e_notV ?_)
  | (with_reducible refine e_chainC ?_)
  | (with_reducible refine e_chainU ?_)
  | (with_reducible refine e_chain ?_)
  | (with_reducible refine e_if ?_)
  | (with_reducible refine e_sl ?_)
  | (with_reducible refine e_bmS ?_)
  | (with_reducible refine e_bmL ?_)
  | (with_reducible refine e_opS ?_)
  | (with_reducible refine e_un ?_)
  | (with_reducible refine e_ty ?_)
  | (with_reducible refine e_ref ?_)
  | (with_reducible refine e_get2 ?_)
  | fail "dl")
local macro_rules | `(tactic| walk_at "dlO") => `(tactic| first
  | (with_reducible refine v_add (o_add ?_))
  | (with_reducible refine v_eq (o_eqI ?_))
  | (with_reducible refine v_eq (o_eqS ?_))
  | (with_reducible refine v_ne (o_neI ?_))
  | (with_reducible refine v_ne (o_neS ?_))
  | (with_reducible refine v_eq (o_eqB ?_))
  | (with_reducible refine v_ne (o_neB ?_))
  | (with_reducible refine o_cmpI ?_)
  | (with_reducible refine o_cmpS ?_)
  | ((with_reducible refine' v_ix (o_ixO ?k1 ?k2 ?_)); (case k1 => rfl); (case k2 => rfl))
  | ((with_reducible refine' v_ix (o_ixT ?k1 ?_)); (case k1 => rfl))
  | ((with_reducible refine' v_ix (o_ixL ?k1 ?_)); (case k1 => rfl))
  | (with_reducible refine o_I0 ?_)
  | (with_reducible refine o_B0 ?_)
  | ((with_reducible refine o_mul ?k1 ?_); (case k1 => omega))
  | ((with_reducible refine o_mod ?k1 ?_); (case k1 => omega))
  | ((with_reducible refine o_fdiv ?k1 ?k2 ?_); (case k1 => omega); (case k2 => omega))
  | ((with_reducible refine o_pow ?k1 ?_); (case k1 => exact ⟨by decide, by decide, by decide⟩))
  | ((with_reducible refine o_isN ?k1 ?_); (case k1 => rfl))
  | ((with_reducible refine o_isNotN ?k1 ?_); (case k1 => rfl))
  | (with_reducible refine o_isB ?_)
  | (with_reducible refine o_isNotB ?_)
  | ((with_reducible refine' v_eq (o_eqP ?k1 ?k2 ?k3 ?_)); (case k1 => rfl); (case k2 => rfl); (case k3 => exact Nat.le_of_ble_eq_true rfl))
  | ((with_reducible refine' v_ne (o_neP ?k1 ?k2 ?k3 ?_)); (case k1 => rfl); (case k2 => rfl); (case k3 => exact Nat.le_of_ble_eq_true rfl))
  | ((with_reducible refine' v_in (o_inT ?k1 ?k2 ?k3 ?_)); (case k1 => rfl); (case k2 => rfl); (case k3 => exact Nat.le_of_ble_eq_true rfl))
  | ((with_reducible refine' v_in (o_inL ?k1 ?k2 ?k3 ?_)); (case k1 => rfl); (case k2 => rfl); (case k3 => exact Nat.le_of_ble_eq_true rfl))
  | ((with_reducible refine' o_inD ?k1 ?k2 ?_); (case k1 => first | exact .inl rfl | exact .inr ⟨_, _, rfl, rfl⟩); (case k2 => rfl))
  | ((with_reducible refine v_add (o_addS ?k1 ?_)); (case k1 => (first | omega | (simp only [len_app, len_one]; omega))))
  | fail "dl")
local macro_rules | `(tactic| walk_at "dlS") => `(tactic| first
  | (with_reducible refine ss_set ?_)
  | (with_reducible refine ss_if ?_)
  | (with_reducible refine ss_drop ?_)
  | (with_reducible refine ss_put ?_)
  | (with_reducible refine ss_next ?_)
  | (with_reducible refine ss_ret ?_)
  | (with_reducible refine ss_assoc ?_)
  | ((with_reducible refine' ss_aug ?k1 ?_); (case k1 => rfl))
  | (with_reducible refine ss_rai1 ?_)
  | (with_reducible refine ss_rai0 ?_)
  | (with_reducible refine ss_fldN ?_)
  | ((with_reducible refine' s_aug ?k1 ?_); (case k1 => rfl))
  | (with_reducible refine s_rai1 ?_)
  | (with_reducible refine s_rai0 ?_)
  | (with_reducible refine s_set ?_)
  | (with_reducible refine s_if ?_)
  | (with_reducible refine s_drop ?_)
  | (with_reducible refine s_ret ?_)
  | (with_reducible refine s_put ?_)
  | (with_reducible refine s_next ?_)
  | (with_reducible refine s_fldN ?_)
  | fail "dl")
local macro_rules | `(tactic| walk_at "dlT") => `(tactic| first
  | (with_reducible refine t_test ?_)
  | (with_reducible refine t_tru ?_)
  | (with_reducible refine t_and ?_)
  | (with_reducible refine t_or ?_)
  | (with_reducible refine t_not ?_)
  | (with_reducible refine t_yes ?_)
  | fail "dl")
local macro_rules | `(tactic| walk_at "dlA") => `(tactic| first
  | (with_reducible refine a_cons ?_)
  | (with_reducible refine a_nil ?_)
  | fail "dl")
local macro_rules | `(tactic| walk_at "dlC") => `(tactic| first
  | (with_reducible refine v_len (c_lenL ?_))
  | (with_reducible refine v_len (c_lenT ?_))
  | ((with_reducible refine' v_len (c_lenO ?k1 ?_)); (case k1 => rfl))
  | (with_reducible refine c_int ?_)
  | (with_reducible refine c_abs ?_)
  | (with_reducible refine c_strS ?_)
  | (with_reducible refine c_tupT ?_)
  | (with_reducible refine c_max2 ?_)
  | (with_reducible refine c_min2 ?_)
  | ((with_reducible refine v_len (c_lenS ?k1 ?_)); (case k1 => omega))
  | ((with_reducible refine' c_isi ?k1 ?k2 ?_); (case k1 => rfl); (case k2 => first | exact kb_NoneType_bool | exact kb_NoneType_int | exact kb_NoneType_str | exact kb_NoneType_list | exact kb_NoneType_tuple | exact kb_NoneType_dict | exact kb_bool_bool | exact kb_bool_int | exact kb_bool_str | exact kb_bool_list | exact kb_bool_tuple | exact kb_bool_dict | exact kb_int_bool | exact kb_int_int | exact kb_int_str | exact kb_int_list | exact kb_int_tuple | exact kb_int_dict | exact kb_str_bool | exact kb_str_int | exact kb_str_str | exact kb_str_list | exact kb_str_tuple | exact kb_str_dict | exact kb_list_bool | exact kb_list_int | exact kb_list_str | exact kb_list_list | exact kb_list_tuple | exact kb_list_dict | exact kb_tuple_bool | exact kb_tuple_int | exact kb_tuple_str | exact kb_tuple_list | exact kb_tuple_tuple | exact kb_tuple_dict | exact kb_dict_bool | exact kb_dict_int | exact kb_dict_str | exact kb_dict_list | exact kb_dict_tuple | exact kb_dict_dict))
  | ((with_reducible refine' c_lenD ?k1 ?_); (case k1 => first | exact .inl rfl | exact .inr ⟨_, _, rfl, rfl⟩))
  | fail "dl")
local macro_rules | `(tactic| walk_at "dlU") => `(tactic| first
  | (with_reducible refine u_neg ?_)
  | fail "dl")
local macro_rules | `(tactic| walk_at "dlM") => `(tactic| first
  | ((with_reducible refine m_stripC ?k1 ?_); (case k1 => omega))
  | fail "dl")
local macro_rules | `(tactic| walk_at "dlL") => `(tactic| first
  | ((with_reducible refine l_str ?k1 ?_); (case k1 => omega))
  | fail "dl")
local macro_rules | `(tactic| walk_at "dlP") => `(tactic| first
  | (with_reducible refine p_none ?_)
  | (with_reducible refine p_some ?_)
  | fail "dl")
local macro_rules | `(tactic| walk_at "dlI") => `(tactic| first
  | (with_reducible refine i_list ?_)
  | (with_reducible refine i_tup ?_)
  | (with_reducible refine i_str ?_)
  | (with_reducible refine i_keys ?_)
  | (with_reducible refine i_items ?_)
  | (with_reducible refine i_vals ?_)
  | (with_reducible refine i_rng1 ?_)
  | (with_reducible refine i_rng2 ?_)
  | fail "dl")
local macro_rules | `(tactic| walk_at "dlg") => `(tactic| first
  | ((with_reducible refine g_name ?k1 ?k2 ?_); (case k1 => rfl); (case k2 => rfl); dsimp only [List.set])
  | ((with_reducible refine g_tup ?k1 ?_); (case k1 => rfl))
  | fail "dl")
local macro_rules | `(tactic| walk_at "dlh") => `(tactic| first
  | (with_reducible refine gs_nil ?_)
  | (with_reducible refine gs_cons ?_)
  | fail "dl")
local macro_rules | `(tactic| walk_at "dlW") => `(tactic| first
  | ((with_reducible refine' w_lstV ?k1 ?k2 ?_); (case k1 => rfl); (case k2 => rfl); dsimp only [List.set])
  | fail "dl")
local macro_rules | `(tactic| walk_at "dl1") => `(tactic| first
  | ((with_reducible show EvD _ _ _ _ _ _); walk_at "dlE")
  | ((with_reducible show OpD _ _ _ _ _ _); walk_at "dlO")
  | ((with_reducible show StD _ _ _ _ _); walk_at "dlS")
  | ((with_reducible show ArD _ _ _ _ _ _); walk_at "dlA")
  | ((with_reducible show TtD _ _ _ _ _ _); walk_at "dlT")
  | ((with_reducible show CaD _ _ _ _ _); walk_at "dlC")
  | ((with_reducible show PtD _ _ _ _ _ _); walk_at "dlP")
  | ((with_reducible show TgD _ _ _ _ _ _); walk_at "dlg")
  | ((with_reducible show ItD _ _ _ _ _ _); walk_at "dlI")
  | ((with_reducible show TgsD _ _ _ _ _ _); walk_at "dlh")
  | ((with_reducible show UnD _ _ _ _ _); walk_at "dlU")
  | ((with_reducible show MtD _ _ _ _ _ _); walk_at "dlM")
  | ((with_reducible show SlD _ _ _ _ _ _ _); walk_at "dlL")
  | ((with_reducible show SeD _ _ _ _ _ _ _); walk_at "dlW")
  | ((with_reducible show ∃ _ _ _, InsAt _ _ _ _ _ ∧ List.lookup _ _ = some _ ∧ _); refine ⟨_, _, _, .inl rfl, rfl, ?_⟩)
  | (show (∃ z, Dt.str _ = .str z) ∧ _; refine ⟨⟨_, rfl⟩, ?_⟩)
  | (show getElem? _ _ = some (Sl.sh _) ∧ _; refine ⟨rfl, ?_⟩)
  | (show Dt.real _ = true ∧ lent _ _ = false ∧ _; refine ⟨rfl, rfl, ?_⟩; dsimp only [List.set])
  | (show Dt.real _ = true ∧ _; refine ⟨rfl, ?_⟩)
  | (show lent _ _ = false ∧ _; refine ⟨rfl, ?_⟩; dsimp only [List.set])
  | (show allReal _ = true ∧ _; refine ⟨rfl, Nat.le_of_ble_eq_true rfl, ?_⟩)
  | (show (true = true → _) ∧ (true = false → _); refine ⟨fun _ => ?_, fun h => nomatch h⟩)
  | (show (false = true → _) ∧ (false = false → _); refine ⟨(fun h => nomatch h), fun _ => ?_⟩)
  | (refine ⟨_, rfl, _, (fun P p => e_int p), ?_⟩)
  | (refine ⟨_, rfl, _, (fun P p => e_var rfl p), ?_⟩)
  | (refine ⟨_, rfl, ?_⟩)
  | fail "dl")
local macro_rules | `(tactic| walk_at "dl") => `(tactic| repeat' walk_at "dl1")
local macro_rules | `(tactic| walk_at "dq") => `(tactic| repeat' ((fail_if_success (with_reducible show StD _ _ (tSeq (tAsg _ _) _) _ _)); (fail_if_success (with_reducible show StD _ _ (tAsg _ _) _ _)); walk_at "dl1"))
local macro_rules | `(tactic| walk_at "dls") => `(tactic| repeat' (first | walk_at "dl1" | (refine ⟨fun hb => ?_, fun hb => ?_⟩) | fail "dls"))
local macro_rules | `(tactic| walk_at "fg") => `(tactic| repeat (first | exact Fg.nil | (with_reducible refine Fg.keep ?_) | (refine Fg.drop ?_) | (refine Fg.drop ?_ (slS_ln _))))

section
variable {P : Program} {w : World} {K : DL.Frag} {mg : Str → Option Value} {base : Heap}
/-! ### actions, plainly -/
def behC (a b : Ch) : Ch := if b.1 then b else (a.1, a.2 + b.2)
def repC (a : Ch) (n : Nat) : Ch := if a.1 then a else (false, a.2 * n)
def nz (p : Str × Ch) : Bool := !decide (p.2 = (false, 0))
abbrev AL := List (Str × Ch)
def chM (l : AL) : List (Str × Dt) := l.map fun p => (p.1, chD p.2)
def chL (l : AL) : List (Key × Dt) := kvL (chM l)
def actD (K : DL.Frag) (l : AL) : Dt := .ins (He.ga K "Action") ["made_of"] [dicD (chL l)]
theorem chM_keys (l : AL) : (chM l).map (·.1) = l.map (·.1) := by unfold chM; simp
theorem chL_app (a b : AL) : chL (a ++ b) = chL a ++ chL b := by unfold chL chM; rw [List.map_append, kvL_app]
theorem isCh_ok {d : Dt} (h : isCh d = true) : ∃ c : Ch, d = chD c := by
  cases d with
  | tup ds =>
    match ds, h with
    | [a, d], h =>
      cases a with
      | str z =>
        have h : ((decide (z = "add") || decide (z = "set")) && isInt d 0 none) = true := h
        obtain ⟨h1, h2⟩ := Bool.and_eq_true_iff.mp h
        cases d with
        | int n =>
          have hn : 0 ≤ n := by
            have : (decide ((0 : Int) ≤ n) && true) = true := h2
            simpa using this
          have en : ((n.toNat : Nat) : Int) = n := by omega
          rcases Bool.or_eq_true_iff.mp h1 with e | e
          · exact ⟨(false, n.toNat), by unfold chD wdS; rw [of_decide_eq_true e, en]; rfl⟩
          · exact ⟨(true, n.toNat), by unfold chD wdS; rw [of_decide_eq_true e, en]; rfl⟩
        | _ => cases h2
      | _ => cases h
    | [], h => cases h
    | [_], h => cases h
    | _ :: _ :: _ :: _, h => cases h
  | _ => cases h
theorem isCh_ch (c : Ch) : isCh (chD c) = true := by
  obtain ⟨b, n⟩ := c
  cases b
  · show ((decide (wdS false = "add") || decide (wdS false = "set")) && (decide ((0 : Int) ≤ (n : Nat)) && true)) = true
    have : decide ((0 : Int) ≤ (n : Nat)) = true := decide_eq_true (by omega)
    rw [this]
    decide +kernel
  · show ((decide (wdS true = "add") || decide (wdS true = "set")) && (decide ((0 : Int) ≤ (n : Nat)) && true)) = true
    have : decide ((0 : Int) ≤ (n : Nat)) = true := decide_eq_true (by omega)
    rw [this]
    decide +kernel
theorem chD_inj {a b : Ch} (h : chD a = chD b) : a = b := by
  obtain ⟨x, m⟩ := a
  obtain ⟨y, n⟩ := b
  unfold chD at h
  injection h with h
  injection h with h1 h2
  injection h1 with h1
  injection h2 with h2
  injection h2 with h2
  have hn : m = n := by
    have : ((m : Nat) : Int) = (n : Nat) := h2
    omega
  subst hn
  have hx : x = y := by
    cases x <;> cases y
    · rfl
    · exact absurd h1 (by show ¬ wdS false = wdS true; decide +kernel)
    · exact absurd h1 (by show ¬ wdS true = wdS false; decide +kernel)
    · rfl
  rw [hx]
theorem wd_set (b : Bool) : decide (wdS b = "set") = b := by cases b <;> decide +kernel
theorem eqv_int (a b : Int) : PyData.eqv (.int a) (.int b) = decide (a = b) := by
  have h : PyData.eqv (.int a) (.int b) = (a == b) := by simp [PyData.eqv]
  rw [h, Bool.eq_iff_iff]
  simp
/-! ### behind, repeated -/
def sp_behind : Fsp where
  I := Ch × Ch
  arg i := [chD i.1, chD i.2]
  pre _ := True
  post i d := d = chD (behC i.1 i.2)
theorem ok_behind (T : Tx K mg) : FnG P w K mg base 1 "behind" ["one", "other"] (DSp K sp_behind) := by
  obtain ⟨fd, F⟩ := T.F_behind
  refine ⟨_, fd, T.g_behind, F.kp, fn_body F sc_behind (fun _ => rfl) (fun cdv A outer s H E hr tk po => ?_), F.bindsN fun _ _ _ _ _ _ us hl => match us, hl with | [_, _], _ => rfl⟩
  refine ⟨_, (pss_cons (ps_if (pt_cmpR (op_eqV2 (K := K) rfl hr.units) (pe_ix (ix_V (K := K) rfl hr.units) (pv 1) pe_int (fun _ _ => rfl)) (pe_gS rfl T.e_SET) (nomark _)) (pss_one (ps_ret (pv 1))) pss_nil)
  (pss_one (ps_ret (pe_tup (pa_cons (pe_ix (ix_V (K := K) rfl hr.units) (pv 0) pe_int (fun _ _ => rfl)) (pa_cons (pe_op (op_addV (K := K) rfl) (pe_ix (ix_V (K := K) rfl hr.units) (pv 0) pe_int (fun _ _ => rfl)) (pe_ix (ix_V (K := K) rfl hr.units) (pv 1) pe_int (fun _ _ => rfl))) pa_nil)))))), fun (i : Ch × Ch) hp Z hn hq hx => ?_⟩
  try dsimp only [cxB, cxOf]
  clear tk po hr F
  obtain ⟨⟨a, m⟩, ⟨b, n⟩⟩ := i
  have hq : ∀ c ρ, c = behC (a, m) (b, n) → Z.rt (chD c) ρ := fun c ρ e => hq _ ρ (by rw [e]; rfl)
  show StD K _ _ [.sh (.tup [.str (wdS a), .int (m : Nat)]), .sh (.tup [.str (wdS b), .int (n : Nat)])] _
  walk_at "dl"
  rw [wd_set]
  refine ⟨fun h => ?_, fun h => ?_⟩
  · walk_at "dl"
    exact hq (b, n) _ (by unfold behC; rw [if_pos h])
  · walk_at "dl"
    have e : (Dt.tup [.str (wdS a), .int ((m : Nat) + (n : Nat))]) = chD (a, m + n) := rfl
    exact hq (a, m + n) _ (by unfold behC; rw [if_neg (by rw [h]; exact Bool.false_ne_true)])
def sp_repeated : Fsp where
  I := Ch × Nat
  arg i := [chD i.1, .int (i.2 : Nat)]
  pre i := i.1.2 < 2 ^ 400 ∧ i.2 < 2 ^ 400
  post i d := d = chD (repC i.1 i.2)
theorem ok_repeated (T : Tx K mg) : FnG P w K mg base 1 "repeated" ["change", "times"] (DSp K sp_repeated) := by
  obtain ⟨fd, F⟩ := T.F_repeated
  refine ⟨_, fd, T.g_repeated, F.kp, fn_body F sc_repeated (fun _ => rfl) (fun cdv A outer s H E hr tk po => ?_), F.bindsN fun _ _ _ _ _ _ us hl => match us, hl with | [_, _], _ => rfl⟩
  refine ⟨_, (pss_one (ps_ret (pe_ifExp (pt_cmpR (op_eqV2 (K := K) rfl hr.units) (pe_ix (ix_V (K := K) rfl hr.units) (pv 0) pe_int (fun _ _ => rfl)) (pe_gS rfl T.e_SET) (nomark _)) (pv 0) (pe_tup (pa_cons (pe_gS rfl T.e_ADD) (pa_cons (pe_op op_mulU (pe_ix (ix_V (K := K) rfl hr.units) (pv 0) pe_int (fun _ _ => rfl)) (pv 1)) pa_nil)))))), fun (i : Ch × Nat) hp Z hn hq hx => ?_⟩
  try dsimp only [cxB, cxOf]
  clear tk po hr F
  obtain ⟨⟨a, m⟩, n⟩ := i
  obtain ⟨h1, h2⟩ : m < 2 ^ 400 ∧ n < 2 ^ 400 := hp
  have hq : ∀ c ρ, c = repC (a, m) n → Z.rt (chD c) ρ := fun c ρ e => hq _ ρ (by rw [e]; rfl)
  show StD K _ _ [.sh (.tup [.str (wdS a), .int (m : Nat)]), .sh (.int (n : Nat))] _
  walk_at "dl"
  rw [wd_set]
  refine ⟨fun h => ?_, fun h => ?_⟩
  · walk_at "dl"
    exact hq (a, m) _ (by unfold repC; rw [if_pos h])
  · walk_at "dl"
    refine o_mulW (wide_mul (a := 400) (b := 400) (by omega) (by omega) (by decide) (by decide) (by decide)) ?_
    walk_at "dl"
    have e : (Dt.tup [.str "add", .int ((m : Nat) * (n : Nat))]) = chD (false, m * n) := by
      unfold chD wdS
      rw [Int.natCast_mul]
      rfl
    rw [e]
    exact hq _ _ (by unfold repC; rw [if_neg (by rw [h]; exact Bool.false_ne_true)])

end
end T
set_option Elab.async false
set_option linter.all false
set_option maxRecDepth 100000
set_option autoImplicit false
set_option maxHeartbeats 4000000
namespace T
open PySem L2 PyProof.Rows DL
local macro_rules | `(tactic| walk_at "dlE") => `(tactic| first
  | ((with_reducible refine' e_var ?k1 ?_); (case k1 => rfl))
  | (with_reducible refine e_op ?_)
  | (with_reducible refine e_int ?_)
  | (with_reducible refine e_str ?_)
  | ((with_reducible refine' e_own ?k1 ?_); (case k1 => rfl))
  | (with_reducible refine e_cb ?_)
  | (with_reducible refine e_fld ?_)
  | (with_reducible refine e_bl ?_)
  | (with_reducible refine e_non ?_)
  | (with_reducible refine e_tup ?_)
  | (with_reducible refine e_lst ?_)
  | (with_reducible refine e_andV ?_)
  | (with_reducible refine e_orV ?_)
  | (with_reducible refine e_notV ?_)
  | (with_reducible refine e_chainC ?_)
  | (with_reducible refine e_chainU ?_)
  | (with_reducible refine e_chain ?_)
  | (with_reducible refine e_if ?_)
  | (with_reducible refine e_sl ?_)
  | (with_reducible refine e_bmS ?_)
  | (with_reducible refine e_bmL ?_)
  | (with_reducible refine e_opS ?_)
  | (with_reducible refine e_un ?_)
  | (with_reducible refine e_ty ?_)
  | (with_reducible refine e_ref ?_)
  | (with_reducible refine e_get2 ?_)
  | fail "dl")
local macro_rules | `(tactic| walk_at "dlO") => `(tactic| first
  | (with_reducible refine v_add (o_add ?_))
  | (with_reducible refine v_eq (o_eqI ?_))
  | (with_reducible refine v_eq (o_eqS ?_))
  | (with_reducible refine v_ne (o_neI ?_))
  | (with_reducible refine v_ne (o_neS ?_))
  | (with_reducible refine v_eq (o_eqB ?_))
  | (with_reducible refine v_ne (o_neB ?_))
  | (with_reducible refine o_cmpI ?_)
  | (with_reducible refine o_cmpS ?_)
  | ((with_reducible refine' v_ix (o_ixO ?k1 ?k2 ?_)); (case k1 => rfl); (case k2 => rfl))
  | ((with_reducible refine' v_ix (o_ixT ?k1 ?_)); (case k1 => rfl))
  | ((with_reducible refine' v_ix (o_ixL ?k1 ?_)); (case k1 => rfl))
  | (with_reducible refine o_I0 ?_)
  | (with_reducible refine o_B0 ?_)
  | ((with_reducible refine o_mul ?k1 ?_); (case k1 => omega))
  | ((with_reducible refine o_mod ?k1 ?_); (case k1 => omega))
  | ((with_reducible refine o_fdiv ?k1 ?k2 ?_); (case k1 => omega); (case k2 => omega))
  | ((with_reducible refine o_pow ?k1 ?_); (case k1 => exact ⟨by decide, by decide, by decide⟩))
  | ((with_reducible refine o_isN ?k1 ?_); (case k1 => rfl))
  | ((with_reducible refine o_isNotN ?k1 ?_); (case k1 => rfl))
  | (with_reducible refine o_isB ?_)
  | (with_reducible refine o_isNotB ?_)
  | ((with_reducible refine' v_eq (o_eqP ?k1 ?k2 ?k3 ?_)); (case k1 => rfl); (case k2 => rfl); (case k3 => exact Nat.le_of_ble_eq_true rfl))
  | ((with_reducible refine' v_ne (o_neP ?k1 ?k2 ?k3 ?_)); (case k1 => rfl); (case k2 => rfl); (case k3 => exact Nat.le_of_ble_eq_true rfl))
  | ((with_reducible refine' v_in (o_inT ?k1 ?k2 ?k3 ?_)); (case k1 => rfl); (case k2 => rfl); (case k3 => exact Nat.le_of_ble_eq_true rfl))
  | ((with_reducible refine' v_in (o_inL ?k1 ?k2 ?k3 ?_)); (case k1 => rfl); (case k2 => rfl); (case k3 => exact Nat.le_of_ble_eq_true rfl))
  | ((with_reducible refine' o_inD ?k1 ?k2 ?_); (case k1 => first | exact .inl rfl | exact .inr ⟨_, _, rfl, rfl⟩); (case k2 => rfl))
  | ((with_reducible refine v_add (o_addS ?k1 ?_)); (case k1 => (first | omega | (simp only [len_app, len_one]; omega))))
  | fail "dl")
local macro_rules | `(tactic| walk_at "dlS") => `(tactic| first
  | (with_reducible refine ss_set ?_)
  | (with_reducible refine ss_if ?_)
  | (with_reducible refine ss_drop ?_)
  | (with_reducible refine ss_put ?_)
  | (with_reducible refine ss_next ?_)
  | (with_reducible refine ss_ret ?_)
  | (with_reducible refine ss_assoc ?_)
  | ((with_reducible refine' ss_aug ?k1 ?_); (case k1 => rfl))
  | (with_reducible refine ss_rai1 ?_)
  | (with_reducible refine ss_rai0 ?_)
  | (with_reducible refine ss_fldN ?_)
  | ((with_reducible refine' s_aug ?k1 ?_); (case k1 => rfl))
  | (with_reducible refine s_rai1 ?_)
  | (with_reducible refine s_rai0 ?_)
  | (with_reducible refine s_set ?_)
  | (with_reducible refine s_if ?_)
  | (with_reducible refine s_drop ?_)
  | (with_reducible refine s_ret ?_)
  | (with_reducible refine s_put ?_)
  | (with_reducible refine s_next ?_)
  | (with_reducible refine s_fldN ?_)
  | fail "dl")
local macro_rules | `(tactic| walk_at "dlT") => `(tactic| first
  | (with_reducible refine t_test ?_)
  | (with_reducible refine t_tru ?_)
  | (with_reducible refine t_and ?_)
  | (with_reducible refine t_or ?_)
  | (with_reducible refine t_not ?_)
  | (with_reducible refine t_yes ?_)
  | fail "dl")
local macro_rules | `(tactic| walk_at "dlA") => `(tactic| first
  | (with_reducible refine a_cons ?_)
  | (with_reducible refine a_nil ?_)
  | fail "dl")
local macro_rules | `(tactic| walk_at "dlC") => `(tactic| first
  | (with_reducible refine v_len (c_lenL ?_))
  | (with_reducible refine v_len (c_lenT ?_))
  | ((with_reducible refine' v_len (c_lenO ?k1 ?_)); (case k1 => rfl))
  | (with_reducible refine c_int ?_)
  | (with_reducible refine c_abs ?_)
  | (with_reducible refine c_strS ?_)
  | (with_reducible refine c_tupT ?_)
  | (with_reducible refine c_max2 ?_)
  | (with_reducible refine c_min2 ?_)
  | ((with_reducible refine v_len (c_lenS ?k1 ?_)); (case k1 => omega))
  | ((with_reducible refine' c_isi ?k1 ?k2 ?_); (case k1 => rfl); (case k2 => first | exact kb_NoneType_bool | exact kb_NoneType_int | exact kb_NoneType_str | exact kb_NoneType_list | exact kb_NoneType_tuple | exact kb_NoneType_dict | exact kb_bool_bool | exact kb_bool_int | exact kb_bool_str | exact kb_bool_list | exact kb_bool_tuple | exact kb_bool_dict | exact kb_int_bool | exact kb_int_int | exact kb_int_str | exact kb_int_list | exact kb_int_tuple | exact kb_int_dict | exact kb_str_bool | exact kb_str_int | exact kb_str_str | exact kb_str_list | exact kb_str_tuple | exact kb_str_dict | exact kb_list_bool | exact kb_list_int | exact kb_list_str | exact kb_list_list | exact kb_list_tuple | exact kb_list_dict | exact kb_tuple_bool | exact kb_tuple_int | exact kb_tuple_str | exact kb_tuple_list | exact kb_tuple_tuple | exact kb_tuple_dict | exact kb_dict_bool | exact kb_dict_int | exact kb_dict_str | exact kb_dict_list | exact kb_dict_tuple | exact kb_dict_dict))
  | ((with_reducible refine' c_lenD ?k1 ?_); (case k1 => first | exact .inl rfl | exact .inr ⟨_, _, rfl, rfl⟩))
  | fail "dl")
local macro_rules | `(tactic| walk_at "dlU") => `(tactic| first
  | (with_reducible refine u_neg ?_)
  | fail "dl")
local macro_rules | `(tactic| walk_at "dlM") => `(tactic| first
  | ((with_reducible refine m_stripC ?k1 ?_); (case k1 => omega))
  | fail "dl")
local macro_rules | `(tactic| walk_at "dlL") => `(tactic| first
  | ((with_reducible refine l_str ?k1 ?_); (case k1 => omega))
  | fail "dl")
local macro_rules | `(tactic| walk_at "dlP") => `(tactic| first
  | (with_reducible refine p_none ?_)
  | (with_reducible refine p_some ?_)
  | fail "dl")
local macro_rules | `(tactic| walk_at "dlI") => `(tactic| first
  | (with_reducible refine i_list ?_)
  | (with_reducible refine i_tup ?_)
  | (with_reducible refine i_str ?_)
  | (with_reducible refine i_keys ?_)
  | (with_reducible refine i_items ?_)
  | (with_reducible refine i_vals ?_)
  | (with_reducible refine i_rng1 ?_)
  | (with_reducible refine i_rng2 ?_)
  | fail "dl")
local macro_rules | `(tactic| walk_at "dlg") => `(tactic| first
  | ((with_reducible refine g_name ?k1 ?k2 ?_); (case k1 => rfl); (case k2 => rfl); dsimp only [List.set])
  | ((with_reducible refine g_tup ?k1 ?_); (case k1 => rfl))
  | fail "dl")
local macro_rules | `(tactic| walk_at "dlh") => `(tactic| first
  | (with_reducible refine gs_nil ?_)
  | (with_reducible refine gs_cons ?_)
  | fail "dl")
local macro_rules | `(tactic| walk_at "dlW") => `(tactic| first
  | ((with_reducible refine' w_lstV ?k1 ?k2 ?_); (case k1 => rfl); (case k2 => rfl); dsimp only [List.set])
  | fail "dl")
local macro_rules | `(tactic| walk_at "dl1") => `(tactic| first
  | ((with_reducible show EvD _ _ _ _ _ _); walk_at "dlE")
  | ((with_reducible show OpD _ _ _ _ _ _); walk_at "dlO")
  | ((with_reducible show StD _ _ _ _ _); walk_at "dlS")
  | ((with_reducible show ArD _ _ _ _ _ _); walk_at "dlA")
  | ((with_reducible show TtD _ _ _ _ _ _); walk_at "dlT")
  | ((with_reducible show CaD _ _ _ _ _); walk_at "dlC")
  | ((with_reducible show PtD _ _ _ _ _ _); walk_at "dlP")
  | ((with_reducible show TgD _ _ _ _ _ _); walk_at "dlg")
  | ((with_reducible show ItD _ _ _ _ _ _); walk_at "dlI")
  | ((with_reducible show TgsD _ _ _ _ _ _); walk_at "dlh")
  | ((with_reducible show UnD _ _ _ _ _); walk_at "dlU")
  | ((with_reducible show MtD _ _ _ _ _ _); walk_at "dlM")
  | ((with_reducible show SlD _ _ _ _ _ _ _); walk_at "dlL")
  | ((with_reducible show SeD _ _ _ _ _ _ _); walk_at "dlW")
  | ((with_reducible show ∃ _ _ _, InsAt _ _ _ _ _ ∧ List.lookup _ _ = some _ ∧ _); refine ⟨_, _, _, .inl rfl, rfl, ?_⟩)
  | (show (∃ z, Dt.str _ = .str z) ∧ _; refine ⟨⟨_, rfl⟩, ?_⟩)
  | (show getElem? _ _ = some (Sl.sh _) ∧ _; refine ⟨rfl, ?_⟩)
  | (show Dt.real _ = true ∧ lent _ _ = false ∧ _; refine ⟨rfl, rfl, ?_⟩; dsimp only [List.set])
  | (show Dt.real _ = true ∧ _; refine ⟨rfl, ?_⟩)
  | (show lent _ _ = false ∧ _; refine ⟨rfl, ?_⟩; dsimp only [List.set])
  | (show allReal _ = true ∧ _; refine ⟨rfl, Nat.le_of_ble_eq_true rfl, ?_⟩)
  | (show (true = true → _) ∧ (true = false → _); refine ⟨fun _ => ?_, fun h => nomatch h⟩)
  | (show (false = true → _) ∧ (false = false → _); refine ⟨(fun h => nomatch h), fun _ => ?_⟩)
  | (refine ⟨_, rfl, _, (fun P p => e_int p), ?_⟩)
  | (refine ⟨_, rfl, _, (fun P p => e_var rfl p), ?_⟩)
  | (refine ⟨_, rfl, ?_⟩)
  | fail "dl")
local macro_rules | `(tactic| walk_at "dl") => `(tactic| repeat' walk_at "dl1")
local macro_rules | `(tactic| walk_at "dq") => `(tactic| repeat' ((fail_if_success (with_reducible show StD _ _ (tSeq (tAsg _ _) _) _ _)); (fail_if_success (with_reducible show StD _ _ (tAsg _ _) _ _)); walk_at "dl1"))
local macro_rules | `(tactic| walk_at "dls") => `(tactic| repeat' (first | walk_at "dl1" | (refine ⟨fun hb => ?_, fun hb => ?_⟩) | fail "dls"))
local macro_rules | `(tactic| walk_at "fg") => `(tactic| repeat (first | exact Fg.nil | (with_reducible refine Fg.keep ?_) | (refine Fg.drop ?_) | (refine Fg.drop ?_ (slS_ln _))))

section
variable {P : Program} {w : World} {K : DL.Frag} {mg : Str → Option Value} {base : Heap}
/-! ### Action(changes) -/
def looks (m : List (Str × Dt)) (n : Str) : Option Dt := valD (kvL m) (Sum.inr n)
def okE (m : List (Str × Dt)) (n : Str) : Bool := isN n && (match looks m n with
  | some d => isCh d
  | none => false)
/-- the first wrong one -/
def badN (m : List (Str × Dt)) : Option Str := (sortS (m.map (·.1))).find? fun n => !okE m n
def mOk (m : List (Str × Dt)) : Prop := m.length < 60 ∧ (m.map (·.1)).Nodup ∧ ∀ p ∈ m, p.1.length ≤ 1000 ∧ plainD p.2 ∧ ∀ ds, p.2 = .tup ds → ∀ z ∈ ds, plainD z
def sp_Action (K : DL.Frag) : Osp where
  I := List (Str × Dt)
  own _ := .ins (He.ga K "Action") [] []
  arg m := [dicD (kvL m)]
  pre m := mOk m
  post m d o := d = .non ∧ badN m = none ∧ ∃ l : AL, m = chM l ∧ o = actD K (l.filter nz)
  exc m c o := ∃ n, badN m = some n ∧ c = ⟨He.ga K "BadChange", ["counter"], [.str n]⟩
theorem looks_mem {m : List (Str × Dt)} {n : Str} (hn : n ∈ m.map (·.1)) : ∃ d, looks m n = some d ∧ (n, d) ∈ m := by
  induction m with
  | nil => cases hn
  | cons p m ih =>
    unfold looks kvL
    rw [List.map_cons, valD_cons]
    by_cases e : p.1 = n
    · rw [if_pos (by rw [e])]
      exact ⟨p.2, rfl, by rw [← e]; exact List.mem_cons_self⟩
    · rw [if_neg (fun z => e (Sum.inr.inj z))]
      rw [List.map_cons] at hn
      rcases List.mem_cons.mp hn with z | z
      · exact absurd z.symm e
      · obtain ⟨d, h1, h2⟩ := ih z
        exact ⟨d, h1, List.mem_cons_of_mem _ h2⟩
theorem looks_eq {m : List (Str × Dt)} {p : Str × Dt} (nd : (m.map (·.1)).Nodup) (h : p ∈ m) : looks m p.1 = some p.2 := by
  refine valD_of ?_ (List.mem_map.mpr ⟨p, h, rfl⟩)
  rw [kvL_keys]
  exact nodup_inr.mpr nd
theorem find_pre {α : Type} {q : α → Bool} : ∀ {l : List α} {i : Nat} {z : α}, l[i]? = some z → (∀ y ∈ l.take i, q y = false) → q z = true → l.find? q = some z
  | a :: l, 0, z, h, _, hz => by
    simp at h
    subst h
    rw [List.find?_cons, hz]
  | a :: l, i + 1, z, h, hp, hz => by
    have ha : q a = false := hp a (by simp)
    rw [List.find?_cons, ha]
    exact find_pre (i := i) (by simpa using h) (fun y hy => hp y (by simp [hy])) hz
theorem all_ch : ∀ {m : List (Str × Dt)}, (∀ p ∈ m, isCh p.2 = true) → ∃ l : AL, m = chM l
  | [], _ => ⟨[], rfl⟩
  | p :: m, h => by
    obtain ⟨c, e⟩ := isCh_ok (h p List.mem_cons_self)
    obtain ⟨l, e2⟩ := all_ch (m := m) fun q hq => h q (List.mem_cons_of_mem _ hq)
    exact ⟨(p.1, c) :: l, by rw [e2]; show _ = (p.1, chD c) :: chM l; rw [← e]⟩
theorem ne_add0 (y : Str) (c : Ch) : (!(PyData.tuple [PyData.str (wdS c.1), .int (c.2 : Nat)]).eqv (.tuple [.str "add", .int 0])) = nz (y, c) := by
  obtain ⟨b, n⟩ := c
  have h : (PyData.tuple [PyData.str (wdS b), .int (n : Nat)]).eqv (.tuple [.str "add", .int 0]) = (PyData.eqv (.str (wdS b)) (.str "add") && (PyData.eqv (.int (n : Nat)) (.int 0) && true)) := by simp [PyData.eqv, PyData.eqvAll]
  show (!(PyData.tuple [PyData.str (wdS b), .int (n : Nat)]).eqv _) = _
  rw [h, eqv_str, eqv_int, Bool.and_true]
  unfold nz
  cases b
  · rw [show decide (wdS false = "add") = true by decide +kernel, Bool.true_and]
    rw [decide_eq_decide.mpr (show ((n : Nat) : Int) = 0 ↔ ((false, n) : Ch) = (false, 0) by simp)]
  · rw [show decide (wdS true = "add") = false by decide +kernel, Bool.false_and]
    rw [show decide (((true, n) : Ch) = (false, 0)) = false by simp]
theorem chM_nodup {l : AL} {p : Str × Ch → Bool} (h : ((chM l).map (·.1)).Nodup) : ((l.filter p).map (·.1)).Nodup := by
  rw [chM_keys] at h
  exact h.sublist ((List.filter_sublist (l := l)).map _)
theorem chL_map (l : AL) : chL l = l.map fun y => (Sum.inr y.1, chD y.2) := by
  unfold chL kvL chM
  rw [List.map_map]
  rfl
theorem chL_merge {l : AL} (h : (l.map (·.1)).Nodup) : mergeD [] (l.map fun y => (Sum.inr y.1, chD y.2)) = chL l := by
  rw [mergeD_new _ _ ?_, List.nil_append, chL_map]
  rw [List.nil_append, List.map_map]
  have := nodup_inr.mpr h
  rw [List.map_map] at this
  exact this
theorem chL_real (l : AL) : (dicD (chL l)).real = true := rfl
theorem ok_Action (T : Tx K mg) : MkG P w K mg base 3 "Action" (He.ga K "Action") ["self", "changes"] (OSp K (sp_Action K)) [] := by
  have G_is_change := ok_is_change (P := P) (w := w) (base := base) T
  have G_is_name := ok_is_name (P := P) (w := w) (base := base) T
  have G_BadChange := G_BadChange (P := P) (w := w) (base := base) T
  obtain ⟨fd, F⟩ := T.F_Actionu_initu
  refine ⟨_, fd, [], T.i_Action, T.g_Action, fn_bodyO F sc_Actionu_initu (fun _ => rfl) (fun cdv A outer s H E hr tk po => ?_), F.bindsN fun _ _ _ _ _ _ us hl => match us, hl with | [_, _], _ => rfl, .nil⟩
  refine ⟨_, (pss_cons (ps_for po rfl (pi_listK (K := K) rfl (pe_callB (call_sortU (K := K) rfl rfl) (by rfl) T.n_sorted (by decide +kernel) (pa_cons (pe_lc (own := [("name", 2)]) rfl sc_Actionu_initu.nd (pi_keys (pe_lkf (pv 1))) (blkOk_by (N := ["self", "changes", "name", "change"]) (sc := defScope s_Actionu_initu) (by decide +kernel)) (fun _ _ _ _ _ => (pg_name (i := 2) sc_Actionu_initu.nd rfl (Or.inl rfl) (Or.inr rfl))) (fun _ _ _ _ _ => pts_nil) (fun _ _ _ _ _ => (pe_callTy call_strU (by rfl) T.n_str (by decide +kernel) (pa_cons (pv 2) pa_nil)))) pa_nil))) (pg_name (i := 2) sc_Actionu_initu.nd rfl (Or.inl rfl) (Or.inl rfl)) (pss_one (ps_if (PW.pt (pw_or (pt_not (pt_truK (K := K) rfl (pe_fn G_is_name (hr.mono (by decide)) tk rfl (pa_cons (pv 2) pa_nil)))) (pw_or1 (pt_not (pt_truK (K := K) rfl (pe_fn G_is_change (hr.mono (by decide)) tk rfl (pa_cons (pe_ix (ix_V (K := K) rfl hr.units) (pv 1) (pv 2) (fun _ _ => rfl)) pa_nil))))))) (pss_one (ps_rai G_BadChange rfl tk (hr.mono (by decide)) rfl (pa_cons (pv 2) pa_nil))) pss_nil)))
  (pss_one (ps_fldC (pv 0) (pe_dc (own := [("name", 2), ("change", 3)]) rfl sc_Actionu_initu.nd (pi_items (pe_lkf (pv 1))) (blkOk_by (N := ["self", "changes", "name", "change"]) (sc := defScope s_Actionu_initu) (by decide +kernel)) (fun _ _ _ _ _ => (pg_tupK (K := K) 2 rfl rfl (pgs_cons (pg_name (i := 2) sc_Actionu_initu.nd rfl (Or.inl rfl) (Or.inr rfl)) (pgs_cons (pg_name (i := 3) sc_Actionu_initu.nd rfl (Or.inl rfl) (Or.inr rfl)) pgs_nil)))) (fun _ _ _ _ _ => (pts_one (pt_cmpR (op_neV2 (K := K) rfl hr.units) (pv 3) (pe_tup (pa_cons (pe_gS rfl T.e_ADD) (pa_cons pe_int pa_nil))) (nomark _)))) (fun _ _ _ _ _ => (pv 2)) (fun _ _ _ _ _ => (pv 3))) T.c_Action.cl T.n_Action_made_of))), fun (i : List (Str × Dt)) hp Z hn hq hx => ?_⟩
  try dsimp only [cxB, cxOf]
  clear tk po hr F G_is_change G_is_name G_BadChange
  obtain ⟨h1, h2, h3⟩ : mOk i := hp
  have hqn : ∀ (l : AL) ρ, badN i = none → i = chM l → ρ[0]? = some (.ow true (actD K (l.filter nz))) → Z.nx ρ := fun l ρ a b c => hn _ ρ c ⟨rfl, a, l, b, rfl⟩
  have hx : ∀ n o ρ, ρ[0]? = some (.ow true o) → badN i = some n → Z.ex ⟨He.ga K "BadChange", ["counter"], [.str n]⟩ ρ := fun n o ρ a b => hx _ o ρ a ⟨n, b, rfl⟩
  show StD K _ _ [.ow true (.ins (He.ga K "Action") [] []), .sh (dicD (kvL i)), .no, .no] _
  clear hn hq
  have hns : ∀ n ∈ i.map (·.1), n.length ≤ 1000 := fun n hn => by
    obtain ⟨p, hp, rfl⟩ := List.mem_map.mp hn
    exact (h3 p hp).1
  refine ss_for (i_list (e_new (n_cb (a_cons (e_new (n_lcStr ?_))))))
  refine e_var rfl ⟨i, rfl, rfl, Nat.le_of_ble_eq_true rfl, by omega, ?_⟩
  refine a_nil (cn_sortS (.inl rfl) (by rw [List.length_map]; omega) ?_)
  refine ⟨_, rfl, fun k ρ => (∀ n ∈ (sortS (i.map (·.1))).take k, okE i n = true) ∧ ∃ s, ρ = [.ow true (.ins (He.ga K "Action") [] []), .sh (dicD (kvL i)), slS s, .no], ⟨(fun n h => nomatch h), none, rfl⟩, ?_, ?_⟩
  · rintro k _ z hz ⟨hok, s, rfl⟩ Z' LZ
    obtain ⟨y, hy, rfl⟩ := strs_get hz
    have hm : y ∈ i.map (·.1) := (sortS_perm _).mem_iff.mp (List.mem_of_getElem? hy)
    have hyl := hns y hm
    obtain ⟨d, hd1, hd2⟩ := looks_mem hm
    have hg : okE i y = (isN y && isCh d) := by unfold okE; rw [hd1]
    have hbad : okE i y = false → badN i = some y := fun e => find_pre hy (fun w hw => by rw [hok w hw]; rfl) (by rw [e]; rfl)
    have hnx : okE i y = true → Z'.nx [.ow true (.ins (He.ga K "Action") [] []), .sh (dicD (kvL i)), .sh (.str y), .no] := fun e => LZ.nx _ _ (.refl _) ⟨fun n hn => by
      rw [take_next hy] at hn
      rcases List.mem_append.mp hn with u | u
      · exact hok n u
      · rw [List.mem_singleton.mp u]; exact e, some (.str y), rfl⟩
    refine g_name rfl (by cases s <;> rfl) ?_
    dsimp only [List.set]
    walk_at "dl"
    refine e_call ?_
    walk_at "dl"
    refine ⟨rfl, hyl, ?_, fun c e => e.elim⟩
    rintro _ rfl
    walk_at "dl"
    refine ⟨fun h => ⟨fun _ => ?_, fun h => nomatch h⟩, fun h => ?_⟩
    · walk_at "dl"
      exact LZ.ex _ _ (hx y _ _ rfl (hbad (by rw [hg, show isN y = false by simpa using h]; rfl)))
    · have hN : isN y = true := by simpa using h
      rw [hN, Bool.true_and] at hg
      refine t_not (t_tru (e_call ?_))
      walk_at "dl"
      refine o_ixD (.inl rfl) rfl hd1 ?_
      walk_at "dl"
      refine ⟨by show [d].all Dt.real = true; rw [List.all_cons, (h3 _ hd2).2.1.1]; rfl, (h3 _ hd2).2, ?_, fun c e => e.elim⟩
      rintro _ rfl
      walk_at "dl"
      refine ⟨fun h => ?_, fun h => ?_⟩
      · walk_at "dl"
        exact LZ.ex _ _ (hx y _ _ rfl (hbad (by rw [hg]; simpa using h)))
      · walk_at "dl"
        exact hnx (by rw [hg]; simpa using h)
  · rintro _ ⟨hok, s, rfl⟩
    rw [strs_len, List.take_length] at hok
    have hbad : badN i = none := List.find?_eq_none.mpr fun n hn => by rw [hok n hn]; exact Bool.false_ne_true
    obtain ⟨l, hl⟩ : ∃ l, i = chM l := all_ch fun p hp => by
      have h := hok p.1 ((sortS_perm _).mem_iff.mpr (List.mem_map.mpr ⟨p, hp, rfl⟩))
      unfold okE at h
      rw [looks_eq h2 hp] at h
      exact (Bool.and_eq_true_iff.mp h).2
    subst hl
    refine s_fldN (e_new (n_dcF (i_items (e_var rfl ⟨_, rfl, ?_, Str × Ch, l, fun p => .tup [.str p.1, chD p.2], ?_, ?_, nz, fun p => Sum.inr p.1, fun p => chD p.2, ?_, ?_⟩))))
    · cases s <;> rfl
    · rw [items_kvL]
      unfold chM
      rw [List.map_map]
      rfl
    · unfold chM at h1
      rw [List.length_map] at h1
      omega
    · rintro ⟨y, c⟩ hy
      dsimp only [wipeE, List.map, List.set]
      walk_at "dl"
      rw [ne_add0 y c]
      refine ⟨rfl, fun _ => ?_, fun _ => ⟨rfl, rfl⟩⟩
      walk_at "dl"
      refine ⟨rfl, ?_⟩
      walk_at "dl"
      exact ⟨rfl, rfl, rfl, rfl⟩
    · rw [show (fun y : Str × Ch => ((fun p => Sum.inr p.1) y, (fun p => chD p.2) y)) = fun y : Str × Ch => ((Sum.inr y.1 : Key), chD y.2) from rfl, chL_merge (chM_nodup h2)]
      refine ⟨chL_real _, ?_⟩
      dsimp only [wipeE, List.map, List.set]
      walk_at "dl"
      exact ⟨0, true, [], [], rfl, rfl, rfl, by decide, hqn l _ hbad rfl rfl⟩

end
end T
set_option Elab.async false
set_option linter.all false
set_option maxRecDepth 100000
set_option autoImplicit false
set_option maxHeartbeats 4000000
namespace T
open PySem L2 PyProof.Rows DL
local macro_rules | `(tactic| walk_at "dlE") => `(tactic| first
  | ((with_reducible refine' e_var ?k1 ?_); (case k1 => rfl))
  | (with_reducible refine e_op ?_)
  | (with_reducible refine e_int ?_)
  | (with_reducible refine e_str ?_)
  | ((with_reducible refine' e_own ?k1 ?_); (case k1 => rfl))
  | (with_reducible refine e_cb ?_)
  | (with_reducible refine e_fld ?_)
  | (with_reducible refine e_bl ?_)
  | (with_reducible refine e_non ?_)
  | (with_reducible refine e_tup ?_)
  | (with_reducible refine e_lst ?_)
  | (with_reducible refine e_andV ?_)
  | (with_reducible refine e_orV ?_)
  | (with_reducible refine e_notV ?_)
  | (with_reducible refine e_chainC ?_)
  | (with_reducible refine e_chainU ?_)
  | (with_reducible refine e_chain ?_)
  | (with_reducible refine e_if ?_)
  | (with_reducible refine e_sl ?_)
  | (with_reducible refine e_bmS ?_)
  | (with_reducible refine e_bmL ?_)
  | (with_reducible refine e_opS ?_)
  | (with_reducible refine e_un ?_)
  | (with_reducible refine e_ty ?_)
  | (with_reducible refine e_ref ?_)
  | (with_reducible refine e_get2 ?_)
  | fail "dl")
local macro_rules | `(tactic| walk_at "dlO") => `(tactic| first
  | (with_reducible refine v_add (o_add ?_))
  | (with_reducible refine v_eq (o_eqI ?_))
  | (with_reducible refine v_eq (o_eqS ?_))
  | (with_reducible refine v_ne (o_neI ?_))
  | (with_reducible refine v_ne (o_neS ?_))
  | (with_reducible refine v_eq (o_eqB ?_))
  | (with_reducible refine v_ne (o_neB ?_))
  | (with_reducible refine o_cmpI ?_)
  | (with_reducible refine o_cmpS ?_)
  | ((with_reducible refine' v_ix (o_ixO ?k1 ?k2 ?_)); (case k1 => rfl); (case k2 => rfl))
  | ((with_reducible refine' v_ix (o_ixT ?k1 ?_)); (case k1 => rfl))
  | ((with_reducible refine' v_ix (o_ixL ?k1 ?_)); (case k1 => rfl))
  | (with_reducible refine o_I0 ?_)
  | (with_reducible refine o_B0 ?_)
  | ((with_reducible refine o_mul ?k1 ?_); (case k1 => omega))
  | ((with_reducible refine o_mod ?k1 ?_); (case k1 => omega))
  | ((with_reducible refine o_fdiv ?k1 ?k2 ?_); (case k1 => omega); (case k2 => omega))
  | ((with_reducible refine o_pow ?k1 ?_); (case k1 => exact ⟨by decide, by decide, by decide⟩))
  | ((with_reducible refine o_isN ?k1 ?_); (case k1 => rfl))
  | ((with_reducible refine o_isNotN ?k1 ?_); (case k1 => rfl))
  | (with_reducible refine o_isB ?_)
  | (with_reducible refine o_isNotB ?_)
  | ((with_reducible refine' v_eq (o_eqP ?k1 ?k2 ?k3 ?_)); (case k1 => rfl); (case k2 => rfl); (case k3 => exact Nat.le_of_ble_eq_true rfl))
  | ((with_reducible refine' v_ne (o_neP ?k1 ?k2 ?k3 ?_)); (case k1 => rfl); (case k2 => rfl); (case k3 => exact Nat.le_of_ble_eq_true rfl))
  | ((with_reducible refine' v_in (o_inT ?k1 ?k2 ?k3 ?_)); (case k1 => rfl); (case k2 => rfl); (case k3 => exact Nat.le_of_ble_eq_true rfl))
  | ((with_reducible refine' v_in (o_inL ?k1 ?k2 ?k3 ?_)); (case k1 => rfl); (case k2 => rfl); (case k3 => exact Nat.le_of_ble_eq_true rfl))
  | ((with_reducible refine' o_inD ?k1 ?k2 ?_); (case k1 => first | exact .inl rfl | exact .inr ⟨_, _, rfl, rfl⟩); (case k2 => rfl))
  | ((with_reducible refine v_add (o_addS ?k1 ?_)); (case k1 => (first | omega | (simp only [len_app, len_one]; omega))))
  | fail "dl")
local macro_rules | `(tactic| walk_at "dlS") => `(tactic| first
  | (with_reducible refine ss_set ?_)
  | (with_reducible refine ss_if ?_)
  | (with_reducible refine ss_drop ?_)
  | (with_reducible refine ss_put ?_)
  | (with_reducible refine ss_next ?_)
  | (with_reducible refine ss_ret ?_)
  | (with_reducible refine ss_assoc ?_)
  | ((with_reducible refine' ss_aug ?k1 ?_); (case k1 => rfl))
  | (with_reducible refine ss_rai1 ?_)
  | (with_reducible refine ss_rai0 ?_)
  | (with_reducible refine ss_fldN ?_)
  | ((with_reducible refine' s_aug ?k1 ?_); (case k1 => rfl))
  | (with_reducible refine s_rai1 ?_)
  | (with_reducible refine s_rai0 ?_)
  | (with_reducible refine s_set ?_)
  | (with_reducible refine s_if ?_)
  | (with_reducible refine s_drop ?_)
  | (with_reducible refine s_ret ?_)
  | (with_reducible refine s_put ?_)
  | (with_reducible refine s_next ?_)
  | (with_reducible refine s_fldN ?_)
  | fail "dl")
local macro_rules | `(tactic| walk_at "dlT") => `(tactic| first
  | (with_reducible refine t_test ?_)
  | (with_reducible refine t_tru ?_)
  | (with_reducible refine t_and ?_)
  | (with_reducible refine t_or ?_)
  | (with_reducible refine t_not ?_)
  | (with_reducible refine t_yes ?_)
  | fail "dl")
local macro_rules | `(tactic| walk_at "dlA") => `(tactic| first
  | (with_reducible refine a_cons ?_)
  | (with_reducible refine a_nil ?_)
  | fail "dl")
local macro_rules | `(tactic| walk_at "dlC") => `(tactic| first
  | (with_reducible refine v_len (c_lenL ?_))
  | (with_reducible refine v_len (c_lenT ?_))
  | ((with_reducible refine' v_len (c_lenO ?k1 ?_)); (case k1 => rfl))
  | (with_reducible refine c_int ?_)
  | (with_reducible refine c_abs ?_)
  | (with_reducible refine c_strS ?_)
  | (with_reducible refine c_tupT ?_)
  | (with_reducible refine c_max2 ?_)
  | (with_reducible refine c_min2 ?_)
  | ((with_reducible refine v_len (c_lenS ?k1 ?_)); (case k1 => omega))
  | ((with_reducible refine' c_isi ?k1 ?k2 ?_); (case k1 => rfl); (case k2 => first | exact kb_NoneType_bool | exact kb_NoneType_int | exact kb_NoneType_str | exact kb_NoneType_list | exact kb_NoneType_tuple | exact kb_NoneType_dict | exact kb_bool_bool | exact kb_bool_int | exact kb_bool_str | exact kb_bool_list | exact kb_bool_tuple | exact kb_bool_dict | exact kb_int_bool | exact kb_int_int | exact kb_int_str | exact kb_int_list | exact kb_int_tuple | exact kb_int_dict | exact kb_str_bool | exact kb_str_int | exact kb_str_str | exact kb_str_list | exact kb_str_tuple | exact kb_str_dict | exact kb_list_bool | exact kb_list_int | exact kb_list_str | exact kb_list_list | exact kb_list_tuple | exact kb_list_dict | exact kb_tuple_bool | exact kb_tuple_int | exact kb_tuple_str | exact kb_tuple_list | exact kb_tuple_tuple | exact kb_tuple_dict | exact kb_dict_bool | exact kb_dict_int | exact kb_dict_str | exact kb_dict_list | exact kb_dict_tuple | exact kb_dict_dict))
  | ((with_reducible refine' c_lenD ?k1 ?_); (case k1 => first | exact .inl rfl | exact .inr ⟨_, _, rfl, rfl⟩))
  | fail "dl")
local macro_rules | `(tactic| walk_at "dlU") => `(tactic| first
  | (with_reducible refine u_neg ?_)
  | fail "dl")
local macro_rules | `(tactic| walk_at "dlM") => `(tactic| first
  | ((with_reducible refine m_stripC ?k1 ?_); (case k1 => omega))
  | fail "dl")
local macro_rules | `(tactic| walk_at "dlL") => `(tactic| first
  | ((with_reducible refine l_str ?k1 ?_); (case k1 => omega))
  | fail "dl")
local macro_rules | `(tactic| walk_at "dlP") => `(tactic| first
  | (with_reducible refine p_none ?_)
  | (with_reducible refine p_some ?_)
  | fail "dl")
local macro_rules | `(tactic| walk_at "dlI") => `(tactic| first
  | (with_reducible refine i_list ?_)
  | (with_reducible refine i_tup ?_)
  | (with_reducible refine i_str ?_)
  | (with_reducible refine i_keys ?_)
  | (with_reducible refine i_items ?_)
  | (with_reducible refine i_vals ?_)
  | (with_reducible refine i_rng1 ?_)
  | (with_reducible refine i_rng2 ?_)
  | fail "dl")
local macro_rules | `(tactic| walk_at "dlg") => `(tactic| first
  | ((with_reducible refine g_name ?k1 ?k2 ?_); (case k1 => rfl); (case k2 => rfl); dsimp only [List.set])
  | ((with_reducible refine g_tup ?k1 ?_); (case k1 => rfl))
  | fail "dl")
local macro_rules | `(tactic| walk_at "dlh") => `(tactic| first
  | (with_reducible refine gs_nil ?_)
  | (with_reducible refine gs_cons ?_)
  | fail "dl")
local macro_rules | `(tactic| walk_at "dlW") => `(tactic| first
  | ((with_reducible refine' w_lstV ?k1 ?k2 ?_); (case k1 => rfl); (case k2 => rfl); dsimp only [List.set])
  | fail "dl")
local macro_rules | `(tactic| walk_at "dl1") => `(tactic| first
  | ((with_reducible show EvD _ _ _ _ _ _); walk_at "dlE")
  | ((with_reducible show OpD _ _ _ _ _ _); walk_at "dlO")
  | ((with_reducible show StD _ _ _ _ _); walk_at "dlS")
  | ((with_reducible show ArD _ _ _ _ _ _); walk_at "dlA")
  | ((with_reducible show TtD _ _ _ _ _ _); walk_at "dlT")
  | ((with_reducible show CaD _ _ _ _ _); walk_at "dlC")
  | ((with_reducible show PtD _ _ _ _ _ _); walk_at "dlP")
  | ((with_reducible show TgD _ _ _ _ _ _); walk_at "dlg")
  | ((with_reducible show ItD _ _ _ _ _ _); walk_at "dlI")
  | ((with_reducible show TgsD _ _ _ _ _ _); walk_at "dlh")
  | ((with_reducible show UnD _ _ _ _ _); walk_at "dlU")
  | ((with_reducible show MtD _ _ _ _ _ _); walk_at "dlM")
  | ((with_reducible show SlD _ _ _ _ _ _ _); walk_at "dlL")
  | ((with_reducible show SeD _ _ _ _ _ _ _); walk_at "dlW")
  | ((with_reducible show ∃ _ _ _, InsAt _ _ _ _ _ ∧ List.lookup _ _ = some _ ∧ _); refine ⟨_, _, _, .inl rfl, rfl, ?_⟩)
  | (show (∃ z, Dt.str _ = .str z) ∧ _; refine ⟨⟨_, rfl⟩, ?_⟩)
  | (show getElem? _ _ = some (Sl.sh _) ∧ _; refine ⟨rfl, ?_⟩)
  | (show Dt.real _ = true ∧ lent _ _ = false ∧ _; refine ⟨rfl, rfl, ?_⟩; dsimp only [List.set])
  | (show Dt.real _ = true ∧ _; refine ⟨rfl, ?_⟩)
  | (show lent _ _ = false ∧ _; refine ⟨rfl, ?_⟩; dsimp only [List.set])
  | (show allReal _ = true ∧ _; refine ⟨rfl, Nat.le_of_ble_eq_true rfl, ?_⟩)
  | (show (true = true → _) ∧ (true = false → _); refine ⟨fun _ => ?_, fun h => nomatch h⟩)
  | (show (false = true → _) ∧ (false = false → _); refine ⟨(fun h => nomatch h), fun _ => ?_⟩)
  | (refine ⟨_, rfl, _, (fun P p => e_int p), ?_⟩)
  | (refine ⟨_, rfl, _, (fun P p => e_var rfl p), ?_⟩)
  | (refine ⟨_, rfl, ?_⟩)
  | fail "dl")
local macro_rules | `(tactic| walk_at "dl") => `(tactic| repeat' walk_at "dl1")
local macro_rules | `(tactic| walk_at "dq") => `(tactic| repeat' ((fail_if_success (with_reducible show StD _ _ (tSeq (tAsg _ _) _) _ _)); (fail_if_success (with_reducible show StD _ _ (tAsg _ _) _ _)); walk_at "dl1"))
local macro_rules | `(tactic| walk_at "dls") => `(tactic| repeat' (first | walk_at "dl1" | (refine ⟨fun hb => ?_, fun hb => ?_⟩) | fail "dls"))
local macro_rules | `(tactic| walk_at "fg") => `(tactic| repeat (first | exact Fg.nil | (with_reducible refine Fg.keep ?_) | (refine Fg.drop ?_) | (refine Fg.drop ?_ (slS_ln _))))

section
variable {P : Program} {w : World} {K : DL.Frag} {mg : Str → Option Value} {base : Heap}
/-! ### actions whose names are names -/
def good (l : AL) : Prop := l.length < 50 ∧ (l.map (·.1)).Nodup ∧ ∀ p ∈ l, isN p.1 = true
theorem isN_len {z : Str} (h : isN z = true) : z.length ≤ 8 := by
  unfold isN at h
  obtain ⟨h1, _⟩ := Bool.and_eq_true_iff.mp h
  obtain ⟨_, h2⟩ := Bool.and_eq_true_iff.mp h1
  have := of_decide_eq_true h2
  omega
theorem chM_inj : ∀ {a b : AL}, chM a = chM b → a = b
  | [], [], _ => rfl
  | [], _ :: _, h => by cases h
  | _ :: _, [], h => by cases h
  | p :: a, q :: b, h => by
    have h : (p.1, chD p.2) :: chM a = (q.1, chD q.2) :: chM b := h
    injection h with h1 h2
    injection h1 with h3 h4
    rw [chM_inj h2, show p = q from Prod.ext h3 (chD_inj h4)]
theorem good_ok {l : AL} (h : good l) : mOk (chM l) := by
  obtain ⟨h1, h2, h3⟩ := h
  refine ⟨by unfold chM; rw [List.length_map]; omega, by rw [chM_keys]; exact h2, fun p hp => ?_⟩
  obtain ⟨q, hq, rfl⟩ := List.mem_map.mp hp
  refine ⟨Nat.le_trans (isN_len (h3 q hq)) (by decide), ⟨rfl, rfl⟩, fun ds e z hz => ?_⟩
  have e : Dt.tup [.str (wdS q.2.1), .int (q.2.2 : Nat)] = .tup ds := e
  injection e with e
  subst e
  rcases List.mem_cons.mp hz with e | e
  · subst e; exact ⟨rfl, rfl⟩
  · rw [List.mem_singleton.mp e]; exact ⟨rfl, rfl⟩
theorem good_bad {l : AL} (h : good l) : badN (chM l) = none := by
  obtain ⟨h1, h2, h3⟩ := h
  refine List.find?_eq_none.mpr fun n hn => ?_
  obtain ⟨p, hp, rfl⟩ := List.mem_map.mp ((sortS_perm _).mem_iff.mp hn)
  obtain ⟨q, hq, rfl⟩ := List.mem_map.mp hp
  unfold okE
  rw [looks_eq (by rw [chM_keys]; exact h2) hp]
  show ¬ (!(isN q.1 && isCh (chD q.2))) = true
  rw [h3 q hq, isCh_ch]
  exact Bool.false_ne_true
theorem n_act {W : WX} {ρ : En} {x : PX} {ta : TA} {Q : Dt → En → Prop} (h : ArD K W ta ρ x fun es ρ1 => ∃ l, es = [dicD (chL l)] ∧ good l ∧ Q (actD K (l.filter nz)) ρ1) :
    EvN K W (tMakeS (He.ga K "Action") (OSp K (sp_Action K)) [] (WE W) ta) ρ x Q := by
  refine n_make (dds := []) (fun _ => by unfold RepL; rfl) (h.mono fun es ρ1 ⟨l, e, g, q⟩ => ⟨chM l, rfl, by rw [e]; rfl, by rw [e]; rfl, good_ok g, fun z o ⟨h1, h2, l2, h3, h4⟩ => ⟨h1, ?_⟩, fun c o ⟨n, h1, _⟩ => ?_⟩)
  · rw [h4, ← chM_inj h3]
    exact q
  · rw [good_bad g] at h1
    cases h1
theorem kvEq_self {l : AL} (nd : (l.map (·.1)).Nodup) : ∀ m : AL, (∀ p ∈ m, p ∈ l) → kvEq (chL l) (chL m) = some true
  | [], _ => rfl
  | p :: m, h => by
    have hv : valD (chL l) (Sum.inr p.1) = some (chD p.2) := by
      have := looks_eq (m := chM l) (p := (p.1, chD p.2)) (by rw [chM_keys]; exact nd) (List.mem_map.mpr ⟨p, h p List.mem_cons_self, rfl⟩)
      exact this
    have e : chL (p :: m) = (Sum.inr p.1, chD p.2) :: chL m := rfl
    rw [e]
    unfold kvEq
    rw [hv, kvEq_self nd m fun q hq => h q (List.mem_cons_of_mem _ hq)]
    show some (PyData.eqv (.tuple [.str (wdS p.2.1), .int (p.2.2 : Nat)]) (.tuple [.str (wdS p.2.1), .int (p.2.2 : Nat)]) && true) = some true
    have : (PyData.tuple [.str (wdS p.2.1), .int (p.2.2 : Nat)]).eqv (.tuple [.str (wdS p.2.1), .int (p.2.2 : Nat)]) = (PyData.eqv (.str (wdS p.2.1)) (.str (wdS p.2.1)) && (PyData.eqv (.int (p.2.2 : Nat)) (.int (p.2.2 : Nat)) && true)) := by simp [PyData.eqv, PyData.eqvAll]
    rw [this, eqv_str, eqv_int]
    simp
theorem eqDic_self {l : AL} (nd : (l.map (·.1)).Nodup) : eqDic (chL l) (chL l) = some true := by
  unfold eqDic
  rw [if_pos rfl]
  exact kvEq_self nd l fun _ h => h
/-! ### adding, plainly -/
def putA (l : AL) (k : Str) (c : Ch) : AL := if l.any (fun p => decide (p.1 = k)) then l.map (fun p => if p.1 = k then (p.1, c) else p) else l ++ [(k, c)]
def lookA (l : AL) (k : Str) : Option Ch := (l.find? fun p => decide (p.1 = k)).map (·.2)
def behA (l : AL) (p : Str × Ch) : Ch := match lookA l p.1 with
  | some c => behC c p.2
  | none => p.2
def addL (a b : AL) : AL := b.foldl (fun acc p => putA acc p.1 (behA acc p)) a
def addA (a b : AL) : AL := (addL a b).filter nz
def mulA (a : AL) (n : Nat) : AL := if n = 0 then [] else a.map fun p => (p.1, repC p.2 n)
theorem chL_any (l : AL) (k : Str) : ((chL l).any fun p => decide (p.1 = Sum.inr k)) = l.any fun p => decide (p.1 = k) := by
  rw [chL_map, List.any_map]
  congr 1
  funext p
  exact decide_eq_decide.mpr ⟨fun h => Sum.inr.inj h, fun h => congrArg Sum.inr (show p.1 = k from h)⟩
theorem chL_put (l : AL) (k : Str) (c : Ch) : putD (chL l) (Sum.inr k) (chD c) = chL (putA l k c) := by
  unfold putD putA
  rw [chL_any]
  by_cases h : (l.any fun p => decide (p.1 = k)) = true
  · rw [if_pos h, if_pos h, chL_map, chL_map, List.map_map, List.map_map]
    refine List.map_congr_left fun p _ => ?_
    dsimp only [Function.comp]
    by_cases e : p.1 = k
    · rw [if_pos (by rw [e]), if_pos e]
    · rw [if_neg (fun z => e (Sum.inr.inj z)), if_neg e]
  · rw [if_neg h, if_neg h, chL_app]
    rfl
theorem chL_val (l : AL) (k : Str) : valD (chL l) (Sum.inr k) = (lookA l k).map chD := by
  induction l with
  | nil => rfl
  | cons p l ih =>
    rw [show chL (p :: l) = (Sum.inr p.1, chD p.2) :: chL l from rfl, valD_cons, ih]
    unfold lookA
    rw [List.find?_cons]
    by_cases e : p.1 = k
    · rw [if_pos (by rw [e]), decide_eq_true e]
      rfl
    · rw [if_neg (fun z => e (Sum.inr.inj z)), decide_eq_false e]
theorem putA_keys (l : AL) (k : Str) (c : Ch) : (putA l k c).map (·.1) = if k ∈ l.map (·.1) then l.map (·.1) else l.map (·.1) ++ [k] := by
  unfold putA
  have hi : (l.any (fun p => decide (p.1 = k)) = true) ↔ k ∈ l.map (·.1) := by
    rw [List.any_eq_true, List.mem_map]
    exact ⟨fun ⟨p, h1, h2⟩ => ⟨p, h1, of_decide_eq_true h2⟩, fun ⟨p, h1, h2⟩ => ⟨p, h1, decide_eq_true h2⟩⟩
  by_cases h : k ∈ l.map (·.1)
  · rw [if_pos (hi.mpr h), if_pos h, List.map_map]
    refine List.map_congr_left fun p _ => ?_
    show (if p.1 = k then (p.1, c) else p).1 = p.1
    split <;> rfl
  · rw [if_neg (fun z => h (hi.mp z)), if_neg h, List.map_append]
    rfl
def goodK (ks : List Str) : Prop := ks.Nodup ∧ ∀ k ∈ ks, isN k = true
theorem putA_good {l : AL} {k : Str} {c : Ch} (h : goodK (l.map (·.1))) (hk : isN k = true) : goodK ((putA l k c).map (·.1)) ∧ (putA l k c).length ≤ l.length + 1 := by
  refine ⟨?_, ?_⟩
  · rw [putA_keys]
    split
    · exact h
    · rename_i hn
      refine ⟨List.nodup_append.mpr ⟨h.1, by simp, fun a ha b hb => ?_⟩, fun z hz => ?_⟩
      · rw [List.mem_singleton.mp hb]
        rintro rfl
        exact hn ha
      · rcases List.mem_append.mp hz with e | e
        · exact h.2 z e
        · rw [List.mem_singleton.mp e]; exact hk
  · unfold putA
    split
    · rw [List.length_map]; omega
    · rw [List.length_append]; exact Nat.le_refl _
theorem addL_good : ∀ {b a : AL}, goodK (a.map (·.1)) → (∀ p ∈ b, isN p.1 = true) → goodK ((addL a b).map (·.1)) ∧ (addL a b).length ≤ a.length + b.length
  | [], a, h, _ => ⟨h, Nat.le_refl _⟩
  | p :: b, a, h, hb => by
    obtain ⟨h1, h2⟩ := putA_good (c := behA a p) h (hb p List.mem_cons_self)
    obtain ⟨h3, h4⟩ := addL_good h1 fun q hq => hb q (List.mem_cons_of_mem _ hq)
    refine ⟨h3, ?_⟩
    show (addL (putA a p.1 (behA a p)) b).length ≤ _
    rw [List.length_cons]
    omega
theorem goodK_of {l : AL} (h : good l) : goodK (l.map (·.1)) := ⟨h.2.1, fun k hk => by
  obtain ⟨p, hp, rfl⟩ := List.mem_map.mp hk
  exact h.2.2 p hp⟩
theorem good_of {l : AL} (h : goodK (l.map (·.1))) (hl : l.length < 50) : good l := ⟨hl, h.1, fun p hp => h.2 _ (List.mem_map.mpr ⟨p, hp, rfl⟩)⟩
theorem keys_chL (l : AL) : keysD (chL l) = strsD (l.map (·.1)) := by
  unfold chL
  rw [keys_strs, chM_keys]
theorem keys_get {l : AL} {k : Nat} {z : Dt} (h : (keysD (chL l))[k]? = some z) : ∃ p, l[k]? = some p ∧ z = .str p.1 := by
  rw [keys_chL] at h
  obtain ⟨y, h1, rfl⟩ := strs_get h
  rw [List.getElem?_map] at h1
  cases e : l[k]? with
  | none => rw [e] at h1; cases h1
  | some p => rw [e] at h1; cases h1; exact ⟨p, rfl, rfl⟩
theorem chL_at {l : AL} {p : Str × Ch} (nd : (l.map (·.1)).Nodup) (h : p ∈ l) : valD (chL l) (Sum.inr p.1) = some (chD p.2) :=
  looks_eq (m := chM l) (p := (p.1, chD p.2)) (by rw [chM_keys]; exact nd) (List.mem_map.mpr ⟨p, h, rfl⟩)
theorem addL_next {a b : AL} {k : Nat} {p : Str × Ch} (h : b[k]? = some p) : addL a (b.take (k + 1)) = putA (addL a (b.take k)) p.1 (behA (addL a (b.take k)) p) := by
  unfold addL
  rw [take_next h, List.foldl_append]
  rfl
theorem nz_rep {p : Str × Ch} {n : Nat} (hn : n ≠ 0) (h : nz p = true) : nz (p.1, repC p.2 n) = true := by
  obtain ⟨y, b, m⟩ := p
  unfold nz at h ⊢
  unfold repC
  cases b
  · have : m ≠ 0 := fun e => by subst e; simp at h
    have h2 : m * n ≠ 0 := Nat.mul_ne_zero this hn
    simp [h2]
  · simp
/-! ### the methods -/
def sp_Actionu_equ (K : DL.Frag) : Fsp where
  I := AL
  arg l := [actD K l, actD K l]
  pre l := (l.map (·.1)).Nodup
  post l d := d = .bl true
theorem ok_Actionu_equ (T : Tx K mg) : MtG P w K mg base 1 (He.ga K "Action") "__eq__" ["self", "other"] (DSp K (sp_Actionu_equ K)) := by
  obtain ⟨fd, F⟩ := T.F_Actionu_equ
  refine ⟨_, fd, T.m_Action___eq__, fn_body F sc_Actionu_equ (fun _ => rfl) (fun cdv A outer s H E hr tk po => ?_), F.bindsN fun _ _ _ _ _ _ us hl => match us, hl with | [_, _], _ => rfl⟩
  refine ⟨_, (pss_one (ps_ret (pe_and (pe_callB (call_isiK (K := K) rfl) (by rfl) T.n_isinstance (by decide +kernel) (pa_cons (pv 1) (pa_cons (pe_glob (v := .ref (He.ga K "Action")) rfl T.g_Action rfl) pa_nil))) (pe_one (pe_cmpR (op_eqV2 (K := K) rfl hr.units) (pe_fldC (pv 0) T.c_Action.cl T.n_Action_made_of) (pe_fldC (pv 1) T.c_Action.cl T.n_Action_made_of) (nomark _)))))), fun (i : AL) hp Z hn hq hx => ?_⟩
  try dsimp only [cxB, cxOf]
  clear tk po hr F
  have hp : (i.map (·.1)).Nodup := hp
  have hq : ∀ ρ, Z.rt (.bl true) ρ := fun ρ => hq _ ρ rfl
  show StD K _ _ [.sh (actD K i), .sh (actD K i)] _
  walk_at "dl"
  refine c_isIns (.inl rfl) T.c_Action T.k_Action_Action ?_
  walk_at "dl"
  refine o_eqDic (.inl rfl) (.inl rfl) (eqDic_self hp) ?_
  walk_at "dl"
  exact hq _
def sp_Actionu_addu (K : DL.Frag) : Fsp where
  I := AL × AL
  arg i := [actD K i.1, actD K i.2]
  pre i := good i.1 ∧ good i.2 ∧ i.1.length + i.2.length < 50
  post i d := d = actD K (addA i.1 i.2)
theorem ok_Actionu_addu (T : Tx K mg) : MtG P w K mg base 5 (He.ga K "Action") "__add__" ["self", "other"] (DSp K (sp_Actionu_addu K)) := by
  have G_Action := ok_Action (P := P) (w := w) (base := base) T
  have G_behind := ok_behind (P := P) (w := w) (base := base) T
  obtain ⟨fd, F⟩ := T.F_Actionu_addu
  refine ⟨_, fd, T.m_Action___add__, fn_body F sc_Actionu_addu (fun _ => rfl) (fun cdv A outer s H E hr tk po => ?_), F.bindsN fun _ _ _ _ _ _ us hl => match us, hl with | [_, _], _ => rfl⟩
  refine ⟨_, (pss_cons (ps_if (pt_not (pt_truK (K := K) rfl (pe_callB (call_isiK (K := K) rfl) (by rfl) T.n_isinstance (by decide +kernel) (pa_cons (pv 1) (pa_cons (pe_glob (v := .ref (He.ga K "Action")) rfl T.g_Action rfl) pa_nil))))) (pss_one ps_dead) pss_nil)
  (pss_cons (ps_set (i := 2) sc_Actionu_addu.nd rfl (Or.inl rfl) (pe_callTy (call_dictU (K := K) rfl rfl) (by rfl) T.n_dict (by decide +kernel) (pa_cons (pe_fldC (pv 0) T.c_Action.cl T.n_Action_made_of) pa_nil)))
  (pss_cons (ps_for po rfl (pi_keys (pe_lkf (pe_fldC (pv 1) T.c_Action.cl T.n_Action_made_of))) (pg_name (i := 3) sc_Actionu_addu.nd rfl (Or.inl rfl) (Or.inl rfl)) (pss_cons (ps_set (i := 4) sc_Actionu_addu.nd rfl (Or.inl rfl) (pe_ix (ix_V (K := K) rfl hr.units) (pe_fldC (pv 1) T.c_Action.cl T.n_Action_made_of) (pv 3) (fun _ _ => rfl)))
  (pss_one (ps_asg (pe_ifExp (pt_cmpR (op_inV (K := K) rfl hr.units) (pv 3) (pv 2) rfl) (pe_fn G_behind (hr.mono (by decide)) tk rfl (pa_cons (pe_ix (ix_V (K := K) rfl hr.units) (pv 2) (pv 3) (fun _ _ => rfl)) (pa_cons (pv 4) pa_nil))) (pv 4)) (pg_sub (pv 2) (pv 3) (set_V hr.units))))))
  (pss_one (ps_ret (pe_mk G_Action (hr.mono (by decide)) tk rfl (pa_cons (pv 2) pa_nil))))))), fun (i : AL × AL) hp Z hn hq hx => ?_⟩
  try dsimp only [cxB, cxOf]
  clear tk po hr F G_Action G_behind
  obtain ⟨a, b⟩ := i
  obtain ⟨h1, h2, h3⟩ : good a ∧ good b ∧ a.length + b.length < 50 := hp
  have hq : ∀ ρ, Z.rt (actD K (addA a b)) ρ := fun ρ => hq _ ρ rfl
  show StD K _ _ [.sh (actD K a), .sh (actD K b), .no, .no, .no] _
  walk_at "dl"
  refine c_isIns (.inl rfl) T.c_Action T.k_Action_Action ?_
  walk_at "dq"
  refine ss_own (n_cb ?_)
  walk_at "dl"
  refine cn_dict (.inl rfl) ⟨rfl, ?_⟩
  dsimp only [List.set]
  refine ss_for ?_
  walk_at "dl"
  refine ⟨fun k ρ => ∃ s t, ρ = [.sh (actD K a), .sh (actD K b), .ow false (dicD (chL (addL a (b.take k)))), slS s, slS t], ⟨none, none, rfl⟩, ?_, ?_⟩
  · rintro k _ z hz ⟨s, t, rfl⟩ Z' LZ
    obtain ⟨p, hk, rfl⟩ := keys_get hz
    have hlen : (addL a (b.take k)).length < 50 := by
      have := (addL_good (b := b.take k) (goodK_of h1) fun p hp => h2.2.2 p (List.mem_of_mem_take hp)).2
      rw [List.length_take] at this
      omega
    have hnx : ∀ ρ, ρ = [Sl.sh (actD K a), .sh (actD K b), .ow false (dicD (chL (addL a (b.take (k + 1))))), .sh (.str p.1), .sh (chD p.2)] → Z'.nx ρ := fun ρ e => LZ.nx _ _ (.refl _) ⟨some (.str p.1), some (chD p.2), e⟩
    rw [addL_next hk] at hnx
    have hlc : ∀ l : AL, (chL l).length = l.length := fun l => by rw [chL_map, List.length_map]
    refine g_name rfl (by cases s <;> rfl) ?_
    dsimp only [List.set]
    walk_at "dl"
    refine o_ixD (.inl rfl) rfl (chL_at h2.2.1 (List.mem_of_getElem? hk)) ⟨rfl, by cases t <;> rfl, ?_⟩
    dsimp only [List.set]
    walk_at "dl"
    have hv := chL_val (addL a (b.take k)) p.1
    unfold behA at hnx
    cases hl : lookA (addL a (b.take k)) p.1 with
    | none =>
      rw [hl] at hv hnx
      rw [hv]
      refine ⟨(fun h => nomatch h), fun _ => ?_⟩
      walk_at "dl"
      refine w_dic rfl rfl (by rw [hlc]; omega) (hnx _ ?_)
      dsimp only [List.set]
      rw [chL_put]
    | some c =>
      rw [hl] at hv hnx
      have hv2 : valD (chL (addL a (b.take k))) (Sum.inr p.1) = some (chD c) := hv
      rw [hv2]
      refine ⟨fun _ => ?_, fun h => nomatch h⟩
      refine e_call ?_
      walk_at "dl"
      refine o_ixD (.inr ⟨_, _, rfl, rfl⟩) rfl hv2 ?_
      walk_at "dl"
      refine ⟨(c, p.2), rfl, rfl, trivial, ?_, fun c e => e.elim⟩
      rintro _ rfl
      walk_at "dl"
      refine w_dic rfl rfl (by rw [hlc]; omega) (hnx _ ?_)
      dsimp only [List.set]
      rw [chL_put]
  · rintro _ ⟨s, t, rfl⟩
    rw [keys_chL, strs_len, List.length_map, List.take_length]
    refine s_freeze 2 rfl ?_
    dsimp only [List.set]
    refine s_ret (e_new (n_act ?_))
    walk_at "dl"
    have := addL_good (b := b) (goodK_of h1) h2.2.2
    exact ⟨good_of this.1 (by omega), rfl, hq _⟩
def sp_Actionu_mulu (K : DL.Frag) : Fsp where
  I := AL × Dt
  arg i := [actD K i.1, i.2]
  pre i := good i.1 ∧ (∀ p ∈ i.1, nz p = true ∧ p.2.2 < 2 ^ 400) ∧ plainD i.2 ∧ ∀ n, i.2 = .int n → n < 2 ^ 400
  post i d := ∃ n : Nat, i.2 = .int n ∧ d = actD K (mulA i.1 n)
  exc i c := isInt i.2 0 none = false ∧ c = ⟨He.ga K "BadTimes", ["times"], [i.2]⟩
theorem ok_Actionu_mulu (T : Tx K mg) : MtG P w K mg base 5 (He.ga K "Action") "__mul__" ["self", "times"] (DSp K (sp_Actionu_mulu K)) := by
  have G_Action := ok_Action (P := P) (w := w) (base := base) T
  have G_is_integer_2 := ok_is_integer_2 (P := P) (w := w) (base := base) T
  have G_repeated := ok_repeated (P := P) (w := w) (base := base) T
  have G_BadTimes := G_BadTimes (P := P) (w := w) (base := base) T
  obtain ⟨fd, F⟩ := T.F_Actionu_mulu
  refine ⟨_, fd, T.m_Action___mul__, fn_body F sc_Actionu_mulu (fun _ => rfl) (fun cdv A outer s H E hr tk po => ?_), F.bindsN fun _ _ _ _ _ _ us hl => match us, hl with | [_, _], _ => rfl⟩
  refine ⟨_, (pss_cons (ps_if (pt_not (pt_truK (K := K) rfl (pe_fnD G_is_integer_2 (hr.mono (by decide)) tk rfl (pa_cons (pv 1) (pa_cons pe_int pa_nil))))) (pss_one (ps_rai G_BadTimes rfl tk (hr.mono (by decide)) rfl (pa_cons (pv 1) pa_nil))) pss_nil)
  (pss_cons (ps_if (pt_cmpR (op_eqV2 (K := K) rfl hr.units) (pv 1) pe_int (nomark _)) (pss_one (ps_ret (pe_mk G_Action (hr.mono (by decide)) tk rfl (pa_cons pe_dnewK pa_nil)))) pss_nil)
  (pss_one (ps_ret (pe_mk G_Action (hr.mono (by decide)) tk rfl (pa_cons (pe_dc (own := [("name", 2)]) rfl sc_Actionu_mulu.nd (pi_keys (pe_lkf (pe_fldC (pv 0) T.c_Action.cl T.n_Action_made_of))) (blkOk_by (N := ["self", "times", "name"]) (sc := defScope s_Actionu_mulu) (by decide +kernel)) (fun _ _ _ _ _ => (pg_name (i := 2) sc_Actionu_mulu.nd rfl (Or.inl rfl) (Or.inr rfl))) (fun _ _ _ _ _ => pts_nil) (fun _ _ _ _ _ => (pv 2)) (fun _ _ _ _ _ => (pe_fn G_repeated (hr.mono (by decide)) takes0 rfl (pa_cons (pe_ix (ix_V (K := K) rfl hr.units) (pe_fldC (pv 0) T.c_Action.cl T.n_Action_made_of) (pv 2) (fun _ _ => rfl)) (pa_cons (pv 1) pa_nil))))) pa_nil)))))), fun (i : AL × Dt) hp Z hn hq hx => ?_⟩
  try dsimp only [cxB, cxOf]
  clear tk po hr F G_Action G_is_integer_2 G_repeated G_BadTimes
  obtain ⟨a, d⟩ := i
  obtain ⟨h1, h2, h3, h4⟩ : good a ∧ (∀ p ∈ a, nz p = true ∧ p.2.2 < 2 ^ 400) ∧ plainD d ∧ ∀ n, d = .int n → n < 2 ^ 400 := hp
  have hq : ∀ (n : Nat) ρ, d = .int n → Z.rt (actD K (mulA a n)) ρ := fun n ρ e => hq _ ρ ⟨n, e, rfl⟩
  have hx : ∀ ρ, isInt d 0 none = false → Z.ex ⟨He.ga K "BadTimes", ["times"], [d]⟩ ρ := fun ρ e => hx _ ρ ⟨e, rfl⟩
  show StD K _ _ [.sh (actD K a), .sh d, .no] _
  walk_at "dl"
  refine e_isInt ?_
  walk_at "dl"
  refine ⟨_, _, rfl, h3.1, h3.2, _, rfl, ?_⟩
  refine ⟨fun h => ?_, fun h => ?_⟩
  · walk_at "dl"
    exact ⟨h3.1, hx _ (by simpa using h)⟩
  · have h : isInt d 0 none = true := by simpa using h
    obtain ⟨n, rfl⟩ : ∃ n : Nat, d = .int n := by
      cases d with
      | int n =>
        have hn : (decide ((0 : Int) ≤ n) && true) = true := h
        have : (0 : Int) ≤ n := by simpa using hn
        exact ⟨n.toNat, by rw [Int.toNat_of_nonneg this]⟩
      | _ => cases h
    have h4 : n < 2 ^ 400 := by
      have := h4 n rfl
      omega
    walk_at "dl"
    refine ⟨fun hb => ?_, fun hb => ?_⟩
    · refine ss_ret (e_new (n_act (a_cons (e_new (n_dic0 (a_nil ?_))))))
      have hn : n = 0 := by have := of_decide_eq_true hb; omega
      refine ⟨[], rfl, ⟨by decide, List.nodup_nil, fun _ h => nomatch h⟩, rfl, ?_⟩
      have := hq n [.sh (actD K a), .sh (.int n), .no] rfl
      unfold mulA at this
      rw [if_pos hn] at this
      exact this
    · have hn : n ≠ 0 := by have := of_decide_eq_false hb; omega
      refine ss_next (s_ret (e_new (n_act (a_cons (e_new (n_dcF ?_))))))
      walk_at "dl"
      refine ⟨rfl, Str × Ch, a, fun p => .str p.1, ?_, by have := h1.1; omega, fun _ => true, fun p => Sum.inr p.1, fun p => chD (repC p.2 n), ?_, ?_⟩
      · rw [keys_chL]
        unfold strsD
        rw [List.map_map]
        rfl
      · rintro ⟨y, c⟩ hy
        dsimp only [wipeE, List.map, List.set]
        refine g_name rfl rfl (t_yes ⟨rfl, fun _ => ?_, fun h => nomatch h⟩)
        dsimp only [List.set]
        walk_at "dl"
        refine ⟨rfl, e_call ?_⟩
        walk_at "dl"
        refine o_ixD (.inl rfl) rfl (chL_at h1.2.1 hy) ?_
        walk_at "dl"
        refine ⟨(c, n), rfl, rfl, ⟨(h2 _ hy).2, h4⟩, ?_, fun c e => e.elim⟩
        rintro _ rfl
        exact ⟨rfl, rfl, rfl, rfl⟩
      · rw [List.filter_eq_self.mpr (fun _ _ => rfl)]
        have hk : ((a.map fun p => (p.1, repC p.2 n)).map (·.1)) = a.map (·.1) := by rw [List.map_map]; rfl
        have hm : (a.map fun y => ((fun p : Str × Ch => (Sum.inr p.1 : Key)) y, (fun p : Str × Ch => chD (repC p.2 n)) y)) = (a.map fun p => (p.1, repC p.2 n)).map fun y => (Sum.inr y.1, chD y.2) := by rw [List.map_map]; rfl
        rw [hm, chL_merge (by rw [hk]; exact h1.2.1)]
        refine a_nil ⟨_, rfl, ⟨by rw [List.length_map]; exact h1.1, by rw [hk]; exact h1.2.1, fun p hp => ?_⟩, rfl, ?_⟩
        · obtain ⟨q, hq, rfl⟩ := List.mem_map.mp hp
          exact h1.2.2 q hq
        · have := hq n [.sh (actD K a), .sh (.int n), .no] rfl
          unfold mulA at this
          rw [if_neg hn] at this
          rw [List.filter_eq_self.mpr]
          · exact this
          · intro p hp
            obtain ⟨q, hq, rfl⟩ := List.mem_map.mp hp
            exact nz_rep hn (h2 q hq).1
def sp_Actionu_stru (K : DL.Frag) : Fsp where
  I := Unit
  arg _ := [actD K []]
  pre _ := True
  post _ d := d = .str "nothing"
theorem ok_Actionu_stru (T : Tx K mg) : MtG P w K mg base 1 (He.ga K "Action") "__str__" ["self"] (DSp K (sp_Actionu_stru K)) := by
  obtain ⟨fd, F⟩ := T.F_Actionu_stru
  refine ⟨_, fd, T.m_Action___str__, fn_body F sc_Actionu_stru (fun _ => rfl) (fun cdv A outer s H E hr tk po => ?_), F.bindsN fun _ _ _ _ _ _ us hl => match us, hl with | [_], _ => rfl⟩
  refine ⟨_, (pss_cons (ps_set (i := 1) sc_Actionu_stru.nd rfl (Or.inl rfl) (pe_callB (call_sortU (K := K) rfl rfl) (by rfl) T.n_sorted (by decide +kernel) (pa_cons (pe_lc (own := [("name", 3)]) rfl sc_Actionu_stru.nd (pi_keys (pe_lkf (pe_fldC (pv 0) T.c_Action.cl T.n_Action_made_of))) (blkOk_by (N := ["self", "names", "words", "name"]) (sc := defScope s_Actionu_stru) (by decide +kernel)) (fun _ _ _ _ _ => (pg_name (i := 3) sc_Actionu_stru.nd rfl (Or.inl rfl) (Or.inr rfl))) (fun _ _ _ _ _ => pts_nil) (fun _ _ _ _ _ => (pe_callTy call_strU (by rfl) T.n_str (by decide +kernel) (pa_cons (pv 3) pa_nil)))) pa_nil)))
  (pss_cons (ps_setLc (i := 2) (own := [("name", 3)]) rfl sc_Actionu_stru.nd rfl rfl (sw_true rfl rfl rfl (by decide +kernel)) (pi_listK (K := K) rfl (pv 1)) (blkOk_by (N := ["self", "names", "words", "name"]) (sc := defScope s_Actionu_stru) (by decide +kernel)) (fun _ _ _ _ _ => (pg_name (i := 3) sc_Actionu_stru.nd rfl (Or.inl rfl) (Or.inr rfl))) (fun _ _ _ _ _ => pts_nil) (fun _ _ _ _ _ => (pe_joined (PJ.cons (pe_fmt (pe_ix (ix_V (K := K) rfl hr.units) (pe_ix (ix_V (K := K) rfl hr.units) (pe_fldC (pv 0) T.c_Action.cl T.n_Action_made_of) (pv 3) (fun _ _ => rfl)) pe_int (fun _ _ => rfl))) (PJ.cons pe_str (PJ.cons (pe_fmt (pv 3)) (PJ.cons pe_str (PJ.cons (pe_fmt (pe_ix (ix_V (K := K) rfl hr.units) (pe_ix (ix_V (K := K) rfl hr.units) (pe_fldC (pv 0) T.c_Action.cl T.n_Action_made_of) (pv 3) (fun _ _ => rfl)) pe_int (fun _ _ => rfl))) PJ.nil))))))))
  (pss_cons (ps_if (pt_cmpR (op_eqV2 (K := K) rfl hr.units) (pv 2) (pe_lst pa_nil) (nomark _)) (pss_one (ps_ret pe_str)) pss_nil)
  (pss_one (ps_ret (pe_bmK (K := K) rfl PySem.F.plainAttrs_str PySem.F.slot_str_join PySem.F.type_str_join (mt_joinU (K := K) rfl) pe_str (pa_cons (pv 2) pa_nil))))))), fun (i : Unit) hp Z hn hq hx => ?_⟩
  try dsimp only [cxB, cxOf]
  clear tk po hr F
  have hq : ∀ ρ, Z.rt (.str "nothing") ρ := fun ρ => hq _ ρ rfl
  show StD K _ _ [.sh (actD K []), .no, .no, .no] _
  walk_at "dl"
  refine e_new (n_lcStr ?_)
  walk_at "dl"
  refine ⟨Nat.le_of_ble_eq_true rfl, by decide, ?_⟩
  walk_at "dl"
  refine c_new (cn_sortS (xs := []) (.inl rfl) (by decide) ?_)
  walk_at "dl"
  refine e_new (n_lcM ?_)
  walk_at "dl"
  refine ⟨rfl, Unit, [], fun _ => .non, by rw [List.Perm.eq_nil (sortS_perm [])]; rfl, by decide, fun _ => .non, (fun _ h => nomatch h), rfl, rfl, ?_⟩
  dsimp only [wipeE, List.map, List.set]
  walk_at "dl"
  exact hq _
def sp_Action_changes (K : DL.Frag) : Fsp where
  I := AL
  arg l := [actD K l]
  pre l := True
  post l d := d = dicD (chL l)
theorem ok_Action_changes (T : Tx K mg) : MtG P w K mg base 1 (He.ga K "Action") "changes" ["self"] (DSp K (sp_Action_changes K)) := by
  obtain ⟨fd, F⟩ := T.F_Action_changes
  refine ⟨_, fd, T.m_Action_changes, fn_body F sc_Action_changes (fun _ => rfl) (fun cdv A outer s H E hr tk po => ?_), F.bindsN fun _ _ _ _ _ _ us hl => match us, hl with | [_], _ => rfl⟩
  refine ⟨_, (pss_one (ps_ret (pe_callTy (call_dictU (K := K) rfl rfl) (by rfl) T.n_dict (by decide +kernel) (pa_cons (pe_fldC (pv 0) T.c_Action.cl T.n_Action_made_of) pa_nil)))), fun (i : AL) hp Z hn hq hx => ?_⟩
  try dsimp only [cxB, cxOf]
  clear tk po hr F
  have hq : ∀ ρ, Z.rt (dicD (chL i)) ρ := fun ρ => hq _ ρ rfl
  show StD K _ _ [.sh (actD K i)] _
  walk_at "dl"
  refine c_new (cn_dict (.inl rfl) ⟨rfl, hq _⟩)

end
end T
set_option Elab.async false
set_option linter.all false
set_option maxRecDepth 100000
set_option autoImplicit false
set_option maxHeartbeats 4000000
namespace T
open PySem L2 PyProof.Rows DL
local macro_rules | `(tactic| walk_at "dlE") => `(tactic| first
  | ((with_reducible refine' e_var ?k1 ?_); (case k1 => rfl))
  | (with_reducible refine e_op ?_)
  | (with_reducible refine e_int ?_)
  | (with_reducible refine e_str ?_)
  | ((with_reducible refine' e_own ?k1 ?_); (case k1 => rfl))
  | (with_reducible refine e_cb ?_)
  | (with_reducible refine e_fld ?_)
  | (with_reducible refine e_bl ?_)
  | (with_reducible refine e_non ?_)
  | (with_reducible refine e_tup ?_)
  | (with_reducible refine e_lst ?_)
  | (with_reducible refine e_andV ?_)
  | (with_reducible refine e_orV ?_)
  | (with_reducible refine e_notV ?_)
  | (with_reducible refine e_chainC ?_)
  | (with_reducible refine e_chainU ?_)
  | (with_reducible refine e_chain ?_)
  | (with_reducible refine e_if ?_)
  | (with_reducible refine e_sl ?_)
  | (with_reducible refine e_bmS ?_)
  | (with_reducible refine e_bmL ?_)
  | (with_reducible refine e_opS ?_)
  | (with_reducible refine e_un ?_)
  | (with_reducible refine e_ty ?_)
  | (with_reducible refine e_ref ?_)
  | (with_reducible refine e_get2 ?_)
  | fail "dl")
local macro_rules | `(tactic| walk_at "dlO") => `(tactic| first
  | (with_reducible refine v_add (o_add ?_))
  | (with_reducible refine v_eq (o_eqI ?_))
  | (with_reducible refine v_eq (o_eqS ?_))
  | (with_reducible refine v_ne (o_neI ?_))
  | (with_reducible refine v_ne (o_neS ?_))
  | (with_reducible refine v_eq (o_eqB ?_))
  | (with_reducible refine v_ne (o_neB ?_))
  | (with_reducible refine o_cmpI ?_)
  | (with_reducible refine o_cmpS ?_)
  | ((with_reducible refine' v_ix (o_ixO ?k1 ?k2 ?_)); (case k1 => rfl); (case k2 => rfl))
  | ((with_reducible refine' v_ix (o_ixT ?k1 ?_)); (case k1 => rfl))
  | ((with_reducible refine' v_ix (o_ixL ?k1 ?_)); (case k1 => rfl))
  | (with_reducible refine o_I0 ?_)
  | (with_reducible refine o_B0 ?_)
  | ((with_reducible refine o_mul ?k1 ?_); (case k1 => omega))
  | ((with_reducible refine o_mod ?k1 ?_); (case k1 => omega))
  | ((with_reducible refine o_fdiv ?k1 ?k2 ?_); (case k1 => omega); (case k2 => omega))
  | ((with_reducible refine o_pow ?k1 ?_); (case k1 => exact ⟨by decide, by decide, by decide⟩))
  | ((with_reducible refine o_isN ?k1 ?_); (case k1 => rfl))
  | ((with_reducible refine o_isNotN ?k1 ?_); (case k1 => rfl))
  | (with_reducible refine o_isB ?_)
  | (with_reducible refine o_isNotB ?_)
  | ((with_reducible refine' v_eq (o_eqP ?k1 ?k2 ?k3 ?_)); (case k1 => rfl); (case k2 => rfl); (case k3 => exact Nat.le_of_ble_eq_true rfl))
  | ((with_reducible refine' v_ne (o_neP ?k1 ?k2 ?k3 ?_)); (case k1 => rfl); (case k2 => rfl); (case k3 => exact Nat.le_of_ble_eq_true rfl))
  | ((with_reducible refine' v_in (o_inT ?k1 ?k2 ?k3 ?_)); (case k1 => rfl); (case k2 => rfl); (case k3 => exact Nat.le_of_ble_eq_true rfl))
  | ((with_reducible refine' v_in (o_inL ?k1 ?k2 ?k3 ?_)); (case k1 => rfl); (case k2 => rfl); (case k3 => exact Nat.le_of_ble_eq_true rfl))
  | ((with_reducible refine' o_inD ?k1 ?k2 ?_); (case k1 => first | exact .inl rfl | exact .inr ⟨_, _, rfl, rfl⟩); (case k2 => rfl))
  | ((with_reducible refine v_add (o_addS ?k1 ?_)); (case k1 => (first | omega | (simp only [len_app, len_one]; omega))))
  | fail "dl")
local macro_rules | `(tactic| walk_at "dlS") => `(tactic| first
  | (with_reducible refine ss_set ?_)
  | (with_reducible refine ss_if ?_)
  | (with_reducible refine ss_drop ?_)
  | (with_reducible refine ss_put ?_)
  | (with_reducible refine ss_next ?_)
  | (with_reducible refine ss_ret ?_)
  | (with_reducible refine ss_assoc ?_)
  | ((with_reducible refine' ss_aug ?k1 ?_); (case k1 => rfl))
  | (with_reducible refine ss_rai1 ?_)
  | (with_reducible refine ss_rai0 ?_)
  | (with_reducible refine ss_fldN ?_)
  | ((with_reducible refine' s_aug ?k1 ?_); (case k1 => rfl))
  | (with_reducible refine s_rai1 ?_)
  | (with_reducible refine s_rai0 ?_)
  | (with_reducible refine s_set ?_)
  | (with_reducible refine s_if ?_)
  | (with_reducible refine s_drop ?_)
  | (with_reducible refine s_ret ?_)
  | (with_reducible refine s_put ?_)
  | (with_reducible refine s_next ?_)
  | (with_reducible refine s_fldN ?_)
  | fail "dl")
local macro_rules | `(tactic| walk_at "dlT") => `(tactic| first
  | (with_reducible refine t_test ?_)
  | (with_reducible refine t_tru ?_)
  | (with_reducible refine t_and ?_)
  | (with_reducible refine t_or ?_)
  | (with_reducible refine t_not ?_)
  | (with_reducible refine t_yes ?_)
  | fail "dl")
local macro_rules | `(tactic| walk_at "dlA") => `(tactic| first
  | (with_reducible refine a_cons ?_)
  | (with_reducible refine a_nil ?_)
  | fail "dl")
local macro_rules | `(tactic| walk_at "dlC") => `(tactic| first
  | (with_reducible refine v_len (c_lenL ?_))
  | (with_reducible refine v_len (c_lenT ?_))
  | ((with_reducible refine' v_len (c_lenO ?k1 ?_)); (case k1 => rfl))
  | (with_reducible refine c_int ?_)
  | (with_reducible refine c_abs ?_)
  | (with_reducible refine c_strS ?_)
  | (with_reducible refine c_tupT ?_)
  | (with_reducible refine c_max2 ?_)
  | (with_reducible refine c_min2 ?_)
  | ((with_reducible refine v_len (c_lenS ?k1 ?_)); (case k1 => omega))
  | ((with_reducible refine' c_isi ?k1 ?k2 ?_); (case k1 => rfl); (case k2 => first | exact kb_NoneType_bool | exact kb_NoneType_int | exact kb_NoneType_str | exact kb_NoneType_list | exact kb_NoneType_tuple | exact kb_NoneType_dict | exact kb_bool_bool | exact kb_bool_int | exact kb_bool_str | exact kb_bool_list | exact kb_bool_tuple | exact kb_bool_dict | exact kb_int_bool | exact kb_int_int | exact kb_int_str | exact kb_int_list | exact kb_int_tuple | exact kb_int_dict | exact kb_str_bool | exact kb_str_int | exact kb_str_str | exact kb_str_list | exact kb_str_tuple | exact kb_str_dict | exact kb_list_bool | exact kb_list_int | exact kb_list_str | exact kb_list_list | exact kb_list_tuple | exact kb_list_dict | exact kb_tuple_bool | exact kb_tuple_int | exact kb_tuple_str | exact kb_tuple_list | exact kb_tuple_tuple | exact kb_tuple_dict | exact kb_dict_bool | exact kb_dict_int | exact kb_dict_str | exact kb_dict_list | exact kb_dict_tuple | exact kb_dict_dict))
  | ((with_reducible refine' c_lenD ?k1 ?_); (case k1 => first | exact .inl rfl | exact .inr ⟨_, _, rfl, rfl⟩))
  | fail "dl")
local macro_rules | `(tactic| walk_at "dlU") => `(tactic| first
  | (with_reducible refine u_neg ?_)
  | fail "dl")
local macro_rules | `(tactic| walk_at "dlM") => `(tactic| first
  | ((with_reducible refine m_stripC ?k1 ?_); (case k1 => omega))
  | fail "dl")
local macro_rules | `(tactic| walk_at "dlL") => `(tactic| first
  | ((with_reducible refine l_str ?k1 ?_); (case k1 => omega))
  | fail "dl")
local macro_rules | `(tactic| walk_at "dlP") => `(tactic| first
  | (with_reducible refine p_none ?_)
  | (with_reducible refine p_some ?_)
  | fail "dl")
local macro_rules | `(tactic| walk_at "dlI") => `(tactic| first
  | (with_reducible refine i_list ?_)
  | (with_reducible refine i_tup ?_)
  | (with_reducible refine i_str ?_)
  | (with_reducible refine i_keys ?_)
  | (with_reducible refine i_items ?_)
  | (with_reducible refine i_vals ?_)
  | (with_reducible refine i_rng1 ?_)
  | (with_reducible refine i_rng2 ?_)
  | fail "dl")
local macro_rules | `(tactic| walk_at "dlg") => `(tactic| first
  | ((with_reducible refine g_name ?k1 ?k2 ?_); (case k1 => rfl); (case k2 => rfl); dsimp only [List.set])
  | ((with_reducible refine g_tup ?k1 ?_); (case k1 => rfl))
  | fail "dl")
local macro_rules | `(tactic| walk_at "dlh") => `(tactic| first
  | (with_reducible refine gs_nil ?_)
  | (with_reducible refine gs_cons ?_)
  | fail "dl")
local macro_rules | `(tactic| walk_at "dlW") => `(tactic| first
  | ((with_reducible refine' w_lstV ?k1 ?k2 ?_); (case k1 => rfl); (case k2 => rfl); dsimp only [List.set])
  | fail "dl")
local macro_rules | `(tactic| walk_at "dl1") => `(tactic| first
  | ((with_reducible show EvD _ _ _ _ _ _); walk_at "dlE")
  | ((with_reducible show OpD _ _ _ _ _ _); walk_at "dlO")
  | ((with_reducible show StD _ _ _ _ _); walk_at "dlS")
  | ((with_reducible show ArD _ _ _ _ _ _); walk_at "dlA")
  | ((with_reducible show TtD _ _ _ _ _ _); walk_at "dlT")
  | ((with_reducible show CaD _ _ _ _ _); walk_at "dlC")
  | ((with_reducible show PtD _ _ _ _ _ _); walk_at "dlP")
  | ((with_reducible show TgD _ _ _ _ _ _); walk_at "dlg")
  | ((with_reducible show ItD _ _ _ _ _ _); walk_at "dlI")
  | ((with_reducible show TgsD _ _ _ _ _ _); walk_at "dlh")
  | ((with_reducible show UnD _ _ _ _ _); walk_at "dlU")
  | ((with_reducible show MtD _ _ _ _ _ _); walk_at "dlM")
  | ((with_reducible show SlD _ _ _ _ _ _ _); walk_at "dlL")
  | ((with_reducible show SeD _ _ _ _ _ _ _); walk_at "dlW")
  | ((with_reducible show ∃ _ _ _, InsAt _ _ _ _ _ ∧ List.lookup _ _ = some _ ∧ _); refine ⟨_, _, _, .inl rfl, rfl, ?_⟩)
  | (show (∃ z, Dt.str _ = .str z) ∧ _; refine ⟨⟨_, rfl⟩, ?_⟩)
  | (show getElem? _ _ = some (Sl.sh _) ∧ _; refine ⟨rfl, ?_⟩)
  | (show Dt.real _ = true ∧ lent _ _ = false ∧ _; refine ⟨rfl, rfl, ?_⟩; dsimp only [List.set])
  | (show Dt.real _ = true ∧ _; refine ⟨rfl, ?_⟩)
  | (show lent _ _ = false ∧ _; refine ⟨rfl, ?_⟩; dsimp only [List.set])
  | (show allReal _ = true ∧ _; refine ⟨rfl, Nat.le_of_ble_eq_true rfl, ?_⟩)
  | (show (true = true → _) ∧ (true = false → _); refine ⟨fun _ => ?_, fun h => nomatch h⟩)
  | (show (false = true → _) ∧ (false = false → _); refine ⟨(fun h => nomatch h), fun _ => ?_⟩)
  | (refine ⟨_, rfl, _, (fun P p => e_int p), ?_⟩)
  | (refine ⟨_, rfl, _, (fun P p => e_var rfl p), ?_⟩)
  | (refine ⟨_, rfl, ?_⟩)
  | fail "dl")
local macro_rules | `(tactic| walk_at "dl") => `(tactic| repeat' walk_at "dl1")
local macro_rules | `(tactic| walk_at "dq") => `(tactic| repeat' ((fail_if_success (with_reducible show StD _ _ (tSeq (tAsg _ _) _) _ _)); (fail_if_success (with_reducible show StD _ _ (tAsg _ _) _ _)); walk_at "dl1"))
local macro_rules | `(tactic| walk_at "dls") => `(tactic| repeat' (first | walk_at "dl1" | (refine ⟨fun hb => ?_, fun hb => ?_⟩) | fail "dls"))
local macro_rules | `(tactic| walk_at "fg") => `(tactic| repeat (first | exact Fg.nil | (with_reducible refine Fg.keep ?_) | (refine Fg.drop ?_) | (refine Fg.drop ?_ (slS_ln _))))

section
variable {P : Program} {w : World} {K : DL.Frag} {mg : Str → Option Value} {base : Heap}
/-! ### what is shuffled -/
def sp_law_shuffled : Osp where
  I := (Int × Int) × List Dt
  own i := tapeD i.1
  arg i := [.lst i.2]
  pre i := tapeOk i.1 ∧ i.2.length ≤ 1000 ∧ ∀ x ∈ i.2, x.real = true
  post i d o := ∃ ys t, d = .lst ys ∧ ys.Perm i.2 ∧ o = tapeD t ∧ tapeOk t
theorem perm_erase {α : Type} : ∀ {l : List α} {k : Nat} {d : α}, l[k]? = some d → (d :: l.eraseIdx k).Perm l
  | a :: l, 0, d, h => by
    simp at h
    subst h
    exact .refl _
  | a :: l, k + 1, d, h => by
    have := perm_erase (l := l) (k := k) (by simpa using h)
    rw [List.eraseIdx_cons_succ]
    exact (List.Perm.swap a d _).trans (this.cons a)
theorem ok_law_shuffled (T : Tx K mg) : FnG P w K mg base 2 "_law_shuffled" ["_law_tape_here", "_law_items"] (OSp K sp_law_shuffled) := by
  have G_law_pick := ok_law_pick (P := P) (w := w) (base := base) T
  obtain ⟨fd, F⟩ := T.F_law_shuffled
  refine ⟨_, fd, T.g_law_shuffled, F.kp, fn_bodyO F sc_law_shuffled (fun _ => rfl) (fun cdv A outer s H E hr tk po => ?_), F.bindsN fun _ _ _ _ _ _ us hl => match us, hl with | [_, _], _ => rfl⟩
  refine ⟨_, (pss_cons (ps_set (i := 2) sc_law_shuffled.nd rfl (Or.inl rfl) (pe_callTy (call_listU (K := K) rfl rfl) (by rfl) T.n_list (by decide +kernel) (pa_cons (pv 1) pa_nil)))
  (pss_cons (ps_set (i := 3) sc_law_shuffled.nd rfl (Or.inl rfl) (pe_lst pa_nil))
  (pss_cons (ps_for po rfl (pi_range1 rfl T.n_range (pa_cons (pe_callB (call_lenV (K := K) rfl) (by rfl) T.n_len (by decide +kernel) (pa_cons (pv 1) pa_nil)) pa_nil)) (pg_name (i := 4) sc_law_shuffled.nd rfl (Or.inl rfl) (Or.inl rfl)) (pss_one (ps_expr (pe_bmK (K := K) rfl PySem.F.plainAttrs_list PySem.F.slot_list_append PySem.F.type_list_append mt_append (pv 3) (pa_cons (pe_bmK (K := K) rfl PySem.F.plainAttrs_list PySem.F.slot_list_pop PySem.F.type_list_pop mt_popAt (pv 2) (pa_cons (pe_fn G_law_pick (hr.mono (by decide)) tk rfl (pa_cons (pv 0) (pa_cons (pe_callB (call_lenV (K := K) rfl) (by rfl) T.n_len (by decide +kernel) (pa_cons (pv 2) pa_nil)) pa_nil))) pa_nil)) pa_nil)))))
  (pss_one (ps_ret (pv 3)))))), fun (i : (Int × Int) × List Dt) hp Z hn hq hx => ?_⟩
  try dsimp only [cxB, cxOf]
  clear tk po hr F G_law_pick
  obtain ⟨t, xs⟩ := i
  obtain ⟨h1, h2, h3⟩ : tapeOk t ∧ xs.length ≤ 1000 ∧ ∀ x ∈ xs, x.real = true := hp
  have hq : ∀ ys t' ρ, ys.Perm xs → tapeOk t' → ρ[0]? = some (.ow true (tapeD t')) → Z.rt (.lst ys) ρ := fun ys t' ρ a b c => hq _ _ ρ c ⟨ys, t', rfl, a, rfl, b⟩
  show StD K _ _ [.ow true (tapeD t), .sh (.lst xs), .no, .no, .no] _
  clear hn hx
  refine ss_own (n_cb ?_)
  walk_at "dl"
  refine cn_list (.inl rfl) ⟨rfl, ?_⟩
  dsimp only [List.set]
  refine ss_own (n_lst (a_nil ⟨rfl, Nat.zero_le _, rfl, ?_⟩))
  dsimp only [List.set]
  refine ss_for ?_
  walk_at "dl"
  refine ⟨by omega, by omega, fun k ρ => ∃ t' left found s, (found ++ left).Perm xs ∧ found.length = k ∧ tapeOk t' ∧ ρ = [.ow true (tapeD t'), .sh (.lst xs), .ow false (.lst left), .ow false (.lst found), slS s], ⟨t, xs, [], none, .refl _, rfl, h1, rfl⟩, ?_, ?_⟩
  · rintro k _ z hz ⟨t', left, found, s, hp, hf, ht, rfl⟩ Z' LZ
    have hk : k < xs.length := by
      have := (List.getElem?_eq_some_iff.mp hz).1
      rw [rngD_len] at this
      omega
    have hll : found.length + left.length = xs.length := by
      have := hp.length_eq
      rw [List.length_append] at this
      exact this
    refine g_name rfl (by cases s <;> rfl) ?_
    dsimp only [List.set]
    refine s_drop (e_bmL (e_own rfl ⟨3, false, found, rfl, rfl, a_cons (e_bmL (e_own rfl ⟨2, false, left, rfl, rfl, a_cons (e_pick ?_ ⟨_, _, rfl⟩)⟩))⟩))
    walk_at "dl"
    refine ⟨_, true, t', rfl, rfl, ht, by omega, by omega, fun r t2 ht2 hr0 hr1 => ?_⟩
    dsimp only [List.set]
    have hlt : r.toNat < left.length := by omega
    refine a_nil (mo_popAt rfl hr0 (by omega) rfl (List.getElem?_eq_getElem hlt) ?_)
    dsimp only [List.set]
    have hre : left[r.toNat].real = true := h3 _ (hp.mem_iff.mp (List.mem_append.mpr (.inr (List.getElem_mem hlt))))
    refine a_nil (mo_append rfl hre (by omega) ?_)
    dsimp only [List.set]
    refine LZ.nx _ _ (.refl _) ⟨t2, left.eraseIdx r.toNat, found ++ [left[r.toNat]], some _, ?_, by rw [List.length_append]; simp [hf], ht2, rfl⟩
    rw [List.append_assoc]
    exact ((perm_erase (List.getElem?_eq_getElem hlt)).append_left found).trans hp
  · rintro _ ⟨t', left, found, s, hp, hf, ht, rfl⟩
    have hl0 : left = [] := by
      have := hp.length_eq
      rw [List.length_append, hf, rngD_len] at this
      exact List.eq_nil_of_length_eq_zero (by omega)
    subst hl0
    rw [List.append_nil] at hp
    refine s_freeze 3 rfl ?_
    dsimp only [List.set]
    walk_at "dl"
    exact hq _ t' _ hp ht rfl
/-- a shuffled list -/
theorem e_shuf {W : WX} {ρ : En} {x : PX} {j : Nat} {te : TE} {Q : Dt → En → Prop}
    (h : EvD K W te ρ x fun d ρ1 => ∃ xs l t, d = .lst xs ∧ ρ1[j]? = some (.ow l (tapeD t)) ∧ tapeOk t ∧ xs.length ≤ 1000 ∧ (∀ x ∈ xs, x.real = true) ∧ ∀ ys t', tapeOk t' → ys.Perm xs → Q (.lst ys) (ρ1.set j (.ow l (tapeD t'))))
    (hj : ∃ l d, ρ[j]? = some (.ow l d)) : EvD K W (tCallS (OSp K sp_law_shuffled) (WE W) (tCons (tVar j) (tCons te tNil))) ρ x Q := by
  obtain ⟨l0, d0, hj⟩ := hj
  refine e_callO (a_cons (e_own hj (a_cons (e_imp h fun d ρ1 hd => a_nil ?_))))
  obtain ⟨m, l, t, rfl, h1, h2, h3, h4, h5⟩ := hd
  exact ⟨j, l, _, _, (t, m), rfl, h1, rfl, rfl, rfl, ⟨h2, h3, h4⟩, fun r o ⟨r', t', e1, e2, e3, e4⟩ => by subst e1 e3; exact h5 r' t' e4 e2, fun _ _ z => z.elim⟩


end
end T
set_option Elab.async false
set_option linter.all false
set_option maxRecDepth 100000
set_option autoImplicit false
set_option maxHeartbeats 4000000
namespace T
open PySem L2 PyProof.Rows DL
local macro_rules | `(tactic| walk_at "dlE") => `(tactic| first
  | ((with_reducible refine' e_var ?k1 ?_); (case k1 => rfl))
  | (with_reducible refine e_op ?_)
  | (with_reducible refine e_int ?_)
  | (with_reducible refine e_str ?_)
  | ((with_reducible refine' e_own ?k1 ?_); (case k1 => rfl))
  | (with_reducible refine e_cb ?_)
  | (with_reducible refine e_fld ?_)
  | (with_reducible refine e_bl ?_)
  | (with_reducible refine e_non ?_)
  | (with_reducible refine e_tup ?_)
  | (with_reducible refine e_lst ?_)
  | (with_reducible refine e_andV ?_)
  | (with_reducible refine e_orV ?_)
  | (with_reducible refine e_notV ?_)
  | (with_reducible refine e_chainC ?_)
  | (with_reducible refine e_chainU ?_)
  | (with_reducible refine e_chain ?_)
  | (with_reducible refine e_if ?_)
  | (with_reducible refine e_sl ?_)
  | (with_reducible refine e_bmS ?_)
  | (with_reducible refine e_bmL ?_)
  | (with_reducible refine e_opS ?_)
  | (with_reducible refine e_un ?_)
  | (with_reducible refine e_ty ?_)
  | (with_reducible refine e_ref ?_)
  | (with_reducible refine e_get2 ?_)
  | fail "dl")
local macro_rules | `(tactic| walk_at "dlO") => `(tactic| first
  | (with_reducible refine v_add (o_add ?_))
  | (with_reducible refine v_eq (o_eqI ?_))
  | (with_reducible refine v_eq (o_eqS ?_))
  | (with_reducible refine v_ne (o_neI ?_))
  | (with_reducible refine v_ne (o_neS ?_))
  | (with_reducible refine v_eq (o_eqB ?_))
  | (with_reducible refine v_ne (o_neB ?_))
  | (with_reducible refine o_cmpI ?_)
  | (with_reducible refine o_cmpS ?_)
  | ((with_reducible refine' v_ix (o_ixO ?k1 ?k2 ?_)); (case k1 => rfl); (case k2 => rfl))
  | ((with_reducible refine' v_ix (o_ixT ?k1 ?_)); (case k1 => rfl))
  | ((with_reducible refine' v_ix (o_ixL ?k1 ?_)); (case k1 => rfl))
  | (with_reducible refine o_I0 ?_)
  | (with_reducible refine o_B0 ?_)
  | ((with_reducible refine o_mul ?k1 ?_); (case k1 => omega))
  | ((with_reducible refine o_mod ?k1 ?_); (case k1 => omega))
  | ((with_reducible refine o_fdiv ?k1 ?k2 ?_); (case k1 => omega); (case k2 => omega))
  | ((with_reducible refine o_pow ?k1 ?_); (case k1 => exact ⟨by decide, by decide, by decide⟩))
  | ((with_reducible refine o_isN ?k1 ?_); (case k1 => rfl))
  | ((with_reducible refine o_isNotN ?k1 ?_); (case k1 => rfl))
  | (with_reducible refine o_isB ?_)
  | (with_reducible refine o_isNotB ?_)
  | ((with_reducible refine' v_eq (o_eqP ?k1 ?k2 ?k3 ?_)); (case k1 => rfl); (case k2 => rfl); (case k3 => exact Nat.le_of_ble_eq_true rfl))
  | ((with_reducible refine' v_ne (o_neP ?k1 ?k2 ?k3 ?_)); (case k1 => rfl); (case k2 => rfl); (case k3 => exact Nat.le_of_ble_eq_true rfl))
  | ((with_reducible refine' v_in (o_inT ?k1 ?k2 ?k3 ?_)); (case k1 => rfl); (case k2 => rfl); (case k3 => exact Nat.le_of_ble_eq_true rfl))
  | ((with_reducible refine' v_in (o_inL ?k1 ?k2 ?k3 ?_)); (case k1 => rfl); (case k2 => rfl); (case k3 => exact Nat.le_of_ble_eq_true rfl))
  | ((with_reducible refine' o_inD ?k1 ?k2 ?_); (case k1 => first | exact .inl rfl | exact .inr ⟨_, _, rfl, rfl⟩); (case k2 => rfl))
  | ((with_reducible refine v_add (o_addS ?k1 ?_)); (case k1 => (first | omega | (simp only [len_app, len_one]; omega))))
  | fail "dl")
local macro_rules | `(tactic| walk_at "dlS") => `(tactic| first
  | (with_reducible refine ss_set ?_)
  | (with_reducible refine ss_if ?_)
  | (with_reducible refine ss_drop ?_)
  | (with_reducible refine ss_put ?_)
  | (with_reducible refine ss_next ?_)
  | (with_reducible refine ss_ret ?_)
  | (with_reducible refine ss_assoc ?_)
  | ((with_reducible refine' ss_aug ?k1 ?_); (case k1 => rfl))
  | (with_reducible refine ss_rai1 ?_)
  | (with_reducible refine ss_rai0 ?_)
  | (with_reducible refine ss_fldN ?_)
  | ((with_reducible refine' s_aug ?k1 ?_); (case k1 => rfl))
  | (with_reducible refine s_rai1 ?_)
  | (with_reducible refine s_rai0 ?_)
  | (with_reducible refine s_set ?_)
  | (with_reducible refine s_if ?_)
  | (with_reducible refine s_drop ?_)
  | (with_reducible refine s_ret ?_)
  | (with_reducible refine s_put ?_)
  | (with_reducible refine s_next ?_)
  | (with_reducible refine s_fldN ?_)
  | fail "dl")
local macro_rules | `(tactic| walk_at "dlT") => `(tactic| first
  | (with_reducible refine t_test ?_)
  | (with_reducible refine t_tru ?_)
  | (with_reducible refine t_and ?_)
  | (with_reducible refine t_or ?_)
  | (with_reducible refine t_not ?_)
  | (with_reducible refine t_yes ?_)
  | fail "dl")
local macro_rules | `(tactic| walk_at "dlA") => `(tactic| first
  | (with_reducible refine a_cons ?_)
  | (with_reducible refine a_nil ?_)
  | fail "dl")
local macro_rules | `(tactic| walk_at "dlC") => `(tactic| first
  | (with_reducible refine v_len (c_lenL ?_))
  | (with_reducible refine v_len (c_lenT ?_))
  | ((with_reducible refine' v_len (c_lenO ?k1 ?_)); (case k1 => rfl))
  | (with_reducible refine c_int ?_)
  | (with_reducible refine c_abs ?_)
  | (with_reducible refine c_strS ?_)
  | (with_reducible refine c_tupT ?_)
  | (with_reducible refine c_max2 ?_)
  | (with_reducible refine c_min2 ?_)
  | ((with_reducible refine v_len (c_lenS ?k1 ?_)); (case k1 => omega))
  | ((with_reducible refine' c_isi ?k1 ?k2 ?_); (case k1 => rfl); (case k2 => first | exact kb_NoneType_bool | exact kb_NoneType_int | exact kb_NoneType_str | exact kb_NoneType_list | exact kb_NoneType_tuple | exact kb_NoneType_dict | exact kb_bool_bool | exact kb_bool_int | exact kb_bool_str | exact kb_bool_list | exact kb_bool_tuple | exact kb_bool_dict | exact kb_int_bool | exact kb_int_int | exact kb_int_str | exact kb_int_list | exact kb_int_tuple | exact kb_int_dict | exact kb_str_bool | exact kb_str_int | exact kb_str_str | exact kb_str_list | exact kb_str_tuple | exact kb_str_dict | exact kb_list_bool | exact kb_list_int | exact kb_list_str | exact kb_list_list | exact kb_list_tuple | exact kb_list_dict | exact kb_tuple_bool | exact kb_tuple_int | exact kb_tuple_str | exact kb_tuple_list | exact kb_tuple_tuple | exact kb_tuple_dict | exact kb_dict_bool | exact kb_dict_int | exact kb_dict_str | exact kb_dict_list | exact kb_dict_tuple | exact kb_dict_dict))
  | ((with_reducible refine' c_lenD ?k1 ?_); (case k1 => first | exact .inl rfl | exact .inr ⟨_, _, rfl, rfl⟩))
  | fail "dl")
local macro_rules | `(tactic| walk_at "dlU") => `(tactic| first
  | (with_reducible refine u_neg ?_)
  | fail "dl")
local macro_rules | `(tactic| walk_at "dlM") => `(tactic| first
  | ((with_reducible refine m_stripC ?k1 ?_); (case k1 => omega))
  | fail "dl")
local macro_rules | `(tactic| walk_at "dlL") => `(tactic| first
  | ((with_reducible refine l_str ?k1 ?_); (case k1 => omega))
  | fail "dl")
local macro_rules | `(tactic| walk_at "dlP") => `(tactic| first
  | (with_reducible refine p_none ?_)
  | (with_reducible refine p_some ?_)
  | fail "dl")
local macro_rules | `(tactic| walk_at "dlI") => `(tactic| first
  | (with_reducible refine i_list ?_)
  | (with_reducible refine i_tup ?_)
  | (with_reducible refine i_str ?_)
  | (with_reducible refine i_keys ?_)
  | (with_reducible refine i_items ?_)
  | (with_reducible refine i_vals ?_)
  | (with_reducible refine i_rng1 ?_)
  | (with_reducible refine i_rng2 ?_)
  | fail "dl")
local macro_rules | `(tactic| walk_at "dlg") => `(tactic| first
  | ((with_reducible refine g_name ?k1 ?k2 ?_); (case k1 => rfl); (case k2 => rfl); dsimp only [List.set])
  | ((with_reducible refine g_tup ?k1 ?_); (case k1 => rfl))
  | fail "dl")
local macro_rules | `(tactic| walk_at "dlh") => `(tactic| first
  | (with_reducible refine gs_nil ?_)
  | (with_reducible refine gs_cons ?_)
  | fail "dl")
local macro_rules | `(tactic| walk_at "dlW") => `(tactic| first
  | ((with_reducible refine' w_lstV ?k1 ?k2 ?_); (case k1 => rfl); (case k2 => rfl); dsimp only [List.set])
  | fail "dl")
local macro_rules | `(tactic| walk_at "dl1") => `(tactic| first
  | ((with_reducible show EvD _ _ _ _ _ _); walk_at "dlE")
  | ((with_reducible show OpD _ _ _ _ _ _); walk_at "dlO")
  | ((with_reducible show StD _ _ _ _ _); walk_at "dlS")
  | ((with_reducible show ArD _ _ _ _ _ _); walk_at "dlA")
  | ((with_reducible show TtD _ _ _ _ _ _); walk_at "dlT")
  | ((with_reducible show CaD _ _ _ _ _); walk_at "dlC")
  | ((with_reducible show PtD _ _ _ _ _ _); walk_at "dlP")
  | ((with_reducible show TgD _ _ _ _ _ _); walk_at "dlg")
  | ((with_reducible show ItD _ _ _ _ _ _); walk_at "dlI")
  | ((with_reducible show TgsD _ _ _ _ _ _); walk_at "dlh")
  | ((with_reducible show UnD _ _ _ _ _); walk_at "dlU")
  | ((with_reducible show MtD _ _ _ _ _ _); walk_at "dlM")
  | ((with_reducible show SlD _ _ _ _ _ _ _); walk_at "dlL")
  | ((with_reducible show SeD _ _ _ _ _ _ _); walk_at "dlW")
  | ((with_reducible show ∃ _ _ _, InsAt _ _ _ _ _ ∧ List.lookup _ _ = some _ ∧ _); refine ⟨_, _, _, .inl rfl, rfl, ?_⟩)
  | (show (∃ z, Dt.str _ = .str z) ∧ _; refine ⟨⟨_, rfl⟩, ?_⟩)
  | (show getElem? _ _ = some (Sl.sh _) ∧ _; refine ⟨rfl, ?_⟩)
  | (show Dt.real _ = true ∧ lent _ _ = false ∧ _; refine ⟨rfl, rfl, ?_⟩; dsimp only [List.set])
  | (show Dt.real _ = true ∧ _; refine ⟨rfl, ?_⟩)
  | (show lent _ _ = false ∧ _; refine ⟨rfl, ?_⟩; dsimp only [List.set])
  | (show allReal _ = true ∧ _; refine ⟨rfl, Nat.le_of_ble_eq_true rfl, ?_⟩)
  | (show (true = true → _) ∧ (true = false → _); refine ⟨fun _ => ?_, fun h => nomatch h⟩)
  | (show (false = true → _) ∧ (false = false → _); refine ⟨(fun h => nomatch h), fun _ => ?_⟩)
  | (refine ⟨_, rfl, _, (fun P p => e_int p), ?_⟩)
  | (refine ⟨_, rfl, _, (fun P p => e_var rfl p), ?_⟩)
  | (refine ⟨_, rfl, ?_⟩)
  | fail "dl")
local macro_rules | `(tactic| walk_at "dl") => `(tactic| repeat' walk_at "dl1")
local macro_rules | `(tactic| walk_at "dq") => `(tactic| repeat' ((fail_if_success (with_reducible show StD _ _ (tSeq (tAsg _ _) _) _ _)); (fail_if_success (with_reducible show StD _ _ (tAsg _ _) _ _)); walk_at "dl1"))
local macro_rules | `(tactic| walk_at "dls") => `(tactic| repeat' (first | walk_at "dl1" | (refine ⟨fun hb => ?_, fun hb => ?_⟩) | fail "dls"))
local macro_rules | `(tactic| walk_at "fg") => `(tactic| repeat (first | exact Fg.nil | (with_reducible refine Fg.keep ?_) | (refine Fg.drop ?_) | (refine Fg.drop ?_ (slS_ln _))))

section
variable {P : Program} {w : World} {K : DL.Frag} {mg : Str → Option Value} {base : Heap}
/-! ### of: numbers one of which is wrong -/
def okV (m : List (Str × Dt)) (n : Str) : Bool := match looks m n with
  | some d => isInt d 0 none
  | none => false
def badV (m : List (Str × Dt)) : Option Str := (sortS (m.map (·.1))).find? fun n => !okV m n
def sp_Action_of (K : DL.Frag) : Fsp where
  I := AL × List (Str × Dt)
  arg i := [actD K i.1, dicD (kvL i.2)]
  pre i := i.2.length < 60 ∧ (i.2.map (·.1)).Nodup ∧ (∀ p ∈ i.2, plainD p.2) ∧ badV i.2 ≠ none
  post _ _ := False
  exc i c := ∃ n d, badV i.2 = some n ∧ looks i.2 n = some d ∧ c = ⟨He.ga K "BadNumber", ["number"], [d]⟩
theorem ok_Action_of (T : Tx K mg) : MtG P w K mg base 3 (He.ga K "Action") "of" ["self", "values"] (DSp K (sp_Action_of K)) := by
  have G_is_integer_2 := ok_is_integer_2 (P := P) (w := w) (base := base) T
  have G_BadNumber := G_BadNumber (P := P) (w := w) (base := base) T
  obtain ⟨fd, F⟩ := T.F_Action_of
  refine ⟨_, fd, T.m_Action_of, fn_body F sc_Action_of (fun _ => rfl) (fun cdv A outer s H E hr tk po => ?_), F.bindsN fun _ _ _ _ _ _ us hl => match us, hl with | [_, _], _ => rfl⟩
  refine ⟨_, (pss_cons (ps_for po rfl (pi_listK (K := K) rfl (pe_callB (call_sortU (K := K) rfl rfl) (by rfl) T.n_sorted (by decide +kernel) (pa_cons (pe_lc (own := [("name", 2)]) rfl sc_Action_of.nd (pi_keys (pe_lkf (pv 1))) (blkOk_by (N := ["self", "values", "name", "found", "number", "kind", "amount"]) (sc := defScope s_Action_of) (by decide +kernel)) (fun _ _ _ _ _ => (pg_name (i := 2) sc_Action_of.nd rfl (Or.inl rfl) (Or.inr rfl))) (fun _ _ _ _ _ => pts_nil) (fun _ _ _ _ _ => (pe_callTy call_strU (by rfl) T.n_str (by decide +kernel) (pa_cons (pv 2) pa_nil)))) pa_nil))) (pg_name (i := 2) sc_Action_of.nd rfl (Or.inl rfl) (Or.inl rfl)) (pss_one (ps_if (pt_not (pt_truK (K := K) rfl (pe_fnD G_is_integer_2 (hr.mono (by decide)) tk rfl (pa_cons (pe_ix (ix_V (K := K) rfl hr.units) (pv 1) (pv 2) (fun _ _ => rfl)) (pa_cons pe_int pa_nil))))) (pss_one (ps_rai G_BadNumber rfl tk (hr.mono (by decide)) rfl (pa_cons (pe_ix (ix_V (K := K) rfl hr.units) (pv 1) (pv 2) (fun _ _ => rfl)) pa_nil))) pss_nil)))
  (pss_cons (ps_set (i := 3) sc_Action_of.nd rfl (Or.inl rfl) pe_dnewK)
  (pss_cons (ps_for po rfl (pi_items (pe_lkf (pv 1))) (pg_tupK (K := K) 2 rfl rfl (pgs_cons (pg_name (i := 2) sc_Action_of.nd rfl (Or.inl rfl) (Or.inl rfl)) (pgs_cons (pg_name (i := 4) sc_Action_of.nd rfl (Or.inl rfl) (Or.inl rfl)) pgs_nil))) (pss_cons (ps_asg (pe_dget2 (un1 hr.units) (pe_fldC (pv 0) T.c_Action.cl T.n_Action_made_of) (pv 2) (pe_tup (pa_cons (pe_gS rfl T.e_ADD) (pa_cons pe_int pa_nil))) ⟨rfl, rfl, rfl, rfl⟩) (pg_tupK (K := K) 2 rfl rfl (pgs_cons (pg_name (i := 5) sc_Action_of.nd rfl (Or.inl rfl) (Or.inl rfl)) (pgs_cons (pg_name (i := 6) sc_Action_of.nd rfl (Or.inl rfl) (Or.inl rfl)) pgs_nil))))
  (pss_one (ps_asg (pe_ifExp (pt_cmpR (op_eqV2 (K := K) rfl hr.units) (pv 5) (pe_gS rfl T.e_SET) (nomark _)) (pv 6) (pe_op (op_addV (K := K) rfl) (pv 4) (pv 6))) (pg_sub (pv 3) (pv 2) (set_V hr.units))))))
  (pss_one (ps_ret (pv 3)))))), fun (i : AL × List (Str × Dt)) hp Z hn hq hx => ?_⟩
  try dsimp only [cxB, cxOf]
  clear tk po hr F G_is_integer_2 G_BadNumber
  obtain ⟨l, i⟩ := i
  obtain ⟨h1, h2, h3, h4⟩ : i.length < 60 ∧ (List.map (fun q : Str × Dt => q.1) i).Nodup ∧ (∀ p ∈ i, plainD p.2) ∧ badV i ≠ none := hp
  have hx : ∀ n d ρ, badV i = some n → looks i n = some d → Z.ex ⟨He.ga K "BadNumber", ["number"], [d]⟩ ρ := fun n d ρ a b => hx _ ρ ⟨n, d, a, b, rfl⟩
  show StD K _ _ [.sh (actD K l), .sh (dicD (kvL i)), .no, .no, .no, .no, .no] _
  clear hn hq
  refine ss_for (i_list (e_new (n_cb (a_cons (e_new (n_lcStr ?_))))))
  refine e_var rfl ⟨i, rfl, rfl, Nat.le_of_ble_eq_true rfl, by omega, ?_⟩
  refine a_nil (cn_sortS (.inl rfl) (by rw [List.length_map]; omega) ?_)
  dsimp only [List.set]
  refine ⟨_, rfl, fun k ρ => (∀ n ∈ (sortS (i.map (·.1))).take k, okV i n = true) ∧ ∃ s, ρ = [.sh (actD K l), .sh (dicD (kvL i)), slS s, .no, .no, .no, .no], ⟨(fun n h => nomatch h), none, rfl⟩, ?_, ?_⟩
  · rintro k _ z hz ⟨hok, s, rfl⟩ Z' LZ
    obtain ⟨y, hy, rfl⟩ := strs_get hz
    have hm : y ∈ i.map (·.1) := (sortS_perm _).mem_iff.mp (List.mem_of_getElem? hy)
    obtain ⟨d, hd1, hd2⟩ := looks_mem hm
    have hg : okV i y = isInt d 0 none := by unfold okV; rw [hd1]
    have hbad : okV i y = false → badV i = some y := fun e => find_pre hy (fun w hw => by rw [hok w hw]; rfl) (by rw [e]; rfl)
    refine g_name rfl (by cases s <;> rfl) ?_
    dsimp only [List.set]
    walk_at "dl"
    refine e_isInt ?_
    walk_at "dl"
    refine o_ixD (.inl rfl) rfl hd1 ?_
    walk_at "dl"
    refine ⟨_, _, rfl, (h3 _ hd2).1, (h3 _ hd2).2, _, rfl, ?_⟩
    refine ⟨fun h => ?_, fun h => ?_⟩
    · walk_at "dl"
      refine o_ixD (.inl rfl) rfl hd1 ⟨(h3 _ hd2).1, ?_⟩
      exact LZ.ex _ _ (hx y d _ (hbad (by rw [hg]; simpa using h)) hd1)
    · walk_at "dl"
      refine LZ.nx _ _ (.refl _) ⟨fun n hn => ?_, some (.str y), rfl⟩
      rw [take_next hy] at hn
      rcases List.mem_append.mp hn with u | u
      · exact hok n u
      · rw [List.mem_singleton.mp u, hg]; simpa using h
  · rintro _ ⟨hok, s, rfl⟩
    rw [strs_len, List.take_length] at hok
    exact absurd (List.find?_eq_none.mpr fun n hn => by rw [hok n hn]; exact Bool.false_ne_true) h4
/-! ### changes that are drawn -/
def five : List Str := ["a", "chapter", "zz", "fig", "x"]
theorem five_isN : ∀ z ∈ five, isN z = true := by decide +kernel
theorem five_nd : five.Nodup := by decide +kernel
/-- what is drawn -/
def drawn (l : AL) : Prop := l ≠ [] ∧ l.length ≤ 5 ∧ (l.map (·.1)).Nodup ∧ (∀ p ∈ l, p.1 ∈ five) ∧ ∀ p ∈ l, p.2.2 < 10 ^ 30
def sp_law_changes : Osp where
  I := Int × Int
  own t := tapeD t
  arg _ := []
  pre t := tapeOk t
  post _ d o := ∃ l t, d = dicD (chL l) ∧ drawn l ∧ o = tapeD t ∧ tapeOk t
theorem ok_law_changes (T : Tx K mg) : FnG P w K mg base 3 "_law_changes" ["_law_tape_here"] (OSp K sp_law_changes) := by
  have G_law_pick := ok_law_pick (P := P) (w := w) (base := base) T
  have G_law_shuffled := ok_law_shuffled (P := P) (w := w) (base := base) T
  obtain ⟨fd, F⟩ := T.F_law_changes
  refine ⟨_, fd, T.g_law_changes, F.kp, fn_bodyO F sc_law_changes (fun _ => rfl) (fun cdv A outer s H E hr tk po => ?_), F.bindsN fun _ _ _ _ _ _ us hl => match us, hl with | [_], _ => rfl⟩
  refine ⟨_, (pss_cons (ps_set (i := 1) sc_law_changes.nd rfl (Or.inl rfl) pe_dnewK)
  (pss_cons (ps_for po rfl (pi_listK (K := K) rfl (pe_slice (sl_K (K := K) rfl) (pe_fn G_law_shuffled (hr.mono (by decide)) tk rfl (pa_cons (pv 0) (pa_cons (pe_lst (pa_cons pe_str (pa_cons pe_str (pa_cons pe_str (pa_cons pe_str (pa_cons pe_str pa_nil)))))) pa_nil))) po_none (po_some (pe_op (op_addV (K := K) rfl) pe_int (pe_fn G_law_pick (hr.mono (by decide)) tk rfl (pa_cons (pv 0) (pa_cons pe_int pa_nil))))))) (pg_name (i := 2) sc_law_changes.nd rfl (Or.inl rfl) (Or.inl rfl)) (pss_cons (ps_set (i := 3) sc_law_changes.nd rfl (Or.inl rfl) (pe_fn G_law_pick (hr.mono (by decide)) tk rfl (pa_cons (pv 0) (pa_cons (pe_ix (ix_V (K := K) rfl hr.units) (pe_lst (pa_cons pe_int (pa_cons pe_int (pa_cons (pe_op op_pow pe_int pe_int) pa_nil)))) (pe_fn G_law_pick (hr.mono (by decide)) tk rfl (pa_cons (pv 0) (pa_cons pe_int pa_nil))) (fun _ _ => rfl)) pa_nil))))
  (pss_one (ps_asg (pe_tup (pa_cons (pe_ix (ix_V (K := K) rfl hr.units) (pe_lst (pa_cons pe_str (pa_cons pe_str pa_nil))) (pe_fn G_law_pick (hr.mono (by decide)) tk rfl (pa_cons (pv 0) (pa_cons pe_int pa_nil))) (fun _ _ => rfl)) (pa_cons (pv 3) pa_nil))) (pg_sub (pv 1) (pv 2) (set_V hr.units))))))
  (pss_one (ps_ret (pv 1))))), fun (i : Int × Int) hp Z hn hq hx => ?_⟩
  try dsimp only [cxB, cxOf]
  clear tk po hr F G_law_pick G_law_shuffled
  have hp : tapeOk i := hp
  have hq : ∀ l t' ρ, drawn l → tapeOk t' → ρ[0]? = some (.ow true (tapeD t')) → Z.rt (dicD (chL l)) ρ := fun l t' ρ a b c => hq _ _ ρ c ⟨l, t', rfl, a, rfl, b⟩
  show StD K _ _ [.ow true (tapeD i), .no, .no, .no] _
  clear hn hx
  refine ss_own (n_dic0 ⟨rfl, ?_⟩)
  dsimp only [List.set]
  refine ss_for (i_list (e_new (n_sl (e_shuf ?_ ⟨_, _, rfl⟩))))
  walk_at "dl"
  refine ⟨_, true, i, rfl, rfl, hp, by decide, ?_, fun ys t ht hy => ?_⟩
  · intro x hx
    simp only [List.mem_cons, List.mem_nil_iff, or_false] at hx
    rcases hx with rfl | rfl | rfl | rfl | rfl <;> rfl
  dsimp only [List.set]
  obtain ⟨ns, rfl, hns⟩ := strs_perm (xs := five) hy
  walk_at "dl"
  refine e_pick (e_int ⟨5, true, t, rfl, rfl, ht, by decide, by decide, fun r t2 ht2 hr0 hr5 => ?_⟩) ⟨_, _, rfl⟩
  dsimp only [List.set]
  walk_at "dl"
  refine ln_list (.inl rfl) ?_
  have hn5 : ns.length = 5 := hns.length_eq
  rw [cut_take (by omega), strs_take]
  obtain ⟨ms, hms⟩ : ∃ ms, ms = ns.take (1 + r).toNat := ⟨_, rfl⟩
  have hml : ms.length ≤ 5 := by rw [hms, List.length_take]; omega
  have hm0 : ms.length ≠ 0 := by rw [hms, List.length_take]; omega
  have hmnd : ms.Nodup := by rw [hms]; exact (hns.nodup_iff.mpr five_nd).sublist (List.take_sublist _ _)
  have hm5 : ∀ z ∈ ms, z ∈ five := fun z hz => hns.mem_iff.mp (List.mem_of_mem_take (hms ▸ hz))
  rw [← hms]
  clear hms hy hns hn5 hr0 hr5 ht hp
  refine ⟨_, rfl, fun k ρ => ∃ (l : AL) (t' : Int × Int) (s u : Option Dt), l.map (·.1) = ms.take k ∧ (∀ p ∈ l, p.2.2 < 10 ^ 30) ∧ tapeOk t' ∧ ρ = [.ow true (tapeD t'), .ow false (dicD (chL l)), slS s, slS u], ⟨[], t2, none, none, rfl, (fun _ h => nomatch h), ht2, rfl⟩, ?_, ?_⟩
  · rintro k _ z hz ⟨l, t', s, u, hl, hv, ht', rfl⟩ Z' LZ
    obtain ⟨y, hy, rfl⟩ := strs_get hz
    have hll : l.length ≤ 5 := by
      have := congrArg List.length hl
      rw [List.length_map, List.length_take] at this
      omega
    have hyn : y ∉ l.map (·.1) := by
      rw [hl]
      intro h
      obtain ⟨j, hj, e⟩ := List.getElem_of_mem h
      have hk := (List.getElem?_eq_some_iff.mp hy)
      obtain ⟨hk1, hk2⟩ := hk
      have hj2 : j < k := by rw [List.length_take] at hj; omega
      rw [List.getElem_take] at e
      exact absurd ((List.getElem_inj hmnd).mp (e.trans hk2.symm)) (by omega)
    refine g_name rfl (by cases s <;> rfl) ?_
    dsimp only [List.set]
    refine ss_set (e_pick ?_ ⟨_, _, rfl⟩)
    walk_at "dl"
    refine e_pick (e_int ⟨3, true, t', rfl, rfl, ht', by decide, by decide, fun r t3 ht3 hr0 hr3 => ?_⟩) ⟨_, _, rfl⟩
    dsimp only [List.set]
    have hix : ∃ v, atI [Dt.int 2, .int 100, .int (10 ^ Int.toNat 30)] r = some (.int v) ∧ 0 < v ∧ v ≤ 10 ^ 30 := by
      have : r = 0 ∨ r = 1 ∨ r = 2 := by omega
      rcases this with rfl | rfl | rfl
      · exact ⟨2, rfl, by decide, by decide⟩
      · exact ⟨100, rfl, by decide, by decide⟩
      · exact ⟨10 ^ Int.toNat 30, rfl, by decide, by decide⟩
    obtain ⟨v, hv1, hv2, hv3⟩ := hix
    refine v_ix (o_ixL hv1 ⟨v, true, t3, rfl, rfl, ht3, hv2, by omega, fun c t4 ht4 hc0 hc1 => ⟨rfl, by cases u <;> rfl, ?_⟩⟩)
    dsimp only [List.set]
    refine s_put (e_tup (a_cons (e_op (e_lst (a_cons (e_str (a_cons (e_str (a_nil ⟨rfl, by decide, ?_⟩)))))))))
    refine e_pick (e_int ⟨2, true, t4, rfl, rfl, ht4, by decide, by decide, fun r t5 ht5 hr0 hr3 => ?_⟩) ⟨_, _, rfl⟩
    dsimp only [List.set]
    have hix : ∃ b, atI [Dt.str "add", .str "set"] r = some (.str (wdS b)) := by
      have : r = 0 ∨ r = 1 := by omega
      rcases this with rfl | rfl
      · exact ⟨false, rfl⟩
      · exact ⟨true, rfl⟩
    obtain ⟨b, hb⟩ := hix
    refine v_ix (o_ixL hb ?_)
    walk_at "dl"
    obtain ⟨n, rfl⟩ : ∃ n : Nat, c = n := ⟨c.toNat, by omega⟩
    have hn : n < 10 ^ 30 := by omega
    refine w_dic rfl rfl (by rw [chL_map, List.length_map]; omega) ?_
    dsimp only [List.set]
    have e := putD_new (l := chL l) (k := Sum.inr y) (d := chD (b, n)) (by rw [chL, kvL_keys, chM_keys]; intro h; obtain ⟨z, h1, h2⟩ := List.mem_map.mp h; exact hyn (Sum.inr.inj h2 ▸ h1))
    have e2 : chL l ++ [(Sum.inr y, chD (b, n))] = chL (l ++ [(y, (b, n))]) := by rw [chL_app]; rfl
    rw [show Dt.tup [.str (wdS b), .int (n : Nat)] = chD (b, n) from rfl, e, e2]
    refine LZ.nx _ _ (.refl _) ⟨l ++ [(y, (b, n))], t5, some _, some _, ?_, ?_, ht5, rfl⟩
    · rw [List.map_append, hl, take_next hy]
      rfl
    · intro p hp
      rcases List.mem_append.mp hp with h | h
      · exact hv p h
      · rw [List.mem_singleton.mp h]; exact hn
  · rintro _ ⟨l, t', s, u, hl, hv, ht', rfl⟩
    rw [strs_len, List.take_length] at hl
    refine s_freeze 1 rfl ?_
    dsimp only [List.set]
    walk_at "dl"
    have hll : l.length = ms.length := by
      have := congrArg List.length hl
      rw [List.length_map] at this
      exact this
    refine hq l t' _ ⟨?_, by omega, by rw [hl]; exact hmnd, fun p hp => hm5 _ (by rw [← hl]; exact List.mem_map.mpr ⟨p, hp, rfl⟩), hv⟩ ht' rfl
    rintro rfl
    exact hm0 hll.symm

end
end T
set_option Elab.async false
set_option linter.all false
set_option maxRecDepth 100000
set_option autoImplicit false
set_option maxHeartbeats 4000000
namespace T
open PySem L2 PyProof.Rows DL
local macro_rules | `(tactic| walk_at "dlE") => `(tactic| first
  | ((with_reducible refine' e_var ?k1 ?_); (case k1 => rfl))
  | (with_reducible refine e_op ?_)
  | (with_reducible refine e_int ?_)
  | (with_reducible refine e_str ?_)
  | ((with_reducible refine' e_own ?k1 ?_); (case k1 => rfl))
  | (with_reducible refine e_cb ?_)
  | (with_reducible refine e_fld ?_)
  | (with_reducible refine e_bl ?_)
  | (with_reducible refine e_non ?_)
  | (with_reducible refine e_tup ?_)
  | (with_reducible refine e_lst ?_)
  | (with_reducible refine e_andV ?_)
  | (with_reducible refine e_orV ?_)
  | (with_reducible refine e_notV ?_)
  | (with_reducible refine e_chainC ?_)
  | (with_reducible refine e_chainU ?_)
  | (with_reducible refine e_chain ?_)
  | (with_reducible refine e_if ?_)
  | (with_reducible refine e_sl ?_)
  | (with_reducible refine e_bmS ?_)
  | (with_reducible refine e_bmL ?_)
  | (with_reducible refine e_opS ?_)
  | (with_reducible refine e_un ?_)
  | (with_reducible refine e_ty ?_)
  | (with_reducible refine e_ref ?_)
  | (with_reducible refine e_get2 ?_)
  | fail "dl")
local macro_rules | `(tactic| walk_at "dlO") => `(tactic| first
  | (with_reducible refine v_add (o_add ?_))
  | (with_reducible refine v_eq (o_eqI ?_))
  | (with_reducible refine v_eq (o_eqS ?_))
  | (with_reducible refine v_ne (o_neI ?_))
  | (with_reducible refine v_ne (o_neS ?_))
  | (with_reducible refine v_eq (o_eqB ?_))
  | (with_reducible refine v_ne (o_neB ?_))
  | (with_reducible refine o_cmpI ?_)
  | (with_reducible refine o_cmpS ?_)
  | ((with_reducible refine' v_ix (o_ixO ?k1 ?k2 ?_)); (case k1 => rfl); (case k2 => rfl))
  | ((with_reducible refine' v_ix (o_ixT ?k1 ?_)); (case k1 => rfl))
  | ((with_reducible refine' v_ix (o_ixL ?k1 ?_)); (case k1 => rfl))
  | (with_reducible refine o_I0 ?_)
  | (with_reducible refine o_B0 ?_)
  | ((with_reducible refine o_mul ?k1 ?_); (case k1 => omega))
  | ((with_reducible refine o_mod ?k1 ?_); (case k1 => omega))
  | ((with_reducible refine o_fdiv ?k1 ?k2 ?_); (case k1 => omega); (case k2 => omega))
  | ((with_reducible refine o_pow ?k1 ?_); (case k1 => exact ⟨by decide, by decide, by decide⟩))
  | ((with_reducible refine o_isN ?k1 ?_); (case k1 => rfl))
  | ((with_reducible refine o_isNotN ?k1 ?_); (case k1 => rfl))
  | (with_reducible refine o_isB ?_)
  | (with_reducible refine o_isNotB ?_)
  | ((with_reducible refine' v_eq (o_eqP ?k1 ?k2 ?k3 ?_)); (case k1 => rfl); (case k2 => rfl); (case k3 => exact Nat.le_of_ble_eq_true rfl))
  | ((with_reducible refine' v_ne (o_neP ?k1 ?k2 ?k3 ?_)); (case k1 => rfl); (case k2 => rfl); (case k3 => exact Nat.le_of_ble_eq_true rfl))
  | ((with_reducible refine' v_in (o_inT ?k1 ?k2 ?k3 ?_)); (case k1 => rfl); (case k2 => rfl); (case k3 => exact Nat.le_of_ble_eq_true rfl))
  | ((with_reducible refine' v_in (o_inL ?k1 ?k2 ?k3 ?_)); (case k1 => rfl); (case k2 => rfl); (case k3 => exact Nat.le_of_ble_eq_true rfl))
  | ((with_reducible refine' o_inD ?k1 ?k2 ?_); (case k1 => first | exact .inl rfl | exact .inr ⟨_, _, rfl, rfl⟩); (case k2 => rfl))
  | ((with_reducible refine v_add (o_addS ?k1 ?_)); (case k1 => (first | omega | (simp only [len_app, len_one]; omega))))
  | fail "dl")
local macro_rules | `(tactic| walk_at "dlS") => `(tactic| first
  | (with_reducible refine ss_set ?_)
  | (with_reducible refine ss_if ?_)
  | (with_reducible refine ss_drop ?_)
  | (with_reducible refine ss_put ?_)
  | (with_reducible refine ss_next ?_)
  | (with_reducible refine ss_ret ?_)
  | (with_reducible refine ss_assoc ?_)
  | ((with_reducible refine' ss_aug ?k1 ?_); (case k1 => rfl))
  | (with_reducible refine ss_rai1 ?_)
  | (with_reducible refine ss_rai0 ?_)
  | (with_reducible refine ss_fldN ?_)
  | ((with_reducible refine' s_aug ?k1 ?_); (case k1 => rfl))
  | (with_reducible refine s_rai1 ?_)
  | (with_reducible refine s_rai0 ?_)
  | (with_reducible refine s_set ?_)
  | (with_reducible refine s_if ?_)
  | (with_reducible refine s_drop ?_)
  | (with_reducible refine s_ret ?_)
  | (with_reducible refine s_put ?_)
  | (with_reducible refine s_next ?_)
  | (with_reducible refine s_fldN ?_)
  | fail "dl")
local macro_rules | `(tactic| walk_at "dlT") => `(tactic| first
  | (with_reducible refine t_test ?_)
  | (with_reducible refine t_tru ?_)
  | (with_reducible refine t_and ?_)
  | (with_reducible refine t_or ?_)
  | (with_reducible refine t_not ?_)
  | (with_reducible refine t_yes ?_)
  | fail "dl")
local macro_rules | `(tactic| walk_at "dlA") => `(tactic| first
  | (with_reducible refine a_cons ?_)
  | (with_reducible refine a_nil ?_)
  | fail "dl")
local macro_rules | `(tactic| walk_at "dlC") => `(tactic| first
  | (with_reducible refine v_len (c_lenL ?_))
  | (with_reducible refine v_len (c_lenT ?_))
  | ((with_reducible refine' v_len (c_lenO ?k1 ?_)); (case k1 => rfl))
  | (with_reducible refine c_int ?_)
  | (with_reducible refine c_abs ?_)
  | (with_reducible refine c_strS ?_)
  | (with_reducible refine c_tupT ?_)
  | (with_reducible refine c_max2 ?_)
  | (with_reducible refine c_min2 ?_)
  | ((with_reducible refine v_len (c_lenS ?k1 ?_)); (case k1 => omega))
  | ((with_reducible refine' c_isi ?k1 ?k2 ?_); (case k1 => rfl); (case k2 => first | exact kb_NoneType_bool | exact kb_NoneType_int | exact kb_NoneType_str | exact kb_NoneType_list | exact kb_NoneType_tuple | exact kb_NoneType_dict | exact kb_bool_bool | exact kb_bool_int | exact kb_bool_str | exact kb_bool_list | exact kb_bool_tuple | exact kb_bool_dict | exact kb_int_bool | exact kb_int_int | exact kb_int_str | exact kb_int_list | exact kb_int_tuple | exact kb_int_dict | exact kb_str_bool | exact kb_str_int | exact kb_str_str | exact kb_str_list | exact kb_str_tuple | exact kb_str_dict | exact kb_list_bool | exact kb_list_int | exact kb_list_str | exact kb_list_list | exact kb_list_tuple | exact kb_list_dict | exact kb_tuple_bool | exact kb_tuple_int | exact kb_tuple_str | exact kb_tuple_list | exact kb_tuple_tuple | exact kb_tuple_dict | exact kb_dict_bool | exact kb_dict_int | exact kb_dict_str | exact kb_dict_list | exact kb_dict_tuple | exact kb_dict_dict))
  | ((with_reducible refine' c_lenD ?k1 ?_); (case k1 => first | exact .inl rfl | exact .inr ⟨_, _, rfl, rfl⟩))
  | fail "dl")
local macro_rules | `(tactic| walk_at "dlU") => `(tactic| first
  | (with_reducible refine u_neg ?_)
  | fail "dl")
local macro_rules | `(tactic| walk_at "dlM") => `(tactic| first
  | ((with_reducible refine m_stripC ?k1 ?_); (case k1 => omega))
  | fail "dl")
local macro_rules | `(tactic| walk_at "dlL") => `(tactic| first
  | ((with_reducible refine l_str ?k1 ?_); (case k1 => omega))
  | fail "dl")
local macro_rules | `(tactic| walk_at "dlP") => `(tactic| first
  | (with_reducible refine p_none ?_)
  | (with_reducible refine p_some ?_)
  | fail "dl")
local macro_rules | `(tactic| walk_at "dlI") => `(tactic| first
  | (with_reducible refine i_list ?_)
  | (with_reducible refine i_tup ?_)
  | (with_reducible refine i_str ?_)
  | (with_reducible refine i_keys ?_)
  | (with_reducible refine i_items ?_)
  | (with_reducible refine i_vals ?_)
  | (with_reducible refine i_rng1 ?_)
  | (with_reducible refine i_rng2 ?_)
  | fail "dl")
local macro_rules | `(tactic| walk_at "dlg") => `(tactic| first
  | ((with_reducible refine g_name ?k1 ?k2 ?_); (case k1 => rfl); (case k2 => rfl); dsimp only [List.set])
  | ((with_reducible refine g_tup ?k1 ?_); (case k1 => rfl))
  | fail "dl")
local macro_rules | `(tactic| walk_at "dlh") => `(tactic| first
  | (with_reducible refine gs_nil ?_)
  | (with_reducible refine gs_cons ?_)
  | fail "dl")
local macro_rules | `(tactic| walk_at "dlW") => `(tactic| first
  | ((with_reducible refine' w_lstV ?k1 ?k2 ?_); (case k1 => rfl); (case k2 => rfl); dsimp only [List.set])
  | fail "dl")
local macro_rules | `(tactic| walk_at "dl1") => `(tactic| first
  | ((with_reducible show EvD _ _ _ _ _ _); walk_at "dlE")
  | ((with_reducible show OpD _ _ _ _ _ _); walk_at "dlO")
  | ((with_reducible show StD _ _ _ _ _); walk_at "dlS")
  | ((with_reducible show ArD _ _ _ _ _ _); walk_at "dlA")
  | ((with_reducible show TtD _ _ _ _ _ _); walk_at "dlT")
  | ((with_reducible show CaD _ _ _ _ _); walk_at "dlC")
  | ((with_reducible show PtD _ _ _ _ _ _); walk_at "dlP")
  | ((with_reducible show TgD _ _ _ _ _ _); walk_at "dlg")
  | ((with_reducible show ItD _ _ _ _ _ _); walk_at "dlI")
  | ((with_reducible show TgsD _ _ _ _ _ _); walk_at "dlh")
  | ((with_reducible show UnD _ _ _ _ _); walk_at "dlU")
  | ((with_reducible show MtD _ _ _ _ _ _); walk_at "dlM")
  | ((with_reducible show SlD _ _ _ _ _ _ _); walk_at "dlL")
  | ((with_reducible show SeD _ _ _ _ _ _ _); walk_at "dlW")
  | ((with_reducible show ∃ _ _ _, InsAt _ _ _ _ _ ∧ List.lookup _ _ = some _ ∧ _); refine ⟨_, _, _, .inl rfl, rfl, ?_⟩)
  | (show (∃ z, Dt.str _ = .str z) ∧ _; refine ⟨⟨_, rfl⟩, ?_⟩)
  | (show getElem? _ _ = some (Sl.sh _) ∧ _; refine ⟨rfl, ?_⟩)
  | (show Dt.real _ = true ∧ lent _ _ = false ∧ _; refine ⟨rfl, rfl, ?_⟩; dsimp only [List.set])
  | (show Dt.real _ = true ∧ _; refine ⟨rfl, ?_⟩)
  | (show lent _ _ = false ∧ _; refine ⟨rfl, ?_⟩; dsimp only [List.set])
  | (show allReal _ = true ∧ _; refine ⟨rfl, Nat.le_of_ble_eq_true rfl, ?_⟩)
  | (show (true = true → _) ∧ (true = false → _); refine ⟨fun _ => ?_, fun h => nomatch h⟩)
  | (show (false = true → _) ∧ (false = false → _); refine ⟨(fun h => nomatch h), fun _ => ?_⟩)
  | (refine ⟨_, rfl, _, (fun P p => e_int p), ?_⟩)
  | (refine ⟨_, rfl, _, (fun P p => e_var rfl p), ?_⟩)
  | (refine ⟨_, rfl, ?_⟩)
  | fail "dl")
local macro_rules | `(tactic| walk_at "dl") => `(tactic| repeat' walk_at "dl1")
local macro_rules | `(tactic| walk_at "dq") => `(tactic| repeat' ((fail_if_success (with_reducible show StD _ _ (tSeq (tAsg _ _) _) _ _)); (fail_if_success (with_reducible show StD _ _ (tAsg _ _) _ _)); walk_at "dl1"))
local macro_rules | `(tactic| walk_at "dls") => `(tactic| repeat' (first | walk_at "dl1" | (refine ⟨fun hb => ?_, fun hb => ?_⟩) | fail "dls"))
local macro_rules | `(tactic| walk_at "fg") => `(tactic| repeat (first | exact Fg.nil | (with_reducible refine Fg.keep ?_) | (refine Fg.drop ?_) | (refine Fg.drop ?_ (slS_ln _))))

section
variable {P : Program} {w : World} {K : DL.Frag} {mg : Str → Option Value} {base : Heap}
/-! ### the helpers -/
def sp_law_power : Fsp where
  I := AL × Nat
  arg i := [dicD (chL i.1), .int (i.2 : Nat)]
  pre i := good i.1 ∧ (∀ p ∈ i.1, p.2.2 < 2 ^ 400) ∧ i.2 < 2 ^ 400
  post i d := d = dicD (chL (mulA (i.1.filter nz) i.2))
theorem ok_law_power (T : Tx K mg) : FnG P w K mg base 1 "_law_power" ["_law_changes_here", "_law_times_here"] (DSp K sp_law_power) := by
  obtain ⟨fd, F⟩ := T.F_law_power
  refine ⟨_, fd, T.g_law_power, F.kp, fn_body F sc_law_power (fun _ => rfl) (fun cdv A outer s H E hr tk po => ?_), F.bindsN fun _ _ _ _ _ _ us hl => match us, hl with | [_, _], _ => rfl⟩
  refine ⟨_, (pss_cons (ps_set (i := 2) sc_law_power.nd rfl (Or.inl rfl) pe_dnewK)
  (pss_cons (ps_for po rfl (pi_keys (pe_lkf (pv 0))) (pg_name (i := 3) sc_law_power.nd rfl (Or.inl rfl) (Or.inl rfl)) (pss_cons (ps_asg (pe_ix (ix_V (K := K) rfl hr.units) (pv 0) (pv 3) (fun _ _ => rfl)) (pg_tupK (K := K) 2 rfl rfl (pgs_cons (pg_name (i := 4) sc_law_power.nd rfl (Or.inl rfl) (Or.inl rfl)) (pgs_cons (pg_name (i := 5) sc_law_power.nd rfl (Or.inl rfl) (Or.inl rfl)) pgs_nil))))
  (pss_one (ps_if (PW.pt (pw_and (pt_cmpR (op_gtK (K := K) rfl hr.units) (pv 1) pe_int (nomark _)) (pw_and1 (PW.pt (pw_or (pt_cmpR (op_eqV2 (K := K) rfl hr.units) (pv 4) pe_str (nomark _)) (pw_or1 (pt_cmpR (op_gtK (K := K) rfl hr.units) (pv 5) pe_int (nomark _)))))))) (pss_one (ps_asg (pe_tup (pa_cons (pv 4) (pa_cons (pe_ifExp (pt_cmpR (op_eqV2 (K := K) rfl hr.units) (pv 4) pe_str (nomark _)) (pv 5) (pe_op op_mulU (pv 5) (pv 1))) pa_nil))) (pg_sub (pv 2) (pv 3) (set_V hr.units)))) pss_nil))))
  (pss_one (ps_ret (pv 2))))), fun (i : AL × Nat) hp Z hn hq hx => ?_⟩
  try dsimp only [cxB, cxOf]
  clear tk po hr F
  obtain ⟨l, n⟩ := i
  obtain ⟨h1, h2, h3⟩ : good l ∧ (∀ p ∈ l, p.2.2 < 2 ^ 400) ∧ n < 2 ^ 400 := hp
  have hq : ∀ ρ, Z.rt (dicD (chL (mulA (l.filter nz) n))) ρ := fun ρ => hq _ ρ rfl
  show StD K _ _ [.sh (dicD (chL l)), .sh (.int (n : Nat)), .no, .no, .no, .no] _
  clear hn hx
  refine ss_own (n_dic0 ⟨rfl, ?_⟩)
  dsimp only [List.set]
  refine ss_for ?_
  walk_at "dl"
  refine ⟨fun k ρ => ∃ s t u, ρ = [.sh (dicD (chL l)), .sh (.int (n : Nat)), .ow false (dicD (chL (mulA ((l.take k).filter nz) n))), slS s, slS t, slS u], ⟨none, none, none, by
    have : mulA ((l.take 0).filter nz) n = [] := by unfold mulA; split <;> rfl
    rw [this]
    rfl⟩, ?_, ?_⟩
  · rintro k _ z hz ⟨s, t, u, rfl⟩ Z' LZ
    obtain ⟨⟨y, b, m⟩, hk, rfl⟩ := keys_get hz
    have hkl : k < l.length := (List.getElem?_eq_some_iff.mp hk).1
    have hm : (y, b, m) ∈ l := List.mem_of_getElem? hk
    have hmm : m < 2 ^ 400 := h2 _ hm
    have hl50 := h1.1
    have hnext : (l.take (k + 1)).filter nz = (l.take k).filter nz ++ (if nz (y, b, m) then [(y, b, m)] else []) := by
      rw [take_next hk, List.filter_append, List.filter_cons]
      rfl
    have hlen : (chL (mulA ((l.take k).filter nz) n)).length < 100000 := by
      rw [chL_map, List.length_map]
      unfold mulA
      have := List.length_filter_le nz (l.take k)
      rw [List.length_take] at this
      split
      · decide
      · rw [List.length_map]; omega
    have hnx : ∀ ρ, ρ = [Sl.sh (dicD (chL l)), .sh (.int (n : Nat)), .ow false (dicD (chL (mulA ((l.take (k + 1)).filter nz) n))), .sh (.str y), .sh (.str (wdS b)), .sh (.int (m : Nat))] → Z'.nx ρ := fun ρ e => LZ.nx _ _ (.refl _) ⟨some _, some _, some _, e⟩
    rw [hnext] at hnx
    refine g_name rfl (by cases s <;> rfl) ?_
    dsimp only [List.set]
    refine s_seq (s_unp ?_)
    walk_at "dl"
    refine o_ixD (.inl rfl) rfl (chL_at h1.2.1 hm) ⟨rfl, ?_⟩
    refine g_tup rfl (gs_cons (g_name rfl (by cases t <;> rfl) ?_))
    dsimp only [List.set]
    refine gs_cons (g_name rfl (by cases u <;> rfl) (gs_nil ?_))
    dsimp only [List.set]
    walk_at "dl"
    have hnot : n = 0 ∨ nz (y, b, m) = false → mulA ((l.take k).filter nz ++ (if nz (y, b, m) then [(y, b, m)] else [])) n = mulA ((l.take k).filter nz) n := fun h => by
      rcases h with h | h
      · unfold mulA; rw [if_pos h, if_pos h]
      · rw [h, if_neg Bool.false_ne_true, List.append_nil]
    have hput : n ≠ 0 → nz (y, b, m) = true → putD (chL (mulA ((l.take k).filter nz) n)) (Sum.inr y) (chD (repC (b, m) n)) = chL (mulA ((l.take k).filter nz ++ (if nz (y, b, m) then [(y, b, m)] else [])) n) := fun h0 h => by
      rw [h, if_pos rfl]
      unfold mulA
      rw [if_neg h0, if_neg h0, List.map_append, chL_app, putD_new]
      · rfl
      · rw [chL, kvL_keys, chM_keys, List.map_map]
        intro z
        obtain ⟨w, hw, e⟩ := List.mem_map.mp z
        have ew : w.1 = y := Sum.inr.inj e
        obtain ⟨q, hq, e⟩ := List.mem_map.mp hw
        have hq2 := List.mem_filter.mp hq
        have e : q.1 = y := by rw [← ew, ← e]
        obtain ⟨j, hj, eq⟩ := List.getElem_of_mem hq2.1
        have hj2 : j < k := by rw [List.length_take] at hj; omega
        rw [List.getElem_take] at eq
        have hnd := h1.2.1
        have h5 : (l.map (·.1))[j]'(by rw [List.length_map]; omega) = (l.map (·.1))[k]'(by rw [List.length_map]; omega) := by
          rw [List.getElem_map, List.getElem_map, eq, e]
          have := (List.getElem?_eq_some_iff.mp hk).2
          rw [this]
        exact absurd ((List.getElem_inj hnd).mp h5) (by omega)
    have hnz : nz (y, b, m) = (b || decide (0 < m)) := by
      unfold nz
      cases b
      · cases m with
        | zero => rfl
        | succ m => simp
      · simp
    have hno : nz (y, b, m) = false ∨ n = 0 → Z'.nx [.sh (dicD (chL l)), .sh (.int (n : Nat)), .ow false (dicD (chL (mulA ((l.take k).filter nz) n))), .sh (.str y), .sh (.str (wdS b)), .sh (.int (m : Nat))] := fun h => hnx _ (by rw [hnot h.symm])
    refine ⟨fun hb => ?_, fun hb => ⟨(fun h => nomatch h), fun _ => ?_⟩⟩
    · have hn0 : n ≠ 0 := by have := of_decide_eq_true hb; omega
      have hput := hput hn0
      walk_at "dl"
      rw [wd_set]
      refine ⟨fun hb => ⟨fun _ => ?_, fun h => nomatch h⟩, fun hb => ?_⟩
      · walk_at "dl"
        rw [wd_set, hb]
        refine ⟨fun _ => ?_, fun h => nomatch h⟩
        walk_at "dl"
        refine w_dic rfl rfl hlen (hnx _ ?_)
        dsimp only [List.set]
        rw [← hput (by rw [hnz, hb]; rfl)]
        unfold repC
        rw [if_pos hb, hb]
        rfl
      · walk_at "dl"
        refine ⟨fun hm0 => ?_, fun hm0 => ?_⟩
        · walk_at "dl"
          rw [wd_set, hb]
          refine ⟨(fun h => nomatch h), fun _ => ?_⟩
          refine e_op (e_var rfl (e_var rfl ?_))
          refine o_mulW (wide_mul (a := 400) (b := 400) (by omega) (by omega) (by decide) (by decide) (by decide)) ?_
          walk_at "dl"
          refine w_dic rfl rfl hlen (hnx _ ?_)
          dsimp only [List.set]
          rw [← hput (by rw [hnz, hb]; exact decide_eq_true (by have := of_decide_eq_true hm0; omega))]
          unfold repC
          rw [if_neg (by rw [hb]; exact Bool.false_ne_true)]
          unfold chD
          rw [hb, Int.natCast_mul]
        · refine s_next (hno (.inl ?_))
          rw [hnz, hb]
          exact decide_eq_false (by have := of_decide_eq_false hm0; omega)
    · exact s_next (hno (.inr (by have := of_decide_eq_false hb; omega)))
  · rintro _ ⟨s, t, u, rfl⟩
    rw [keys_chL, strs_len, List.length_map, List.take_length]
    refine s_freeze 2 rfl ?_
    dsimp only [List.set]
    walk_at "dl"
    exact hq _
def sp_law_made : Fsp where
  I := List (Str × Dt)
  arg m := [dicD (kvL m)]
  pre m := mOk m
  post m d := d = .lst (match badN m with | some n => [.str n, .bl true] | none => [])
theorem ok_law_made (T : Tx K mg) : FnG P w K mg base 5 "_law_made" ["_law_changes_here"] (DSp K sp_law_made) := by
  have G_Action := ok_Action (P := P) (w := w) (base := base) T
  obtain ⟨fd, F⟩ := T.F_law_made
  refine ⟨_, fd, T.g_law_made, F.kp, fn_body F sc_law_made (fun _ => rfl) (fun cdv A outer s H E hr tk po => ?_), F.bindsN fun _ _ _ _ _ _ us hl => match us, hl with | [_], _ => rfl⟩
  refine ⟨_, (pss_cons (ps_tryA (i := 1) rfl rfl sc_law_made.nd rfl rfl ⟨rfl, (by decide), .inl T.g_BadChange⟩ tk (fun W2 pn xe tk2 po2 => (pss_one (ps_expr (pe_mk G_Action (hr.mono (by decide)) tk2 rfl (pa_cons (pv 0) pa_nil))))) (fun a oe cls d pn hz hf => (pss_one (ps_ret (pe_lst (pa_cons (pe_xf T.x_BadChange.xf T.no_BadChange_counter hz hf (pv 1)) (pa_cons (pe_callB (call_isS hz hf) (by rfl) T.n_isinstance (by decide +kernel) (pa_cons (pv 1) (pa_cons (pe_glob (v := .ref (He.ga K "PartError")) rfl T.g_PartError rfl) pa_nil))) pa_nil)))))))
  (pss_one (ps_ret (pe_lst pa_nil)))), fun (i : List (Str × Dt)) hp Z hn hq hx => ?_⟩
  try dsimp only [cxB, cxOf]
  clear tk po hr F G_Action
  have hp : mOk i := hp
  have hq : ∀ d ρ, d = .lst (match badN i with | some n => [.str n, .bl true] | none => []) → Z.rt d ρ := fun d ρ e => hq _ ρ e
  show StD K _ _ [.sh (dicD (kvL i)), .no] _
  clear hn hx
  refine ss_tryA fun W' => ?_
  refine s_drop (e_new (n_make (dds := []) (fun _ => by unfold RepL; rfl) ?_))
  walk_at "dl"
  refine ⟨i, rfl, rfl, rfl, hp, fun z o ⟨h1, h2, _⟩ => ⟨h1, ?_⟩, fun c o ⟨n, h1, h2⟩ => ?_⟩
  · refine s_ret (e_lst (a_nil ⟨rfl, Nat.zero_le _, rfl, hq _ _ ?_⟩))
    rw [h2]
  · subst h2
    refine ⟨true, T.m_BadChange_BadChange, fun _ => ⟨rfl, fun a dd => ?_⟩, fun h => nomatch h⟩
    dsimp only [List.set]
    refine s_ret (e_lst (a_cons (e_xf (e_var rfl ⟨_, _, _, rfl, rfl, a_cons (e_cb ?_)⟩))))
    walk_at "dl"
    refine c_isX T.x_BadChange T.k_BadChange_PartError ?_
    walk_at "dl"
    exact hq _ _ (by rw [h1])
def sp_law_times (K : DL.Frag) : Fsp where
  I := AL × Dt
  arg i := [actD K i.1, i.2]
  pre i := good i.1 ∧ (∀ p ∈ i.1, nz p = true ∧ p.2.2 < 2 ^ 400) ∧ plainD i.2 ∧ isInt i.2 0 none = false ∧ ∃ t, i.2.tyN = some t ∧ BiT t "mul" ∧ t ∈ tyNs
  post i d := d = .lst [.str "times", i.2]
def sp_law_of (K : DL.Frag) : Fsp where
  I := AL × List (Str × Dt)
  arg i := [actD K i.1, dicD (kvL i.2)]
  pre i := i.2.length < 60 ∧ (i.2.map (·.1)).Nodup ∧ (∀ p ∈ i.2, plainD p.2) ∧ badV i.2 ≠ none
  post i d := ∃ n z, badV i.2 = some n ∧ looks i.2 n = some z ∧ d = .lst [.str "number", z]
theorem ok_law_times (T : Tx K mg) : FnG P w K mg base 6 "_law_times" ["_law_made_here", "_law_times_here"] (DSp K (sp_law_times K)) := by
  have G_Actionu_mulu := ok_Actionu_mulu (P := P) (w := w) (base := base) T
  obtain ⟨fd, F⟩ := T.F_law_times
  refine ⟨_, fd, T.g_law_times, F.kp, fn_body F sc_law_times (fun _ => rfl) (fun cdv A outer s H E hr tk po => ?_), F.bindsN fun _ _ _ _ _ _ us hl => match us, hl with | [_, _], _ => rfl⟩
  refine ⟨_, (pss_cons (ps_tryA (i := 2) rfl rfl sc_law_times.nd rfl rfl ⟨rfl, (by decide), .inl T.g_BadTimes⟩ tk (fun W2 pn xe tk2 po2 => (pss_one (ps_expr (pe_binG (K := K) rfl op_mulU G_Actionu_mulu T.c_Action T.r_Action_mul (hr.mono (by decide)) tk2 (pv 0) (pv 1))))) (fun a oe cls d pn hz hf => (pss_one (ps_ret (pe_lst (pa_cons pe_str (pa_cons (pe_xf T.x_BadTimes.xf T.no_BadTimes_times hz hf (pv 2)) pa_nil)))))))
  (pss_one (ps_ret (pe_lst (pa_cons pe_str pa_nil))))), fun (i : AL × Dt) hp Z hn hq hx => ?_⟩
  try dsimp only [cxB, cxOf]
  clear tk po hr F G_Actionu_mulu
  obtain ⟨l, d⟩ := i
  obtain ⟨h1, h2, h3, h4, t, h5, h6, h7⟩ : good l ∧ (∀ p ∈ l, nz p = true ∧ p.2.2 < 2 ^ 400) ∧ plainD d ∧ isInt d 0 none = false ∧ ∃ t, d.tyN = some t ∧ BiT t "mul" ∧ t ∈ tyNs := hp
  have hq : ∀ ρ, Z.rt (.lst [.str "times", d]) ρ := fun ρ => hq _ ρ rfl
  show StD K _ _ [.sh (actD K l), .sh d, .no] _
  clear hn hx
  refine ss_tryA fun W' => ?_
  walk_at "dl"
  refine o_ownOp (t := .type t) rfl h3.1 (.inl ⟨t, h5, rfl⟩) (.inr ⟨t, rfl, h6, T.c_Action.sb t h7⟩) (l, d) rfl ⟨h1, h2, h3, fun n e => ?_⟩ ?_ ?_
  · subst e
    have : (decide ((0 : Int) ≤ n) && true) = false := h4
    have hn : n < 0 := by simpa using this
    omega
  · rintro z ⟨n, e, _⟩
    have e : d = .int n := e
    subst e
    have : (decide ((0 : Int) ≤ (n : Nat)) && true) = false := h4
    simp at this
  · rintro c ⟨_, rfl⟩
    refine ⟨true, T.m_BadTimes_BadTimes, fun _ => ⟨rfl, fun a dd => ?_⟩, fun h => nomatch h⟩
    dsimp only [List.set]
    refine s_ret (e_lst (a_cons (e_str (a_cons (e_xf (e_var rfl ⟨_, _, _, rfl, rfl, a_nil ⟨?_, Nat.le_of_ble_eq_true rfl, rfl, hq _⟩⟩))))))
    show [Dt.str "times", d].all Dt.real = true
    rw [List.all_cons, List.all_cons, h3.1]
    rfl
theorem ok_law_of (T : Tx K mg) : FnG P w K mg base 4 "_law_of" ["_law_made_here", "_law_numbers"] (DSp K (sp_law_of K)) := by
  have G_Action_of := ok_Action_of (P := P) (w := w) (base := base) T
  obtain ⟨fd, F⟩ := T.F_law_of
  refine ⟨_, fd, T.g_law_of, F.kp, fn_body F sc_law_of (fun _ => rfl) (fun cdv A outer s H E hr tk po => ?_), F.bindsN fun _ _ _ _ _ _ us hl => match us, hl with | [_, _], _ => rfl⟩
  refine ⟨_, (pss_one (ps_tryA (i := 2) rfl rfl sc_law_of.nd rfl rfl ⟨rfl, (by decide), .inl T.g_BadNumber⟩ tk (fun W2 pn xe tk2 po2 => (pss_one (ps_ret (pe_lst (pa_cons pe_str (pa_cons (pe_mt G_Action_of T.c_Action (hr.mono (by decide)) tk2 (pv 0) (pa_cons (pv 1) pa_nil)) pa_nil)))))) (fun a oe cls d pn hz hf => (pss_one (ps_ret (pe_lst (pa_cons pe_str (pa_cons (pe_xf T.x_BadNumber.xf T.no_BadNumber_number hz hf (pv 2)) pa_nil)))))))), fun (i : AL × List (Str × Dt)) hp Z hn hq hx => ?_⟩
  try dsimp only [cxB, cxOf]
  clear tk po hr F G_Action_of
  obtain ⟨l, m⟩ := i
  have hp : m.length < 60 ∧ (m.map (·.1)).Nodup ∧ (∀ p ∈ m, plainD p.2) ∧ badV m ≠ none := hp
  have hq : ∀ n z ρ, badV m = some n → looks m n = some z → Z.rt (.lst [.str "number", z]) ρ := fun n z ρ a b => hq _ ρ ⟨n, z, a, b, rfl⟩
  show StD K _ _ [.sh (actD K l), .sh (dicD (kvL m)), .no] _
  clear hn hx
  refine s_tryA fun W' => ?_
  walk_at "dl"
  refine e_meth ?_
  walk_at "dl"
  refine ⟨_, _, rfl, rfl, ?_⟩
  walk_at "dl"
  refine ⟨(l, m), rfl, rfl, hp, fun z e => e.elim, ?_⟩
  rintro c ⟨n, z, h1, h2, rfl⟩
  have hz := valD_mem h2
  obtain ⟨p, hp1, hp2⟩ := List.mem_map.mp hz
  have ez : p.2 = z := by injection hp2
  have hre : z.real = true := by rw [← ez]; exact (hp.2.2.1 p hp1).1
  refine ⟨true, T.m_BadNumber_BadNumber, fun _ => ⟨rfl, fun a dd => ?_⟩, fun h => nomatch h⟩
  dsimp only [List.set]
  refine s_ret (e_lst (a_cons (e_str (a_cons (e_xf (e_var rfl ⟨_, _, _, rfl, rfl, a_nil ⟨?_, Nat.le_of_ble_eq_true rfl, rfl, hq _ _ _ h1 h2⟩⟩))))))
  show [Dt.str "number", z].all Dt.real = true
  rw [List.all_cons, List.all_cons, hre]
  rfl

end
end T
set_option Elab.async false
set_option linter.all false
set_option maxRecDepth 100000
set_option autoImplicit false
set_option maxHeartbeats 4000000
namespace T
open PySem L2 PyProof.Rows DL
local macro_rules | `(tactic| walk_at "dlE") => `(tactic| first
  | ((with_reducible refine' e_var ?k1 ?_); (case k1 => rfl))
  | (with_reducible refine e_op ?_)
  | (with_reducible refine e_int ?_)
  | (with_reducible refine e_str ?_)
  | ((with_reducible refine' e_own ?k1 ?_); (case k1 => rfl))
  | (with_reducible refine e_cb ?_)
  | (with_reducible refine e_fld ?_)
  | (with_reducible refine e_bl ?_)
  | (with_reducible refine e_non ?_)
  | (with_reducible refine e_tup ?_)
  | (with_reducible refine e_lst ?_)
  | (with_reducible refine e_andV ?_)
  | (with_reducible refine e_orV ?_)
  | (with_reducible refine e_notV ?_)
  | (with_reducible refine e_chainC ?_)
  | (with_reducible refine e_chainU ?_)
  | (with_reducible refine e_chain ?_)
  | (with_reducible refine e_if ?_)
  | (with_reducible refine e_sl ?_)
  | (with_reducible refine e_bmS ?_)
  | (with_reducible refine e_bmL ?_)
  | (with_reducible refine e_opS ?_)
  | (with_reducible refine e_un ?_)
  | (with_reducible refine e_ty ?_)
  | (with_reducible refine e_ref ?_)
  | (with_reducible refine e_get2 ?_)
  | fail "dl")
local macro_rules | `(tactic| walk_at "dlO") => `(tactic| first
  | (with_reducible refine v_add (o_add ?_))
  | (with_reducible refine v_eq (o_eqI ?_))
  | (with_reducible refine v_eq (o_eqS ?_))
  | (with_reducible refine v_ne (o_neI ?_))
  | (with_reducible refine v_ne (o_neS ?_))
  | (with_reducible refine v_eq (o_eqB ?_))
  | (with_reducible refine v_ne (o_neB ?_))
  | (with_reducible refine o_cmpI ?_)
  | (with_reducible refine o_cmpS ?_)
  | ((with_reducible refine' v_ix (o_ixO ?k1 ?k2 ?_)); (case k1 => rfl); (case k2 => rfl))
  | ((with_reducible refine' v_ix (o_ixT ?k1 ?_)); (case k1 => rfl))
  | ((with_reducible refine' v_ix (o_ixL ?k1 ?_)); (case k1 => rfl))
  | (with_reducible refine o_I0 ?_)
  | (with_reducible refine o_B0 ?_)
  | ((with_reducible refine o_mul ?k1 ?_); (case k1 => omega))
  | ((with_reducible refine o_mod ?k1 ?_); (case k1 => omega))
  | ((with_reducible refine o_fdiv ?k1 ?k2 ?_); (case k1 => omega); (case k2 => omega))
  | ((with_reducible refine o_pow ?k1 ?_); (case k1 => exact ⟨by decide, by decide, by decide⟩))
  | ((with_reducible refine o_isN ?k1 ?_); (case k1 => rfl))
  | ((with_reducible refine o_isNotN ?k1 ?_); (case k1 => rfl))
  | (with_reducible refine o_isB ?_)
  | (with_reducible refine o_isNotB ?_)
  | ((with_reducible refine' v_eq (o_eqP ?k1 ?k2 ?k3 ?_)); (case k1 => rfl); (case k2 => rfl); (case k3 => exact Nat.le_of_ble_eq_true rfl))
  | ((with_reducible refine' v_ne (o_neP ?k1 ?k2 ?k3 ?_)); (case k1 => rfl); (case k2 => rfl); (case k3 => exact Nat.le_of_ble_eq_true rfl))
  | ((with_reducible refine' v_in (o_inT ?k1 ?k2 ?k3 ?_)); (case k1 => rfl); (case k2 => rfl); (case k3 => exact Nat.le_of_ble_eq_true rfl))
  | ((with_reducible refine' v_in (o_inL ?k1 ?k2 ?k3 ?_)); (case k1 => rfl); (case k2 => rfl); (case k3 => exact Nat.le_of_ble_eq_true rfl))
  | ((with_reducible refine' o_inD ?k1 ?k2 ?_); (case k1 => first | exact .inl rfl | exact .inr ⟨_, _, rfl, rfl⟩); (case k2 => rfl))
  | ((with_reducible refine v_add (o_addS ?k1 ?_)); (case k1 => (first | omega | (simp only [len_app, len_one]; omega))))
  | fail "dl")
local macro_rules | `(tactic| walk_at "dlS") => `(tactic| first
  | (with_reducible refine ss_set ?_)
  | (with_reducible refine ss_if ?_)
  | (with_reducible refine ss_drop ?_)
  | (with_reducible refine ss_put ?_)
  | (with_reducible refine ss_next ?_)
  | (with_reducible refine ss_ret ?_)
  | (with_reducible refine ss_assoc ?_)
  | ((with_reducible refine' ss_aug ?k1 ?_); (case k1 => rfl))
  | (with_reducible refine ss_rai1 ?_)
  | (with_reducible refine ss_rai0 ?_)
  | (with_reducible refine ss_fldN ?_)
  | ((with_reducible refine' s_aug ?k1 ?_); (case k1 => rfl))
  | (with_reducible refine s_rai1 ?_)
  | (with_reducible refine s_rai0 ?_)
  | (with_reducible refine s_set ?_)
  | (with_reducible refine s_if ?_)
  | (with_reducible refine s_drop ?_)
  | (with_reducible refine s_ret ?_)
  | (with_reducible refine s_put ?_)
  | (with_reducible refine s_next ?_)
  | (with_reducible refine s_fldN ?_)
  | fail "dl")
local macro_rules | `(tactic| walk_at "dlT") => `(tactic| first
  | (with_reducible refine t_test ?_)
  | (with_reducible refine t_tru ?_)
  | (with_reducible refine t_and ?_)
  | (with_reducible refine t_or ?_)
  | (with_reducible refine t_not ?_)
  | (with_reducible refine t_yes ?_)
  | fail "dl")
local macro_rules | `(tactic| walk_at "dlA") => `(tactic| first
  | (with_reducible refine a_cons ?_)
  | (with_reducible refine a_nil ?_)
  | fail "dl")
local macro_rules | `(tactic| walk_at "dlC") => `(tactic| first
  | (with_reducible refine v_len (c_lenL ?_))
  | (with_reducible refine v_len (c_lenT ?_))
  | ((with_reducible refine' v_len (c_lenO ?k1 ?_)); (case k1 => rfl))
  | (with_reducible refine c_int ?_)
  | (with_reducible refine c_abs ?_)
  | (with_reducible refine c_strS ?_)
  | (with_reducible refine c_tupT ?_)
  | (with_reducible refine c_max2 ?_)
  | (with_reducible refine c_min2 ?_)
  | ((with_reducible refine v_len (c_lenS ?k1 ?_)); (case k1 => omega))
  | ((with_reducible refine' c_isi ?k1 ?k2 ?_); (case k1 => rfl); (case k2 => first | exact kb_NoneType_bool | exact kb_NoneType_int | exact kb_NoneType_str | exact kb_NoneType_list | exact kb_NoneType_tuple | exact kb_NoneType_dict | exact kb_bool_bool | exact kb_bool_int | exact kb_bool_str | exact kb_bool_list | exact kb_bool_tuple | exact kb_bool_dict | exact kb_int_bool | exact kb_int_int | exact kb_int_str | exact kb_int_list | exact kb_int_tuple | exact kb_int_dict | exact kb_str_bool | exact kb_str_int | exact kb_str_str | exact kb_str_list | exact kb_str_tuple | exact kb_str_dict | exact kb_list_bool | exact kb_list_int | exact kb_list_str | exact kb_list_list | exact kb_list_tuple | exact kb_list_dict | exact kb_tuple_bool | exact kb_tuple_int | exact kb_tuple_str | exact kb_tuple_list | exact kb_tuple_tuple | exact kb_tuple_dict | exact kb_dict_bool | exact kb_dict_int | exact kb_dict_str | exact kb_dict_list | exact kb_dict_tuple | exact kb_dict_dict))
  | ((with_reducible refine' c_lenD ?k1 ?_); (case k1 => first | exact .inl rfl | exact .inr ⟨_, _, rfl, rfl⟩))
  | fail "dl")
local macro_rules | `(tactic| walk_at "dlU") => `(tactic| first
  | (with_reducible refine u_neg ?_)
  | fail "dl")
local macro_rules | `(tactic| walk_at "dlM") => `(tactic| first
  | ((with_reducible refine m_stripC ?k1 ?_); (case k1 => omega))
  | fail "dl")
local macro_rules | `(tactic| walk_at "dlL") => `(tactic| first
  | ((with_reducible refine l_str ?k1 ?_); (case k1 => omega))
  | fail "dl")
local macro_rules | `(tactic| walk_at "dlP") => `(tactic| first
  | (with_reducible refine p_none ?_)
  | (with_reducible refine p_some ?_)
  | fail "dl")
local macro_rules | `(tactic| walk_at "dlI") => `(tactic| first
  | (with_reducible refine i_list ?_)
  | (with_reducible refine i_tup ?_)
  | (with_reducible refine i_str ?_)
  | (with_reducible refine i_keys ?_)
  | (with_reducible refine i_items ?_)
  | (with_reducible refine i_vals ?_)
  | (with_reducible refine i_rng1 ?_)
  | (with_reducible refine i_rng2 ?_)
  | fail "dl")
local macro_rules | `(tactic| walk_at "dlg") => `(tactic| first
  | ((with_reducible refine g_name ?k1 ?k2 ?_); (case k1 => rfl); (case k2 => rfl); dsimp only [List.set])
  | ((with_reducible refine g_tup ?k1 ?_); (case k1 => rfl))
  | fail "dl")
local macro_rules | `(tactic| walk_at "dlh") => `(tactic| first
  | (with_reducible refine gs_nil ?_)
  | (with_reducible refine gs_cons ?_)
  | fail "dl")
local macro_rules | `(tactic| walk_at "dlW") => `(tactic| first
  | ((with_reducible refine' w_lstV ?k1 ?k2 ?_); (case k1 => rfl); (case k2 => rfl); dsimp only [List.set])
  | fail "dl")
local macro_rules | `(tactic| walk_at "dl1") => `(tactic| first
  | ((with_reducible show EvD _ _ _ _ _ _); walk_at "dlE")
  | ((with_reducible show OpD _ _ _ _ _ _); walk_at "dlO")
  | ((with_reducible show StD _ _ _ _ _); walk_at "dlS")
  | ((with_reducible show ArD _ _ _ _ _ _); walk_at "dlA")
  | ((with_reducible show TtD _ _ _ _ _ _); walk_at "dlT")
  | ((with_reducible show CaD _ _ _ _ _); walk_at "dlC")
  | ((with_reducible show PtD _ _ _ _ _ _); walk_at "dlP")
  | ((with_reducible show TgD _ _ _ _ _ _); walk_at "dlg")
  | ((with_reducible show ItD _ _ _ _ _ _); walk_at "dlI")
  | ((with_reducible show TgsD _ _ _ _ _ _); walk_at "dlh")
  | ((with_reducible show UnD _ _ _ _ _); walk_at "dlU")
  | ((with_reducible show MtD _ _ _ _ _ _); walk_at "dlM")
  | ((with_reducible show SlD _ _ _ _ _ _ _); walk_at "dlL")
  | ((with_reducible show SeD _ _ _ _ _ _ _); walk_at "dlW")
  | ((with_reducible show ∃ _ _ _, InsAt _ _ _ _ _ ∧ List.lookup _ _ = some _ ∧ _); refine ⟨_, _, _, .inl rfl, rfl, ?_⟩)
  | (show (∃ z, Dt.str _ = .str z) ∧ _; refine ⟨⟨_, rfl⟩, ?_⟩)
  | (show getElem? _ _ = some (Sl.sh _) ∧ _; refine ⟨rfl, ?_⟩)
  | (show Dt.real _ = true ∧ lent _ _ = false ∧ _; refine ⟨rfl, rfl, ?_⟩; dsimp only [List.set])
  | (show Dt.real _ = true ∧ _; refine ⟨rfl, ?_⟩)
  | (show lent _ _ = false ∧ _; refine ⟨rfl, ?_⟩; dsimp only [List.set])
  | (show allReal _ = true ∧ _; refine ⟨rfl, Nat.le_of_ble_eq_true rfl, ?_⟩)
  | (show (true = true → _) ∧ (true = false → _); refine ⟨fun _ => ?_, fun h => nomatch h⟩)
  | (show (false = true → _) ∧ (false = false → _); refine ⟨(fun h => nomatch h), fun _ => ?_⟩)
  | (refine ⟨_, rfl, _, (fun P p => e_int p), ?_⟩)
  | (refine ⟨_, rfl, _, (fun P p => e_var rfl p), ?_⟩)
  | (refine ⟨_, rfl, ?_⟩)
  | fail "dl")
local macro_rules | `(tactic| walk_at "dl") => `(tactic| repeat' walk_at "dl1")
local macro_rules | `(tactic| walk_at "dq") => `(tactic| repeat' ((fail_if_success (with_reducible show StD _ _ (tSeq (tAsg _ _) _) _ _)); (fail_if_success (with_reducible show StD _ _ (tAsg _ _) _ _)); walk_at "dl1"))
local macro_rules | `(tactic| walk_at "dls") => `(tactic| repeat' (first | walk_at "dl1" | (refine ⟨fun hb => ?_, fun hb => ?_⟩) | fail "dls"))
local macro_rules | `(tactic| walk_at "fg") => `(tactic| repeat (first | exact Fg.nil | (with_reducible refine Fg.keep ?_) | (refine Fg.drop ?_) | (refine Fg.drop ?_ (slS_ln _))))

section
variable {P : Program} {w : World} {K : DL.Frag} {mg : Str → Option Value} {base : Heap}
/-! ### what is refused, plainly -/
theorem looks_put (m : List (Str × Dt)) (k : Str) (d : Dt) (n : Str) : looks (putM m k d) n = if k = n then some d else looks m n := by
  unfold looks
  rw [← kvL_put, valD_put]
  by_cases e : k = n
  · rw [if_pos e, if_pos (by rw [e])]
  · rw [if_neg e, if_neg (fun z => e (Sum.inr.inj z))]
def oddL : List Dt := [.tup [.str "add", .int (-1)], .tup [.str "set", .int (-1)], .tup [.str "put", .int 1], .tup [.str "add"], .tup [.str "add", .int 1, .int 1], .lst [.str "add", .int 1], .str "add", .non, .tup [.str "add", .bl true], .int 3,
  .tup [.str "add", .str "1"], .tup [.str "set", .non], .tup [.int 1, .str "add"], .tup [.str "Add", .int 1], .tup []]
def fineD (d : Dt) : Prop := plainD d ∧ ∀ ds, d = .tup ds → ∀ z ∈ ds, plainD z
theorem fine_tup {ds : List Dt} (h : ∀ z ∈ ds, plainD z) : fineD (.tup ds) := ⟨⟨rfl, rfl⟩, fun es e z hz => by injection e with e; exact h z (e ▸ hz)⟩
theorem fine_no {d : Dt} (h : plainD d) (hn : ∀ ds, d ≠ .tup ds) : fineD d := ⟨h, fun ds e => absurd e (hn ds)⟩
theorem odd_ok {d : Dt} (h : d ∈ oddL) : isCh d = false ∧ fineD d := by
  have go : ∀ ds : List Dt, (ds.all fun z => z.real && z.tyN.isSome) = true → fineD (.tup ds) := fun ds h => fine_tup fun z hz => by
    have := List.all_eq_true.mp h z hz
    exact Bool.and_eq_true_iff.mp this
  unfold oddL at h
  simp only [List.mem_cons, List.mem_nil_iff, or_false] at h
  rcases h with rfl | rfl | rfl | rfl | rfl | rfl | rfl | rfl | rfl | rfl | rfl | rfl | rfl | rfl | rfl
  · exact ⟨by decide +kernel, go _ rfl⟩
  · exact ⟨by decide +kernel, go _ rfl⟩
  · exact ⟨by decide +kernel, go _ rfl⟩
  · exact ⟨by decide +kernel, go _ rfl⟩
  · exact ⟨by decide +kernel, go _ rfl⟩
  · exact ⟨by decide +kernel, fine_no ⟨rfl, rfl⟩ (fun _ z => nomatch z)⟩
  · exact ⟨by decide +kernel, fine_no ⟨rfl, rfl⟩ (fun _ z => nomatch z)⟩
  · exact ⟨by decide +kernel, fine_no ⟨rfl, rfl⟩ (fun _ z => nomatch z)⟩
  · exact ⟨by decide +kernel, go _ rfl⟩
  · exact ⟨by decide +kernel, fine_no ⟨rfl, rfl⟩ (fun _ z => nomatch z)⟩
  · exact ⟨by decide +kernel, go _ rfl⟩
  · exact ⟨by decide +kernel, go _ rfl⟩
  · exact ⟨by decide +kernel, go _ rfl⟩
  · exact ⟨by decide +kernel, go _ rfl⟩
  · exact ⟨by decide +kernel, go _ rfl⟩
theorem drawn_good {l : AL} (h : drawn l) : good l := ⟨by have := h.2.1; omega, h.2.2.1, fun p hp => five_isN _ (h.2.2.2.1 p hp)⟩
theorem ch_fine (c : Ch) : fineD (chD c) := fine_tup fun z hz => by
  rcases List.mem_cons.mp hz with e | e
  · subst e; exact ⟨rfl, rfl⟩
  · rw [List.mem_singleton.mp e]; exact ⟨rfl, rfl⟩
theorem mOk_of {m : List (Str × Dt)} (h1 : m.length < 60) (h2 : (m.map (·.1)).Nodup) (h3 : ∀ p ∈ m, p.1.length ≤ 1000 ∧ fineD p.2) : mOk m := ⟨h1, h2, fun p hp => ⟨(h3 p hp).1, (h3 p hp).2.1, (h3 p hp).2.2⟩⟩
theorem five_len : ∀ z ∈ five, z.length ≤ 1000 := by decide +kernel
theorem okE_ch {m : List (Str × Dt)} {n : Str} {c : Ch} (hn : n ∈ five) (h : looks m n = some (chD c)) : okE m n = true := by
  unfold okE
  rw [h, five_isN n hn]
  exact isCh_ch c
theorem okE_no {m : List (Str × Dt)} {n : Str} {d : Dt} (h : looks m n = some d) (hd : isCh d = false) : okE m n = false := by
  unfold okE
  rw [h]
  show (isN n && isCh d) = false
  rw [hd, Bool.and_false]
theorem bad_one {l : AL} (hl : drawn l) {ns : List Str} (hns : ns = sortS (l.map (·.1))) {a : Nat} {n z : Str} (ha : ns[a]? = some n) (hz : ns[ns.length - 1]? = some z) {d1 d2 : Dt} (h1 : d1 ∈ oddL) (h2 : d2 ∈ oddL) :
    mOk (putM (putM (chM l) n d1) z d2) ∧ badN (putM (putM (chM l) n d1) z d2) = some n := by
  have hnl : n ∈ l.map (·.1) := (sortS_perm _).mem_iff.mp (hns ▸ List.mem_of_getElem? ha)
  have hzl : z ∈ l.map (·.1) := (sortS_perm _).mem_iff.mp (hns ▸ List.mem_of_getElem? hz)
  have hk1 : (putM (chM l) n d1).map (·.1) = l.map (·.1) := by rw [putM_keys, chM_keys, if_pos hnl]
  have hk : (putM (putM (chM l) n d1) z d2).map (·.1) = l.map (·.1) := by rw [putM_keys, hk1, if_pos hzl]
  have h5 : ∀ w ∈ l.map (·.1), w ∈ five := fun w hw => by
    obtain ⟨p, hp, rfl⟩ := List.mem_map.mp hw
    exact hl.2.2.2.1 p hp
  refine ⟨mOk_of ?_ (by rw [hk]; exact hl.2.2.1) fun p hp => ⟨five_len _ (h5 _ (by rw [← hk]; exact List.mem_map.mpr ⟨p, hp, rfl⟩)), ?_⟩, ?_⟩
  · have := congrArg List.length hk
    rw [List.length_map, List.length_map] at this
    rw [this]
    have := hl.2.1
    omega
  · rcases putM_mem hp with rfl | hp
    · exact (odd_ok h2).2
    rcases putM_mem hp with rfl | hp
    · exact (odd_ok h1).2
    obtain ⟨q, _, rfl⟩ := List.mem_map.mp hp
    exact ch_fine _
  · unfold badN
    rw [hk, ← hns]
    have hlk : ∀ y, looks (putM (putM (chM l) n d1) z d2) y = if z = y then some d2 else if n = y then some d1 else looks (chM l) y := fun y => by rw [looks_put, looks_put]
    have hnb : okE (putM (putM (chM l) n d1) z d2) n = false := by
      have := hlk n
      rw [if_pos (show n = n from rfl)] at this
      by_cases e : z = n
      · rw [if_pos e] at this
        exact okE_no this (odd_ok h2).1
      · rw [if_neg e] at this
        exact okE_no this (odd_ok h1).1
    refine find_least (hns ▸ sortS_pw _) (List.mem_of_getElem? ha) (by rw [hnb]; rfl) fun y hy hb => ?_
    have hyl : y ∈ l.map (·.1) := (sortS_perm _).mem_iff.mp (hns ▸ hy)
    by_cases e1 : z = y
    · subst e1
      have hpw : ns.Pairwise (fun a b => leS a b = true) := by rw [hns]; exact sortS_pw _
      obtain ⟨ia, ea⟩ := List.getElem?_eq_some_iff.mp ha
      obtain ⟨iz, ez⟩ := List.getElem?_eq_some_iff.mp hz
      by_cases e : a = ns.length - 1
      · subst e
        rw [← ea, ez]
        exact leS_refl _
      · rw [← ea, ← ez]
        exact List.pairwise_iff_getElem.mp hpw a (ns.length - 1) ia iz (by omega)
    by_cases e2 : n = y
    · subst e2
      exact leS_refl _
    exfalso
    obtain ⟨p, hp, rfl⟩ := List.mem_map.mp hyl
    have := hlk p.1
    rw [if_neg e1, if_neg e2, looks_eq (m := chM l) (p := (p.1, chD p.2)) (by rw [chM_keys]; exact hl.2.2.1) (List.mem_map.mpr ⟨p, hp, rfl⟩)] at this
    rw [okE_ch (h5 _ hyl) this] at hb
    cases hb
def badL : List Str := ["", "A", "ninelette", "a b", "a1"]
def z8 : Str := "zzzzzzzz"
theorem badL_ok : ∀ b ∈ badL, b ∉ five ∧ b ≠ z8 ∧ isN b = false ∧ leS b z8 = true ∧ b.length ≤ 1000 ∧ decide (b.cps.toList < z8.cps.toList) = true := by decide +kernel
theorem z8_five : z8 ∉ five := by decide +kernel
def twoM (l : AL) (b : Str) : List (Str × Dt) := chM l ++ [(b, .tup [.str "add", .int 1]), (z8, .tup [.str "add", .int (-1)])]
theorem bad_two {l : AL} (hl : drawn l) {b : Str} (hb : b ∈ badL) : mOk (twoM l b) ∧ badN (twoM l b) = some b := by
  obtain ⟨b1, b2, b3, b4, b5, _⟩ := badL_ok b hb
  have hk : (twoM l b).map (·.1) = l.map (·.1) ++ [b, z8] := by unfold twoM; rw [List.map_append, chM_keys]; rfl
  have h5 : ∀ w ∈ l.map (·.1), w ∈ five := fun w hw => by
    obtain ⟨p, hp, rfl⟩ := List.mem_map.mp hw
    exact hl.2.2.2.1 p hp
  have hnd : ((twoM l b).map (·.1)).Nodup := by
    rw [hk]
    refine List.nodup_append.mpr ⟨hl.2.2.1, ?_, fun x hx y hy e => ?_⟩
    · simp [b2]
    · subst e
      rcases List.mem_cons.mp hy with z | z
      · exact b1 (z ▸ h5 _ hx)
      · exact z8_five (List.mem_singleton.mp z ▸ h5 _ hx)
  refine ⟨mOk_of ?_ hnd fun p hp => ?_, ?_⟩
  · have := congrArg List.length hk
    rw [List.length_map, List.length_append, List.length_map] at this
    have := hl.2.1
    simp at *
    omega
  · rcases List.mem_append.mp hp with hp | hp
    · obtain ⟨q, hq, rfl⟩ := List.mem_map.mp hp
      exact ⟨five_len _ (hl.2.2.2.1 q hq), ch_fine _⟩
    · rcases List.mem_cons.mp hp with rfl | hp
      · exact ⟨b5, ch_fine (false, 1)⟩
      · rw [List.mem_singleton.mp hp]
        exact ⟨by decide +kernel, (odd_ok (d := .tup [.str "add", .int (-1)]) (by unfold oddL; simp)).2⟩
  · unfold badN
    have hbm : b ∈ (twoM l b).map (·.1) := by rw [hk]; simp
    refine find_least (sortS_pw _) ((sortS_perm _).mem_iff.mpr hbm) ?_ fun y hy hq => ?_
    · unfold okE
      rw [b3]
      rfl
    · have hy := (sortS_perm _).mem_iff.mp hy
      rw [hk] at hy
      rcases List.mem_append.mp hy with h | h
      · exfalso
        obtain ⟨p, hp, rfl⟩ := List.mem_map.mp h
        have := looks_eq (m := twoM l b) (p := (p.1, chD p.2)) hnd (List.mem_append.mpr (.inl (List.mem_map.mpr ⟨p, hp, rfl⟩)))
        rw [okE_ch (h5 _ h) this] at hq
        cases hq
      · rcases List.mem_cons.mp h with rfl | h
        · exact leS_refl _
        · rw [List.mem_singleton.mp h]; exact b4
def z3 : Str := "zzz"
def nnS : Str := "none"
def numM (ns : List Str) : List (Str × Dt) := (z3, .int (-7)) :: (ns.reverse ++ [nnS]).map fun n => (n, .int 4)
theorem five_z3 : ∀ z ∈ five, z ≠ z3 ∧ z ≠ nnS ∧ leS z z3 = true ∧ decide (z.cps.toList < z3.cps.toList) = true := by decide +kernel
theorem numM_nd {ns : List Str} (h : ns.Nodup) (h5 : ∀ w ∈ ns, w ∈ five) : ((numM ns).map (·.1)).Nodup := by
  unfold numM
  have e : (((ns.reverse ++ [nnS]).map fun n => (n, Dt.int 4)).map (·.1)) = ns.reverse ++ [nnS] := by rw [List.map_map]; exact List.map_id' _
  rw [List.map_cons, e]
  refine List.nodup_cons.mpr ⟨fun z => ?_, List.nodup_append.mpr ⟨(List.reverse_perm ns).nodup_iff.mpr h, by simp, fun x hx y hy e => ?_⟩⟩
  · rcases List.mem_append.mp z with z | z
    · exact (five_z3 _ (h5 _ (List.mem_reverse.mp z))).1 rfl
    · exact absurd (List.mem_singleton.mp z) (by decide +kernel)
  · subst e
    exact (five_z3 _ (h5 _ (List.mem_reverse.mp hx))).2.1 (List.mem_singleton.mp hy)
def dueL : List Dt := [.int (-1), .non, .bl true, .str "4"]
theorem due_ok {d : Dt} (h : d ∈ dueL) : isInt d 0 none = false ∧ plainD d := by
  unfold dueL at h
  simp only [List.mem_cons, List.mem_nil_iff, or_false] at h
  rcases h with rfl | rfl | rfl | rfl <;> exact ⟨rfl, rfl, rfl⟩
theorem bad_three {ns : List Str} (hnd : ns.Nodup) (hlen : ns.length ≤ 5) (h5 : ∀ w ∈ ns, w ∈ five) {n : Str} (hn : n ∈ ns) {d : Dt} (hd : d ∈ dueL) :
    ((putM (numM ns) n d).length < 60 ∧ ((putM (numM ns) n d).map (·.1)).Nodup ∧ (∀ p ∈ putM (numM ns) n d, plainD p.2) ∧ badV (putM (numM ns) n d) ≠ none) ∧ badV (putM (numM ns) n d) = some n ∧ looks (putM (numM ns) n d) n = some d := by
  have hnk : n ∈ (numM ns).map (·.1) := by
    unfold numM
    rw [List.map_cons, List.map_map]
    exact List.mem_cons_of_mem _ (List.mem_map.mpr ⟨n, List.mem_append.mpr (.inl (List.mem_reverse.mpr hn)), rfl⟩)
  have hk : (putM (numM ns) n d).map (·.1) = (numM ns).map (·.1) := by rw [putM_keys, if_pos hnk]
  have hself : looks (putM (numM ns) n d) n = some d := by rw [looks_put, if_pos rfl]
  have hb : badV (putM (numM ns) n d) = some n := by
    unfold badV
    rw [hk]
    refine find_least (sortS_pw _) ((sortS_perm _).mem_iff.mpr hnk) ?_ fun y hy hq => ?_
    · unfold okV
      rw [hself]
      show (!isInt d 0 none) = true
      rw [(due_ok hd).1]
      rfl
    · have hy := (sortS_perm _).mem_iff.mp hy
      by_cases e : n = y
      · subst e
        exact leS_refl _
      obtain ⟨p, hp, rfl⟩ := List.mem_map.mp hy
      have hlk : looks (putM (numM ns) n d) p.1 = some p.2 := by rw [looks_put, if_neg e, looks_eq (numM_nd hnd h5) hp]
      rcases List.mem_cons.mp hp with rfl | hp
      · exact (five_z3 n (h5 n hn)).2.2.1
      · exfalso
        obtain ⟨q, hq, rfl⟩ := List.mem_map.mp hp
        unfold okV at hq
        rw [hlk] at hq
        cases hq
  refine ⟨⟨?_, by rw [hk]; exact numM_nd hnd h5, fun p hp => ?_, by rw [hb]; exact fun z => nomatch z⟩, hb, hself⟩
  · have := congrArg List.length hk
    rw [List.length_map, List.length_map] at this
    rw [this]
    unfold numM
    simp
    omega
  · rcases putM_mem hp with rfl | hp
    · exact (due_ok hd).2
    · rcases List.mem_cons.mp hp with rfl | hp
      · exact ⟨rfl, rfl⟩
      · obtain ⟨q, _, rfl⟩ := List.mem_map.mp hp
        exact ⟨rfl, rfl⟩

end
end T
set_option Elab.async false
set_option linter.all false
set_option maxRecDepth 100000
set_option autoImplicit false
set_option maxHeartbeats 4000000
namespace T
open PySem L2 PyProof.Rows DL
local macro_rules | `(tactic| walk_at "dlE") => `(tactic| first
  | ((with_reducible refine' e_var ?k1 ?_); (case k1 => rfl))
  | (with_reducible refine e_op ?_)
  | (with_reducible refine e_int ?_)
  | (with_reducible refine e_str ?_)
  | ((with_reducible refine' e_own ?k1 ?_); (case k1 => rfl))
  | (with_reducible refine e_cb ?_)
  | (with_reducible refine e_fld ?_)
  | (with_reducible refine e_bl ?_)
  | (with_reducible refine e_non ?_)
  | (with_reducible refine e_tup ?_)
  | (with_reducible refine e_lst ?_)
  | (with_reducible refine e_andV ?_)
  | (with_reducible refine e_orV ?_)
  | (with_reducible refine e_notV ?_)
  | (with_reducible refine e_chainC ?_)
  | (with_reducible refine e_chainU ?_)
  | (with_reducible refine e_chain ?_)
  | (with_reducible refine e_if ?_)
  | (with_reducible refine e_sl ?_)
  | (with_reducible refine e_bmS ?_)
  | (with_reducible refine e_bmL ?_)
  | (with_reducible refine e_opS ?_)
  | (with_reducible refine e_un ?_)
  | (with_reducible refine e_ty ?_)
  | (with_reducible refine e_ref ?_)
  | (with_reducible refine e_get2 ?_)
  | fail "dl")
local macro_rules | `(tactic| walk_at "dlO") => `(tactic| first
  | (with_reducible refine v_add (o_add ?_))
  | (with_reducible refine v_eq (o_eqI ?_))
  | (with_reducible refine v_eq (o_eqS ?_))
  | (with_reducible refine v_ne (o_neI ?_))
  | (with_reducible refine v_ne (o_neS ?_))
  | (with_reducible refine v_eq (o_eqB ?_))
  | (with_reducible refine v_ne (o_neB ?_))
  | (with_reducible refine o_cmpI ?_)
  | (with_reducible refine o_cmpS ?_)
  | ((with_reducible refine' v_ix (o_ixO ?k1 ?k2 ?_)); (case k1 => rfl); (case k2 => rfl))
  | ((with_reducible refine' v_ix (o_ixT ?k1 ?_)); (case k1 => rfl))
  | ((with_reducible refine' v_ix (o_ixL ?k1 ?_)); (case k1 => rfl))
  | (with_reducible refine o_I0 ?_)
  | (with_reducible refine o_B0 ?_)
  | ((with_reducible refine o_mul ?k1 ?_); (case k1 => omega))
  | ((with_reducible refine o_mod ?k1 ?_); (case k1 => omega))
  | ((with_reducible refine o_fdiv ?k1 ?k2 ?_); (case k1 => omega); (case k2 => omega))
  | ((with_reducible refine o_pow ?k1 ?_); (case k1 => exact ⟨by decide, by decide, by decide⟩))
  | ((with_reducible refine o_isN ?k1 ?_); (case k1 => rfl))
  | ((with_reducible refine o_isNotN ?k1 ?_); (case k1 => rfl))
  | (with_reducible refine o_isB ?_)
  | (with_reducible refine o_isNotB ?_)
  | ((with_reducible refine' v_eq (o_eqP ?k1 ?k2 ?k3 ?_)); (case k1 => rfl); (case k2 => rfl); (case k3 => exact Nat.le_of_ble_eq_true rfl))
  | ((with_reducible refine' v_ne (o_neP ?k1 ?k2 ?k3 ?_)); (case k1 => rfl); (case k2 => rfl); (case k3 => exact Nat.le_of_ble_eq_true rfl))
  | ((with_reducible refine' v_in (o_inT ?k1 ?k2 ?k3 ?_)); (case k1 => rfl); (case k2 => rfl); (case k3 => exact Nat.le_of_ble_eq_true rfl))
  | ((with_reducible refine' v_in (o_inL ?k1 ?k2 ?k3 ?_)); (case k1 => rfl); (case k2 => rfl); (case k3 => exact Nat.le_of_ble_eq_true rfl))
  | ((with_reducible refine' o_inD ?k1 ?k2 ?_); (case k1 => first | exact .inl rfl | exact .inr ⟨_, _, rfl, rfl⟩); (case k2 => rfl))
  | ((with_reducible refine v_add (o_addS ?k1 ?_)); (case k1 => (first | omega | (simp only [len_app, len_one]; omega))))
  | fail "dl")
local macro_rules | `(tactic| walk_at "dlS") => `(tactic| first
  | (with_reducible refine ss_set ?_)
  | (with_reducible refine ss_if ?_)
  | (with_reducible refine ss_drop ?_)
  | (with_reducible refine ss_put ?_)
  | (with_reducible refine ss_next ?_)
  | (with_reducible refine ss_ret ?_)
  | (with_reducible refine ss_assoc ?_)
  | ((with_reducible refine' ss_aug ?k1 ?_); (case k1 => rfl))
  | (with_reducible refine ss_rai1 ?_)
  | (with_reducible refine ss_rai0 ?_)
  | (with_reducible refine ss_fldN ?_)
  | ((with_reducible refine' s_aug ?k1 ?_); (case k1 => rfl))
  | (with_reducible refine s_rai1 ?_)
  | (with_reducible refine s_rai0 ?_)
  | (with_reducible refine s_set ?_)
  | (with_reducible refine s_if ?_)
  | (with_reducible refine s_drop ?_)
  | (with_reducible refine s_ret ?_)
  | (with_reducible refine s_put ?_)
  | (with_reducible refine s_next ?_)
  | (with_reducible refine s_fldN ?_)
  | fail "dl")
local macro_rules | `(tactic| walk_at "dlT") => `(tactic| first
  | (with_reducible refine t_test ?_)
  | (with_reducible refine t_tru ?_)
  | (with_reducible refine t_and ?_)
  | (with_reducible refine t_or ?_)
  | (with_reducible refine t_not ?_)
  | (with_reducible refine t_yes ?_)
  | fail "dl")
local macro_rules | `(tactic| walk_at "dlA") => `(tactic| first
  | (with_reducible refine a_cons ?_)
  | (with_reducible refine a_nil ?_)
  | fail "dl")
local macro_rules | `(tactic| walk_at "dlC") => `(tactic| first
  | (with_reducible refine v_len (c_lenL ?_))
  | (with_reducible refine v_len (c_lenT ?_))
  | ((with_reducible refine' v_len (c_lenO ?k1 ?_)); (case k1 => rfl))
  | (with_reducible refine c_int ?_)
  | (with_reducible refine c_abs ?_)
  | (with_reducible refine c_strS ?_)
  | (with_reducible refine c_tupT ?_)
  | (with_reducible refine c_max2 ?_)
  | (with_reducible refine c_min2 ?_)
  | ((with_reducible refine v_len (c_lenS ?k1 ?_)); (case k1 => omega))
  | ((with_reducible refine' c_isi ?k1 ?k2 ?_); (case k1 => rfl); (case k2 => first | exact kb_NoneType_bool | exact kb_NoneType_int | exact kb_NoneType_str | exact kb_NoneType_list | exact kb_NoneType_tuple | exact kb_NoneType_dict | exact kb_bool_bool | exact kb_bool_int | exact kb_bool_str | exact kb_bool_list | exact kb_bool_tuple | exact kb_bool_dict | exact kb_int_bool | exact kb_int_int | exact kb_int_str | exact kb_int_list | exact kb_int_tuple | exact kb_int_dict | exact kb_str_bool | exact kb_str_int | exact kb_str_str | exact kb_str_list | exact kb_str_tuple | exact kb_str_dict | exact kb_list_bool | exact kb_list_int | exact kb_list_str | exact kb_list_list | exact kb_list_tuple | exact kb_list_dict | exact kb_tuple_bool | exact kb_tuple_int | exact kb_tuple_str | exact kb_tuple_list | exact kb_tuple_tuple | exact kb_tuple_dict | exact kb_dict_bool | exact kb_dict_int | exact kb_dict_str | exact kb_dict_list | exact kb_dict_tuple | exact kb_dict_dict))
  | ((with_reducible refine' c_lenD ?k1 ?_); (case k1 => first | exact .inl rfl | exact .inr ⟨_, _, rfl, rfl⟩))
  | fail "dl")
local macro_rules | `(tactic| walk_at "dlU") => `(tactic| first
  | (with_reducible refine u_neg ?_)
  | fail "dl")
local macro_rules | `(tactic| walk_at "dlM") => `(tactic| first
  | ((with_reducible refine m_stripC ?k1 ?_); (case k1 => omega))
  | fail "dl")
local macro_rules | `(tactic| walk_at "dlL") => `(tactic| first
  | ((with_reducible refine l_str ?k1 ?_); (case k1 => omega))
  | fail "dl")
local macro_rules | `(tactic| walk_at "dlP") => `(tactic| first
  | (with_reducible refine p_none ?_)
  | (with_reducible refine p_some ?_)
  | fail "dl")
local macro_rules | `(tactic| walk_at "dlI") => `(tactic| first
  | (with_reducible refine i_list ?_)
  | (with_reducible refine i_tup ?_)
  | (with_reducible refine i_str ?_)
  | (with_reducible refine i_keys ?_)
  | (with_reducible refine i_items ?_)
  | (with_reducible refine i_vals ?_)
  | (with_reducible refine i_rng1 ?_)
  | (with_reducible refine i_rng2 ?_)
  | fail "dl")
local macro_rules | `(tactic| walk_at "dlg") => `(tactic| first
  | ((with_reducible refine g_name ?k1 ?k2 ?_); (case k1 => rfl); (case k2 => rfl); dsimp only [List.set])
  | ((with_reducible refine g_tup ?k1 ?_); (case k1 => rfl))
  | fail "dl")
local macro_rules | `(tactic| walk_at "dlh") => `(tactic| first
  | (with_reducible refine gs_nil ?_)
  | (with_reducible refine gs_cons ?_)
  | fail "dl")
local macro_rules | `(tactic| walk_at "dlW") => `(tactic| first
  | ((with_reducible refine' w_lstV ?k1 ?k2 ?_); (case k1 => rfl); (case k2 => rfl); dsimp only [List.set])
  | fail "dl")
local macro_rules | `(tactic| walk_at "dl1") => `(tactic| first
  | ((with_reducible show EvD _ _ _ _ _ _); walk_at "dlE")
  | ((with_reducible show OpD _ _ _ _ _ _); walk_at "dlO")
  | ((with_reducible show StD _ _ _ _ _); walk_at "dlS")
  | ((with_reducible show ArD _ _ _ _ _ _); walk_at "dlA")
  | ((with_reducible show TtD _ _ _ _ _ _); walk_at "dlT")
  | ((with_reducible show CaD _ _ _ _ _); walk_at "dlC")
  | ((with_reducible show PtD _ _ _ _ _ _); walk_at "dlP")
  | ((with_reducible show TgD _ _ _ _ _ _); walk_at "dlg")
  | ((with_reducible show ItD _ _ _ _ _ _); walk_at "dlI")
  | ((with_reducible show TgsD _ _ _ _ _ _); walk_at "dlh")
  | ((with_reducible show UnD _ _ _ _ _); walk_at "dlU")
  | ((with_reducible show MtD _ _ _ _ _ _); walk_at "dlM")
  | ((with_reducible show SlD _ _ _ _ _ _ _); walk_at "dlL")
  | ((with_reducible show SeD _ _ _ _ _ _ _); walk_at "dlW")
  | ((with_reducible show ∃ _ _ _, InsAt _ _ _ _ _ ∧ List.lookup _ _ = some _ ∧ _); refine ⟨_, _, _, .inl rfl, rfl, ?_⟩)
  | (show (∃ z, Dt.str _ = .str z) ∧ _; refine ⟨⟨_, rfl⟩, ?_⟩)
  | (show getElem? _ _ = some (Sl.sh _) ∧ _; refine ⟨rfl, ?_⟩)
  | (show Dt.real _ = true ∧ lent _ _ = false ∧ _; refine ⟨rfl, rfl, ?_⟩; dsimp only [List.set])
  | (show Dt.real _ = true ∧ _; refine ⟨rfl, ?_⟩)
  | (show lent _ _ = false ∧ _; refine ⟨rfl, ?_⟩; dsimp only [List.set])
  | (show allReal _ = true ∧ _; refine ⟨rfl, Nat.le_of_ble_eq_true rfl, ?_⟩)
  | (show (true = true → _) ∧ (true = false → _); refine ⟨fun _ => ?_, fun h => nomatch h⟩)
  | (show (false = true → _) ∧ (false = false → _); refine ⟨(fun h => nomatch h), fun _ => ?_⟩)
  | (refine ⟨_, rfl, _, (fun P p => e_int p), ?_⟩)
  | (refine ⟨_, rfl, _, (fun P p => e_var rfl p), ?_⟩)
  | (refine ⟨_, rfl, ?_⟩)
  | fail "dl")
local macro_rules | `(tactic| walk_at "dl") => `(tactic| repeat' walk_at "dl1")
local macro_rules | `(tactic| walk_at "dq") => `(tactic| repeat' ((fail_if_success (with_reducible show StD _ _ (tSeq (tAsg _ _) _) _ _)); (fail_if_success (with_reducible show StD _ _ (tAsg _ _) _ _)); walk_at "dl1"))
local macro_rules | `(tactic| walk_at "dls") => `(tactic| repeat' (first | walk_at "dl1" | (refine ⟨fun hb => ?_, fun hb => ?_⟩) | fail "dls"))
local macro_rules | `(tactic| walk_at "fg") => `(tactic| repeat (first | exact Fg.nil | (with_reducible refine Fg.keep ?_) | (refine Fg.drop ?_) | (refine Fg.drop ?_ (slS_ln _))))

section
variable {P : Program} {w : World} {K : DL.Frag} {mg : Str → Option Value} {base : Heap}
theorem atI_last {ds : List Dt} (h : ds ≠ []) : atI ds (-1) = ds[ds.length - 1]? := by
  have hl : 0 < ds.length := List.length_pos_iff.mpr h
  unfold atI ixN
  rw [if_neg (by decide), if_pos (by omega)]
  show ds[(-1 + (ds.length : Int)).toNat]? = _
  congr 1
  omega
theorem e_made {W : WX} {ρ : En} {x : PX} {te : TE} {Q : Dt → En → Prop} (h : EvD K W te ρ x fun d ρ1 => ∃ m, d = dicD (kvL m) ∧ mOk m ∧ Q (.lst (match badN m with | some n => [.str n, .bl true] | none => [])) ρ1) : EvD K W (tCallS (DSp K sp_law_made) (WE W) (tCons te tNil)) ρ x Q := by
  refine e_call (a_cons (h.mono fun d ρ1 ⟨m, e1, e2, e3⟩ => a_nil ⟨m, by rw [e1]; rfl, by rw [e1]; rfl, e2, fun z hz => ?_, fun _ z => z.elim⟩))
  cases (show z = _ from hz)
  exact e3
/-- what is shown as itself -/
def showD (d : Dt) : Prop := ∃ p, d.pd = some p ∧ p.showable = true ∧ p.hasDict = false ∧ p.depth ≤ 60 ∧ p.shown.length ≤ 1000000
def oddT : List Dt := [.int (-1), .bl true, .non, .str "2", .bl false, .lst [.int 1], .int (0 - 10 ^ 20)]
def timesOk (d : Dt) : Prop := plainD d ∧ isInt d 0 none = false ∧ (∃ t, d.tyN = some t ∧ BiT t "mul" ∧ t ∈ tyNs) ∧ showD (.lst [.str "times", d])
theorem oddT_ok {d : Dt} (h : d ∈ oddT) : timesOk d := by
  unfold oddT at h
  simp only [List.mem_cons, List.mem_nil_iff, or_false] at h
  rcases h with rfl | rfl | rfl | rfl | rfl | rfl | rfl
  · exact ⟨⟨rfl, rfl⟩, rfl, ⟨_, rfl, bi_int_mul, by decide⟩, _, rfl, rfl, rfl, by decide, by decide +kernel⟩
  · exact ⟨⟨rfl, rfl⟩, rfl, ⟨_, rfl, bi_bool_mul, by decide⟩, _, rfl, rfl, rfl, by decide, by decide +kernel⟩
  · exact ⟨⟨rfl, rfl⟩, rfl, ⟨_, rfl, bi_none_mul, by decide⟩, _, rfl, rfl, rfl, by decide, by decide +kernel⟩
  · exact ⟨⟨rfl, rfl⟩, rfl, ⟨_, rfl, bi_str_mul, by decide⟩, _, rfl, rfl, rfl, by decide, by decide +kernel⟩
  · exact ⟨⟨rfl, rfl⟩, rfl, ⟨_, rfl, bi_bool_mul, by decide⟩, _, rfl, rfl, rfl, by decide, by decide +kernel⟩
  · exact ⟨⟨rfl, rfl⟩, rfl, ⟨_, rfl, bi_list_mul, by decide⟩, _, rfl, rfl, rfl, by decide, by decide +kernel⟩
  · exact ⟨⟨rfl, rfl⟩, rfl, ⟨_, rfl, bi_int_mul, by decide⟩, _, rfl, rfl, rfl, by decide, by decide +kernel⟩
theorem due_show {d : Dt} (h : d ∈ dueL) : showD (.lst [.str "number", d]) := by
  unfold dueL at h
  simp only [List.mem_cons, List.mem_nil_iff, or_false] at h
  rcases h with rfl | rfl | rfl | rfl <;> exact ⟨_, rfl, rfl, rfl, by decide, by decide +kernel⟩
def sp_law_refused (K : DL.Frag) : Osp where
  I := (Int × Int) × AL
  own i := tapeD i.1
  arg i := [dicD (chL i.2), actD K (i.2.filter nz)]
  pre i := tapeOk i.1 ∧ drawn i.2
  post _ d o := d = .bl true ∧ ∃ t, o = tapeD t ∧ tapeOk t
theorem ok_law_refused (T : Tx K mg) : FnGQ P w K mg base 7 "_law_refused" ["_law_tape_here", "_law_changes_here", "_law_made_here"] (OSp K (sp_law_refused K)) := by
  have G_law_made := ok_law_made (P := P) (w := w) (base := base) T
  have G_law_of := ok_law_of (P := P) (w := w) (base := base) T
  have G_law_pick := ok_law_pick (P := P) (w := w) (base := base) T
  have G_law_times := ok_law_times (P := P) (w := w) (base := base) T
  obtain ⟨fd, F⟩ := T.F_law_refused
  refine ⟨_, fd, T.g_law_refused, F.kp, fn_bodyOQ F sc_law_refused (fun _ => rfl) (fun cdv A outer s H E qt hr tk po => ?_), F.bindsN fun _ _ _ _ _ _ us hl => match us, hl with | [_, _, _], _ => rfl⟩
  refine ⟨_, (pss_cons (ps_set (i := 3) sc_law_refused.nd rfl (Or.inl rfl) (pe_callB (call_sortU (K := K) rfl rfl) (by rfl) T.n_sorted (by decide +kernel) (pa_cons (pe_callTy (call_listU (K := K) rfl rfl) (by rfl) T.n_list (by decide +kernel) (pa_cons (pv 1) pa_nil)) pa_nil)))
  (pss_cons (ps_set (i := 4) sc_law_refused.nd rfl (Or.inl rfl) (pe_fn G_law_pick (hr.mono (by decide)) tk rfl (pa_cons (pv 0) (pa_cons (pe_callB (call_lenV (K := K) rfl) (by rfl) T.n_len (by decide +kernel) (pa_cons (pv 3) pa_nil)) pa_nil))))
  (pss_cons (ps_set (i := 5) sc_law_refused.nd rfl (Or.inl rfl) (pe_lst (pa_cons (pe_tup (pa_cons pe_str (pa_cons (pe_un un_neg pe_int) pa_nil))) (pa_cons (pe_tup (pa_cons pe_str (pa_cons (pe_un un_neg pe_int) pa_nil))) (pa_cons (pe_tup (pa_cons pe_str (pa_cons pe_int pa_nil))) (pa_cons (pe_tup (pa_cons pe_str pa_nil)) (pa_cons (pe_tup (pa_cons pe_str (pa_cons pe_int (pa_cons pe_int pa_nil)))) (pa_cons (pe_lst (pa_cons pe_str (pa_cons pe_int pa_nil))) (pa_cons pe_str (pa_cons pe_non (pa_cons (pe_tup (pa_cons pe_str (pa_cons pe_bl pa_nil))) (pa_cons pe_int pa_nil))))))))))))
  (pss_cons (ps_set (i := 5) sc_law_refused.nd rfl (Or.inl rfl) (pe_op (op_addV (K := K) rfl) (pv 5) (pe_lst (pa_cons (pe_tup (pa_cons pe_str (pa_cons pe_str pa_nil))) (pa_cons (pe_tup (pa_cons pe_str (pa_cons pe_non pa_nil))) (pa_cons (pe_tup (pa_cons pe_int (pa_cons pe_str pa_nil))) (pa_cons (pe_tup (pa_cons pe_str (pa_cons pe_int pa_nil))) (pa_cons (pe_tup pa_nil) pa_nil))))))))
  (pss_cons (ps_set (i := 6) sc_law_refused.nd rfl (Or.inl rfl) (pe_callTy (call_dictU (K := K) rfl rfl) (by rfl) T.n_dict (by decide +kernel) (pa_cons (pv 1) pa_nil)))
  (pss_cons (ps_asg (pe_ix (ix_V (K := K) rfl hr.units) (pv 5) (pe_fn G_law_pick (hr.mono (by decide)) tk rfl (pa_cons (pv 0) (pa_cons pe_int pa_nil))) (fun _ _ => rfl)) (pg_sub (pv 6) (pe_ix (ix_V (K := K) rfl hr.units) (pv 3) (pv 4) (fun _ _ => rfl)) (set_V hr.units)))
  (pss_cons (ps_asg (pe_ix (ix_V (K := K) rfl hr.units) (pv 5) (pe_fn G_law_pick (hr.mono (by decide)) tk rfl (pa_cons (pv 0) (pa_cons pe_int pa_nil))) (fun _ _ => rfl)) (pg_sub (pv 6) (pe_ix (ix_V (K := K) rfl hr.units) (pv 3) (pe_un un_neg pe_int) (fun _ _ => rfl)) (set_V hr.units)))
  (pss_cons (ps_if (PW.pt (pw_or (pt_cmpR (op_neV2 (K := K) rfl hr.units) (pe_fn G_law_made (hr.mono (by decide)) tk rfl (pa_cons (pv 6) pa_nil)) (pe_lst (pa_cons (pe_ix (ix_V (K := K) rfl hr.units) (pv 3) (pv 4) (fun _ _ => rfl)) (pa_cons pe_bl pa_nil))) (nomark _)) (pw_or1 (pt_cmpR (op_neV2 (K := K) rfl hr.units) (pe_fn G_law_made (hr.mono (by decide)) tk rfl (pa_cons (pv 1) pa_nil)) (pe_lst pa_nil) (nomark _))))) (pss_one (ps_ret pe_bl)) pss_nil)
  (pss_cons (ps_set (i := 7) sc_law_refused.nd rfl (Or.inl rfl) (pe_ix (ix_V (K := K) rfl hr.units) (pe_lst (pa_cons pe_str (pa_cons pe_str (pa_cons pe_str (pa_cons pe_str (pa_cons pe_str pa_nil)))))) (pe_fn G_law_pick (hr.mono (by decide)) tk rfl (pa_cons (pv 0) (pa_cons pe_int pa_nil))) (fun _ _ => rfl)))
  (pss_cons (ps_set (i := 6) sc_law_refused.nd rfl (Or.inl rfl) (pe_callTy (call_dictU (K := K) rfl rfl) (by rfl) T.n_dict (by decide +kernel) (pa_cons (pe_op (op_addV (K := K) rfl) (pe_listItV (K := K) rfl rfl (pv 1) rfl T.n_list (by decide +kernel)) (pe_lst (pa_cons (pe_tup (pa_cons (pv 7) (pa_cons (pe_tup (pa_cons pe_str (pa_cons pe_int pa_nil))) pa_nil))) (pa_cons (pe_tup (pa_cons pe_str (pa_cons (pe_tup (pa_cons pe_str (pa_cons (pe_un un_neg pe_int) pa_nil))) pa_nil))) pa_nil)))) pa_nil)))
  (pss_cons (ps_if (pt_cmpR (op_neV2 (K := K) rfl hr.units) (pe_fn G_law_made (hr.mono (by decide)) tk rfl (pa_cons (pv 6) pa_nil)) (pe_lst (pa_cons (pe_ifExp (pt_cmpR (op_ltK (K := K) rfl hr.units) (pv 7) pe_str (nomark _)) (pv 7) pe_str) (pa_cons pe_bl pa_nil))) (nomark _)) (pss_one (ps_ret pe_bl)) pss_nil)
  (pss_cons (ps_for po rfl (pi_listK (K := K) rfl (pe_lst (pa_cons (pe_un un_neg pe_int) (pa_cons pe_bl (pa_cons pe_non (pa_cons pe_str (pa_cons pe_bl (pa_cons (pe_lst (pa_cons pe_int pa_nil)) (pa_cons (pe_op op_sub pe_int (pe_op op_pow pe_int pe_int)) pa_nil))))))))) (pg_name (i := 8) sc_law_refused.nd rfl (Or.inl rfl) (Or.inl rfl)) (pss_one (ps_if (pt_cmpR (op_neV2 (K := K) rfl hr.units) (pe_callB (call_reprQ (K := K) rfl qt hr.units) (by rfl) T.n_repr (by decide +kernel) (pa_cons (pe_fn G_law_times (hr.mono (by decide)) tk rfl (pa_cons (pv 2) (pa_cons (pv 8) pa_nil))) pa_nil)) (pe_callB (call_reprQ (K := K) rfl qt hr.units) (by rfl) T.n_repr (by decide +kernel) (pa_cons (pe_lst (pa_cons pe_str (pa_cons (pv 8) pa_nil))) pa_nil)) (nomark _)) (pss_one (ps_ret pe_bl)) pss_nil)))
  (pss_cons (ps_set (i := 9) sc_law_refused.nd rfl (Or.inl rfl) (pe_callTy (call_dictU (K := K) rfl rfl) (by rfl) T.n_dict (by decide +kernel) (pa_cons (pe_op (op_addV (K := K) rfl) (pe_lst (pa_cons (pe_tup (pa_cons pe_str (pa_cons (pe_un un_neg pe_int) pa_nil))) pa_nil)) (pe_lc (own := [("_law_name", 12)]) rfl sc_law_refused.nd (pi_listK (K := K) rfl (pe_op (op_addV (K := K) rfl) (pe_revL (pv 3)) (pe_lst (pa_cons pe_str pa_nil)))) (blkOk_by (N := ["_law_tape_here", "_law_changes_here", "_law_made_here", "_law_names", "_law_at", "_law_odd", "_law_wrong", "_law_bad", "_law_times_here", "_law_numbers", "_law_told", "_law_due", "_law_name"]) (sc := defScope s_law_refused) (by decide +kernel)) (fun _ _ _ _ _ => (pg_name (i := 12) sc_law_refused.nd rfl (Or.inl rfl) (Or.inr rfl))) (fun _ _ _ _ _ => pts_nil) (fun _ _ _ _ _ => (pe_tup (pa_cons (pv 12) (pa_cons pe_int pa_nil)))))) pa_nil)))
  (pss_cons (ps_asg (pe_ix (ix_V (K := K) rfl hr.units) (pe_lst (pa_cons (pe_un un_neg pe_int) (pa_cons pe_non (pa_cons pe_bl (pa_cons pe_str pa_nil))))) (pe_fn G_law_pick (hr.mono (by decide)) tk rfl (pa_cons (pv 0) (pa_cons pe_int pa_nil))) (fun _ _ => rfl)) (pg_sub (pv 9) (pe_ix (ix_V (K := K) rfl hr.units) (pv 3) (pv 4) (fun _ _ => rfl)) (set_V hr.units)))
  (pss_cons (ps_set (i := 10) sc_law_refused.nd rfl (Or.inl rfl) (pe_fn G_law_of (hr.mono (by decide)) tk rfl (pa_cons (pv 2) (pa_cons (pv 9) pa_nil))))
  (pss_cons (ps_set (i := 11) sc_law_refused.nd rfl (Or.inl rfl) (pe_ifExp (pt_cmpR (op_ltK (K := K) rfl hr.units) (pe_ix (ix_V (K := K) rfl hr.units) (pv 3) (pv 4) (fun _ _ => rfl)) pe_str (nomark _)) (pe_ix (ix_V (K := K) rfl hr.units) (pv 9) (pe_ix (ix_V (K := K) rfl hr.units) (pv 3) (pv 4) (fun _ _ => rfl)) (fun _ _ => rfl)) (pe_un un_neg pe_int)))
  (pss_one (ps_ret (pe_cmpR (op_eqV2 (K := K) rfl hr.units) (pe_callB (call_reprQ (K := K) rfl qt hr.units) (by rfl) T.n_repr (by decide +kernel) (pa_cons (pv 10) pa_nil)) (pe_callB (call_reprQ (K := K) rfl qt hr.units) (by rfl) T.n_repr (by decide +kernel) (pa_cons (pe_lst (pa_cons pe_str (pa_cons (pv 11) pa_nil))) pa_nil)) (nomark _)))))))))))))))))))), fun (i : (Int × Int) × AL) hp Z hn hq hx => ?_⟩
  try dsimp only [cxB, cxOf]
  clear qt tk po hr F G_law_made G_law_of G_law_pick G_law_times
  obtain ⟨t, l⟩ := i
  obtain ⟨ht, hl⟩ : tapeOk t ∧ drawn l := hp
  have hq : ∀ t ρ, ρ[0]? = some (.ow true (tapeD t)) → tapeOk t → Z.rt (.bl true) ρ := fun t ρ a b => hq _ _ ρ a ⟨rfl, t, rfl, b⟩
  show StD K _ _ [.ow true (tapeD t), .sh (dicD (chL l)), .sh (actD K (l.filter nz)), .no, .no, .no, .no, .no, .no, .no, .no, .no, .no] _
  clear hn hx
  have hg := drawn_good hl
  have hll := hl.2.1
  have hl0 : l.length ≠ 0 := fun e => hl.1 (List.eq_nil_of_length_eq_zero e)
  -- names
  walk_at "dl"
  refine c_new (cn_listD (.inl rfl) ?_)
  rw [keys_chL]
  walk_at "dl"
  refine c_new (cn_sortS (.inl rfl) (by rw [List.length_map]; omega) ⟨rfl, rfl, ?_⟩)
  obtain ⟨ns, hns⟩ : ∃ ns, ns = sortS (l.map (·.1)) := ⟨_, rfl⟩
  rw [← hns]
  have hnl : ns.length = l.length := by rw [hns, sortS_len, List.length_map]
  have hnd : ns.Nodup := by rw [hns]; exact (sortS_perm _).nodup_iff.mpr hl.2.2.1
  have hn5 : ∀ w ∈ ns, w ∈ five := fun w hw => by
    obtain ⟨p, hp, rfl⟩ := List.mem_map.mp ((sortS_perm _).mem_iff.mp (hns ▸ hw))
    exact hl.2.2.2.1 p hp
  dsimp only [List.set]
  refine ss_set (e_pick ?_ ⟨_, _, rfl⟩)
  walk_at "dl"
  rw [strs_len]
  refine ⟨_, true, t, rfl, rfl, ht, by omega, by omega, fun a t1 ht1 ha0 ha1 => ⟨rfl, rfl, ?_⟩⟩
  dsimp only [List.set]
  have hat : a.toNat < ns.length := by omega
  obtain ⟨n, hna⟩ : ∃ n, ns[a.toNat]? = some n := ⟨_, List.getElem?_eq_getElem hat⟩
  have hix : atI (strsD ns) a = some (.str n) := by
    rw [atI_get ha0 (by rw [strs_len]; exact ha1)]
    unfold strsD
    rw [List.getElem?_map, hna]
    rfl
  obtain ⟨z, hnz⟩ : ∃ z, ns[ns.length - 1]? = some z := ⟨_, List.getElem?_eq_getElem (by omega)⟩
  have hiz : atI (strsD ns) (-1) = some (.str z) := by
    rw [atI_last (by intro e; rw [← strs_len, e] at hnl; exact hl0 hnl.symm), strs_len]
    unfold strsD
    rw [List.getElem?_map, hnz]
    rfl
  -- the odd ones
  walk_at "dl"
  refine o_cat (.inl rfl) (.inl rfl) (by decide) ⟨rfl, rfl, ?_⟩
  show StD K _ _ [.ow true (tapeD t1), .sh (dicD (chL l)), .sh (actD K (l.filter nz)), .sh (.lst (strsD ns)), .sh (.int a), .sh (.lst oddL), .no, .no, .no, .no, .no, .no, .no] _
  refine ss_own (n_cb (a_cons (e_var rfl (a_nil (cn_dict (.inl rfl) ⟨rfl, ?_⟩)))))
  dsimp only [List.set]
  refine ss_put (e_op (e_var rfl (e_pick (e_int ⟨15, true, t1, rfl, rfl, ht1, by decide, by decide, fun r t2 ht2 h0 h15 => ?_⟩) ⟨_, _, rfl⟩)))
  obtain ⟨d1, hd1, hm1, _⟩ := atI_at (ds := oddL) h0 h15
  refine v_ix (o_ixL hd1 ⟨(odd_ok hm1).2.1.1, ?_⟩)
  dsimp only [List.set]
  refine e_own rfl (e_op (e_var rfl (e_var rfl (v_ix (o_ixL hix (w_dic rfl rfl (by rw [chL_map, List.length_map]; omega) ?_))))))
  dsimp only [List.set]
  refine ss_put (e_op (e_var rfl (e_pick (e_int ⟨15, true, t2, rfl, rfl, ht2, by decide, by decide, fun r t3 ht3 h0 h15 => ?_⟩) ⟨_, _, rfl⟩)))
  obtain ⟨d2, hd2, hm2, _⟩ := atI_at (ds := oddL) h0 h15
  refine v_ix (o_ixL hd2 ⟨(odd_ok hm2).2.1.1, ?_⟩)
  dsimp only [List.set]
  have hpl : (putD (chL l) (Sum.inr n) d1).length < 100000 := by
    have := putD_len (chL l) (Sum.inr n) d1
    rw [chL_map, List.length_map] at this
    rw [chL_map]
    omega
  refine e_own rfl (e_op (e_var rfl (e_un (e_int (u_neg (v_ix (o_ixL hiz (w_dic rfl rfl hpl ?_))))))))
  dsimp only [List.set]
  obtain ⟨hm, hbad⟩ := bad_one hl hns hna hnz hm1 hm2
  rw [show putD (putD (chL l) (Sum.inr n) d1) (Sum.inr z) d2 = kvL (putM (putM (chM l) n d1) z d2) by unfold chL; rw [kvL_put, kvL_put]]
  refine s_freeze 6 rfl ?_
  dsimp only [List.set]
  -- the first two
  refine ss_skip (ρ' := [.ow true (tapeD t3), .sh (dicD (chL l)), .sh (actD K (l.filter nz)), .sh (.lst (strsD ns)), .sh (.int a), .sh (.lst oddL), .sh (dicD (kvL (putM (putM (chM l) n d1) z d2))), .no, .no, .no, .no, .no, .no]) ?_ ?_
  · refine t_or (t_test (e_op (e_made (e_var rfl ⟨_, rfl, hm, ?_⟩))))
    rw [hbad]
    walk_at "dl"
    refine v_ix (o_ixL hix ?_)
    walk_at "dl"
    rw [SeqAt.eqv_refl_plain _ (Dt.pd_plain (d := .lst [.str n, .bl true]) rfl)]
    refine ⟨(fun h => nomatch h), fun _ => t_test (e_op (e_made (e_var rfl ⟨chM l, rfl, good_ok hg, ?_⟩)))⟩
    rw [good_bad hg]
    walk_at "dl"
    exact ⟨rfl, rfl⟩
  -- a name that is none
  walk_at "dq"
  refine ss_set (e_op (e_lst (a_cons (e_str (a_cons (e_str (a_cons (e_str (a_cons (e_str (a_cons (e_str (a_nil ⟨rfl, Nat.le_of_ble_eq_true rfl, ?_⟩))))))))))))) 
  refine e_pick (e_int ⟨5, true, t3, rfl, rfl, ht3, by decide, by decide, fun r t4 ht4 h0 h5 => ?_⟩) ⟨_, _, rfl⟩
  dsimp only [List.set]
  obtain ⟨d3, hd3, hm3, _⟩ := atI_at (ds := strsD badL) h0 h5
  obtain ⟨b, hb, rfl⟩ := strs_mem hm3
  refine v_ix (o_ixL hd3 ⟨rfl, rfl, ?_⟩)
  dsimp only [List.set]
  obtain ⟨hm2, hbad2⟩ := bad_two hl hb
  obtain ⟨b1, b2, b3, b4, b5, b6⟩ := badL_ok b hb
  refine ss_own (n_cb (a_cons (e_op (e_itV (e_var rfl ⟨_, .inl rfl, ?_⟩)))))
  walk_at "dl"
  refine o_cat (.inl rfl) (.inl rfl) (by unfold pairsD; rw [List.length_map, chL_map, List.length_map]; simp; omega) ?_
  have e2 : pairsD (chL l) ++ [Dt.tup [Dt.str b, Dt.tup [Dt.str "add", Dt.int 1]], Dt.tup [Dt.str "zzzzzzzz", Dt.tup [Dt.str "add", Dt.int (-1)]]] = pairsD (kvL (twoM l b)) := by
    unfold twoM
    rw [kvL_app]
    unfold pairsD
    rw [List.map_append]
    rfl
  rw [e2]
  refine a_nil (cn_dictP ⟨rfl, ?_⟩)
  rw [mergeD_new _ _ (by rw [List.nil_append, kvL_keys]; exact nodup_inr.mpr hm2.2.1), List.nil_append]
  dsimp only [List.set]
  refine s_freeze 6 rfl ?_
  dsimp only [List.set]
  refine ss_skip (ρ' := [.ow true (tapeD t4), .sh (dicD (chL l)), .sh (actD K (l.filter nz)), .sh (.lst (strsD ns)), .sh (.int a), .sh (.lst oddL), .sh (dicD (kvL (twoM l b))), .sh (.str b), .no, .no, .no, .no, .no]) ?_ ?_
  · refine t_test (e_op (e_made (e_var rfl ⟨_, rfl, hm2, ?_⟩)))
    rw [hbad2]
    walk_at "dl"
    rw [show decide (b.cps.toList < (("zzzzzzzz" : Str)).cps.toList) = true from b6]
    walk_at "dl"
    rw [SeqAt.eqv_refl_plain _ (Dt.pd_plain (d := .lst [.str b, .bl true]) rfl)]
    exact ⟨rfl, rfl⟩
  -- times
  have hnzl : ∀ p ∈ l.filter nz, nz p = true ∧ p.2.2 < 2 ^ 400 := fun p hp => by
    obtain ⟨h1, h2⟩ := List.mem_filter.mp hp
    have := hl.2.2.2.2 p h1
    exact ⟨h2, by omega⟩
  have hgl : good (l.filter nz) := by
    have := List.length_filter_le nz l
    exact ⟨by omega, hg.2.1.sublist ((List.filter_sublist (l := l)).map _), fun p hp => hg.2.2 p (List.mem_filter.mp hp).1⟩
  refine ss_for ?_
  walk_at "dl"
  refine ⟨fun k ρ => ∃ s, ρ = [.ow true (tapeD t4), .sh (dicD (chL l)), .sh (actD K (l.filter nz)), .sh (.lst (strsD ns)), .sh (.int a), .sh (.lst oddL), .sh (dicD (kvL (twoM l b))), .sh (.str b), slS s, .no, .no, .no, .no], ⟨none, rfl⟩, ?_, ?_⟩
  · rintro k _ z hz ⟨s, rfl⟩ Z' LZ
    have hz : z ∈ oddT := List.mem_of_getElem? hz
    obtain ⟨h1, h2, h3, p, hp1, hp2, hp3, hp4, hp5⟩ := oddT_ok hz
    refine g_name rfl (by cases s <;> rfl) ?_
    dsimp only [List.set]
    refine s_skip ?_
    refine t_test (e_op (e_cb (a_cons (e_call ?_))))
    walk_at "dl"
    refine ⟨(l.filter nz, z), rfl, by show [actD K (l.filter nz), z].all Dt.real = true; rw [List.all_cons, List.all_cons, h1.1]; rfl, ⟨hgl, hnzl, h1, h2, h3⟩, ?_, fun _ z => z.elim⟩
    rintro _ rfl
    refine a_nil (c_repr hp1 (.inl ⟨_, rfl⟩) hp2 hp3 hp4 hp5 ?_)
    refine e_cb (a_cons (e_lst (a_cons (e_str (a_cons (e_var rfl (a_nil ⟨by show [Dt.str "times", z].all Dt.real = true; rw [List.all_cons, List.all_cons, h1.1]; rfl, Nat.le_of_ble_eq_true rfl, ?_⟩)))))))
    refine a_nil (c_repr hp1 (.inl ⟨_, rfl⟩) hp2 hp3 hp4 hp5 ?_)
    walk_at "dl"
    refine ⟨?_, LZ.nx _ _ (.refl _) ⟨some z, rfl⟩⟩
    simp
  -- numbers
  · rintro _ ⟨s, rfl⟩
    refine ss_own (n_cb (a_cons (e_op ?_)))
    walk_at "dl"
    refine e_new (n_lcM (i_list (e_op (e_new (n_rev (e_var rfl ⟨_, .inl rfl, ?_⟩))))))
    walk_at "dl"
    have hre : (strsD ns).reverse ++ strsD [nnS] = strsD (ns.reverse ++ [nnS]) := by unfold strsD; rw [List.map_append, List.map_reverse]
    refine o_cat (.inl rfl) (.inl (show Dt.lst _ = Dt.lst (strsD [nnS]) from rfl)) (by rw [List.length_reverse, strs_len, strs_len, hnl]; have : [nnS].length = 1 := rfl; omega) ?_
    rw [hre]
    refine ⟨_, rfl, rfl, Str, ns.reverse ++ [nnS], .str, rfl, by rw [List.length_append, List.length_reverse]; simp; omega, fun n => .tup [.str n, .int 4], fun y hy => ?_, ?_⟩
    · dsimp only [wipeE, List.map, List.set]
      walk_at "dl"
      exact ⟨rfl, rfl, rfl, rfl⟩
    dsimp only [wipeE, List.map, List.set]
    refine o_cat (.inl rfl) (.inl rfl) (by rw [List.length_map, List.length_append, List.length_reverse]; simp; omega) ?_
    have e3 : [Dt.tup [Dt.str "zzz", Dt.int (-7)]] ++ ((ns.reverse ++ [nnS]).map fun n => Dt.tup [.str n, .int 4]) = pairsD (kvL (numM ns)) := by
      unfold numM pairsD kvL
      rw [List.map_map, List.map_cons, List.map_map]
      rfl
    rw [e3]
    refine a_nil (cn_dictP ⟨rfl, ?_⟩)
    rw [mergeD_new _ _ (by rw [List.nil_append, kvL_keys]; exact nodup_inr.mpr (numM_nd hnd hn5)), List.nil_append]
    dsimp only [List.set]
    refine ss_put (e_op ?_)
    walk_at "dl"
    refine e_pick (e_int ⟨4, true, t4, rfl, rfl, ht4, by decide, by decide, fun r t5 ht5 h0 h4 => ?_⟩) ⟨_, _, rfl⟩
    dsimp only [List.set]
    obtain ⟨dv, hdv, hmv, _⟩ := atI_at (ds := dueL) h0 h4
    refine v_ix (o_ixL hdv ⟨(due_ok hmv).2.1, ?_⟩)
    refine e_own rfl (e_op (e_var rfl (e_var rfl (v_ix (o_ixL hix (w_dic rfl rfl (by unfold kvL numM; simp; omega) ?_))))))
    dsimp only [List.set]
    rw [kvL_put]
    obtain ⟨hp, hb3, hlk⟩ := bad_three hnd (by omega) hn5 (List.mem_of_getElem? hna) hmv
    refine s_freeze 9 rfl ?_
    dsimp only [List.set]
    refine ss_set (e_call ?_)
    walk_at "dl"
    refine ⟨(l.filter nz, putM (numM ns) n dv), rfl, rfl, hp, ?_, fun _ z => z.elim⟩
    rintro _ ⟨n', z', hn', hz', rfl⟩
    have hn' : badV (putM (numM ns) n dv) = some n' := hn'
    have hz' : looks (putM (numM ns) n dv) n' = some z' := hz'
    rw [hb3] at hn'
    cases hn'
    rw [hlk] at hz'
    cases hz'
    refine ⟨rfl, rfl, ?_⟩
    dsimp only [List.set]
    refine ss_set (e_if (t_test (e_op (e_op (e_var rfl (e_var rfl (v_ix (o_ixL hix ?_))))))))
    walk_at "dl"
    rw [show decide (n.cps.toList < (("zzz" : Str)).cps.toList) = true from (five_z3 n (hn5 n (List.mem_of_getElem? hna))).2.2.2]
    refine ⟨fun _ => ?_, fun h => nomatch h⟩
    refine e_op (e_var rfl (e_op (e_var rfl (e_var rfl (v_ix (o_ixL hix (o_ixD (.inl rfl) rfl hlk ⟨(due_ok hmv).2.1, rfl, ?_⟩)))))))
    dsimp only [List.set]
    obtain ⟨p, hp1, hp2, hp3, hp4, hp5⟩ := due_show hmv
    refine s_ret (e_op (e_cb (a_cons (e_var rfl (a_nil (c_repr hp1 (.inl ⟨_, rfl⟩) hp2 hp3 hp4 hp5 ?_))))))
    refine e_cb (a_cons (e_lst (a_cons (e_str (a_cons (e_var rfl (a_nil ⟨by show [Dt.str "number", dv].all Dt.real = true; rw [List.all_cons, List.all_cons, (due_ok hmv).2.1]; rfl, Nat.le_of_ble_eq_true rfl, ?_⟩)))))))
    refine a_nil (c_repr hp1 (.inl ⟨_, rfl⟩) hp2 hp3 hp4 hp5 ?_)
    walk_at "dl"
    rw [decide_eq_true rfl]
    exact hq t5 _ rfl ht5

end
end T
set_option Elab.async false
set_option linter.all false
set_option maxRecDepth 100000
set_option autoImplicit false
set_option maxHeartbeats 4000000
namespace T
open PySem L2 PyProof.Rows DL
local macro_rules | `(tactic| walk_at "dlE") => `(tactic| first
  | ((with_reducible refine' e_var ?k1 ?_); (case k1 => rfl))
  | (with_reducible refine e_op ?_)
  | (with_reducible refine e_int ?_)
  | (with_reducible refine e_str ?_)
  | ((with_reducible refine' e_own ?k1 ?_); (case k1 => rfl))
  | (with_reducible refine e_cb ?_)
  | (with_reducible refine e_fld ?_)
  | (with_reducible refine e_bl ?_)
  | (with_reducible refine e_non ?_)
  | (with_reducible refine e_tup ?_)
  | (with_reducible refine e_lst ?_)
  | (with_reducible refine e_andV ?_)
  | (with_reducible refine e_orV ?_)
  | (with_reducible refine e_notV ?_)
  | (with_reducible refine e_chainC ?_)
  | (with_reducible refine e_chainU ?_)
  | (with_reducible refine e_chain ?_)
  | (with_reducible refine e_if ?_)
  | (with_reducible refine e_sl ?_)
  | (with_reducible refine e_bmS ?_)
  | (with_reducible refine e_bmL ?_)
  | (with_reducible refine e_opS ?_)
  | (with_reducible refine e_un ?_)
  | (with_reducible refine e_ty ?_)
  | (with_reducible refine e_ref ?_)
  | (with_reducible refine e_get2 ?_)
  | fail "dl")
local macro_rules | `(tactic| walk_at "dlO") => `(tactic| first
  | (with_reducible refine v_add (o_add ?_))
  | (with_reducible refine v_eq (o_eqI ?_))
  | (with_reducible refine v_eq (o_eqS ?_))
  | (with_reducible refine v_ne (o_neI ?_))
  | (with_reducible refine v_ne (o_neS ?_))
  | (with_reducible refine v_eq (o_eqB ?_))
  | (with_reducible refine v_ne (o_neB ?_))
  | (with_reducible refine o_cmpI ?_)
  | (with_reducible refine o_cmpS ?_)
  | ((with_reducible refine' v_ix (o_ixO ?k1 ?k2 ?_)); (case k1 => rfl); (case k2 => rfl))
  | ((with_reducible refine' v_ix (o_ixT ?k1 ?_)); (case k1 => rfl))
  | ((with_reducible refine' v_ix (o_ixL ?k1 ?_)); (case k1 => rfl))
  | (with_reducible refine o_I0 ?_)
  | (with_reducible refine o_B0 ?_)
  | ((with_reducible refine o_mul ?k1 ?_); (case k1 => omega))
  | ((with_reducible refine o_mod ?k1 ?_); (case k1 => omega))
  | ((with_reducible refine o_fdiv ?k1 ?k2 ?_); (case k1 => omega); (case k2 => omega))
  | ((with_reducible refine o_pow ?k1 ?_); (case k1 => exact ⟨by decide, by decide, by decide⟩))
  | ((with_reducible refine o_isN ?k1 ?_); (case k1 => rfl))
  | ((with_reducible refine o_isNotN ?k1 ?_); (case k1 => rfl))
  | (with_reducible refine o_isB ?_)
  | (with_reducible refine o_isNotB ?_)
  | ((with_reducible refine' v_eq (o_eqP ?k1 ?k2 ?k3 ?_)); (case k1 => rfl); (case k2 => rfl); (case k3 => exact Nat.le_of_ble_eq_true rfl))
  | ((with_reducible refine' v_ne (o_neP ?k1 ?k2 ?k3 ?_)); (case k1 => rfl); (case k2 => rfl); (case k3 => exact Nat.le_of_ble_eq_true rfl))
  | ((with_reducible refine' v_in (o_inT ?k1 ?k2 ?k3 ?_)); (case k1 => rfl); (case k2 => rfl); (case k3 => exact Nat.le_of_ble_eq_true rfl))
  | ((with_reducible refine' v_in (o_inL ?k1 ?k2 ?k3 ?_)); (case k1 => rfl); (case k2 => rfl); (case k3 => exact Nat.le_of_ble_eq_true rfl))
  | ((with_reducible refine' o_inD ?k1 ?k2 ?_); (case k1 => first | exact .inl rfl | exact .inr ⟨_, _, rfl, rfl⟩); (case k2 => rfl))
  | ((with_reducible refine v_add (o_addS ?k1 ?_)); (case k1 => (first | omega | (simp only [len_app, len_one]; omega))))
  | fail "dl")
local macro_rules | `(tactic| walk_at "dlS") => `(tactic| first
  | (with_reducible refine ss_set ?_)
  | (with_reducible refine ss_if ?_)
  | (with_reducible refine ss_drop ?_)
  | (with_reducible refine ss_put ?_)
  | (with_reducible refine ss_next ?_)
  | (with_reducible refine ss_ret ?_)
  | (with_reducible refine ss_assoc ?_)
  | ((with_reducible refine' ss_aug ?k1 ?_); (case k1 => rfl))
  | (with_reducible refine ss_rai1 ?_)
  | (with_reducible refine ss_rai0 ?_)
  | (with_reducible refine ss_fldN ?_)
  | ((with_reducible refine' s_aug ?k1 ?_); (case k1 => rfl))
  | (with_reducible refine s_rai1 ?_)
  | (with_reducible refine s_rai0 ?_)
  | (with_reducible refine s_set ?_)
  | (with_reducible refine s_if ?_)
  | (with_reducible refine s_drop ?_)
  | (with_reducible refine s_ret ?_)
  | (with_reducible refine s_put ?_)
  | (with_reducible refine s_next ?_)
  | (with_reducible refine s_fldN ?_)
  | fail "dl")
local macro_rules | `(tactic| walk_at "dlT") => `(tactic| first
  | (with_reducible refine t_test ?_)
  | (with_reducible refine t_tru ?_)
  | (with_reducible refine t_and ?_)
  | (with_reducible refine t_or ?_)
  | (with_reducible refine t_not ?_)
  | (with_reducible refine t_yes ?_)
  | fail "dl")
local macro_rules | `(tactic| walk_at "dlA") => `(tactic| first
  | (with_reducible refine a_cons ?_)
  | (with_reducible refine a_nil ?_)
  | fail "dl")
local macro_rules | `(tactic| walk_at "dlC") => `(tactic| first
  | (with_reducible refine v_len (c_lenL ?_))
  | (with_reducible refine v_len (c_lenT ?_))
  | ((with_reducible refine' v_len (c_lenO ?k1 ?_)); (case k1 => rfl))
  | (with_reducible refine c_int ?_)
  | (with_reducible refine c_abs ?_)
  | (with_reducible refine c_strS ?_)
  | (with_reducible refine c_tupT ?_)
  | (with_reducible refine c_max2 ?_)
  | (with_reducible refine c_min2 ?_)
  | ((with_reducible refine v_len (c_lenS ?k1 ?_)); (case k1 => omega))
  | ((with_reducible refine' c_isi ?k1 ?k2 ?_); (case k1 => rfl); (case k2 => first | exact kb_NoneType_bool | exact kb_NoneType_int | exact kb_NoneType_str | exact kb_NoneType_list | exact kb_NoneType_tuple | exact kb_NoneType_dict | exact kb_bool_bool | exact kb_bool_int | exact kb_bool_str | exact kb_bool_list | exact kb_bool_tuple | exact kb_bool_dict | exact kb_int_bool | exact kb_int_int | exact kb_int_str | exact kb_int_list | exact kb_int_tuple | exact kb_int_dict | exact kb_str_bool | exact kb_str_int | exact kb_str_str | exact kb_str_list | exact kb_str_tuple | exact kb_str_dict | exact kb_list_bool | exact kb_list_int | exact kb_list_str | exact kb_list_list | exact kb_list_tuple | exact kb_list_dict | exact kb_tuple_bool | exact kb_tuple_int | exact kb_tuple_str | exact kb_tuple_list | exact kb_tuple_tuple | exact kb_tuple_dict | exact kb_dict_bool | exact kb_dict_int | exact kb_dict_str | exact kb_dict_list | exact kb_dict_tuple | exact kb_dict_dict))
  | ((with_reducible refine' c_lenD ?k1 ?_); (case k1 => first | exact .inl rfl | exact .inr ⟨_, _, rfl, rfl⟩))
  | fail "dl")
local macro_rules | `(tactic| walk_at "dlU") => `(tactic| first
  | (with_reducible refine u_neg ?_)
  | fail "dl")
local macro_rules | `(tactic| walk_at "dlM") => `(tactic| first
  | ((with_reducible refine m_stripC ?k1 ?_); (case k1 => omega))
  | fail "dl")
local macro_rules | `(tactic| walk_at "dlL") => `(tactic| first
  | ((with_reducible refine l_str ?k1 ?_); (case k1 => omega))
  | fail "dl")
local macro_rules | `(tactic| walk_at "dlP") => `(tactic| first
  | (with_reducible refine p_none ?_)
  | (with_reducible refine p_some ?_)
  | fail "dl")
local macro_rules | `(tactic| walk_at "dlI") => `(tactic| first
  | (with_reducible refine i_list ?_)
  | (with_reducible refine i_tup ?_)
  | (with_reducible refine i_str ?_)
  | (with_reducible refine i_keys ?_)
  | (with_reducible refine i_items ?_)
  | (with_reducible refine i_vals ?_)
  | (with_reducible refine i_rng1 ?_)
  | (with_reducible refine i_rng2 ?_)
  | fail "dl")
local macro_rules | `(tactic| walk_at "dlg") => `(tactic| first
  | ((with_reducible refine g_name ?k1 ?k2 ?_); (case k1 => rfl); (case k2 => rfl); dsimp only [List.set])
  | ((with_reducible refine g_tup ?k1 ?_); (case k1 => rfl))
  | fail "dl")
local macro_rules | `(tactic| walk_at "dlh") => `(tactic| first
  | (with_reducible refine gs_nil ?_)
  | (with_reducible refine gs_cons ?_)
  | fail "dl")
local macro_rules | `(tactic| walk_at "dlW") => `(tactic| first
  | ((with_reducible refine' w_lstV ?k1 ?k2 ?_); (case k1 => rfl); (case k2 => rfl); dsimp only [List.set])
  | fail "dl")
local macro_rules | `(tactic| walk_at "dl1") => `(tactic| first
  | ((with_reducible show EvD _ _ _ _ _ _); walk_at "dlE")
  | ((with_reducible show OpD _ _ _ _ _ _); walk_at "dlO")
  | ((with_reducible show StD _ _ _ _ _); walk_at "dlS")
  | ((with_reducible show ArD _ _ _ _ _ _); walk_at "dlA")
  | ((with_reducible show TtD _ _ _ _ _ _); walk_at "dlT")
  | ((with_reducible show CaD _ _ _ _ _); walk_at "dlC")
  | ((with_reducible show PtD _ _ _ _ _ _); walk_at "dlP")
  | ((with_reducible show TgD _ _ _ _ _ _); walk_at "dlg")
  | ((with_reducible show ItD _ _ _ _ _ _); walk_at "dlI")
  | ((with_reducible show TgsD _ _ _ _ _ _); walk_at "dlh")
  | ((with_reducible show UnD _ _ _ _ _); walk_at "dlU")
  | ((with_reducible show MtD _ _ _ _ _ _); walk_at "dlM")
  | ((with_reducible show SlD _ _ _ _ _ _ _); walk_at "dlL")
  | ((with_reducible show SeD _ _ _ _ _ _ _); walk_at "dlW")
  | ((with_reducible show ∃ _ _ _, InsAt _ _ _ _ _ ∧ List.lookup _ _ = some _ ∧ _); refine ⟨_, _, _, .inl rfl, rfl, ?_⟩)
  | (show (∃ z, Dt.str _ = .str z) ∧ _; refine ⟨⟨_, rfl⟩, ?_⟩)
  | (show getElem? _ _ = some (Sl.sh _) ∧ _; refine ⟨rfl, ?_⟩)
  | (show Dt.real _ = true ∧ lent _ _ = false ∧ _; refine ⟨rfl, rfl, ?_⟩; dsimp only [List.set])
  | (show Dt.real _ = true ∧ _; refine ⟨rfl, ?_⟩)
  | (show lent _ _ = false ∧ _; refine ⟨rfl, ?_⟩; dsimp only [List.set])
  | (show allReal _ = true ∧ _; refine ⟨rfl, Nat.le_of_ble_eq_true rfl, ?_⟩)
  | (show (true = true → _) ∧ (true = false → _); refine ⟨fun _ => ?_, fun h => nomatch h⟩)
  | (show (false = true → _) ∧ (false = false → _); refine ⟨(fun h => nomatch h), fun _ => ?_⟩)
  | (refine ⟨_, rfl, _, (fun P p => e_int p), ?_⟩)
  | (refine ⟨_, rfl, _, (fun P p => e_var rfl p), ?_⟩)
  | (refine ⟨_, rfl, ?_⟩)
  | fail "dl")
local macro_rules | `(tactic| walk_at "dl") => `(tactic| repeat' walk_at "dl1")
local macro_rules | `(tactic| walk_at "dq") => `(tactic| repeat' ((fail_if_success (with_reducible show StD _ _ (tSeq (tAsg _ _) _) _ _)); (fail_if_success (with_reducible show StD _ _ (tAsg _ _) _ _)); walk_at "dl1"))
local macro_rules | `(tactic| walk_at "dls") => `(tactic| repeat' (first | walk_at "dl1" | (refine ⟨fun hb => ?_, fun hb => ?_⟩) | fail "dls"))
local macro_rules | `(tactic| walk_at "fg") => `(tactic| repeat (first | exact Fg.nil | (with_reducible refine Fg.keep ?_) | (refine Fg.drop ?_) | (refine Fg.drop ?_ (slS_ln _))))

section
variable {P : Program} {w : World} {K : DL.Frag} {mg : Str → Option Value} {base : Heap}
/-! ### powers, plainly -/
theorem putA_new {l : AL} {k : Str} {c : Ch} (h : k ∉ l.map (·.1)) : putA l k c = l ++ [(k, c)] := by
  unfold putA
  rw [if_neg]
  intro z
  obtain ⟨p, hp, e⟩ := List.any_eq_true.mp z
  exact h (List.mem_map.mpr ⟨p, hp, of_decide_eq_true e⟩)
theorem lookA_none {l : AL} {k : Str} (h : k ∉ l.map (·.1)) : lookA l k = none := by
  unfold lookA
  rw [List.find?_eq_none.mpr]
  · rfl
  · intro p hp z
    exact h (List.mem_map.mpr ⟨p, hp, of_decide_eq_true z⟩)
theorem addL_new : ∀ (b a : AL), ((a ++ b).map (·.1)).Nodup → addL a b = a ++ b
  | [], a, _ => (List.append_nil a).symm
  | p :: b, a, h => by
    show addL (putA a p.1 (behA a p)) b = _
    have hp : p.1 ∉ a.map (·.1) := fun z => by
      rw [List.map_append, List.nodup_append] at h
      exact h.2.2 _ z _ (by simp) rfl
    have hb : behA a p = p.2 := by unfold behA; rw [lookA_none hp]
    rw [putA_new hp, hb, addL_new b _ (by simpa using h)]
    simp
theorem lookA_app {a b : AL} {k : Str} (h : k ∉ a.map (·.1)) : lookA (a ++ b) k = lookA b k := by
  unfold lookA
  rw [List.find?_append, List.find?_eq_none.mpr]
  · rfl
  · intro p hp z
    exact h (List.mem_map.mpr ⟨p, hp, of_decide_eq_true z⟩)
theorem addL_same (f g : Ch → Ch) : ∀ (b a : AL), ((a ++ b).map (·.1)).Nodup →
    addL (a.map (fun p => (p.1, behC (f p.2) (g p.2))) ++ b.map fun p => (p.1, f p.2)) (b.map fun p => (p.1, g p.2)) = (a ++ b).map fun p => (p.1, behC (f p.2) (g p.2))
  | [], a, _ => by simp [addL]
  | p :: b, a, h => by
    have hk : ∀ (h : Ch → Ch) (l : AL), (l.map (fun p => (p.1, h p.2))).map (·.1) = l.map (·.1) := fun h l => by rw [List.map_map]; rfl
    have hpa : p.1 ∉ (a.map (fun p => (p.1, behC (f p.2) (g p.2)))).map (·.1) := by
      rw [List.map_map]
      intro z
      rw [List.map_append, List.nodup_append] at h
      exact h.2.2 _ z _ (by simp) rfl
    have hpb : ∀ q ∈ b, q.1 ≠ p.1 := fun q hq e => by
      rw [List.map_append, List.nodup_append] at h
      have := h.2.1
      rw [List.map_cons, List.nodup_cons] at this
      exact this.1 (e ▸ List.mem_map.mpr ⟨q, hq, rfl⟩)
    have hl : lookA (a.map (fun p => (p.1, behC (f p.2) (g p.2))) ++ (p :: b).map fun p => (p.1, f p.2)) p.1 = some (f p.2) := by
      rw [lookA_app hpa]
      unfold lookA
      rw [List.map_cons, List.find?_cons, decide_eq_true rfl]
      rfl
    have hput : putA (a.map (fun p => (p.1, behC (f p.2) (g p.2))) ++ (p :: b).map fun p => (p.1, f p.2)) p.1 (behC (f p.2) (g p.2)) = (a ++ [p]).map (fun p => (p.1, behC (f p.2) (g p.2))) ++ b.map fun p => (p.1, f p.2) := by
      unfold putA
      rw [if_pos]
      · rw [List.map_append, List.map_map]
        have e1 : (a.map ((fun q => if q.1 = p.1 then (q.1, behC (f p.2) (g p.2)) else q) ∘ fun p => (p.1, behC (f p.2) (g p.2)))) = a.map fun p => (p.1, behC (f p.2) (g p.2)) := by
          refine List.map_congr_left fun q hq => ?_
          dsimp only [Function.comp]
          rw [if_neg]
          intro e
          exact hpa (e ▸ List.mem_map.mpr ⟨_, List.mem_map.mpr ⟨q, hq, rfl⟩, rfl⟩)
        have e2 : ((b.map fun p => (p.1, f p.2)).map fun q => if q.1 = p.1 then (q.1, behC (f p.2) (g p.2)) else q) = b.map fun p => (p.1, f p.2) := by
          rw [List.map_map]
          refine List.map_congr_left fun q hq => ?_
          dsimp only [Function.comp]
          rw [if_neg (hpb q hq)]
        rw [e1, List.map_cons, List.map_cons, e2, if_pos rfl, List.map_append]
        simp
      · refine List.any_eq_true.mpr ⟨(p.1, f p.2), by simp, decide_eq_true rfl⟩
    show addL (putA _ p.1 (behA _ (p.1, g p.2))) (b.map fun p => (p.1, g p.2)) = _
    have hbe : behA (a.map (fun p => (p.1, behC (f p.2) (g p.2))) ++ (p :: b).map fun p => (p.1, f p.2)) (p.1, g p.2) = behC (f p.2) (g p.2) := by
      unfold behA
      rw [hl]
    rw [hbe, hput, addL_same f g b (a ++ [p]) (by simpa using h)]
    simp
theorem beh_rep (c : Ch) (m n : Nat) : behC (repC c m) (repC c n) = repC c (m + n) := by
  obtain ⟨b, k⟩ := c
  unfold behC repC
  cases b
  · simp [Nat.mul_add]
  · simp
theorem rep_rep (c : Ch) (m n : Nat) : repC (repC c m) n = repC c (m * n) := by
  obtain ⟨b, k⟩ := c
  unfold repC
  cases b
  · simp [Nat.mul_assoc]
  · simp
theorem rep_one (c : Ch) : repC c 1 = c := by
  obtain ⟨b, k⟩ := c
  unfold repC
  cases b <;> simp
theorem mulA_keys {l : AL} {n : Nat} (hn : n ≠ 0) : (mulA l n).map (·.1) = l.map (·.1) := by
  unfold mulA
  rw [if_neg hn, List.map_map]
  rfl
theorem mulA_zero (l : AL) : mulA l 0 = [] := by unfold mulA; rw [if_pos rfl]
theorem mulA_one (l : AL) : mulA l 1 = l := by
  unfold mulA
  rw [if_neg (by decide)]
  refine (List.map_congr_left fun p _ => ?_).trans (List.map_id _)
  rw [rep_one]
  rfl
theorem mulA_nz {l : AL} (h : ∀ p ∈ l, nz p = true) (n : Nat) : ∀ p ∈ mulA l n, nz p = true := fun p hp => by
  unfold mulA at hp
  split at hp
  · cases hp
  · rename_i hn
    obtain ⟨q, hq, rfl⟩ := List.mem_map.mp hp
    exact nz_rep hn (h q hq)
theorem mulA_val {l : AL} {n b : Nat} (h : ∀ p ∈ l, p.2.2 < b) (hb : 0 < b) (hn : n ≤ 2 ^ 150) : ∀ p ∈ mulA l n, p.2.2 < b * 2 ^ 150 := fun p hp => by
  unfold mulA at hp
  split at hp
  · cases hp
  · obtain ⟨⟨y, s, v⟩, hq, rfl⟩ := List.mem_map.mp hp
    have hv : v < b := h _ hq
    show (repC (s, v) n).2 < b * 2 ^ 150
    unfold repC
    cases s
    · show v * n < b * 2 ^ 150
      exact Nat.lt_of_le_of_lt (Nat.mul_le_mul_left v hn) ((Nat.mul_lt_mul_right (by decide)).mpr hv)
    · show v < b * 2 ^ 150
      exact Nat.lt_of_lt_of_le hv (Nat.le_mul_of_pos_right b (by decide))
theorem mulA_good {l : AL} (h : good l) (n : Nat) : good (mulA l n) := by
  by_cases hn : n = 0
  · subst hn
    rw [mulA_zero]
    exact ⟨by decide, List.nodup_nil, fun _ h => nomatch h⟩
  · refine good_of ?_ ?_
    · rw [mulA_keys hn]
      exact goodK_of h
    · unfold mulA
      rw [if_neg hn, List.length_map]
      exact h.1
theorem mulA_len (l : AL) (n : Nat) : (mulA l n).length ≤ l.length := by
  unfold mulA
  split
  · exact Nat.zero_le _
  · rw [List.length_map]; exact Nat.le_refl _
theorem add_mul {l : AL} (nd : (l.map (·.1)).Nodup) (h : ∀ p ∈ l, nz p = true) (m n : Nat) : addA (mulA l m) (mulA l n) = mulA l (m + n) := by
  have hf : ∀ k, (mulA l k).filter nz = mulA l k := fun k => List.filter_eq_self.mpr (mulA_nz h k)
  unfold addA
  by_cases hm : m = 0
  · subst hm
    rw [mulA_zero, Nat.zero_add, addL_new, List.nil_append, hf]
    rw [List.nil_append]
    by_cases hn : n = 0
    · subst hn
      rw [mulA_zero]
      exact List.nodup_nil
    · rw [mulA_keys hn]
      exact nd
  · by_cases hn : n = 0
    · subst hn
      rw [mulA_zero, Nat.add_zero]
      show (mulA l m).filter nz = _
      exact hf m
    · have e := addL_same (fun c => repC c m) (fun c => repC c n) l [] (by simpa using nd)
      rw [List.map_nil, List.nil_append, List.nil_append] at e
      have e2 : mulA l (m + n) = l.map fun p => (p.1, behC (repC p.2 m) (repC p.2 n)) := by
        unfold mulA
        rw [if_neg (by omega)]
        refine List.map_congr_left fun p _ => ?_
        rw [beh_rep]
      have e3 : addL (mulA l m) (mulA l n) = mulA l (m + n) := by
        rw [e2, ← e]
        unfold mulA
        rw [if_neg hm, if_neg hn]
      rw [e3]
      exact hf _
theorem mul_mul (l : AL) (m n : Nat) : mulA (mulA l m) n = mulA l (m * n) := by
  by_cases hm : m = 0
  · subst hm
    rw [mulA_zero, Nat.zero_mul, mulA_zero]
    unfold mulA
    split <;> rfl
  · by_cases hn : n = 0
    · subst hn
      rw [mulA_zero, Nat.mul_zero, mulA_zero]
    · unfold mulA
      rw [if_neg hm, if_neg hn, if_neg (Nat.mul_ne_zero hm hn), List.map_map]
      refine List.map_congr_left fun p _ => ?_
      dsimp only [Function.comp]
      rw [rep_rep]
/-! ### the operators, called -/
/-- an action of this law -/
def fit (l : AL) : Prop := good l ∧ l.length ≤ 5 ∧ ∀ p ∈ l, nz p = true ∧ p.2.2 < 2 ^ 400
theorem e_mulA {W : WX} {ρ : En} {x : PX} {ta tb : TE} {Q : Dt → En → Prop} (T : Tx K mg) (h : EvD K W ta ρ x fun d ρ1 => ∃ l, d = actD K l ∧ fit l ∧ EvD K W tb ρ1 x fun e ρ2 => ∃ n : Nat, e = .int n ∧ n < 2 ^ 400 ∧ Q (actD K (mulA l n)) ρ2) :
    EvD K W (tOpS (rOrS rMulU fun σ => rOwnOp K (He.ga K "Action") Operator.Mult.info.2 (DSp K (sp_Actionu_mulu K)) (WE W σ)) ta tb) ρ x Q := by
  refine e_opS (h.mono fun d ρ1 ⟨l, e1, hf, h2⟩ => h2.mono fun e ρ2 ⟨n, e2, hn, q⟩ => ?_)
  subst e1 e2
  refine o_ownOp (t := .type "int") rfl rfl (.inl ⟨"int", rfl, rfl⟩) (.inr ⟨"int", rfl, bi_int_mul, T.c_Action.sb _ (by decide)⟩) (l, .int n) rfl ⟨hf.1, hf.2.2, ⟨rfl, rfl⟩, fun m e => ?_⟩ ?_ ?_
  · injection e with e
    subst e
    omega
  · rintro z ⟨m, e, rfl⟩
    have e : Dt.int n = .int m := e
    injection e with e
    have : n = m := by omega
    subst this
    exact q
  · rintro c ⟨e, _⟩
    have : (decide ((0 : Int) ≤ (n : Nat)) && true) = false := e
    simp at this
theorem e_addA {W : WX} {ρ : En} {x : PX} {ta tb : TE} {r0 : R2} {Q : Dt → En → Prop} (T : Tx K mg) (h : EvD K W ta ρ x fun d ρ1 => ∃ l, d = actD K l ∧ good l ∧ l.length ≤ 5 ∧ EvD K W tb ρ1 x fun e ρ2 => ∃ m, e = actD K m ∧ good m ∧ m.length ≤ 5 ∧ Q (actD K (addA l m)) ρ2) :
    EvD K W (tOpS (rOrS r0 fun σ => rOwnOp K (He.ga K "Action") Operator.Add.info.2 (DSp K (sp_Actionu_addu K)) (WE W σ)) ta tb) ρ x Q := by
  refine e_opS (h.mono fun d ρ1 ⟨l, e1, hf, hl, h2⟩ => h2.mono fun e ρ2 ⟨m, e2, hm, hk, q⟩ => ?_)
  subst e1 e2
  refine o_ownOp (t := .ref (He.ga K "Action")) rfl rfl (.inr ⟨_, _, _, rfl, T.c_Action, rfl⟩) (.inl rfl) (l, m) rfl ⟨hf, hm, by show l.length + m.length < 50; omega⟩ ?_ (fun _ z => z.elim)
  rintro z rfl
  exact q
theorem o_eqA {ρ : En} {l m : AL} {Q : Dt → En → Prop} (T : Tx K mg) (e : l = m) (nd : (l.map (·.1)).Nodup) (q : Q (.bl true) ρ) : OpD K (rOwnEq K (He.ga K "Action") (DSp K (sp_Actionu_equ K))) (actD K l) (actD K m) ρ Q := by
  subst e
  refine o_ownEq (t := .ref (He.ga K "Action")) rfl rfl (.inr ⟨_, _, _, rfl, T.c_Action, rfl⟩) (by unfold PySem.W.notFirst; simp) l rfl nd ?_ (fun _ z => z.elim)
  rintro z rfl
  exact q
theorem e_chg {W : WX} {ρ : En} {x : PX} {te : TE} {Q : Dt → En → Prop} (h : EvD K W te ρ x fun d ρ1 => ∃ l, d = actD K l ∧ Q (dicD (chL l)) ρ1) : EvD K W (DL.tMethS (He.ga K "Action") "changes" (DSp K (sp_Action_changes K)) [] (WE W) te tNil) ρ x Q := by
  refine e_meth (h.mono fun d ρ1 ⟨l, e, q⟩ => ⟨_, _, e, rfl, a_nil ⟨l, by rw [e]; rfl, rfl, trivial, ?_, fun _ z => z.elim⟩⟩)
  rintro z rfl
  exact q
theorem e_pow {W : WX} {ρ : En} {x : PX} {ta tb : TE} {Q : Dt → En → Prop} (h : EvD K W ta ρ x fun d ρ1 => ∃ l, d = dicD (chL l) ∧ good l ∧ (∀ p ∈ l, p.2.2 < 2 ^ 400) ∧ EvD K W tb ρ1 x fun e ρ2 => ∃ n : Nat, e = .int n ∧ n < 2 ^ 400 ∧ Q (dicD (chL (mulA (l.filter nz) n))) ρ2) :
    EvD K W (tCallS (DSp K sp_law_power) (WE W) (tCons ta (tCons tb tNil))) ρ x Q := by
  refine e_call (a_cons (h.mono fun d ρ1 ⟨l, e1, h1, h2, h3⟩ => a_cons (h3.mono fun e ρ2 ⟨n, e2, h4, q⟩ => a_nil ⟨(l, n), by rw [e1, e2]; rfl, by rw [e1, e2]; rfl, ⟨h1, h2, h4⟩, ?_, fun _ z => z.elim⟩)))
  rintro z rfl
  exact q
def sp_law : Fsp where
  I := List Int
  arg ns := [.lst (ns.map .int)]
  pre ns := ns.length ≤ 63
  post _ d := d = .bl true
theorem ok_law (T : Tx K mg) {fd : FuncData} (F : FunD K "law" "law" (defArgs s_law) (defBody s_law) (defScope s_law) [] [] (He.ga K "law") fd) : DL.FnQ P w K mg base 8 (He.ga K "law") fd ["_law_script"] (DSp K sp_law) := by
  have G_Actionu_addu := ok_Actionu_addu (P := P) (w := w) (base := base) T
  have G_Actionu_equ := ok_Actionu_equ (P := P) (w := w) (base := base) T
  have G_Action := ok_Action (P := P) (w := w) (base := base) T
  have G_Actionu_mulu := ok_Actionu_mulu (P := P) (w := w) (base := base) T
  have G_Actionu_stru := ok_Actionu_stru (P := P) (w := w) (base := base) T
  have G_Action_changes := ok_Action_changes (P := P) (w := w) (base := base) T
  have G_law_changes := ok_law_changes (P := P) (w := w) (base := base) T
  have G_law_pick := ok_law_pick (P := P) (w := w) (base := base) T
  have G_law_power := ok_law_power (P := P) (w := w) (base := base) T
  have G_law_refused := ok_law_refused (P := P) (w := w) (base := base) T
  have G_law_tape := ok_law_tape (P := P) (w := w) (base := base) T
  refine fn_bodyQ F sc_law (fun _ => rfl) (fun cdv A outer s H E qt hr tk po => ?_)
  refine ⟨_, (pss_cons (ps_for po rfl (pi_range1 rfl T.n_range (pa_cons (pe_callB (call_max2 rfl) (by rfl) T.n_max (by decide +kernel) (pa_cons pe_int (pa_cons (pe_callB (call_min2 rfl) (by rfl) T.n_min (by decide +kernel) (pa_cons pe_int (pa_cons (pe_callB (call_lenV (K := K) rfl) (by rfl) T.n_len (by decide +kernel) (pa_cons (pv 0) pa_nil)) pa_nil))) pa_nil))) pa_nil)) (pg_name (i := 1) sc_law.nd rfl (Or.inl rfl) (Or.inl rfl)) (pss_cons (ps_set (i := 2) sc_law.nd rfl (Or.inl rfl) (pe_fn G_law_tape (hr.mono (by decide)) tk rfl (pa_cons (pv 0) (pa_cons (pv 1) pa_nil))))
  (pss_cons (ps_set (i := 3) sc_law.nd rfl (Or.inl rfl) (pe_fn G_law_changes (hr.mono (by decide)) tk rfl (pa_cons (pv 2) pa_nil)))
  (pss_cons (ps_set (i := 4) sc_law.nd rfl (Or.inl rfl) (pe_mk G_Action (hr.mono (by decide)) tk rfl (pa_cons (pv 3) pa_nil)))
  (pss_cons (ps_set (i := 5) sc_law.nd rfl (Or.inl rfl) (pe_fn G_law_pick (hr.mono (by decide)) tk rfl (pa_cons (pv 2) (pa_cons pe_int pa_nil))))
  (pss_cons (ps_set (i := 6) sc_law.nd rfl (Or.inl rfl) (pe_lst (pa_cons (pe_fn G_law_pick (hr.mono (by decide)) tk rfl (pa_cons (pv 2) (pa_cons (pe_op op_pow pe_int pe_int) pa_nil))) (pa_cons (pe_fn G_law_pick (hr.mono (by decide)) tk rfl (pa_cons (pv 2) (pa_cons (pe_op op_pow pe_int pe_int) pa_nil))) pa_nil))))
  (pss_cons (ps_set (i := 7) sc_law.nd rfl (Or.inl rfl) (pe_mk G_Action (hr.mono (by decide)) tk rfl (pa_cons pe_dnewK pa_nil)))
  (pss_cons (ps_for po rfl (pi_range1 rfl T.n_range (pa_cons (pv 5) pa_nil)) (pg_name (i := 8) sc_law.nd rfl (Or.inl rfl) (Or.inl rfl)) (pss_one (ps_set (i := 7) sc_law.nd rfl (Or.inl rfl) (pe_binG (K := K) rfl (op_addV (K := K) rfl) G_Actionu_addu T.c_Action T.r_Action_add (hr.mono (by decide)) tk (pv 7) (pv 4)))))
  (pss_cons (ps_if (PW.pt (pw_or (pt_not (pt_cmpR (op_eqG (K := K) rfl (op_eqV2 (K := K) rfl hr.units) G_Actionu_equ (hr.mono (by decide))) (pe_binG (K := K) rfl op_mulU G_Actionu_mulu T.c_Action T.r_Action_mul (hr.mono (by decide)) tk (pv 4) (pv 5)) (pv 7) (nomark _))) (pw_or1 (pt_cmpR (op_neV2 (K := K) rfl hr.units) (pe_mt0 G_Action_changes T.c_Action (hr.mono (by decide)) tk (pe_binG (K := K) rfl op_mulU G_Actionu_mulu T.c_Action T.r_Action_mul (hr.mono (by decide)) tk (pv 4) (pv 5))) (pe_fn G_law_power (hr.mono (by decide)) tk rfl (pa_cons (pv 3) (pa_cons (pv 5) pa_nil))) (nomark _))))) (pss_one (ps_ret pe_bl)) pss_nil)
  (pss_cons (ps_for po rfl (pi_listK (K := K) rfl (pv 6)) (pg_name (i := 9) sc_law.nd rfl (Or.inl rfl) (Or.inl rfl)) (pss_one (ps_if (pt_cmpR (op_neV2 (K := K) rfl hr.units) (pe_mt0 G_Action_changes T.c_Action (hr.mono (by decide)) tk (pe_binG (K := K) rfl op_mulU G_Actionu_mulu T.c_Action T.r_Action_mul (hr.mono (by decide)) tk (pv 4) (pv 9))) (pe_fn G_law_power (hr.mono (by decide)) tk rfl (pa_cons (pv 3) (pa_cons (pv 9) pa_nil))) (nomark _)) (pss_one (ps_ret pe_bl)) pss_nil)))
  (pss_cons (ps_set (i := 10) sc_law.nd rfl (Or.inl rfl) (pe_binG (K := K) rfl (op_addV (K := K) rfl) G_Actionu_addu T.c_Action T.r_Action_add (hr.mono (by decide)) tk (pe_binG (K := K) rfl op_mulU G_Actionu_mulu T.c_Action T.r_Action_mul (hr.mono (by decide)) tk (pv 4) (pe_ix (ix_V (K := K) rfl hr.units) (pv 6) pe_int (fun _ _ => rfl))) (pe_binG (K := K) rfl op_mulU G_Actionu_mulu T.c_Action T.r_Action_mul (hr.mono (by decide)) tk (pv 4) (pe_ix (ix_V (K := K) rfl hr.units) (pv 6) pe_int (fun _ _ => rfl)))))
  (pss_cons (ps_if (pt_not (pt_cmpR (op_eqG (K := K) rfl (op_eqV2 (K := K) rfl hr.units) G_Actionu_equ (hr.mono (by decide))) (pv 10) (pe_binG (K := K) rfl op_mulU G_Actionu_mulu T.c_Action T.r_Action_mul (hr.mono (by decide)) tk (pv 4) (pe_op (op_addV (K := K) rfl) (pe_ix (ix_V (K := K) rfl hr.units) (pv 6) pe_int (fun _ _ => rfl)) (pe_ix (ix_V (K := K) rfl hr.units) (pv 6) pe_int (fun _ _ => rfl)))) (nomark _))) (pss_one (ps_ret pe_bl)) pss_nil)
  (pss_cons (ps_if (pt_cmpR (op_neV2 (K := K) rfl hr.units) (pe_mt0 G_Action_changes T.c_Action (hr.mono (by decide)) tk (pe_binG (K := K) rfl op_mulU G_Actionu_mulu T.c_Action T.r_Action_mul (hr.mono (by decide)) tk (pv 4) pe_int)) (pe_mt0 G_Action_changes T.c_Action (hr.mono (by decide)) tk (pv 4)) (nomark _)) (pss_one (ps_ret pe_bl)) pss_nil)
  (pss_cons (ps_if (pt_not (pt_cmpR (op_eqG (K := K) rfl (op_eqV2 (K := K) rfl hr.units) G_Actionu_equ (hr.mono (by decide))) (pe_binG (K := K) rfl op_mulU G_Actionu_mulu T.c_Action T.r_Action_mul (hr.mono (by decide)) tk (pe_binG (K := K) rfl op_mulU G_Actionu_mulu T.c_Action T.r_Action_mul (hr.mono (by decide)) tk (pv 4) (pe_ix (ix_V (K := K) rfl hr.units) (pv 6) pe_int (fun _ _ => rfl))) (pv 5)) (pe_binG (K := K) rfl op_mulU G_Actionu_mulu T.c_Action T.r_Action_mul (hr.mono (by decide)) tk (pv 4) (pe_op op_mulU (pe_ix (ix_V (K := K) rfl hr.units) (pv 6) pe_int (fun _ _ => rfl)) (pv 5))) (nomark _))) (pss_one (ps_ret pe_bl)) pss_nil)
  (pss_cons (ps_if (pt_cmpR (op_neV2 (K := K) rfl hr.units) (pe_callTy (call_strG (K := K) rfl call_strU G_Actionu_stru (hr.mono (by decide))) (by rfl) T.n_str (by decide +kernel) (pa_cons (pe_binG (K := K) rfl op_mulU G_Actionu_mulu T.c_Action T.r_Action_mul (hr.mono (by decide)) tk (pv 4) pe_int) pa_nil)) pe_str (nomark _)) (pss_one (ps_ret pe_bl)) pss_nil)
  (pss_one (ps_if (PW.pt (pw_or (pt_not (pt_truK (K := K) rfl (pe_fnQ G_law_refused qt (hr.mono (by decide)) tk rfl (pa_cons (pv 2) (pa_cons (pv 3) (pa_cons (pv 4) pa_nil)))))) (pw_or1 (pt_cmpR (op_neV2 (K := K) rfl hr.units) (pe_mt0 G_Action_changes T.c_Action (hr.mono (by decide)) tk (pv 4)) (pe_fn G_law_power (hr.mono (by decide)) tk rfl (pa_cons (pv 3) (pa_cons pe_int pa_nil))) (nomark _))))) (pss_one (ps_ret pe_bl)) pss_nil)))))))))))))))))
  (pss_one (ps_ret pe_bl))), fun (ns : List Int) (hp : ns.length ≤ 63) Z hn hq hx => ?_⟩
  try dsimp only [cxB, cxOf]
  show StD K _ _ [.sh (.lst (ns.map .int)), .no, .no, .no, .no, .no, .no, .no, .no, .no, .no] _
  clear qt tk po hr F G_Actionu_addu G_Actionu_equ G_Action G_Actionu_mulu G_Actionu_stru G_Action_changes G_law_changes G_law_pick G_law_power G_law_refused G_law_tape
  have hfin : ∀ ρ, Z.rt (.bl true) ρ := fun ρ => hq _ _ rfl
  clear hn hq hx
  refine ss_for ?_
  walk_at "dl"
  refine ⟨?_, ?_, fun k ρ => ρ = [.sh (.lst (ns.map .int)), .no, .no, .no, .no, .no, .no, .no, .no, .no, .no], rfl, ?_, ?_⟩
  · split <;> split <;> omega
  · split <;> split <;> omega
  · rintro k _ z hz rfl Z' LZ
    have hk : k < 6 := by
      have := (List.getElem?_eq_some_iff.mp hz).1
      rw [rngD_len] at this
      split at this <;> split at this <;> omega
    have ez : z = .int (k : Nat) := by
      have hlt : k < (rngD 0 _).length := (List.getElem?_eq_some_iff.mp hz).1
      rw [rngD_len] at hlt
      rw [rngD_get hlt] at hz
      have := (Option.some.inj hz).symm
      rw [this, Int.zero_add]
    subst ez
    refine g_name rfl rfl ?_
    dsimp only [List.set]
    refine ss_own (e_callN ?_)
    walk_at "dl"
    refine ⟨(ns, (k : Nat)), rfl, rfl, ⟨by show (0 : Int) ≤ k; omega, by show (k : Int) ≤ 1000; omega, hp⟩, ?_, fun _ z => z.elim⟩
    rintro _ ⟨t, rfl, ht⟩
    refine ⟨rfl, ?_⟩
    dsimp only [List.set]
    refine ss_set (e_callO ?_)
    walk_at "dl"
    refine ⟨2, _, _, _, t, rfl, rfl, rfl, rfl, rfl, ht, ?_, fun _ _ z => z.elim⟩
    rintro _ _ ⟨l, t1, rfl, hl, rfl, ht1⟩
    refine ⟨rfl, rfl, ?_⟩
    dsimp only [List.set]
    have hg := drawn_good hl
    obtain ⟨l', hl'⟩ : ∃ l', l' = l.filter nz := ⟨_, rfl⟩
    have hl5 := hl.2.1
    have hl'5 : l'.length ≤ 5 := by
      have := List.length_filter_le nz l
      rw [hl']
      omega
    have hgl : good l' := by
      rw [hl'] at hl'5 ⊢
      exact ⟨by omega, hg.2.1.sublist ((List.filter_sublist (l := l)).map _), fun p hp => hg.2.2 p (List.mem_filter.mp hp).1⟩
    have hnz : ∀ p ∈ l', nz p = true := fun p hp => (List.mem_filter.mp (hl' ▸ hp)).2
    have hv30 : ∀ p ∈ l', p.2.2 < 2 ^ 100 := fun p hp => by
      have := hl.2.2.2.2 p (List.mem_filter.mp (hl' ▸ hp)).1
      omega
    have hfit : fit l' := ⟨hgl, hl'5, fun p hp => ⟨hnz p hp, by have := hv30 p hp; omega⟩⟩
    have hv400 : ∀ p ∈ l, p.2.2 < 2 ^ 400 := fun p hp => by
      have := hl.2.2.2.2 p hp
      omega
    have hfm : ∀ n, n ≤ 2 ^ 150 → fit (mulA l' n) := fun n hn => ⟨mulA_good hgl n, Nat.le_trans (mulA_len l' n) hl'5, fun p hp => ⟨mulA_nz hnz n p hp, by
      have := mulA_val hv30 (by decide) hn p hp
      omega⟩⟩
    have hnd : (l'.map (·.1)).Nodup := hgl.2.1
    have hndm : ∀ n, ((mulA l' n).map (·.1)).Nodup := fun n => (mulA_good hgl n).2.1
    refine ss_set (e_new (n_act ?_))
    walk_at "dl"
    refine ⟨hg, rfl, rfl, ?_⟩
    dsimp only [List.set]
    rw [← hl']
    refine ss_set (e_pick (e_int ⟨10, false, t1, rfl, rfl, ht1, by decide, by decide, fun few t2 ht2 hf0 hf1 => ⟨rfl, rfl, ?_⟩⟩) ⟨_, _, rfl⟩)
    dsimp only [List.set]
    obtain ⟨f, rfl⟩ : ∃ f : Nat, few = f := ⟨few.toNat, by omega⟩
    refine ss_set (e_lst (a_cons (e_pick ?_ ⟨_, _, rfl⟩)))
    walk_at "dl"
    refine ⟨_, false, t2, rfl, rfl, ht2, by decide, by decide, fun g0 t3 ht3 h00 h01 => ?_⟩
    dsimp only [List.set]
    refine a_cons (e_pick ?_ ⟨_, _, rfl⟩)
    walk_at "dl"
    refine ⟨_, false, t3, rfl, rfl, ht3, by decide, by decide, fun g1 t4 ht4 h10 h11 => ?_⟩
    have h01 : g0 < 10 ^ 29 := h01
    have h11 : g1 < 10 ^ 15 := h11
    obtain ⟨g0, rfl⟩ : ∃ f : Nat, g0 = f := ⟨g0.toNat, by omega⟩
    obtain ⟨g1, rfl⟩ : ∃ f : Nat, g1 = f := ⟨g1.toNat, by omega⟩
    refine a_nil ⟨rfl, Nat.le_of_ble_eq_true rfl, rfl, rfl, ?_⟩
    dsimp only [List.set]
    have hgn : good [] := ⟨by decide, List.nodup_nil, fun _ h => nomatch h⟩
    refine ss_set (e_new (n_act (a_cons (e_new (n_dic0 (a_nil ⟨[], rfl, hgn, rfl, rfl, ?_⟩))))))
    dsimp only [List.set]
    refine ss_for ?_
    walk_at "dl"
    refine ⟨by omega, by omega, fun j ρ => j ≤ f ∧ ∃ s, ρ = [.sh (.lst (ns.map .int)), .sh (.int (k : Nat)), .ow false (tapeD t4), .sh (dicD (chL l)), .sh (actD K l'), .sh (.int (f : Nat)), .sh (.lst [.int (g0 : Nat), .int (g1 : Nat)]), .sh (actD K (mulA l' j)), slS s, .no, .no], ⟨Nat.zero_le _, none, by rw [mulA_zero]; rfl⟩, ?_, ?_⟩
    · rintro j _ z hz ⟨hj, s, rfl⟩ Z2 LZ2
      have hj2 : j < f := by
        have := (List.getElem?_eq_some_iff.mp hz).1
        rw [rngD_len] at this
        omega
      refine g_name rfl (by cases s <;> rfl) ?_
      dsimp only [List.set]
      refine s_set (e_addA T (e_var rfl ⟨_, rfl, mulA_good hgl j, Nat.le_trans (mulA_len l' j) hl'5, e_var rfl ⟨_, rfl, hgl, hl'5, rfl, rfl, ?_⟩⟩))
      dsimp only [List.set]
      have e := add_mul hnd hnz j 1
      rw [mulA_one] at e
      rw [e]
      exact LZ2.nx _ _ (.refl _) ⟨hj2, some _, rfl⟩
    rintro _ ⟨_, s, rfl⟩
    rw [rngD_len, show ((f : Nat) : Int).toNat = f from Int.toNat_natCast f]
    -- few
    refine ss_skip (ρ' := [.sh (.lst (ns.map .int)), .sh (.int (k : Nat)), .ow false (tapeD t4), .sh (dicD (chL l)), .sh (actD K l'), .sh (.int (f : Nat)), .sh (.lst [.int (g0 : Nat), .int (g1 : Nat)]), .sh (actD K (mulA l' f)), slS s, .no, .no]) ?_ ?_
    · refine t_or (t_not (t_test (e_op (e_mulA T (e_var rfl ⟨_, rfl, hfit, e_var rfl ⟨f, rfl, by omega, e_var rfl (o_or2 (o_eqA T rfl (hndm f) ?_))⟩⟩)))))
      refine ⟨true, rfl, (fun h => nomatch h), fun _ => t_test (e_op (e_chg (e_mulA T (e_var rfl ⟨_, rfl, hfit, e_var rfl ⟨f, rfl, by omega, _, rfl, e_pow (e_var rfl ⟨l, rfl, hg, hv400, e_var rfl ⟨f, rfl, by omega, ?_⟩⟩)⟩⟩))))⟩
      rw [← hl']
      exact o_neDic (.inl rfl) (.inl rfl) (eqDic_self (hndm f)) ⟨_, rfl, rfl, rfl⟩
    -- the great ones
    refine ss_for ?_
    walk_at "dl"
    refine ⟨fun j ρ => ∃ u, ρ = [.sh (.lst (ns.map .int)), .sh (.int (k : Nat)), .ow false (tapeD t4), .sh (dicD (chL l)), .sh (actD K l'), .sh (.int (f : Nat)), .sh (.lst [.int (g0 : Nat), .int (g1 : Nat)]), .sh (actD K (mulA l' f)), slS s, slS u, .no], ⟨none, rfl⟩, ?_, ?_⟩
    · rintro j _ z hz ⟨u, rfl⟩ Z2 LZ2
      obtain ⟨g, rfl, hgg⟩ : ∃ g : Nat, z = .int (g : Nat) ∧ g < 2 ^ 400 := by
        have := List.mem_of_getElem? hz
        rcases List.mem_cons.mp this with e | e
        · exact ⟨g0, e, by omega⟩
        · exact ⟨g1, List.mem_singleton.mp e, by omega⟩
      refine g_name rfl (by cases u <;> rfl) ?_
      dsimp only [List.set]
      refine s_skip (t_test (e_op (e_chg (e_mulA T (e_var rfl ⟨_, rfl, hfit, e_var rfl ⟨g, rfl, hgg, _, rfl, e_pow (e_var rfl ⟨l, rfl, hg, hv400, e_var rfl ⟨g, rfl, hgg, ?_⟩⟩)⟩⟩)))))
      rw [← hl']
      exact o_neDic (.inl rfl) (.inl rfl) (eqDic_self (hndm g)) ⟨_, rfl, rfl, LZ2.nx _ _ (.refl _) ⟨some _, rfl⟩⟩
    rintro _ ⟨u, rfl⟩
    -- both
    have hix0 : atI [Dt.int (g0 : Nat), .int (g1 : Nat)] 0 = some (.int (g0 : Nat)) := rfl
    have hix1 : atI [Dt.int (g0 : Nat), .int (g1 : Nat)] 1 = some (.int (g1 : Nat)) := rfl
    refine ss_set (e_addA T (e_mulA T (e_var rfl ⟨_, rfl, hfit, e_op (e_var rfl (e_int (v_ix (o_ixL hix0 ⟨g0, rfl, by omega, _, rfl, mulA_good hgl g0, Nat.le_trans (mulA_len l' g0) hl'5, ?_⟩))))⟩)))
    refine e_mulA T (e_var rfl ⟨_, rfl, hfit, e_op (e_var rfl (e_int (v_ix (o_ixL hix1 ⟨g1, rfl, by omega, _, rfl, mulA_good hgl g1, Nat.le_trans (mulA_len l' g1) hl'5, rfl, rfl, ?_⟩))))⟩)
    dsimp only [List.set]
    rw [add_mul hnd hnz g0 g1]
    refine ss_skip (ρ' := [.sh (.lst (ns.map .int)), .sh (.int (k : Nat)), .ow false (tapeD t4), .sh (dicD (chL l)), .sh (actD K l'), .sh (.int (f : Nat)), .sh (.lst [.int (g0 : Nat), .int (g1 : Nat)]), .sh (actD K (mulA l' f)), slS s, slS u, .sh (actD K (mulA l' (g0 + g1)))]) ?_ ?_
    · refine t_not (t_test (e_op (e_var rfl (e_mulA T (e_var rfl ⟨_, rfl, hfit, e_op (e_op (e_var rfl (e_int (v_ix (o_ixL hix0 (e_op (e_var rfl (e_int (v_ix (o_ixL hix1 (v_add (o_add ?_))))))))))))⟩)))))
      exact ⟨g0 + g1, by rw [Int.natCast_add], by omega, o_or2 (o_eqA T rfl (hndm _) ⟨_, rfl, rfl, rfl⟩)⟩
    refine ss_skip (ρ' := [.sh (.lst (ns.map .int)), .sh (.int (k : Nat)), .ow false (tapeD t4), .sh (dicD (chL l)), .sh (actD K l'), .sh (.int (f : Nat)), .sh (.lst [.int (g0 : Nat), .int (g1 : Nat)]), .sh (actD K (mulA l' f)), slS s, slS u, .sh (actD K (mulA l' (g0 + g1)))]) ?_ ?_
    · refine t_test (e_op (e_chg (e_mulA T (e_var rfl ⟨_, rfl, hfit, e_int ⟨1, rfl, by decide, _, rfl, e_chg (e_var rfl ⟨_, rfl, ?_⟩)⟩⟩))))
      rw [mulA_one]
      exact o_neDic (.inl rfl) (.inl rfl) (eqDic_self hnd) ⟨_, rfl, rfl, rfl⟩
    have hm1 : g1 * f < 2 ^ 150 := by
      have h1 : g1 < 2 ^ 60 := by omega
      have h2 : f < 2 ^ 10 := by omega
      exact Nat.lt_of_lt_of_le (Nat.mul_lt_mul'' h1 h2) (by decide)
    refine ss_skip (ρ' := [.sh (.lst (ns.map .int)), .sh (.int (k : Nat)), .ow false (tapeD t4), .sh (dicD (chL l)), .sh (actD K l'), .sh (.int (f : Nat)), .sh (.lst [.int (g0 : Nat), .int (g1 : Nat)]), .sh (actD K (mulA l' f)), slS s, slS u, .sh (actD K (mulA l' (g0 + g1)))]) ?_ ?_
    · refine t_not (t_test (e_op (e_mulA T (e_mulA T (e_var rfl ⟨_, rfl, hfit, e_op (e_var rfl (e_int (v_ix (o_ixL hix1 ⟨g1, rfl, by omega, _, rfl, hfm g1 (by omega), e_var rfl ⟨f, rfl, by omega, ?_⟩⟩))))⟩)))))
      refine e_mulA T (e_var rfl ⟨_, rfl, hfit, e_op (e_op (e_var rfl (e_int (v_ix (o_ixL hix1 (e_var rfl (o_mul (by omega) ?_)))))))⟩)
      exact ⟨g1 * f, by rw [Int.natCast_mul], by omega, o_or2 (o_eqA T (mul_mul l' g1 f) (by rw [mul_mul]; exact hndm _) ⟨_, rfl, rfl, rfl⟩)⟩
    refine ss_skip (ρ' := [.sh (.lst (ns.map .int)), .sh (.int (k : Nat)), .ow false (tapeD t4), .sh (dicD (chL l)), .sh (actD K l'), .sh (.int (f : Nat)), .sh (.lst [.int (g0 : Nat), .int (g1 : Nat)]), .sh (actD K (mulA l' f)), slS s, slS u, .sh (actD K (mulA l' (g0 + g1)))]) ?_ ?_
    · refine t_test (e_op (e_cb (a_cons (e_mulA T (e_var rfl ⟨_, rfl, hfit, e_int ⟨0, rfl, by decide, ?_⟩⟩)))))
      rw [mulA_zero]
      refine a_nil (c_or2 (c_ownStr () rfl trivial ?_ (fun _ z => z)))
      rintro _ rfl
      refine ⟨⟨_, rfl⟩, ?_⟩
      walk_at "dl"
      exact ⟨by decide +kernel, rfl⟩
    refine s_skip ?_
    refine t_or (t_not (t_tru (e_callO ?_)))
    walk_at "dl"
    refine ⟨2, _, _, _, (t4, l), rfl, rfl, rfl, by rw [hl']; rfl, rfl, ⟨ht4, hl⟩, ?_, fun _ _ z => z.elim⟩
    rintro _ _ ⟨rfl, t5, rfl, ht5⟩
    dsimp only [List.set]
    refine ⟨true, rfl, (fun h => nomatch h), fun _ => t_test (e_op (e_chg (e_var rfl ⟨_, rfl, e_pow (e_var rfl ⟨l, rfl, hg, hv400, e_int ⟨1, rfl, by decide, ?_⟩⟩)⟩)))⟩
    rw [← hl', mulA_one]
    refine o_neDic (.inl rfl) (.inl rfl) (eqDic_self hnd) ⟨_, rfl, rfl, ?_⟩
    refine LZ.nx _ _ ?_ rfl
    walk_at "fg"
  · rintro _ rfl
    walk_at "dl"
    exact hfin _

end
def spL (K : DL.Frag) : Sp := DSp K sp_law
theorem spL_of {K : DL.Frag} {H : Hp} {a : Addr} {ns : List Int} (hl : ns.length ≤ 63) (hS : SqL K H a (ns.map V.int)) : spL K [.ref a] H (fun v _ => v = .bl true) fun _ _ _ => False := by
  refine ⟨H, ns, Evl.Ex.refl H, repL_cons ?_ repL_nil, hl, fun d hd v H' _ r => ?_, fun c z => z.elim⟩
  · unfold Rep
    exact ⟨a, _, rfl, hS, repL_ints ns⟩
  · cases (show d = _ from hd)
    unfold Rep at r
    exact r

def d_BadNumberu_initu : He.DefD := ⟨("BadNumber", some "__init__"), "__init__", "BadNumber.__init__", defArgs s_BadNumberu_initu, defBody s_BadNumberu_initu, defScope s_BadNumberu_initu, [], []⟩
def d_BadChangeu_initu : He.DefD := ⟨("BadChange", some "__init__"), "__init__", "BadChange.__init__", defArgs s_BadChangeu_initu, defBody s_BadChangeu_initu, defScope s_BadChangeu_initu, [], []⟩
def d_BadTimesu_initu : He.DefD := ⟨("BadTimes", some "__init__"), "__init__", "BadTimes.__init__", defArgs s_BadTimesu_initu, defBody s_BadTimesu_initu, defScope s_BadTimesu_initu, [], []⟩
def d_is_name : He.DefD := ⟨("is_name", none), "is_name", "is_name", defArgs s_is_name, defBody s_is_name, defScope s_is_name, [], []⟩
def d_is_integer : He.DefD := ⟨("is_integer", none), "is_integer", "is_integer", defArgs s_is_integer, defBody s_is_integer, defScope s_is_integer, [.non], []⟩
def d_is_change : He.DefD := ⟨("is_change", none), "is_change", "is_change", defArgs s_is_change, defBody s_is_change, defScope s_is_change, [], []⟩
def d_behind : He.DefD := ⟨("behind", none), "behind", "behind", defArgs s_behind, defBody s_behind, defScope s_behind, [], []⟩
def d_repeated : He.DefD := ⟨("repeated", none), "repeated", "repeated", defArgs s_repeated, defBody s_repeated, defScope s_repeated, [], []⟩
def d_Actionu_initu : He.DefD := ⟨("Action", some "__init__"), "__init__", "Action.__init__", defArgs s_Actionu_initu, defBody s_Actionu_initu, defScope s_Actionu_initu, [], []⟩
def d_Actionu_equ : He.DefD := ⟨("Action", some "__eq__"), "__eq__", "Action.__eq__", defArgs s_Actionu_equ, defBody s_Actionu_equ, defScope s_Actionu_equ, [], []⟩
def d_Actionu_addu : He.DefD := ⟨("Action", some "__add__"), "__add__", "Action.__add__", defArgs s_Actionu_addu, defBody s_Actionu_addu, defScope s_Actionu_addu, [], []⟩
def d_Actionu_mulu : He.DefD := ⟨("Action", some "__mul__"), "__mul__", "Action.__mul__", defArgs s_Actionu_mulu, defBody s_Actionu_mulu, defScope s_Actionu_mulu, [], []⟩
def d_Actionu_stru : He.DefD := ⟨("Action", some "__str__"), "__str__", "Action.__str__", defArgs s_Actionu_stru, defBody s_Actionu_stru, defScope s_Actionu_stru, [], []⟩
def d_Action_changes : He.DefD := ⟨("Action", some "changes"), "changes", "Action.changes", defArgs s_Action_changes, defBody s_Action_changes, defScope s_Action_changes, [], []⟩
def d_Action_of : He.DefD := ⟨("Action", some "of"), "of", "Action.of", defArgs s_Action_of, defBody s_Action_of, defScope s_Action_of, [], []⟩
def d_law_tape : He.DefD := ⟨("_law_tape", none), "_law_tape", "_law_tape", defArgs s_law_tape, defBody s_law_tape, defScope s_law_tape, [], []⟩
def d_law_pick : He.DefD := ⟨("_law_pick", none), "_law_pick", "_law_pick", defArgs s_law_pick, defBody s_law_pick, defScope s_law_pick, [], []⟩
def d_law_shuffled : He.DefD := ⟨("_law_shuffled", none), "_law_shuffled", "_law_shuffled", defArgs s_law_shuffled, defBody s_law_shuffled, defScope s_law_shuffled, [], []⟩
def d_law_changes : He.DefD := ⟨("_law_changes", none), "_law_changes", "_law_changes", defArgs s_law_changes, defBody s_law_changes, defScope s_law_changes, [], []⟩
def d_law_power : He.DefD := ⟨("_law_power", none), "_law_power", "_law_power", defArgs s_law_power, defBody s_law_power, defScope s_law_power, [], []⟩
def d_law_made : He.DefD := ⟨("_law_made", none), "_law_made", "_law_made", defArgs s_law_made, defBody s_law_made, defScope s_law_made, [], []⟩
def d_law_times : He.DefD := ⟨("_law_times", none), "_law_times", "_law_times", defArgs s_law_times, defBody s_law_times, defScope s_law_times, [], []⟩
def d_law_of : He.DefD := ⟨("_law_of", none), "_law_of", "_law_of", defArgs s_law_of, defBody s_law_of, defScope s_law_of, [], []⟩
def d_law_refused : He.DefD := ⟨("_law_refused", none), "_law_refused", "_law_refused", defArgs s_law_refused, defBody s_law_refused, defScope s_law_refused, [], []⟩
def d_law : He.DefD := ⟨("law", none), "law", "law", defArgs s_law, defBody s_law, defScope s_law, [], []⟩
def fn : List He.DefD := [d_BadNumberu_initu, d_BadChangeu_initu, d_BadTimesu_initu, d_is_name, d_is_integer, d_is_change, d_behind, d_repeated, d_Actionu_initu, d_Actionu_equ, d_Actionu_addu, d_Actionu_mulu, d_Actionu_stru, d_Action_changes, d_Action_of, d_law_tape, d_law_pick, d_law_shuffled, d_law_changes, d_law_power, d_law_made, d_law_times, d_law_of, d_law_refused, d_law]
def ex : List (DL.Frag → Bool) := [fun K => xcB K (He.ga K "BadNumber"), fun K => He.eqO (PySem.W.findIn K (.ref (He.ga K "BadNumber")) "__init__") (some (some (.ref (He.ma K (He.ga K "BadNumber") "__init__")))), fun K => decide (PySem.W.typeIn K (.ref (He.ma K (He.ga K "BadNumber") "__init__")) = some (.type "function")), fun K => He.eqO (PySem.W.findIn K (.ref (He.ga K "BadNumber")) "number") (some none), fun K => xcB K (He.ga K "BadChange"), fun K => He.eqO (PySem.W.findIn K (.ref (He.ga K "BadChange")) "__init__") (some (some (.ref (He.ma K (He.ga K "BadChange") "__init__")))), fun K => decide (PySem.W.typeIn K (.ref (He.ma K (He.ga K "BadChange") "__init__")) = some (.type "function")), fun K => He.eqO (PySem.W.findIn K (.ref (He.ga K "BadChange")) "counter") (some none), fun K => xcB K (He.ga K "BadTimes"), fun K => He.eqO (PySem.W.findIn K (.ref (He.ga K "BadTimes")) "__init__") (some (some (.ref (He.ma K (He.ga K "BadTimes") "__init__")))), fun K => decide (PySem.W.typeIn K (.ref (He.ma K (He.ga K "BadTimes") "__init__")) = some (.type "function")), fun K => He.eqO (PySem.W.findIn K (.ref (He.ga K "BadTimes")) "times") (some none), fun K => clB K (He.ga K "Action"), fun K => initB K (He.ga K "Action"), fun K => meB K (He.ga K "Action") "__eq__", fun K => meB K (He.ga K "Action") "__add__", fun K => naB K (He.ga K "Action") "__radd__", fun K => meB K (He.ga K "Action") "__mul__", fun K => naB K (He.ga K "Action") "__rmul__", fun K => meB K (He.ga K "Action") "__str__", fun K => meB K (He.ga K "Action") "changes", fun K => meB K (He.ga K "Action") "of", fun K => naB K (He.ga K "Action") "made_of", fun K => decide (PySem.W.exmOne K (.ref (He.ga K "BadNumber")) (.ref (He.ga K "BadNumber")) = some true), fun K => decide (PySem.W.exmOne K (.ref (He.ga K "BadNumber")) (.ref (He.ga K "BadChange")) = some false), fun K => decide (PySem.W.exmOne K (.ref (He.ga K "BadNumber")) (.ref (He.ga K "BadTimes")) = some false), fun K => decide (PySem.W.exmOne K (.ref (He.ga K "BadChange")) (.ref (He.ga K "BadNumber")) = some false), fun K => decide (PySem.W.exmOne K (.ref (He.ga K "BadChange")) (.ref (He.ga K "BadChange")) = some true), fun K => decide (PySem.W.exmOne K (.ref (He.ga K "BadChange")) (.ref (He.ga K "BadTimes")) = some false), fun K => decide (PySem.W.exmOne K (.ref (He.ga K "BadTimes")) (.ref (He.ga K "BadNumber")) = some false), fun K => decide (PySem.W.exmOne K (.ref (He.ga K "BadTimes")) (.ref (He.ga K "BadChange")) = some false), fun K => decide (PySem.W.exmOne K (.ref (He.ga K "BadTimes")) (.ref (He.ga K "BadTimes")) = some true), fun K => decide (PySem.W.kitOne K (.ref (He.ga K "BadNumber")) (.ref (He.ga K "PartError")) = some true), fun K => decide (PySem.W.kitOne K (.ref (He.ga K "BadChange")) (.ref (He.ga K "PartError")) = some true), fun K => decide (PySem.W.kitOne K (.ref (He.ga K "BadTimes")) (.ref (He.ga K "PartError")) = some true), fun K => decide (PySem.W.kitOne K (.ref (He.ga K "Action")) (.ref (He.ga K "Action")) = some true)]
def fa : List He.Fa := [.free "abs", .free "bool", .free "dict", .free "int", .free "isinstance", .free "len", .free "list", .free "max", .free "min", .free "range", .free "repr", .free "sorted", .free "str", .free "tuple", .int "LONGEST" 8, .str "SIGNS" "abcdefghijklmnopqrstuvwxyz", .str "ADD" "add", .str "SET" "set", .glo "is_name", .glo "is_integer", .glo "is_change", .glo "behind", .glo "repeated", .glo "_law_tape", .glo "_law_pick", .glo "_law_shuffled", .glo "_law_changes", .glo "_law_power", .glo "_law_made", .glo "_law_times", .glo "_law_of", .glo "_law_refused", .glo "law", .glo "PartError", .glo "BadNumber", .glo "BadChange", .glo "BadTimes", .glo "Action"]
abbrev R : PySem.W.OpenRow := PySem.W.OpenLaw.row PySem.Challenge.rw_partlabels_k62_powers_of_actions
abbrev hk : PySem.W.Hook := DL.hookE 4 fa fn ex
def ob (s : PySem.W.SharedT) : He.AlD × Bool := DL.obsE 4 fa fn ex (HandSHeadRun.getT s)
theorem ob_eq (s : PySem.W.SharedT) : ob s = hk.obs s.abs := DL.obsE_eq (HandSHeadRun.getT_eq s)
def loose : List PySem.Str := ["PartError", "BadNumber", "BadChange", "BadTimes", "LONGEST", "SIGNS", "is_name", "is_integer", "ADD", "SET", "is_change", "behind", "repeated", "Action", "_law_tape", "_law_pick", "_law_shuffled", "_law_changes", "_law_power", "_law_made", "_law_times", "_law_of", "_law_refused"]
set_option maxHeartbeats 0 in
theorem run (w : World) : HandSHeadRun.RunEq R (PySem.W.view R.prog [28]) hk ob 20000 loose w := by
  intro os
  kernel_rfl
theorem tx_of {K : DL.Frag} {h : Heap} {mg : Str → Option Value} (X : K.In h) (G : h.Ns mainGlobals mg) (c : DL.SaysE fa fn ex K) : Tx K mg :=
  ⟨He.free_ok X G (c.1.fact 0 (f := .free "abs") rfl),
    He.free_ok X G (c.1.fact 1 (f := .free "bool") rfl),
    He.free_ok X G (c.1.fact 2 (f := .free "dict") rfl),
    He.free_ok X G (c.1.fact 3 (f := .free "int") rfl),
    He.free_ok X G (c.1.fact 4 (f := .free "isinstance") rfl),
    He.free_ok X G (c.1.fact 5 (f := .free "len") rfl),
    He.free_ok X G (c.1.fact 6 (f := .free "list") rfl),
    He.free_ok X G (c.1.fact 7 (f := .free "max") rfl),
    He.free_ok X G (c.1.fact 8 (f := .free "min") rfl),
    He.free_ok X G (c.1.fact 9 (f := .free "range") rfl),
    He.free_ok X G (c.1.fact 10 (f := .free "repr") rfl),
    He.free_ok X G (c.1.fact 11 (f := .free "sorted") rfl),
    He.free_ok X G (c.1.fact 12 (f := .free "str") rfl),
    He.free_ok X G (c.1.fact 13 (f := .free "tuple") rfl),
    He.int_ok X G (c.1.fact 14 (f := .int "LONGEST" 8) rfl),
    He.str_ok X G (c.1.fact 15 (f := .str "SIGNS" "abcdefghijklmnopqrstuvwxyz") rfl),
    He.str_ok X G (c.1.fact 16 (f := .str "ADD" "add") rfl),
    He.str_ok X G (c.1.fact 17 (f := .str "SET" "set") rfl),
    He.glo_ok X G (c.1.fact 18 (f := .glo "is_name") rfl),
    c.1.def_ 3 (d := d_is_name) rfl,
    He.glo_ok X G (c.1.fact 19 (f := .glo "is_integer") rfl),
    c.1.def_ 4 (d := d_is_integer) rfl,
    He.glo_ok X G (c.1.fact 20 (f := .glo "is_change") rfl),
    c.1.def_ 5 (d := d_is_change) rfl,
    He.glo_ok X G (c.1.fact 21 (f := .glo "behind") rfl),
    c.1.def_ 6 (d := d_behind) rfl,
    He.glo_ok X G (c.1.fact 22 (f := .glo "repeated") rfl),
    c.1.def_ 7 (d := d_repeated) rfl,
    He.glo_ok X G (c.1.fact 23 (f := .glo "_law_tape") rfl),
    c.1.def_ 15 (d := d_law_tape) rfl,
    He.glo_ok X G (c.1.fact 24 (f := .glo "_law_pick") rfl),
    c.1.def_ 16 (d := d_law_pick) rfl,
    He.glo_ok X G (c.1.fact 25 (f := .glo "_law_shuffled") rfl),
    c.1.def_ 17 (d := d_law_shuffled) rfl,
    He.glo_ok X G (c.1.fact 26 (f := .glo "_law_changes") rfl),
    c.1.def_ 18 (d := d_law_changes) rfl,
    He.glo_ok X G (c.1.fact 27 (f := .glo "_law_power") rfl),
    c.1.def_ 19 (d := d_law_power) rfl,
    He.glo_ok X G (c.1.fact 28 (f := .glo "_law_made") rfl),
    c.1.def_ 20 (d := d_law_made) rfl,
    He.glo_ok X G (c.1.fact 29 (f := .glo "_law_times") rfl),
    c.1.def_ 21 (d := d_law_times) rfl,
    He.glo_ok X G (c.1.fact 30 (f := .glo "_law_of") rfl),
    c.1.def_ 22 (d := d_law_of) rfl,
    He.glo_ok X G (c.1.fact 31 (f := .glo "_law_refused") rfl),
    c.1.def_ 23 (d := d_law_refused) rfl,
    He.glo_ok X G (c.1.fact 32 (f := .glo "law") rfl),
    c.1.def_ 24 (d := d_law) rfl,
    He.glo_ok X G (c.1.fact 33 (f := .glo "PartError") rfl),
    He.glo_ok X G (c.1.fact 34 (f := .glo "BadNumber") rfl),
    xcB_ok (c.ex 0 rfl),
    He.eqO_ok (c.ex 1 rfl),
    of_decide_eq_true (c.ex 2 rfl),
    c.1.def_ 0 (d := d_BadNumberu_initu) rfl,
    He.eqO_ok (c.ex 3 rfl),
    He.glo_ok X G (c.1.fact 35 (f := .glo "BadChange") rfl),
    xcB_ok (c.ex 4 rfl),
    He.eqO_ok (c.ex 5 rfl),
    of_decide_eq_true (c.ex 6 rfl),
    c.1.def_ 1 (d := d_BadChangeu_initu) rfl,
    He.eqO_ok (c.ex 7 rfl),
    He.glo_ok X G (c.1.fact 36 (f := .glo "BadTimes") rfl),
    xcB_ok (c.ex 8 rfl),
    He.eqO_ok (c.ex 9 rfl),
    of_decide_eq_true (c.ex 10 rfl),
    c.1.def_ 2 (d := d_BadTimesu_initu) rfl,
    He.eqO_ok (c.ex 11 rfl),
    He.glo_ok X G (c.1.fact 37 (f := .glo "Action") rfl),
    clB_ok (c.ex 12 rfl),
    initB_ok (c.ex 13 rfl),
    c.1.def_ 8 (d := d_Actionu_initu) rfl,
    meB_ok (c.ex 14 rfl),
    c.1.def_ 9 (d := d_Actionu_equ) rfl,
    meB_ok (c.ex 15 rfl),
    c.1.def_ 10 (d := d_Actionu_addu) rfl,
    naB_ok (c.ex 16 rfl),
    meB_ok (c.ex 17 rfl),
    c.1.def_ 11 (d := d_Actionu_mulu) rfl,
    naB_ok (c.ex 18 rfl),
    meB_ok (c.ex 19 rfl),
    c.1.def_ 12 (d := d_Actionu_stru) rfl,
    meB_ok (c.ex 20 rfl),
    c.1.def_ 13 (d := d_Action_changes) rfl,
    meB_ok (c.ex 21 rfl),
    c.1.def_ 14 (d := d_Action_of) rfl,
    naB_ok (c.ex 22 rfl),
    of_decide_eq_true (c.ex 23 rfl),
    of_decide_eq_true (c.ex 24 rfl),
    of_decide_eq_true (c.ex 25 rfl),
    of_decide_eq_true (c.ex 26 rfl),
    of_decide_eq_true (c.ex 27 rfl),
    of_decide_eq_true (c.ex 28 rfl),
    of_decide_eq_true (c.ex 29 rfl),
    of_decide_eq_true (c.ex 30 rfl),
    of_decide_eq_true (c.ex 31 rfl),
    of_decide_eq_true (c.ex 32 rfl),
    of_decide_eq_true (c.ex 33 rfl),
    of_decide_eq_true (c.ex 34 rfl),
    of_decide_eq_true (c.ex 35 rfl)⟩
theorem facts {P : Program} {w : World} {K : DL.Frag} {h : Heap} {mg : Str → Option Value} {f : Addr} (X : K.In h) (G : h.Ns mainGlobals mg) (hfa : mg ("law" : Str) = some (.ref f)) (c : DL.SaysE fa fn ex K) :
    ∃ fd : FuncData, (∀ (s : Shared) (v : Value), BindsTo s fd ⟨[v], []⟩ [("_law_script", v)]) ∧ ∀ base : Heap, K.In base → base.Ns mainGlobals mg → DL.FnQ P w K mg base 8 f fd ["_law_script"] (DL.DSp K sp_law) := by
  have T := tx_of X G c
  obtain ⟨fd, F⟩ := T.F_law
  have e := hfa.symm.trans T.g_law
  cases e
  have b := FunD.bindsA (ps := ["_law_script"]) F fun _ _ _ _ _ _ us hl => match us, hl with | [_], _ => rfl
  exact ⟨fd, fun s v => b s [v] rfl, fun base _ _ => ok_law T F⟩
end T
open PySem PySem.W PySem.Calls PyProof.Rows
set_option maxHeartbeats 0 in
theorem PySem.Challenge.cw_partlabels_k62_powers_of_actions_holds : PySem.Challenge.rw_partlabels_k62_powers_of_actions.Holds := by
  w_on; o_law
  refine HandSHeadRun.head_any (r := OpenLaw.row PySem.Challenge.rw_partlabels_k62_powers_of_actions) (q := view (OpenLaw.row PySem.Challenge.rw_partlabels_k62_powers_of_actions).prog [28]) (H := T.hk) (ob := T.ob) (M := 20000) (loose := T.loose) (d := HandSHeadRun.topDef (OpenLaw.row PySem.Challenge.rw_partlabels_k62_powers_of_actions).prog 28) (kwd := []) T.ob_eq
    (by kernel_rfl) (fun s => by kernel_rfl) T.run (by kernel_rfl) (by kernel_rfl) (by kernel_rfl) (by rfl) (by first | assumption | decide +kernel) (by decide +kernel) ⟨rfl, rfl, rfl, rfl, rfl, by decide +kernel⟩ ?hw ?hc
  case hw => w_witness2
  case hc =>
    refine DL.walk_WQ (l := PySem.Challenge.rw_partlabels_k62_powers_of_actions) (n := 63) (k := 8) (x := "_law_script") rfl (by decide) (by kernel_rfl) ⟨rfl, by decide, by decide⟩ ?F
    intro w mg fa h Y G hmg0
    obtain ⟨K, KX, c⟩ := Y
    have hmg : mg ("law" : PySem.Str) = some (.ref fa) := by
      have e : (HandSHeadRun.topDef (OpenLaw.row PySem.Challenge.rw_partlabels_k62_powers_of_actions).prog 28).name = ("law" : PySem.Str) := by kernel_rfl
      rw [← e]
      exact hmg0
    obtain ⟨fd, hb, hF⟩ := T.facts (P := (PySem.Challenge.rw_partlabels_k62_powers_of_actions).prog) (w := w) KX G hmg c
    exact ⟨K, fd, T.spL K, KX, hb, fun H a ns hl hS => T.spL_of hl hS, hF⟩
#print axioms PySem.Challenge.cw_partlabels_k62_powers_of_actions_holds
