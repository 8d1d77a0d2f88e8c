import PyProof.Rows.All
import Wide.All
import OpenK.AllK
import Wide.FinOn
import HandS.ForMost
import HandS.ForExc
import HandS.Wide
import HandS.Style
import HandS.TupLe
import HandS.TupAny
import HandS.IsInst
import HandS.StrMore
import HandS.Evl
import HandS.Defaults
import HandS.CallSlots
import HandS.ExcInit
import KE.DataEq
import KE.DataCmp
import HandS.Steps
import HandS.HeadHook1
import HandS.ExcField
import HandS.TryOnly
import KE.KExcIs
import HandS.Replace
import HandS.Iter
import HandS.WideMore
import HandS.Head0
import HandS.Head1
import HandS.Head2
import HandS.HeadEnd
import HandS.HeadHook2
import HandS.Walk
import HandS.DictComp
import HandS.Zip
import HandS.Small
import HandS.More
import HandS.Conv
import HandS.ListItems
import HandS.Property
import HandS.Codes
import HandS.SlotsOwn
import HandS.FStr
import HandS.RaiseMore
import HandS.DeepEq
import KE.KCallOwn
import KE.DatumIndex
import HandS.Sort
import KE.GoesEnum
import HandS.HeadHook3
import HandS.Text
import KE.KStateDown
import HandS.TryMany
import HandS.Star
import HandS.ExcValue
import PyProof.CollectIter
import PyProof.Comp
import KE.KUnpack
import HandS.Finally
import PyProof.InstNe
import HandS.DictEq
import HandS.OwnEq
import KE.SortData
import HandS.SortKw
import PySem.Challenge.RW_partlabels_k11_errors
set_option Elab.async false
set_option linter.all false
set_option maxRecDepth 100000
set_option autoImplicit false
set_option maxHeartbeats 4000000
/-! The layer of data: values as trees of data, statements as steps from data to data. -/
namespace DL
open PySem L2 Evl
abbrev Frag := PySem.W.Frag
inductive Dt where
  | non | bl (b : Bool) | int (i : Int) | str (x : Str) | ty (n : String) | ref (a : Addr)
  | lst (ds : List Dt) | tup (ds : List Dt) | dic (ks : List Key) (ds : List Dt) | ins (C : Addr) (fs : List Str) (ds : List Dt)
  | exn (a : Addr) (dd : Option Addr) (C : Addr) (fs : List Str) (ds : List Dt)
  | own (i : Nat)
  | dtt (ks : List (List Key))
  | ttp (k : List Key)
  | lpl (ds : List Dt)
  | utp
  | any
  | exv (C : Addr) (fs : List Str) (ds : List Dt)
/-- the contents of a dict with tuple keys, all of whose values are True -/
def dtV (ks : List (List Key)) : List (List Key × V) := ks.map fun k => (k, V.bl true)
/-- what stood there stands there still; a dict may have been locked -/
def Lok (o u : HO) : Prop := ∃ ob kvs, o = .dK kvs ∧ u = .frz ob (.dK kvs)
def Xe (F F' : Hp) : Prop := ∀ a o, F a = some o → F' a = some o ∨ ∃ u, F' a = some u ∧ Lok o u
theorem Xe.refl (F : Hp) : Xe F F := fun _ _ h => .inl h
theorem Xe.of {F F' : Hp} (e : Ex F F') : Xe F F' := fun a o h => .inl (e a o h)
theorem Xe.new {F : Hp} {p : Addr} {o : HO} (h : F p = none) : Xe F (upd F p o) := Xe.of (Ex.new h)
theorem Lok.noL {o u v : HO} (h : Lok o u) (g : Lok u v) : False := by
  obtain ⟨ob, kvs, rfl, rfl⟩ := h
  obtain ⟨ob', kvs', e, _⟩ := g
  cases e
theorem Xe.trans {F F1 F2 : Hp} (a : Xe F F1) (b : Xe F1 F2) : Xe F F2 := fun x o h => by
  rcases a x o h with h1 | ⟨u, h1, l⟩
  · exact b x o h1
  · rcases b x u h1 with h2 | ⟨v, h2, l2⟩
    · exact .inr ⟨u, h2, l⟩
    · exact (l.noL l2).elim
theorem Xe.there {F F' : Hp} {a : Addr} (e : Xe F F') (h : F a ≠ none) : F' a ≠ none := by
  cases q : F a with
  | none => exact absurd q h
  | some o =>
    rcases e a o q with h1 | ⟨u, h1, _⟩
    · rw [h1]; exact fun z => nomatch z
    · rw [h1]; exact fun z => nomatch z
theorem Xe.lst {F F' : Hp} {a : Addr} {xs : List V} (e : Xe F F') (h : Rd F a (.lst xs)) : Rd F' a (.lst xs) := by
  rcases h with h | ⟨o, h⟩
  · rcases e a _ h with h1 | ⟨u, h1, _, _, z, _⟩
    · exact .inl h1
    · cases z
  · rcases e a _ h with h1 | ⟨u, h1, _, _, z, _⟩
    · exact .inr ⟨o, h1⟩
    · cases z
theorem Xe.tup {F F' : Hp} {a : Addr} {xs : List V} (e : Xe F F') (h : Rd F a (.tup xs)) : Rd F' a (.tup xs) := by
  rcases h with h | ⟨o, h⟩
  · rcases e a _ h with h1 | ⟨u, h1, _, _, z, _⟩
    · exact .inl h1
    · cases z
  · rcases e a _ h with h1 | ⟨u, h1, _, _, z, _⟩
    · exact .inr ⟨o, h1⟩
    · cases z
theorem Xe.dic {F F' : Hp} {a : Addr} {xs : List (Key × V)} (e : Xe F F') (h : Rd F a (.dK xs)) : Rd F' a (.dK xs) := by
  rcases h with h | ⟨o, h⟩
  · rcases e a _ h with h1 | ⟨u, h1, ob, kvs, z, y⟩
    · exact .inl h1
    · cases z
      exact .inr ⟨ob, by rw [h1, y]⟩
  · rcases e a _ h with h1 | ⟨u, h1, _, _, z, _⟩
    · exact .inr ⟨o, h1⟩
    · cases z
theorem Xe.dtt {F F' : Hp} {a : Addr} {kvs : List (List Key × V)} (e : Xe F F') (h : F a = some (.dT kvs)) : F' a = some (.dT kvs) := by
  rcases e a _ h with h1 | ⟨u, h1, _, _, z, _⟩
  · exact h1
  · cases z
theorem Xe.ttp {F F' : Hp} {a : Addr} {xs : List V} (e : Xe F F') (h : F a = some (.tup xs)) : F' a = some (.tup xs) := by
  rcases e a _ h with h1 | ⟨u, h1, _, _, z, _⟩
  · exact h1
  · cases z
theorem Xe.lpl {F F' : Hp} {a : Addr} {xs : List V} (e : Xe F F') (h : F a = some (.lst xs)) : F' a = some (.lst xs) := by
  rcases e a _ h with h1 | ⟨u, h1, _, _, z, _⟩
  · exact h1
  · cases z
theorem Xe.ins {F F' : Hp} {a C dx : Addr} {fs : List (Str × V)} (e : Xe F F') (h : F a = some (.ins C dx fs)) : F' a = some (.ins C dx fs) := by
  rcases e a _ h with h1 | ⟨u, h1, _, _, z, _⟩
  · exact h1
  · cases z
theorem Xe.xd {F F' : Hp} {a : Addr} {fs : List (Str × V)} (e : Xe F F') (h : F a = some (.xd fs)) : F' a = some (.xd fs) := by
  rcases e a _ h with h1 | ⟨u, h1, _, _, z, _⟩
  · exact h1
  · cases z
theorem Xe.ext {F F' : Hp} {a : Addr} {φ : Heap → Prop} (e : Xe F F') (h : F a = some (.ext φ)) : F' a = some (.ext φ) := by
  rcases e a _ h with h1 | ⟨u, h1, _, _, z, _⟩
  · exact h1
  · cases z
theorem xe_l {K : Frag} {F F' : Hp} {a : Addr} {xs : List V} (e : Xe F F') (h : SqL K F a xs) : SqL K F' a xs := by
  rcases h with h | h
  · exact .inl (e.lst h)
  · exact .inr h
theorem xe_t {K : Frag} {F F' : Hp} {a : Addr} {xs : List V} (e : Xe F F') (h : SqT K F a xs) : SqT K F' a xs := by
  rcases h with h | h
  · exact .inl (e.tup h)
  · exact .inr h
mutual
def Rep (K : Frag) (F : Hp) : Dt → V → Prop
  | .non, v => v = .non
  | .bl b, v => v = .bl b
  | .int i, v => v = .int i
  | .str x, v => v = .str x
  | .ty n, v => v = .ty n
  | .ref a, v => v = .ref a
  | .lst ds, v => ∃ a xs, v = .ref a ∧ SqL K F a xs ∧ RepL K F ds xs
  | .tup ds, v => ∃ a xs, v = .ref a ∧ SqT K F a xs ∧ RepL K F ds xs
  | .dic ks ds, v => ∃ a xs, v = .ref a ∧ Rd F a (.dK (ks.zip xs)) ∧ ks.length = ds.length ∧ RepL K F ds xs
  | .ins C fs ds, v => ∃ a dx xs, v = .ref a ∧ F a = some (.ins C dx (fs.zip xs)) ∧ fs.length = ds.length ∧ RepL K F ds xs
  | .exn a dd _ fs ds, v => v = .ref a ∧ ((fs = [] ∧ dd = none) ∨ ∃ b xs, dd = some b ∧ F b = some (.xd (fs.zip xs)) ∧ fs.length = ds.length ∧ RepL K F ds xs)
  | .own _, _ => False
  | .dtt ks, v => ∃ a, v = .ref a ∧ F a = some (.dT (dtV ks))
  | .ttp k, v => ∃ a, v = .ref a ∧ F a = some (.tup (k.map kV))
  | .lpl ds, v => ∃ a xs, v = .ref a ∧ F a = some (.lst xs) ∧ RepL K F ds xs
  | .utp, v => ∃ a xs, v = .ref a ∧ SqT K F a xs
  | .any, v => ∃ a, v = .ref a
  | .exv C fs ds, v => ∃ a dd, v = .ref a ∧ F a = some (exo a C dd) ∧ ((fs = [] ∧ ds = [] ∧ dd = none) ∨ ∃ b xs, dd = some b ∧ F b = some (exd b (fs.zip xs)) ∧ fs.length = ds.length ∧ RepL K F ds xs)
def RepL (K : Frag) (F : Hp) : List Dt → List V → Prop
  | [], vs => vs = []
  | d :: ds, vs => ∃ v r, vs = v :: r ∧ Rep K F d v ∧ RepL K F ds r
end
mutual
theorem Rep.mono {K : Frag} {F F' : Hp} (e : Xe F F') : ∀ {d : Dt} {v : V}, Rep K F d v → Rep K F' d v
  | .non, _, h => h
  | .bl _, _, h => h
  | .int _, _, h => h
  | .str _, _, h => h
  | .ty _, _, h => h
  | .ref _, _, h => h
  | .lst ds, _, h => by
    unfold Rep at h ⊢
    obtain ⟨a, xs, h1, h2, h3⟩ := h
    exact ⟨a, xs, h1, xe_l e h2, RepL.mono e h3⟩
  | .tup ds, _, h => by
    unfold Rep at h ⊢
    obtain ⟨a, xs, h1, h2, h3⟩ := h
    exact ⟨a, xs, h1, xe_t e h2, RepL.mono e h3⟩
  | .dic ks ds, _, h => by
    unfold Rep at h ⊢
    obtain ⟨a, xs, h1, h2, h3, h4⟩ := h
    exact ⟨a, xs, h1, e.dic h2, h3, RepL.mono e h4⟩
  | .ins C fs ds, _, h => by
    unfold Rep at h ⊢
    obtain ⟨a, dx, xs, h1, h2, h3, h4⟩ := h
    exact ⟨a, dx, xs, h1, e.ins h2, h3, RepL.mono e h4⟩
  | .exn a dd C fs ds, _, h => by
    unfold Rep at h ⊢
    obtain ⟨h1, h2⟩ := h
    refine ⟨h1, ?_⟩
    rcases h2 with h2 | ⟨b, xs, h3, h4, h5, h6⟩
    · exact .inl h2
    · exact .inr ⟨b, xs, h3, e.xd h4, h5, RepL.mono e h6⟩
  | .own _, _, h => by
    unfold Rep at h
    exact h.elim
  | .dtt ks, _, h => by
    unfold Rep at h ⊢
    obtain ⟨a, h1, h2⟩ := h
    exact ⟨a, h1, e.dtt h2⟩
  | .ttp k, _, h => by
    unfold Rep at h ⊢
    obtain ⟨a, h1, h2⟩ := h
    exact ⟨a, h1, e.ttp h2⟩
  | .lpl ds, _, h => by
    unfold Rep at h ⊢
    obtain ⟨a, xs, h1, h2, h3⟩ := h
    exact ⟨a, xs, h1, e.lpl h2, RepL.mono e h3⟩
  | .utp, _, h => by
    unfold Rep at h ⊢
    obtain ⟨a, xs, h1, h2⟩ := h
    exact ⟨a, xs, h1, xe_t e h2⟩
  | .any, _, h => by
    unfold Rep at h ⊢
    exact h
  | .exv C fs ds, _, h => by
    unfold Rep at h ⊢
    obtain ⟨a, dd, h1, h2, h3⟩ := h
    refine ⟨a, dd, h1, e.ext h2, ?_⟩
    rcases h3 with h3 | ⟨b, xs, h3, h4, h5, h6⟩
    · exact .inl h3
    · exact .inr ⟨b, xs, h3, e.ext h4, h5, RepL.mono e h6⟩
theorem RepL.mono {K : Frag} {F F' : Hp} (e : Xe F F') : ∀ {ds : List Dt} {vs : List V}, RepL K F ds vs → RepL K F' ds vs
  | [], _, h => by
    unfold RepL at h ⊢
    exact h
  | d :: ds, _, h => by
    unfold RepL at h ⊢
    obtain ⟨v, r, h1, h2, h3⟩ := h
    exact ⟨v, r, h1, Rep.mono e h2, RepL.mono e h3⟩
end
theorem RepL.length {K : Frag} {F : Hp} : ∀ {ds : List Dt} {vs : List V}, RepL K F ds vs → vs.length = ds.length
  | [], _, h => by
    unfold RepL at h
    rw [h] <;> rfl
  | d :: ds, _, h => by
    unfold RepL at h
    obtain ⟨v, r, h1, h2, h3⟩ := h
    rw [h1, List.length_cons, List.length_cons, RepL.length h3]
theorem RepL.get {K : Frag} {F : Hp} : ∀ {ds : List Dt} {vs : List V} {i : Nat} {d : Dt}, RepL K F ds vs → ds[i]? = some d → ∃ v, vs[i]? = some v ∧ Rep K F d v
  | [], _, i, d, h, e => by simp at e
  | c :: ds, _, 0, d, h, e => by
    unfold RepL at h
    obtain ⟨v, r, h1, h2, h3⟩ := h
    simp at e
    subst e h1
    exact ⟨v, rfl, h2⟩
  | c :: ds, _, i + 1, d, h, e => by
    unfold RepL at h
    obtain ⟨v, r, h1, h2, h3⟩ := h
    subst h1
    obtain ⟨u, e1, e2⟩ := RepL.get (i := i) (d := d) h3 (by simpa using e)
    exact ⟨u, by simpa using e1, e2⟩
theorem RepL.app {K : Frag} {F : Hp} : ∀ {ds es : List Dt} {vs us : List V}, RepL K F ds vs → RepL K F es us → RepL K F (ds ++ es) (vs ++ us)
  | [], es, vs, us, h, g => by
    unfold RepL at h
    subst h
    exact g
  | d :: ds, es, vs, us, h, g => by
    unfold RepL at h
    obtain ⟨v, r, h1, h2, h3⟩ := h
    subst h1
    show RepL K F (d :: (ds ++ es)) (v :: (r ++ us))
    unfold RepL
    exact ⟨v, r ++ us, rfl, h2, RepL.app h3 g⟩
theorem repL_nil {K : Frag} {F : Hp} : RepL K F [] [] := by
  unfold RepL
  rfl
theorem repL_cons {K : Frag} {F : Hp} {d : Dt} {ds : List Dt} {v : V} {vs : List V} (h : Rep K F d v) (g : RepL K F ds vs) : RepL K F (d :: ds) (v :: vs) := by
  unfold RepL
  exact ⟨v, vs, rfl, h, g⟩
/-! ### slots -/
inductive Sl where
  | no | sh (d : Dt) | ow (l : Bool) (d : Dt) | gh (d : Dt) | fx (d : Dt)
/-- slots that nothing sets: a dict of own lists, and shared data that stay -/
def spc : Sl → Bool
  | .gh _ => true
  | .fx _ => true
  | _ => false
abbrev En := List Sl
/-- what an owned object is -/
def Own (K : Frag) (F H : Hp) (p : Addr) : Dt → Prop
  | .lst ds => ∃ xs, H p = some (.lst xs) ∧ RepL K F ds xs
  | .dic ks ds => ∃ xs, H p = some (.dK (ks.zip xs)) ∧ ks.length = ds.length ∧ RepL K F ds xs
  | .ins C fs ds => ∃ dx xs, H p = some (.ins C dx (fs.zip xs)) ∧ fs.length = ds.length ∧ RepL K F ds xs
  | .dtt ks => H p = some (.dT (dtV ks))
  | _ => False
theorem Own.mono {K : Frag} {F F' H H' : Hp} {p : Addr} (e : Xe F F') (h : H' p = H p) : ∀ {d : Dt}, Own K F H p d → Own K F' H' p d
  | .lst ds, ⟨xs, a, b⟩ => ⟨xs, h.trans a, b.mono e⟩
  | .dic ks ds, ⟨xs, a, b, c⟩ => ⟨xs, h.trans a, b, c.mono e⟩
  | .ins C fs ds, ⟨dx, xs, a, b, c⟩ => ⟨dx, xs, h.trans a, b, c.mono e⟩
  | .dtt ks, a => h.trans a
theorem Own.there {K : Frag} {F H : Hp} {p : Addr} : ∀ {d : Dt}, Own K F H p d → H p ≠ none
  | .lst ds, ⟨xs, a, b⟩ => by rw [a]; exact fun z => nomatch z
  | .dic ks ds, ⟨xs, a, b, c⟩ => by rw [a]; exact fun z => nomatch z
  | .ins C fs ds, ⟨dx, xs, a, b, c⟩ => by rw [a]; exact fun z => nomatch z
  | .dtt ks, a => by rw [show H p = _ from a]; exact fun z => nomatch z
/-- an address that a slot owns itself -/
def OwS (σ : L2.St) (ρ : En) (a : Addr) : Prop := ∃ (i : Nat) (l : Bool) (d : Dt), ρ[i]? = some (.ow l d) ∧ σ[i]? = some (some (.ref a))
/-- an address of a dict of own lists: the dict, or one of its lists -/
def GhO (H : Hp) (p a : Addr) : Prop := a = p ∨ ∃ kvs k, H p = some (.dK kvs) ∧ (k, V.ref a) ∈ kvs
def GhA (σ : L2.St) (ρ : En) (H : Hp) (a : Addr) : Prop := ∃ (i : Nat) (d : Dt) (p : Addr), ρ[i]? = some (.gh d) ∧ σ[i]? = some (some (.ref p)) ∧ GhO H p a
def OwA (σ : L2.St) (ρ : En) (H : Hp) (a : Addr) : Prop := OwS σ ρ a ∨ GhA σ ρ H a
/-- the own lists of a dict -/
def LsD (K : Frag) (F H : Hp) : List Dt → List Addr → Prop
  | [], bs => bs = []
  | d :: ds, bs => ∃ es b r xs, d = .lst es ∧ bs = b :: r ∧ F b = none ∧ H b = some (.lst xs) ∧ RepL K F es xs ∧ LsD K F H ds r
/-- a dict of own lists at p -/
def GhD (K : Frag) (F H : Hp) (p : Addr) (d : Dt) : Prop := ∃ ks ds bs, d = .dic ks ds ∧ ks.length = ds.length ∧ F p = none ∧ H p = some (.dK (ks.zip (bs.map V.ref))) ∧ (p :: bs).Nodup ∧ LsD K F H ds bs
structure GhS (K : Frag) (F H : Hp) (σ : L2.St) (ρ : En) : Prop where
  at_ : ∀ (i : Nat) (d : Dt), ρ[i]? = some (.gh d) → ∃ p, σ[i]? = some (some (.ref p)) ∧ GhD K F H p d
  dj : ∀ a, GhA σ ρ H a → ¬ OwS σ ρ a
  one : ∀ (i j : Nat) (d e : Dt), ρ[i]? = some (.gh d) → ρ[j]? = some (.gh e) → i = j
  fx : ∀ (i : Nat) (d : Dt), ρ[i]? = some (.fx d) → ∃ v, σ[i]? = some (some v) ∧ Rep K F d v
theorem LsD.mv {K : Frag} {F F' H H' : Hp} (x : Xe F F') : ∀ {ds : List Dt} {bs : List Addr}, (∀ b ∈ bs, F' b = none ∧ H' b = H b) → LsD K F H ds bs → LsD K F' H' ds bs
  | [], _, _, h => h
  | d :: ds, _, hb, ⟨es, b, r, xs, e1, e2, h1, h2, h3, h4⟩ => by
    subst e2
    obtain ⟨f1, f2⟩ := hb b List.mem_cons_self
    exact ⟨es, b, r, xs, e1, rfl, f1, f2.trans h2, h3.mono x, LsD.mv x (fun c hc => hb c (List.mem_cons_of_mem _ hc)) h4⟩
theorem LsD.out {K : Frag} {F H : Hp} : ∀ {ds : List Dt} {bs : List Addr}, LsD K F H ds bs → ∀ b ∈ bs, F b = none ∧ H b ≠ none
  | [], _, h, b, hb => by
    have h : _ = [] := h
    rw [h] at hb
    exact nomatch hb
  | d :: ds, _, ⟨es, b, r, xs, e1, e2, h1, h2, h3, h4⟩, c, hc => by
    subst e2
    rcases List.mem_cons.mp hc with rfl | hc
    · exact ⟨h1, by rw [h2]; exact fun z => nomatch z⟩
    · exact LsD.out h4 c hc
theorem zip_ref {ks : List Key} {bs : List Addr} {k : Key} {a : Addr} (h : (k, V.ref a) ∈ ks.zip (bs.map V.ref)) : a ∈ bs := by
  have := (List.of_mem_zip h).2
  obtain ⟨b, hb, e⟩ := List.mem_map.mp this
  injection e with e
  exact e ▸ hb
theorem GhD.out {K : Frag} {F H : Hp} {p a : Addr} {d : Dt} (g : GhD K F H p d) (h : GhO H p a) : F a = none ∧ H a ≠ none := by
  obtain ⟨ks, ds, bs, _, _, h1, h2, _, h3⟩ := g
  rcases h with rfl | ⟨kvs, k, h4, h5⟩
  · exact ⟨h1, by rw [h2]; exact fun z => nomatch z⟩
  · rw [h2] at h4
    cases h4
    exact h3.out a (zip_ref h5)
theorem GhD.mem {K : Frag} {F H : Hp} {p b : Addr} {d : Dt} {ks : List Key} {ds : List Dt} {bs : List Addr} (h2 : H p = some (.dK (ks.zip (bs.map V.ref)))) (hl : ks.length = bs.length) (hb : b ∈ bs) : GhO H p b := by
  obtain ⟨i, hi, e⟩ := List.mem_iff_getElem.mp hb
  refine .inr ⟨_, ks[i]'(by omega), h2, List.mem_iff_getElem.mpr ⟨i, by rw [List.length_zip, List.length_map]; omega, ?_⟩⟩
  rw [List.getElem_zip, List.getElem_map, e]
theorem LsD.len {K : Frag} {F H : Hp} : ∀ {ds : List Dt} {bs : List Addr}, LsD K F H ds bs → ds.length = bs.length
  | [], _, h => by
    have h : _ = [] := h
    rw [h]
    rfl
  | d :: ds, _, ⟨es, b, r, xs, e1, e2, h1, h2, h3, h4⟩ => by
    subst e2
    rw [List.length_cons, List.length_cons, LsD.len h4]
theorem GhD.mv {K : Frag} {F F' H H' : Hp} {p : Addr} {d : Dt} (g : GhD K F H p d) (x : Xe F F') (h : ∀ a, GhO H p a → F' a = none ∧ H' a = H a) : GhD K F' H' p d := by
  obtain ⟨ks, ds, bs, e, hk, h1, h2, h4, h3⟩ := g
  obtain ⟨p1, p2⟩ := h p (.inl rfl)
  refine ⟨ks, ds, bs, e, hk, p1, p2.trans h2, h4, h3.mv x fun b hb => h b (GhD.mem (d := d) (ds := ds) (K := K) (F := F) h2 (hk.trans h3.len) hb)⟩
theorem GhO.back {H H' : Hp} {p a : Addr} (e : H' p = H p) (h : GhO H' p a) : GhO H p a := by
  unfold GhO at h ⊢
  rw [e] at h
  exact h
section
variable {K : Frag} {σ σ' : L2.St} {ρ ρ' : En} {F F' H H' : Hp}
theorem GhA.out (g : GhS K F H σ ρ) {a : Addr} (h : GhA σ ρ H a) : F a = none ∧ H a ≠ none := by
  obtain ⟨i, d, p, h1, h2, h3⟩ := h
  obtain ⟨q, h4, h5⟩ := g.at_ i d h1
  rw [h2] at h4
  have z := Option.some.inj (Option.some.inj h4)
  injection z with z
  subst z
  exact h5.out h3
theorem GhA.back (hρ : ∀ (i : Nat) (s : Sl), spc s = true → ρ'[i]? = some s → ρ[i]? = some s ∧ σ'[i]? = σ[i]?) (hH : ∀ a, GhA σ ρ H a → H' a = H a) {a : Addr} (h : GhA σ' ρ' H' a) : GhA σ ρ H a := by
  obtain ⟨i, d, p, h1, h2, h3⟩ := h
  obtain ⟨h4, h5⟩ := hρ i _ rfl h1
  rw [h5] at h2
  exact ⟨i, d, p, h4, h2, h3.back (hH p ⟨i, d, p, h4, h2, .inl rfl⟩)⟩
theorem GhS.no (h : ∀ (i : Nat) (d : Dt), ρ[i]? ≠ some (.gh d)) (hx : ∀ (i : Nat) (d : Dt), ρ[i]? = some (.fx d) → ∃ v, σ[i]? = some (some v) ∧ Rep K F d v) : GhS K F H σ ρ where
  fx := hx
  at_ := fun i d z => absurd z (h i d)
  dj := fun _ ⟨i, d, _, z, _⟩ => absurd z (h i d)
  one := fun i _ d _ z => absurd z (h i d)
theorem GhA.no (h : ∀ (i : Nat) (d : Dt), ρ[i]? ≠ some (.gh d)) {a : Addr} : ¬ GhA σ ρ H a := fun ⟨i, d, _, z, _⟩ => h i d z
theorem GhS.mv (g : GhS K F H σ ρ) (x : Xe F F') (hρ : ∀ (i : Nat) (s : Sl), spc s = true → ρ'[i]? = some s → ρ[i]? = some s ∧ σ'[i]? = σ[i]?) (hH : ∀ a, GhA σ ρ H a → F' a = none ∧ H' a = H a) (hO : ∀ a, GhA σ ρ H a → ¬ OwS σ' ρ' a) : GhS K F' H' σ' ρ' where
  at_ := fun i d h => by
    obtain ⟨h1, h2⟩ := hρ i _ rfl h
    obtain ⟨p, h3, h4⟩ := g.at_ i d h1
    exact ⟨p, by rw [h2]; exact h3, h4.mv x fun a ha => hH a ⟨i, d, p, h1, h3, ha⟩⟩
  dj := fun a h => hO a (h.back hρ fun a ha => (hH a ha).2)
  one := fun i j d e h1 h2 => g.one i j d e (hρ i _ rfl h1).1 (hρ j _ rfl h2).1
  fx := fun i d h => by
    obtain ⟨h1, h2⟩ := hρ i _ rfl h
    obtain ⟨v, h3, h4⟩ := g.fx i d h1
    exact ⟨v, by rw [h2]; exact h3, h4.mono x⟩
end
structure Sym (K : Frag) (F H : Hp) (σ : L2.St) (ρ : En) : Prop where
  ex : Ex F H
  len : σ.length = ρ.length
  sh : ∀ (i : Nat) (d : Dt), ρ[i]? = some (.sh d) → ∃ v, σ[i]? = some (some v) ∧ Rep K F d v
  ow : ∀ (i : Nat) (l : Bool) (d : Dt), ρ[i]? = some (.ow l d) → ∃ p, σ[i]? = some (some (.ref p)) ∧ F p = none ∧ Own K F H p d
  inj : ∀ (i j : Nat) (l m : Bool) (d e : Dt) (p : Addr), ρ[i]? = some (.ow l d) → ρ[j]? = some (.ow m e) → σ[i]? = some (some (.ref p)) → σ[j]? = some (some (.ref p)) → i = j
  gh : GhS K F H σ ρ
theorem Sym.exx {K : Frag} {F H : Hp} {σ : L2.St} {ρ : En} (s : Sym K F H σ ρ) : Xe F H := Xe.of s.ex
/-- from one state to a later one -/
structure Step (K : Frag) (σ : L2.St) (ρ : En) (F H : Hp) (σ' : L2.St) (ρ' : En) (F' H' : Hp) : Prop where
  sym : Sym K F' H' σ' ρ'
  exF : Xe F F'
  keep : ∀ a o, H a = some o → ¬ OwA σ ρ H a → H' a = some o ∨ (F a ≠ none ∧ ∃ u, H' a = some u ∧ Lok o u)
  own : ∀ a, OwA σ' ρ' H' a → OwA σ ρ H a ∨ H a = none
  new : ∀ a, F' a ≠ none → F a ≠ none ∨ H a = none ∨ OwA σ ρ H a
  all : ∀ a, H a ≠ none → H' a ≠ none
  stay : ∀ (i : Nat) (d : Dt), ρ[i]? = some (.ow true d) → ∃ d', ρ'[i]? = some (.ow true d') ∧ σ'[i]? = σ[i]?
  fxs : ∀ (i : Nat) (d : Dt), ρ[i]? = some (.fx d) → ρ'[i]? = some (.fx d) ∧ σ'[i]? = σ[i]? := by exact fun _ _ h => ⟨h, rfl⟩
section
variable {K : Frag} {σ σ1 σ2 : L2.St} {ρ ρ1 ρ2 : En} {F F1 F2 H H1 H2 : Hp}
theorem Step.refl (s : Sym K F H σ ρ) : Step K σ ρ F H σ ρ F H := ⟨s, Xe.refl F, fun _ _ h _ => .inl h, fun _ h => .inl h, fun _ h => .inl h, fun _ h => h, fun _ d h => ⟨d, h, rfl⟩, fun _ _ h => ⟨h, rfl⟩⟩
theorem Step.trans (a : Step K σ ρ F H σ1 ρ1 F1 H1) (b : Step K σ1 ρ1 F1 H1 σ2 ρ2 F2 H2) : Step K σ ρ F H σ2 ρ2 F2 H2 where
  sym := b.sym
  exF := a.exF.trans b.exF
  keep := fun x o h n => by
    have n1 : ¬ OwA σ1 ρ1 H1 x := fun z => by
      rcases a.own x z with y | y
      · exact n y
      · rw [h] at y
        cases y
    have f1 : F1 x ≠ none → F x ≠ none := fun z => by
      rcases a.new x z with y | y | y
      · exact y
      · rw [h] at y
        cases y
      · exact absurd y n
    rcases a.keep x o h n with h1 | ⟨hf, u, h1, l⟩
    · rcases b.keep x o h1 n1 with h2 | ⟨hg, v, h2, l2⟩
      · exact .inl h2
      · exact .inr ⟨f1 hg, v, h2, l2⟩
    · rcases b.keep x u h1 n1 with h2 | ⟨hg, v, h2, l2⟩
      · exact .inr ⟨hf, u, h2, l⟩
      · exact (l.noL l2).elim
  own := fun x z => by
    rcases b.own x z with y | y
    · exact a.own x y
    · refine .inr ?_
      cases h : H x with
      | none => rfl
      | some o => exact absurd y (a.all x (by rw [h]; exact fun z => nomatch z))
  new := fun x z => by
    rcases b.new x z with y | y | y
    · exact a.new x y
    · refine .inr (.inl ?_)
      cases h : H x with
      | none => rfl
      | some o => exact absurd y (a.all x (by rw [h]; exact fun z => nomatch z))
    · rcases a.own x y with w | w
      · exact .inr (.inr w)
      · exact .inr (.inl w)
  all := fun x z => b.all x (a.all x z)
  stay := fun i d h => by
    obtain ⟨d1, h1, e1⟩ := a.stay i d h
    obtain ⟨d2, h2, e2⟩ := b.stay i d1 h1
    exact ⟨d2, h2, e2.trans e1⟩
  fxs := fun i d h => by
    obtain ⟨h1, e1⟩ := a.fxs i d h
    obtain ⟨h2, e2⟩ := b.fxs i d h1
    exact ⟨h2, e2.trans e1⟩
/-- nothing but new objects (and locks of shared dicts); all of these are frozen -/
def Gw (F H H' : Hp) : Prop := ∀ a o, H a = some o → H' a = some o ∨ (F a ≠ none ∧ ∃ u, H' a = some u ∧ Lok o u)
theorem Gw.of (g : Ex H H1) : Gw F H H1 := fun a o h => .inl (g a o h)
theorem Gw.all (g : Gw F H H1) {a : Addr} (h : H a ≠ none) : H1 a ≠ none := by
  cases q : H a with
  | none => exact absurd q h
  | some o =>
    rcases g a o q with h1 | ⟨_, u, h1, _⟩
    · rw [h1]; exact fun z => nomatch z
    · rw [h1]; exact fun z => nomatch z
def Fz (F H H' : Hp) : Hp := fun a => match H a with
  | none => H' a
  | some _ => match F a with
    | none => none
    | some _ => H' a
theorem fz_old {a : Addr} {o : HO} (h : H a = some o) (hf : F a = none) : Fz F H H1 a = none := by unfold Fz; rw [h, hf]
theorem fz_have {a : Addr} {o u : HO} (h : H a = some o) (hf : F a = some u) : Fz F H H1 a = H1 a := by unfold Fz; rw [h, hf]
theorem fz_new {a : Addr} (h : H a = none) : Fz F H H1 a = H1 a := by unfold Fz; rw [h]
theorem fz_exG (h : Ex F H) (g : Gw F H H1) : Xe F (Fz F H H1) := fun a o e => by
  rw [fz_have (h a o e) e]
  rcases g a o (h a o e) with z | ⟨_, z⟩
  · exact .inl z
  · exact .inr z
theorem fz_ex (h : Ex F H) (g : Ex H H1) : Xe F (Fz F H H1) := fz_exG h (Gw.of g)
theorem fz_in : Ex (Fz F H H1) H1 := fun a o e => by
  cases q : H a with
  | none =>
    rw [fz_new q] at e
    exact e
  | some u =>
    cases r : F a with
    | none =>
      rw [fz_old q r] at e
      cases e
    | some v =>
      rw [fz_have q r] at e
      exact e
theorem fz_some {a : Addr} (h : Fz F H H1 a ≠ none) : F a ≠ none ∨ H a = none := by
  cases q : H a with
  | none => exact .inr rfl
  | some o =>
    cases r : F a with
    | none => exact absurd (fz_old q r) h
    | some v => exact .inl (fun z => nomatch z)
theorem Gw.ghost (g : Gw F H H1) (s : GhS K F H σ ρ) {a : Addr} (ha : GhA σ ρ H a) : Fz F H H1 a = none ∧ H1 a = H a := by
  obtain ⟨h1, h2⟩ := ha.out s
  cases q : H a with
  | none => exact absurd q h2
  | some o =>
    refine ⟨fz_old q h1, ?_⟩
    rcases g a o q with z | ⟨z, _⟩
    · exact z
    · exact absurd h1 z
theorem Sym.growG (s : Sym K F H σ ρ) (g : Gw F H H1) : Sym K (Fz F H H1) H1 σ ρ where
  ex := fz_in
  len := s.len
  sh := fun i d h => by
    obtain ⟨v, a, b⟩ := s.sh i d h
    exact ⟨v, a, b.mono (fz_exG s.ex g)⟩
  ow := fun i l d h => by
    obtain ⟨p, a, b, c⟩ := s.ow i l d h
    cases q : H p with
    | none => exact absurd q c.there
    | some o =>
      refine ⟨p, a, fz_old q b, c.mono (fz_exG s.ex g) ?_⟩
      rcases g p o q with z | ⟨z, _⟩
      · rw [q]; exact z
      · exact absurd b z
  inj := s.inj
  gh := s.gh.mv (fz_exG s.ex g) (fun _ _ _ h => ⟨h, rfl⟩) (fun a ha => g.ghost s.gh ha) fun a ha => s.gh.dj a ha
theorem Step.growG (s : Sym K F H σ ρ) (g : Gw F H H1) : Step K σ ρ F H σ ρ (Fz F H H1) H1 where
  sym := s.growG g
  exF := fz_exG s.ex g
  keep := fun a o h _ => g a o h
  own := fun a h => .inl (h.imp_right fun z => z.back (fun _ _ _ h => ⟨h, rfl⟩) fun a ha => (g.ghost s.gh ha).2)
  new := fun a h => by
    rcases fz_some h with z | z
    · exact .inl z
    · exact .inr (.inl z)
  all := fun a h => g.all h
  stay := fun _ d h => ⟨d, h, rfl⟩
theorem Step.grow (s : Sym K F H σ ρ) (g : Ex H H1) : Step K σ ρ F H σ ρ (Fz F H H1) H1 := Step.growG s (Gw.of g)
/-- a shared dict is locked -/
theorem Sym.lock {d : Addr} {ob : Obj} {kvs : List (Key × V)} (s : Sym K F H σ ρ) (h : F d = some (.dK kvs)) : Sym K (upd F d (.frz ob (.dK kvs))) (upd H d (.frz ob (.dK kvs))) σ ρ := by
  have x : Xe F (upd F d (.frz ob (.dK kvs))) := fun a o e => by
    by_cases z : a = d
    · subst z
      rw [h] at e
      cases e
      exact .inr ⟨_, upd_same, ob, kvs, rfl, rfl⟩
    · exact .inl (by rw [upd_ne z]; exact e)
  exact {
    ex := fun a o e => by
      by_cases z : a = d
      · subst z
        rw [upd_same] at e ⊢
        exact e
      · rw [upd_ne z] at e ⊢
        exact s.ex a o e
    len := s.len
    sh := fun i e g => by
      obtain ⟨v, a, b⟩ := s.sh i e g
      exact ⟨v, a, b.mono x⟩
    ow := fun i l e g => by
      obtain ⟨p, a, b, c⟩ := s.ow i l e g
      have ne : p ≠ d := fun z => by
        subst z
        rw [h] at b
        cases b
      exact ⟨p, a, by rw [upd_ne ne]; exact b, c.mono x (upd_ne ne)⟩
    inj := s.inj
    gh := s.gh.mv x (fun _ _ _ h => ⟨h, rfl⟩) (fun a ha => by
      have ne : a ≠ d := fun z => by
        have := (ha.out s.gh).1
        rw [z, h] at this
        cases this
      exact ⟨by rw [upd_ne ne]; exact (ha.out s.gh).1, upd_ne ne⟩) fun a ha => s.gh.dj a ha }
theorem Step.lock {d : Addr} {ob : Obj} {kvs : List (Key × V)} (s : Sym K F H σ ρ) (h : F d = some (.dK kvs)) : Step K σ ρ F H σ ρ (upd F d (.frz ob (.dK kvs))) (upd H d (.frz ob (.dK kvs))) where
  sym := s.lock h
  exF := fun a o e => by
    by_cases z : a = d
    · subst z
      rw [h] at e
      cases e
      exact .inr ⟨_, upd_same, ob, kvs, rfl, rfl⟩
    · exact .inl (by rw [upd_ne z]; exact e)
  keep := fun a o e _ => by
    by_cases z : a = d
    · subst z
      rw [s.ex _ _ h] at e
      cases e
      exact .inr ⟨by rw [h]; exact (fun y => nomatch y), _, upd_same, ob, kvs, rfl, rfl⟩
    · exact .inl (by rw [upd_ne z]; exact e)
  own := fun a h1 => .inl (h1.imp_right fun z => z.back (fun _ _ _ h => ⟨h, rfl⟩) fun a ha => by
    have ne : a ≠ d := fun z => by
      have := (ha.out s.gh).1
      rw [z, h] at this
      cases this
    exact upd_ne ne)
  new := fun a e => by
    by_cases z : a = d
    · subst z
      exact .inl (by rw [h]; exact fun y => nomatch y)
    · rw [upd_ne z] at e
      exact .inl e
  all := fun a e => by
    by_cases z : a = d
    · subst z
      rw [upd_same]
      exact fun y => nomatch y
    · rw [upd_ne z]
      exact e
  stay := fun _ d h => ⟨d, h, rfl⟩
theorem gh_set {i : Nat} {x y : Sl} (hi : ρ[i]? = some x) (hy : spc y = false := by rfl) {σ : L2.St} : ∀ (j : Nat) (e : Sl), spc e = true → (ρ.set i y)[j]? = some e → ρ[j]? = some e ∧ σ[j]? = σ[j]? := fun j e he h => by
  by_cases hj : i = j
  · subst hj
    rw [List.getElem?_set_self (List.getElem?_eq_some_iff.mp hi).1] at h
    rw [Option.some.inj h, he] at hy
    cases hy
  · rw [List.getElem?_set_ne hj] at h
    exact ⟨h, rfl⟩
/-- a slot of another kind is set: those that stay do so -/
theorem fx_set {i j : Nat} {x y : Sl} {d : Dt} {σ : L2.St} (hi : ρ[i]? = some x) (hx : (match x with | .fx _ => true | _ => false) = false) (h : ρ[j]? = some (.fx d)) : (ρ.set i y)[j]? = some (.fx d) ∧ σ[j]? = σ[j]? := by
  have ne : i ≠ j := fun z => by
    subst z
    rw [hi] at h
    cases h
    cases hx
  exact ⟨by rw [List.getElem?_set_ne ne]; exact h, rfl⟩
theorem OwS.of_write {i : Nat} {l : Bool} {d d' : Dt} {a : Addr} (hi : ρ[i]? = some (.ow l d)) (h : OwS σ (ρ.set i (.ow l d')) a) : OwS σ ρ a := by
  obtain ⟨j, m, e, h1, h2⟩ := h
  by_cases hj : i = j
  · subst hj
    exact ⟨i, l, d, hi, h2⟩
  · rw [List.getElem?_set_ne hj] at h1
    exact ⟨j, m, e, h1, h2⟩
/-- the object that the slot i owns is changed -/
theorem Sym.write {i : Nat} {l : Bool} {d d' : Dt} {p : Addr} {o : HO} (s : Sym K F H σ ρ) (hi : ρ[i]? = some (.ow l d)) (hp : σ[i]? = some (some (.ref p))) (new : Own K F (upd H p o) p d') : Sym K F (upd H p o) σ (ρ.set i (.ow l d')) := by
  obtain ⟨p', a, b, c⟩ := s.ow i l d hi
  have ep : p' = p := by
    rw [a] at hp
    have z := Option.some.inj (Option.some.inj hp)
    injection z
  subst ep
  have hil : i < ρ.length := (List.getElem?_eq_some_iff.mp hi).1
  exact {
    ex := Ex.mut s.ex b
    len := by rw [List.length_set]; exact s.len
    sh := fun j e h => by
      by_cases hj : i = j
      · subst hj
        rw [List.getElem?_set_self hil] at h
        cases h
      · rw [List.getElem?_set_ne hj] at h
        exact s.sh j e h
    ow := fun j m e h => by
      by_cases hj : i = j
      · subst hj
        rw [List.getElem?_set_self hil] at h
        cases h
        exact ⟨p', a, b, new⟩
      · rw [List.getElem?_set_ne hj] at h
        obtain ⟨q, a', b', c'⟩ := s.ow j m e h
        have ne : q ≠ p' := fun z => by
          subst z
          exact hj (s.inj i j l m d e q hi h a a')
        exact ⟨q, a', b', c'.mono (Xe.refl F) (upd_ne ne)⟩
    inj := fun j k m n e f q h1 h2 h3 h4 => by
      have t : ∀ {j : Nat} {m : Bool} {e : Dt}, (ρ.set i (.ow l d'))[j]? = some (.ow m e) → ∃ m e, ρ[j]? = some (.ow m e) := fun {j m e} h => by
        by_cases hj : i = j
        · subst hj
          exact ⟨l, d, hi⟩
        · rw [List.getElem?_set_ne hj] at h
          exact ⟨m, e, h⟩
      obtain ⟨m', e', h1'⟩ := t h1
      obtain ⟨n', f', h2'⟩ := t h2
      exact s.inj j k m' n' e' f' q h1' h2' h3 h4
    gh := s.gh.mv (Xe.refl F) (gh_set hi) (fun a ha => by
      have ne : a ≠ p' := fun z => s.gh.dj a ha ⟨i, l, d, hi, by rw [z]; exact hp⟩
      exact ⟨(ha.out s.gh).1, upd_ne ne⟩) fun a ha z => s.gh.dj a ha (OwS.of_write hi z) }
theorem OwA.of_write {i : Nat} {l : Bool} {d d' : Dt} {a p : Addr} {o : HO} (s : Sym K F H σ ρ) (hi : ρ[i]? = some (.ow l d)) (hp : σ[i]? = some (some (.ref p))) (h : OwA σ (ρ.set i (.ow l d')) (upd H p o) a) : OwA σ ρ H a := by
  rcases h with h | h
  · exact .inl (h.of_write hi)
  · refine .inr (h.back (gh_set hi) fun a ha => ?_)
    have ne : a ≠ p := fun z => s.gh.dj a ha ⟨i, l, d, hi, by rw [z]; exact hp⟩
    exact upd_ne ne
theorem Step.write {i : Nat} {l : Bool} {d d' : Dt} {p : Addr} {o : HO} (s : Sym K F H σ ρ) (hi : ρ[i]? = some (.ow l d)) (hp : σ[i]? = some (some (.ref p))) (new : Own K F (upd H p o) p d') : Step K σ ρ F H σ (ρ.set i (.ow l d')) F (upd H p o) where
  sym := s.write hi hp new
  exF := Xe.refl F
  keep := fun a u h n => by
    have ne : a ≠ p := fun z => by
      subst z
      exact n (.inl ⟨i, l, d, hi, hp⟩)
    rw [upd_ne ne]
    exact .inl h
  own := fun a h => .inl (OwA.of_write s hi hp h)
  new := fun a h => .inl h
  all := fun a h => by
    by_cases e : a = p
    · subst e
      rw [upd_same]
      exact fun z => nomatch z
    · rw [upd_ne e]
      exact h
  stay := fun j e h => by
    by_cases hj : i = j
    · subst hj
      rw [hi] at h
      cases h
      exact ⟨d', List.getElem?_set_self (List.getElem?_eq_some_iff.mp hi).1, rfl⟩
    · exact ⟨e, by rw [List.getElem?_set_ne hj]; exact h, rfl⟩
  fxs := fun j e h => fx_set hi rfl h
theorem gh_set2 {i : Nat} {y : Sl} {w : Option V} {σ : L2.St} (hy : spc y = false) : ∀ (j : Nat) (e : Sl), spc e = true → (ρ.set i y)[j]? = some e → ρ[j]? = some e ∧ (σ.set i w)[j]? = σ[j]? := fun j e he h => by
  by_cases hj : i = j
  · subst hj
    have hb := (List.getElem?_eq_some_iff.mp h).1
    rw [List.length_set] at hb
    rw [List.getElem?_set_self hb] at h
    rw [Option.some.inj h, he] at hy
    cases hy
  · rw [List.getElem?_set_ne hj] at h
    exact ⟨h, List.getElem?_set_ne hj⟩
/-- a slot comes to own a new object -/
theorem Sym.take {i : Nat} {d : Dt} {p : Addr} (s : Sym K F H σ ρ) (hn : F p = none) (nw : ∀ (j : Nat) (l : Bool) (e : Dt), ρ[j]? = some (.ow l e) → σ[j]? ≠ some (some (.ref p))) (ng : ¬ GhA σ ρ H p) (new : Own K F H p d) : Sym K F H (σ.set i (some (.ref p))) (ρ.set i (.ow false d)) := by
  have bound : ∀ {z : Sl}, (ρ.set i (.ow false d))[i]? = some z → i < ρ.length := fun {z} h => by
    have := (List.getElem?_eq_some_iff.mp h).1
    rw [List.length_set] at this
    exact this
  exact {
    ex := s.ex
    len := by rw [List.length_set, List.length_set]; exact s.len
    sh := fun j e h => by
      by_cases hj : i = j
      · subst hj
        rw [List.getElem?_set_self (bound h)] at h
        cases h
      · rw [List.getElem?_set_ne hj] at h
        obtain ⟨v, a, b⟩ := s.sh j e h
        exact ⟨v, by rw [List.getElem?_set_ne hj]; exact a, b⟩
    ow := fun j m e h => by
      by_cases hj : i = j
      · subst hj
        have hb := bound h
        rw [List.getElem?_set_self hb] at h
        cases h
        exact ⟨p, List.getElem?_set_self (by rw [s.len]; exact hb), hn, new⟩
      · rw [List.getElem?_set_ne hj] at h
        obtain ⟨q, a, b⟩ := s.ow j m e h
        exact ⟨q, by rw [List.getElem?_set_ne hj]; exact a, b⟩
    inj := fun j k m n e f q h1 h2 h3 h4 => by
      by_cases hj : i = j
      · by_cases hk : i = k
        · rw [← hj, ← hk]
        · subst hj
          have hb := bound h1
          rw [List.getElem?_set_self (by rw [s.len]; exact hb)] at h3
          have z := Option.some.inj (Option.some.inj h3)
          injection z with z
          subst z
          rw [List.getElem?_set_ne hk] at h2 h4
          exact absurd h4 (nw k n f h2)
      · by_cases hk : i = k
        · subst hk
          have hb := bound h2
          rw [List.getElem?_set_self (by rw [s.len]; exact hb)] at h4
          have z := Option.some.inj (Option.some.inj h4)
          injection z with z
          subst z
          rw [List.getElem?_set_ne hj] at h1 h3
          exact absurd h3 (nw j m e h1)
        · rw [List.getElem?_set_ne hj] at h1 h3
          rw [List.getElem?_set_ne hk] at h2 h4
          exact s.inj j k m n e f q h1 h2 h3 h4
    gh := s.gh.mv (Xe.refl F) (gh_set2 rfl) (fun a ha => ⟨(ha.out s.gh).1, rfl⟩) fun a ha ⟨j, m, e, h1, h2⟩ => by
      by_cases hj : i = j
      · subst hj
        have hb := bound h1
        rw [List.getElem?_set_self (by rw [s.len]; exact hb)] at h2
        have z := Option.some.inj (Option.some.inj h2)
        injection z with z
        subst z
        exact ng ha
      · rw [List.getElem?_set_ne hj] at h1 h2
        exact s.gh.dj a ha ⟨j, m, e, h1, h2⟩ }
end
def lent (ρ : En) (i : Nat) : Bool := match ρ[i]? with
  | some (.ow true _) => true
  | some (.gh _) => true
  | some (.fx _) => true
  | _ => false
theorem lent_fx {ρ : En} {i : Nat} {d : Dt} (h : lent ρ i = false) : ρ[i]? ≠ some (.fx d) := fun e => by
  unfold lent at h
  rw [e] at h
  cases h
/-- a slot that stays is not the one that is set -/
theorem fx_ne {ρ : En} {σ : L2.St} {i j : Nat} {d : Dt} {y : Sl} {w : Option V} (hl : lent ρ i = false) (h : ρ[j]? = some (.fx d)) : (ρ.set i y)[j]? = some (.fx d) ∧ (σ.set i w)[j]? = σ[j]? := by
  have ne : i ≠ j := fun z => by
    subst z
    exact lent_fx hl h
  exact ⟨by rw [List.getElem?_set_ne ne]; exact h, List.getElem?_set_ne ne⟩
theorem lent_no {ρ : En} {i : Nat} {d : Dt} (h : lent ρ i = false) : ρ[i]? ≠ some (.ow true d) := fun e => by
  unfold lent at h
  rw [e] at h
  cases h
end DL
set_option Elab.async false
set_option linter.all false
set_option maxRecDepth 100000
set_option autoImplicit false
set_option maxHeartbeats 4000000
namespace DL
open PySem L2 Evl
/-- a value in hand: data, or what a slot owns -/
def RepV (K : Frag) (F : Hp) (σ : L2.St) (d : Dt) (v : V) : Prop := match d with
  | .own i => σ[i]? = some (some v)
  | d => Rep K F d v
theorem RepV.mono {K : Frag} {F F' : Hp} {σ : L2.St} (e : Xe F F') {d : Dt} {v : V} (h : RepV K F σ d v) : RepV K F' σ d v := by
  cases d with
  | own i => exact h
  | _ => exact Rep.mono e h
/-- an exception: its class, its fields -/
structure Xc where
  C : Addr
  fs : List Str
  ds : List Dt
def XOk (K : Frag) (F : Hp) (x : Xc) (cls : Value) (dd : Option Addr) : Prop := cls = .ref x.C ∧ ((x.fs = [] ∧ dd = none) ∨ ∃ a xs, dd = some a ∧ F a = some (.xd (x.fs.zip xs)) ∧ x.fs.length = x.ds.length ∧ RepL K F x.ds xs)
abbrev PX := Xc → En → Prop
def px0 : PX := fun _ _ => False
/-- an expression: from data to data -/
def EvD (K : Frag) (W : WX) (te : TE) (ρ : En) (x : PX) (P : Dt → En → Prop) : Prop :=
  ∀ (σ : L2.St) (F H : Hp) (Q : VK), Sym K F H σ ρ → (∀ d ρ' v F' H', P d ρ' → Step K σ ρ F H σ ρ' F' H' → RepV K F' σ d v → Q v H') →
    (∀ c ρ' cls dd F' H', x c ρ' → Step K σ ρ F H σ ρ' F' H' → XOk K F' c cls dd → W cls dd σ H') → te σ H Q
/-- a test -/
def TtD (K : Frag) (W : WX) (tt : TT) (ρ : En) (x : PX) (P : Bool → En → Prop) : Prop :=
  ∀ (σ : L2.St) (F H : Hp) (Q : Bool → Hp → Prop), Sym K F H σ ρ → (∀ b ρ' F' H', P b ρ' → Step K σ ρ F H σ ρ' F' H' → Q b H') →
    (∀ c ρ' cls dd F' H', x c ρ' → Step K σ ρ F H σ ρ' F' H' → XOk K F' c cls dd → W cls dd σ H') → tt σ H Q
/-- arguments -/
def RepVL (K : Frag) (F : Hp) (σ : L2.St) : List Dt → List V → Prop
  | [], vs => vs = []
  | d :: ds, vs => ∃ v r, vs = v :: r ∧ RepV K F σ d v ∧ RepVL K F σ ds r
theorem RepVL.mono {K : Frag} {F F' : Hp} {σ : L2.St} (e : Xe F F') : ∀ {ds : List Dt} {vs : List V}, RepVL K F σ ds vs → RepVL K F' σ ds vs
  | [], _, h => h
  | d :: ds, _, ⟨v, r, h1, h2, h3⟩ => ⟨v, r, h1, h2.mono e, RepVL.mono e h3⟩
def ArD (K : Frag) (W : WX) (ta : TA) (ρ : En) (x : PX) (P : List Dt → En → Prop) : Prop :=
  ∀ (σ : L2.St) (F H : Hp) (Q : List V → Hp → Prop), Sym K F H σ ρ → (∀ ds ρ' vs F' H', P ds ρ' → Step K σ ρ F H σ ρ' F' H' → RepVL K F' σ ds vs → Q vs H') →
    (∀ c ρ' cls dd F' H', x c ρ' → Step K σ ρ F H σ ρ' F' H' → XOk K F' c cls dd → W cls dd σ H') → ta σ H Q
/-- an operation on two values, on one, on several -/
def OpD (K : Frag) (r : R2) (d e : Dt) (ρ : En) (P : Dt → En → Prop) : Prop :=
  ∀ (σ : L2.St) (F H : Hp) (Q : VK) (u v : V), Sym K F H σ ρ → RepV K F σ d u → RepV K F σ e v → (∀ d' ρ' v' F' H', P d' ρ' → Step K σ ρ F H σ ρ' F' H' → RepV K F' σ d' v' → Q v' H') → r u v H Q
def UnD (K : Frag) (r : V → Hp → VK → Prop) (d : Dt) (ρ : En) (P : Dt → En → Prop) : Prop :=
  ∀ (σ : L2.St) (F H : Hp) (Q : VK) (u : V), Sym K F H σ ρ → RepV K F σ d u → (∀ d' ρ' v' F' H', P d' ρ' → Step K σ ρ F H σ ρ' F' H' → RepV K F' σ d' v' → Q v' H') → r u H Q
def CaD (K : Frag) (r : List V → Hp → VK → Prop) (ds : List Dt) (ρ : En) (P : Dt → En → Prop) : Prop :=
  ∀ (σ : L2.St) (F H : Hp) (Q : VK) (us : List V), Sym K F H σ ρ → RepVL K F σ ds us → (∀ d' ρ' v' F' H', P d' ρ' → Step K σ ρ F H σ ρ' F' H' → RepV K F' σ d' v' → Q v' H') → r us H Q
structure Pd where
  nx : En → Prop
  rt : Dt → En → Prop
  rn : Dt → En → Prop := fun _ _ => False
  bk : En → Prop := fun _ => False
  ct : En → Prop := fun _ => False
  ex : PX := px0
/-- what follows a statement, for data -/
structure Lk (K : Frag) (W : WX) (D : Ends) (P : Pd) (σ : L2.St) (ρ : En) (F H : Hp) : Prop where
  nx : ∀ ρ' σ' F' H', P.nx ρ' → Step K σ ρ F H σ' ρ' F' H' → D.nx σ' H'
  rt : ∀ d ρ' v σ' F' H', P.rt d ρ' → Step K σ ρ F H σ' ρ' F' H' → Rep K F' d v → D.rt v H'
  rn : ∀ d ρ' p σ' F' H', P.rn d ρ' → Step K σ ρ F H σ' ρ' F' H' → F' p = none → Own K F' H' p d → (OwS σ' ρ' p ∨ H p = none) → D.rt (.ref p) H'
  bk : ∀ ρ' σ' F' H', P.bk ρ' → Step K σ ρ F H σ' ρ' F' H' → D.bk σ' H'
  ct : ∀ ρ' σ' F' H', P.ct ρ' → Step K σ ρ F H σ' ρ' F' H' → D.ct σ' H'
  ex : ∀ c ρ' cls dd σ' F' H', P.ex c ρ' → Step K σ ρ F H σ' ρ' F' H' → XOk K F' c cls dd → W cls dd σ' H'
/-- a statement, a block -/
def StD (K : Frag) (W : WX) (ts : TS) (ρ : En) (P : Pd) : Prop := ∀ (σ : L2.St) (F H : Hp) (D : Ends), Sym K F H σ ρ → Lk K W D P σ ρ F H → ts D σ H
section
variable {K : Frag} {W : WX} {σ σ1 : L2.St} {ρ ρ1 : En} {F F1 H H1 : Hp} {x : PX} {D : Ends} {P : Pd}
theorem Lk.later (l : Lk K W D P σ ρ F H) (s : Step K σ ρ F H σ1 ρ1 F1 H1) : Lk K W D P σ1 ρ1 F1 H1 :=
  ⟨fun _ _ _ _ p t => l.nx _ _ _ _ p (s.trans t), fun _ _ _ _ _ _ p t => l.rt _ _ _ _ _ _ p (s.trans t), fun _ _ q _ _ _ p t f o w => l.rn _ _ _ _ _ _ p (s.trans t) f o (by
    rcases w with w | w
    · exact .inl w
    · refine .inr ?_
      cases e : H q with
      | none => rfl
      | some u => exact absurd w (s.all q (by rw [e]; exact fun z => nomatch z))), fun _ _ _ _ p t => l.bk _ _ _ _ p (s.trans t), fun _ _ _ _ p t => l.ct _ _ _ _ p (s.trans t), fun _ _ _ _ _ _ _ p t => l.ex _ _ _ _ _ _ _ p (s.trans t)⟩
/-! ### expressions -/
theorem e_var {i : Nat} {d : Dt} {P : Dt → En → Prop} (h : ρ[i]? = some (.sh d)) (p : P d ρ) : EvD K W (tVar i) ρ x P := fun σ F H Q s q _ => by
  obtain ⟨v, e1, e2⟩ := s.sh i d h
  refine ⟨v, e1, q d ρ v F H p (Step.refl s) ?_⟩
  cases d with
  | own j =>
    unfold Rep at e2
    exact e2.elim
  | _ => exact e2
theorem e_own {i : Nat} {l : Bool} {d : Dt} {P : Dt → En → Prop} (h : ρ[i]? = some (.ow l d)) (p : P (.own i) ρ) : EvD K W (tVar i) ρ x P := fun σ F H Q s q _ => by
  obtain ⟨a, e1, _⟩ := s.ow i l d h
  exact ⟨_, e1, q (.own i) ρ _ F H p (Step.refl s) e1⟩
theorem e_int {i : Int} {P : Dt → En → Prop} (p : P (.int i) ρ) : EvD K W (tC (.int i)) ρ x P := fun σ F H Q s q _ => q _ _ _ F H p (Step.refl s) rfl
theorem e_str {z : Str} {P : Dt → En → Prop} (p : P (.str z) ρ) : EvD K W (tC (.str z)) ρ x P := fun σ F H Q s q _ => q _ _ _ F H p (Step.refl s) rfl
theorem e_bl {z : Bool} {P : Dt → En → Prop} (p : P (.bl z) ρ) : EvD K W (tC (.bl z)) ρ x P := fun σ F H Q s q _ => q _ _ _ F H p (Step.refl s) rfl
theorem e_non {P : Dt → En → Prop} (p : P .non ρ) : EvD K W (tC .non) ρ x P := fun σ F H Q s q _ => q _ _ _ F H p (Step.refl s) rfl
theorem e_ty {z : String} {P : Dt → En → Prop} (p : P (.ty z) ρ) : EvD K W (tC (.ty z)) ρ x P := fun σ F H Q s q _ => q _ _ _ F H p (Step.refl s) rfl
theorem e_ref {a : Addr} {P : Dt → En → Prop} (p : P (.ref a) ρ) : EvD K W (tC (.ref a)) ρ x P := fun σ F H Q s q _ => q _ _ _ F H p (Step.refl s) rfl
theorem e_op {r : R2} {ta tb : TE} {P : Dt → En → Prop} (h : EvD K W ta ρ x fun d ρ1 => EvD K W tb ρ1 x fun e ρ2 => OpD K r d e ρ2 P) : EvD K W (tOp r ta tb) ρ x P := fun σ F H Q s q w =>
  h σ F H _ s (fun d ρ1 v F1 H1 p1 s1 r1 => p1 σ F1 H1 _ s1.sym (fun e ρ2 u F2 H2 p2 s2 r2 => p2 σ F2 H2 Q v u s2.sym (r1.mono s2.exF) r2 fun d' ρ3 v' F3 H3 p3 s3 r3 => q d' ρ3 v' F3 H3 p3 ((s1.trans s2).trans s3) r3)
    fun c ρ' cls dd F' H' px st xo => w c ρ' cls dd F' H' px (s1.trans st) xo) w
theorem e_un {r : V → Hp → VK → Prop} {ta : TE} {P : Dt → En → Prop} (h : EvD K W ta ρ x fun d ρ1 => UnD K r d ρ1 P) : EvD K W (tUn r ta) ρ x P := fun σ F H Q s q w =>
  h σ F H _ s (fun d ρ1 v F1 H1 p1 s1 r1 => p1 σ F1 H1 Q v s1.sym r1 fun d' ρ3 v' F3 H3 p3 s3 r3 => q d' ρ3 v' F3 H3 p3 (s1.trans s3) r3) w
theorem e_cb {r : List V → Hp → VK → Prop} {ta : TA} {P : Dt → En → Prop} (h : ArD K W ta ρ x fun ds ρ1 => CaD K r ds ρ1 P) : EvD K W (tCB r ta) ρ x P := fun σ F H Q s q w =>
  h σ F H _ s (fun ds ρ1 vs F1 H1 p1 s1 r1 => p1 σ F1 H1 Q vs s1.sym r1 fun d' ρ3 v' F3 H3 p3 s3 r3 => q d' ρ3 v' F3 H3 p3 (s1.trans s3) r3) w
/-! ### arguments -/
theorem a_nil {P : List Dt → En → Prop} (p : P [] ρ) : ArD K W tNil ρ x P := fun σ F H Q s q _ => q [] ρ [] F H p (Step.refl s) rfl
theorem a_cons {te : TE} {ta : TA} {P : List Dt → En → Prop} (h : EvD K W te ρ x fun d ρ1 => ArD K W ta ρ1 x fun ds ρ2 => P (d :: ds) ρ2) : ArD K W (tCons te ta) ρ x P := fun σ F H Q s q w =>
  h σ F H _ s (fun d ρ1 v F1 H1 p1 s1 r1 => p1 σ F1 H1 _ s1.sym (fun ds ρ2 vs F2 H2 p2 s2 r2 => q (d :: ds) ρ2 (v :: vs) F2 H2 p2 (s1.trans s2) ⟨v, vs, rfl, r1.mono s2.exF, r2⟩)
    fun c ρ' cls dd F' H' px st xo => w c ρ' cls dd F' H' px (s1.trans st) xo) w
/-! ### tests -/
theorem t_test {te : TE} {P : Bool → En → Prop} (h : EvD K W te ρ x fun d ρ1 => ∃ b, d = .bl b ∧ P b ρ1) : TtD K W (tTest te) ρ x P := fun σ F H Q s q w =>
  h σ F H _ s (fun d ρ1 v F1 H1 p1 s1 r1 => by
    obtain ⟨b, rfl, p⟩ := p1
    have e : v = .bl b := r1
    exact ⟨b, e, q b ρ1 F1 H1 p s1⟩) w
theorem t_or {t u : TT} {P : Bool → En → Prop} (h : TtD K W t ρ x fun b ρ1 => (b = true → P true ρ1) ∧ (b = false → TtD K W u ρ1 x P)) : TtD K W (tOr t u) ρ x P := fun σ F H Q s q w =>
  h σ F H _ s (fun b ρ1 F1 H1 p1 s1 => by
    cases b with
    | true => exact q true ρ1 F1 H1 (p1.1 rfl) s1
    | false => exact p1.2 rfl σ F1 H1 Q s1.sym (fun b ρ2 F2 H2 p2 s2 => q b ρ2 F2 H2 p2 (s1.trans s2)) fun c ρ' cls dd F' H' px st xo => w c ρ' cls dd F' H' px (s1.trans st) xo) w
theorem t_not {t : TT} {P : Bool → En → Prop} (h : TtD K W t ρ x fun b ρ1 => P (!b) ρ1) : TtD K W (tNot t) ρ x P := fun σ F H Q s q w =>
  h σ F H _ s (fun b ρ1 F1 H1 p1 s1 => q (!b) ρ1 F1 H1 p1 s1) w
theorem e_if {t : TT} {ta tb : TE} {P : Dt → En → Prop} (h : TtD K W t ρ x fun b ρ1 => (b = true → EvD K W ta ρ1 x P) ∧ (b = false → EvD K W tb ρ1 x P)) : EvD K W (tIf t ta tb) ρ x P := fun σ F H Q s q w =>
  h σ F H _ s (fun b ρ1 F1 H1 p1 s1 => by
    cases b with
    | true => exact p1.1 rfl σ F1 H1 Q s1.sym (fun d ρ2 v F2 H2 p2 s2 => q d ρ2 v F2 H2 p2 (s1.trans s2)) fun c ρ' cls dd F' H' px st xo => w c ρ' cls dd F' H' px (s1.trans st) xo
    | false => exact p1.2 rfl σ F1 H1 Q s1.sym (fun d ρ2 v F2 H2 p2 s2 => q d ρ2 v F2 H2 p2 (s1.trans s2)) fun c ρ' cls dd F' H' px st xo => w c ρ' cls dd F' H' px (s1.trans st) xo) w
/-! ### statements -/
theorem s_seq {t u : TS} (h : StD K W t ρ { P with nx := fun ρ1 => StD K W u ρ1 P }) : StD K W (tSeq t u) ρ P := fun σ F H D s l =>
  h σ F H { D with nx := u D } s ⟨fun ρ' σ' F' H' p st => p σ' F' H' D st.sym (l.later st), l.rt, l.rn, l.bk, l.ct, l.ex⟩
theorem s_next (p : P.nx ρ) : StD K W tNext ρ P := fun σ F H D s l => l.nx ρ σ F H p (Step.refl s)
/-- no slot's own object is in hand -/
def Dt.real : Dt → Bool
  | .own _ => false
  | _ => true
theorem RepV.real {K : Frag} {F : Hp} {σ : L2.St} {d : Dt} {v : V} (h : RepV K F σ d v) (hr : d.real = true) : Rep K F d v := by
  cases d with
  | own i => cases hr
  | _ => exact h
theorem s_ret {te : TE} (h : EvD K W te ρ P.ex fun d ρ1 => d.real = true ∧ P.rt d ρ1) : StD K W (tRet te) ρ P := fun σ F H D s l =>
  h σ F H _ s (fun d ρ' v F' H' p st r => l.rt d ρ' v σ F' H' p.2 st (r.real p.1)) fun c ρ' cls dd F' H' p st xo => l.ex c ρ' cls dd σ F' H' p st xo
theorem s_if {c : TT} {t u : TS} (h : TtD K W c ρ P.ex fun b ρ1 => (b = true → StD K W t ρ1 P) ∧ (b = false → StD K W u ρ1 P)) : StD K W (tIfS c t u) ρ P := fun σ F H D s l =>
  h σ F H _ s (fun b ρ' F' H' p st => by
    cases b with
    | true => exact p.1 rfl σ F' H' D st.sym (l.later st)
    | false => exact p.2 rfl σ F' H' D st.sym (l.later st)) fun c ρ' cls dd F' H' p st xo => l.ex c ρ' cls dd σ F' H' p st xo
theorem OwS.set {i : Nat} {d : Dt} {v : V} {a : Addr} (h : OwS (σ.set i (some v)) (ρ.set i (.sh d)) a) : OwS σ ρ a := by
  obtain ⟨j, l, e, h1, h2⟩ := h
  have hj : i ≠ j := fun z => by
    subst z
    have hi : i < ρ.length := by
      have := (List.getElem?_eq_some_iff.mp h1).1
      rw [List.length_set] at this
      exact this
    rw [List.getElem?_set_self hi] at h1
    cases h1
  rw [List.getElem?_set_ne hj] at h1 h2
  exact ⟨j, l, e, h1, h2⟩
/-- a slot gets shared data -/
theorem Sym.set {i : Nat} {d : Dt} {v : V} (s : Sym K F H σ ρ) (hr : Rep K F d v) : Sym K F H (σ.set i (some v)) (ρ.set i (.sh d)) where
  ex := s.ex
  len := by rw [List.length_set, List.length_set]; exact s.len
  sh := fun j e h => by
    by_cases hj : i = j
    · subst hj
      have hi : i < ρ.length := by
        have := (List.getElem?_eq_some_iff.mp h).1
        rw [List.length_set] at this
        exact this
      rw [List.getElem?_set_self hi] at h
      cases h
      exact ⟨v, List.getElem?_set_self (by rw [s.len]; exact hi), hr⟩
    · rw [List.getElem?_set_ne hj] at h
      obtain ⟨u, a, b⟩ := s.sh j e h
      exact ⟨u, by rw [List.getElem?_set_ne hj]; exact a, b⟩
  ow := fun j l e h => by
    by_cases hj : i = j
    · subst hj
      have hi : i < ρ.length := by
        have := (List.getElem?_eq_some_iff.mp h).1
        rw [List.length_set] at this
        exact this
      rw [List.getElem?_set_self hi] at h
      cases h
    · rw [List.getElem?_set_ne hj] at h
      obtain ⟨p, a, b⟩ := s.ow j l e h
      exact ⟨p, by rw [List.getElem?_set_ne hj]; exact a, b⟩
  inj := fun j k l m e f p h1 h2 h3 h4 => by
    have hj : i ≠ j := fun z => by
      subst z
      have hi : i < ρ.length := by
        have := (List.getElem?_eq_some_iff.mp h1).1
        rw [List.length_set] at this
        exact this
      rw [List.getElem?_set_self hi] at h1
      cases h1
    have hk : i ≠ k := fun z => by
      subst z
      have hi : i < ρ.length := by
        have := (List.getElem?_eq_some_iff.mp h2).1
        rw [List.length_set] at this
        exact this
      rw [List.getElem?_set_self hi] at h2
      cases h2
    rw [List.getElem?_set_ne hj] at h1 h3
    rw [List.getElem?_set_ne hk] at h2 h4
    exact s.inj j k l m e f p h1 h2 h3 h4
  gh := s.gh.mv (Xe.refl F) (gh_set2 rfl) (fun a ha => ⟨(ha.out s.gh).1, rfl⟩) fun a ha z => s.gh.dj a ha z.set
theorem OwA.set {i : Nat} {d : Dt} {v : V} {a : Addr} (h : OwA (σ.set i (some v)) (ρ.set i (.sh d)) H a) : OwA σ ρ H a := by
  rcases h with h | h
  · exact .inl h.set
  · exact .inr (h.back (gh_set2 (y := .sh d) rfl) fun _ _ => rfl)
theorem Step.set {i : Nat} {d : Dt} {v : V} (s : Sym K F H σ ρ) (hl : lent ρ i = false) (hr : Rep K F d v) : Step K σ ρ F H (σ.set i (some v)) (ρ.set i (.sh d)) F H :=
  ⟨s.set hr, Xe.refl F, fun _ _ h _ => .inl h, fun _ h => .inl (OwA.set h), fun _ h => .inl h, fun _ h => h, fun j e h => by
    have hj : i ≠ j := fun z => by
      subst z
      exact lent_no hl h
    exact ⟨e, by rw [List.getElem?_set_ne hj]; exact h, by rw [List.getElem?_set_ne hj]⟩, fun _ _ h => fx_ne hl h⟩
theorem s_set {te : TE} {i : Nat} (h : EvD K W te ρ P.ex fun d ρ1 => d.real = true ∧ lent ρ1 i = false ∧ P.nx (ρ1.set i (.sh d))) : StD K W (tAsg te (gName i)) ρ P := fun σ F H D s l =>
  h σ F H _ s (fun d ρ' v F' H' p st r => l.nx _ _ F' H' p.2.2 (st.trans (Step.set st.sym p.2.1 (r.real p.1)))) fun c ρ' cls dd F' H' p st xo => l.ex c ρ' cls dd σ F' H' p st xo
end
end DL
set_option Elab.async false
set_option linter.all false
set_option maxRecDepth 100000
set_option autoImplicit false
set_option maxHeartbeats 4000000
namespace DL
open PySem L2 Evl PyProof.Rows
/-! ### promises by data -/
structure Fsp where
  I : Type
  arg : I → List Dt
  pre : I → Prop
  post : I → Dt → Prop
  exc : I → Xc → Prop := fun _ _ => False
def DSp (K : Frag) (S : Fsp) : Sp := fun vs H Q E => ∃ (F : Hp) (i : S.I), Ex F H ∧ RepL K F (S.arg i) vs ∧ S.pre i ∧ (∀ d, S.post i d → ∀ v H', Gw F H H' → Rep K (Fz F H H') d v → Q v H') ∧
  (∀ c, S.exc i c → ∀ cls dd H', Gw F H H' → XOk K (Fz F H H') c cls dd → E cls dd H')
/-- the first argument is an object that the def changes -/
structure Osp where
  I : Type
  own : I → Dt
  arg : I → List Dt
  pre : I → Prop
  post : I → Dt → Dt → Prop
  exc : I → Xc → Dt → Prop := fun _ _ _ => False
def Bt (F H H' : Hp) (p : Addr) : Prop := ∀ a o, H a = some o → a ≠ p → H' a = some o ∨ (F a ≠ none ∧ ∃ u, H' a = some u ∧ Lok o u)
def OSp (K : Frag) (S : Osp) : Sp := fun vs H Q E => ∃ (F : Hp) (i : S.I) (p : Addr) (us : List V), vs = .ref p :: us ∧ Ex F H ∧ F p = none ∧ Own K F H p (S.own i) ∧ RepL K F (S.arg i) us ∧ S.pre i ∧
  (∀ d o, S.post i d o → ∀ v H', Bt F H H' p → Own K (Fz F H H') H' p o → Rep K (Fz F H H') d v → Q v H') ∧
  (∀ c o, S.exc i c o → ∀ cls dd H', Bt F H H' p → Own K (Fz F H H') H' p o → XOk K (Fz F H H') c cls dd → E cls dd H')
def allReal (ds : List Dt) : Bool := ds.all Dt.real
theorem RepVL.real {K : Frag} {F : Hp} {σ : L2.St} : ∀ {ds : List Dt} {vs : List V}, RepVL K F σ ds vs → allReal ds = true → RepL K F ds vs
  | [], _, h, _ => by
    unfold RepL
    exact h
  | d :: ds, _, ⟨v, r, h1, h2, h3⟩, hr => by
    unfold allReal at hr
    rw [List.all_cons, Bool.and_eq_true] at hr
    subst h1
    exact repL_cons (h2.real hr.1) (RepVL.real h3 hr.2)
theorem Rep.real {K : Frag} {F : Hp} {d : Dt} {v : V} (h : Rep K F d v) : d.real = true := by
  cases d with
  | own i =>
    unfold Rep at h
    exact h.elim
  | _ => rfl
theorem Rep.toV {K : Frag} {F : Hp} {σ : L2.St} {d : Dt} {v : V} (h : Rep K F d v) : RepV K F σ d v := by
  cases d with
  | own i =>
    unfold Rep at h
    exact h.elim
  | _ => exact h
theorem XOk.mono {K : Frag} {F F' : Hp} {c : Xc} {cls : Value} {dd : Option Addr} (e : Xe F F') (h : XOk K F c cls dd) : XOk K F' c cls dd := by
  obtain ⟨h1, h2⟩ := h
  refine ⟨h1, ?_⟩
  rcases h2 with h2 | ⟨a, xs, h3, h4, h5, h6⟩
  · exact .inl h2
  · exact .inr ⟨a, xs, h3, e.xd h4, h5, h6.mono e⟩
section
variable {K : Frag} {W : WX} {σ σ1 : L2.St} {ρ ρ1 : En} {F F1 H H1 : Hp} {x : PX}
theorem e_call {S : Fsp} {ta : TA} {P : Dt → En → Prop} (h : ArD K W ta ρ x fun ds ρ1 => ∃ i, ds = S.arg i ∧ allReal ds = true ∧ S.pre i ∧ (∀ d, S.post i d → P d ρ1) ∧ ∀ c, S.exc i c → x c ρ1) :
    EvD K W (tCallS (DSp K S) (WE W) ta) ρ x P := fun σ F H Q s q w =>
  h σ F H _ s (fun ds ρ1 vs F1 H1 p s1 r => by
    obtain ⟨i, rfl, hr, hp, hk, hx⟩ := p
    exact ⟨F1, i, s1.sym.ex, r.real hr, hp, fun d pd v H' e rd => q d ρ1 v _ H' (hk d pd) (s1.trans (Step.growG s1.sym e)) rd.toV, fun c pc cls dd H' e xo => w c ρ1 cls dd _ H' (hx c pc) (s1.trans (Step.growG s1.sym e)) xo⟩) w
/-- what a lent object's change is for the caller -/
theorem Step.lend {i : Nat} {l : Bool} {d o : Dt} {p : Addr} (s : Sym K F H σ ρ) (hi : ρ[i]? = some (.ow l d)) (hp : σ[i]? = some (some (.ref p))) (b : Bt F H H1 p) (ho : Own K (Fz F H H1) H1 p o) : Step K σ ρ F H σ (ρ.set i (.ow l o)) (Fz F H H1) H1 := by
  obtain ⟨p', a', b', c'⟩ := s.ow i l d hi
  have ep : p' = p := by
    rw [a'] at hp
    have z := Option.some.inj (Option.some.inj hp)
    injection z
  subst ep
  have hil : i < ρ.length := (List.getElem?_eq_some_iff.mp hi).1
  have np : ∀ a u, F a = some u → a ≠ p' := fun a u e z => by
    subst z
    rw [b'] at e
    cases e
  have exF : Xe F (Fz F H H1) := fun a u e => by
    rw [fz_have (s.ex a u e) e]
    rcases b a u (s.ex a u e) (np a u e) with z | ⟨_, z⟩
    · exact .inl z
    · exact .inr z
  obtain ⟨ob, hob⟩ : ∃ ob, H p' = some ob := by
    cases q : H p' with
    | none => exact absurd q c'.there
    | some ob => exact ⟨ob, rfl⟩
  have gk : ∀ a, GhA σ ρ H a → Fz F H H1 a = none ∧ H1 a = H a := fun a ha => by
    obtain ⟨h1, h2⟩ := ha.out s.gh
    have ne : a ≠ p' := fun z => s.gh.dj a ha ⟨i, l, d, hi, by rw [z]; exact hp⟩
    cases q : H a with
    | none => exact absurd q h2
    | some u =>
      refine ⟨fz_old q h1, ?_⟩
      rcases b a u q ne with z | ⟨z, _⟩
      · exact z
      · exact absurd h1 z
  exact {
    sym := {
      ex := fz_in
      len := by rw [List.length_set]; exact s.len
      sh := fun j e h => by
        by_cases hj : i = j
        · subst hj
          rw [List.getElem?_set_self hil] at h
          cases h
        · rw [List.getElem?_set_ne hj] at h
          obtain ⟨v, a, r⟩ := s.sh j e h
          exact ⟨v, a, r.mono exF⟩
      ow := fun j m e h => by
        by_cases hj : i = j
        · subst hj
          rw [List.getElem?_set_self hil] at h
          cases h
          exact ⟨p', a', fz_old hob b', ho⟩
        · rw [List.getElem?_set_ne hj] at h
          obtain ⟨q, a, r, c⟩ := s.ow j m e h
          have ne : q ≠ p' := fun z => by
            subst z
            exact hj (s.inj i j l m d e q hi h a' a)
          cases hq : H q with
          | none => exact absurd hq c.there
          | some u =>
            refine ⟨q, a, fz_old hq r, c.mono exF ?_⟩
            rcases b q u hq ne with z | ⟨z, _⟩
            · rw [hq]; exact z
            · exact absurd r z
      inj := fun j k m n e f q h1 h2 h3 h4 => by
        have t : ∀ {j : Nat} {m : Bool} {e : Dt}, (ρ.set i (.ow l o))[j]? = some (.ow m e) → ∃ m e, ρ[j]? = some (.ow m e) := fun {j m e} h => by
          by_cases hj : i = j
          · subst hj
            exact ⟨l, d, hi⟩
          · rw [List.getElem?_set_ne hj] at h
            exact ⟨m, e, h⟩
        obtain ⟨m', e', h1'⟩ := t h1
        obtain ⟨n', f', h2'⟩ := t h2
        exact s.inj j k m' n' e' f' q h1' h2' h3 h4
      gh := s.gh.mv exF (gh_set hi) gk fun a ha z => s.gh.dj a ha (z.of_write hi) }
    exF := exF
    keep := fun a u h n => b a u h fun z => by
      subst z
      exact n (.inl ⟨i, l, d, hi, hp⟩)
    own := fun a h => .inl (h.imp (fun z => z.of_write hi) fun z => z.back (gh_set hi) fun a ha => (gk a ha).2)
    new := fun a h => by
      rcases fz_some h with z | z
      · exact .inl z
      · exact .inr (.inl z)
    all := fun a h => by
      by_cases e : a = p'
      · rw [e]
        exact ho.there
      · cases q : H a with
        | none => exact absurd q h
        | some u =>
          rcases b a u q e with z | ⟨_, v, z, _⟩
          · rw [z]; exact fun z => nomatch z
          · rw [z]; exact fun z => nomatch z
    stay := fun j e h => by
      by_cases hj : i = j
      · subst hj
        rw [hi] at h
        cases h
        exact ⟨o, List.getElem?_set_self hil, rfl⟩
      · exact ⟨e, by rw [List.getElem?_set_ne hj]; exact h, rfl⟩
    fxs := fun _ _ h => fx_set hi rfl h }
/-- f(t, ..): t is a slot's own object -/
theorem e_callO {S : Osp} {ta : TA} {P : Dt → En → Prop} (h : ArD K W ta ρ x fun ds ρ1 => ∃ (j : Nat) (l : Bool) (d : Dt) (es : List Dt) (i : S.I), ds = .own j :: es ∧ ρ1[j]? = some (.ow l d) ∧ d = S.own i ∧ es = S.arg i ∧ allReal es = true ∧ S.pre i ∧
      (∀ r o, S.post i r o → P r (ρ1.set j (.ow l o))) ∧ ∀ c o, S.exc i c o → x c (ρ1.set j (.ow l o))) :
    EvD K W (tCallS (OSp K S) (WE W) ta) ρ x P := fun σ F H Q s q w =>
  h σ F H _ s (fun ds ρ1 vs F1 H1 p s1 r => by
    obtain ⟨j, l, d, es, i, rfl, hj, rfl, rfl, hr, hp, hk, hx⟩ := p
    obtain ⟨v, us, rfl, rv, rs⟩ := r
    obtain ⟨a, e1, e2, e3⟩ := s1.sym.ow j l _ hj
    have ev : v = .ref a := by
      have z : σ[j]? = some (some v) := rv
      rw [e1] at z
      exact (Option.some.inj (Option.some.inj z)).symm
    subst ev
    exact ⟨F1, i, a, us, rfl, s1.sym.ex, e2, e3, rs.real hr, hp, fun r o pd v H' b ow rd => q r _ v _ H' (hk r o pd) (s1.trans (Step.lend s1.sym hj e1 b ow)) rd.toV,
      fun c o pc cls dd H' b ow xo => w c _ cls dd _ H' (hx c o pc) (s1.trans (Step.lend s1.sym hj e1 b ow)) xo⟩) w
end
/-! ### a def from its body -/
def st0 (n : Nat) (ds : List Dt) : En := ds.map Sl.sh ++ List.replicate (n - ds.length) Sl.no
theorem noOwS {n : Nat} {ds : List Dt} {σ : L2.St} {a : Addr} : ¬ OwS σ (st0 n ds) a := fun h => by
  obtain ⟨i, l, d, h, _⟩ := h
  unfold st0 at h
  by_cases hi : i < ds.length
  · rw [List.getElem?_append_left (by rw [List.length_map]; exact hi), List.getElem?_map] at h
    cases q : ds[i]? with
    | none =>
      rw [q] at h
      cases h
    | some d' =>
      rw [q] at h
      cases h
  · rw [List.getElem?_append_right (by rw [List.length_map]; omega), List.getElem?_replicate] at h
    split at h <;> cases h
theorem noGh {n : Nat} {ds : List Dt} (i : Nat) (d : Dt) : (st0 n ds)[i]? ≠ some (.gh d) := fun h => by
  unfold st0 at h
  by_cases hi : i < ds.length
  · rw [List.getElem?_append_left (by rw [List.length_map]; exact hi), List.getElem?_map] at h
    cases q : ds[i]? with
    | none =>
      rw [q] at h
      cases h
    | some d' =>
      rw [q] at h
      cases h
  · rw [List.getElem?_append_right (by rw [List.length_map]; omega), List.getElem?_replicate] at h
    split at h <;> cases h
theorem noFx {n : Nat} {ds : List Dt} (i : Nat) (d : Dt) : (st0 n ds)[i]? ≠ some (.fx d) := fun h => by
  unfold st0 at h
  by_cases hi : i < ds.length
  · rw [List.getElem?_append_left (by rw [List.length_map]; exact hi), List.getElem?_map] at h
    cases q : ds[i]? with
    | none =>
      rw [q] at h
      cases h
    | some d' =>
      rw [q] at h
      cases h
  · rw [List.getElem?_append_right (by rw [List.length_map]; omega), List.getElem?_replicate] at h
    split at h <;> cases h
theorem sym0 {K : Frag} {F H : Hp} {N : List Str} {ds : List Dt} {vs : List V} (e : Ex F H) (r : RepL K F ds vs) : Sym K F H (L2.start N vs) (st0 N.length ds) where
  ex := e
  len := by
    unfold L2.start st0
    rw [List.length_append, List.length_append, List.length_map, List.length_map, List.length_replicate, List.length_replicate, r.length]
  sh := fun i d h => by
    have hl := r.length
    have hi : i < ds.length := by
      unfold st0 at h
      by_cases hi : i < ds.length
      · exact hi
      · rw [List.getElem?_append_right (by rw [List.length_map]; omega), List.getElem?_replicate] at h
        split at h <;> cases h
    unfold st0 at h
    rw [List.getElem?_append_left (by rw [List.length_map]; exact hi), List.getElem?_map] at h
    cases q : ds[i]? with
    | none =>
      rw [q] at h
      cases h
    | some d' =>
      rw [q] at h
      cases h
      obtain ⟨v, e1, e2⟩ := r.get q
      refine ⟨v, ?_, e2⟩
      unfold L2.start
      rw [List.getElem?_append_left (by rw [List.length_map]; omega), List.getElem?_map, e1]
      rfl
  ow := fun i l d h => by
    exfalso
    unfold st0 at h
    by_cases hi : i < ds.length
    · rw [List.getElem?_append_left (by rw [List.length_map]; exact hi), List.getElem?_map] at h
      cases q : ds[i]? with
      | none =>
        rw [q] at h
        cases h
      | some d' =>
        rw [q] at h
        cases h
    · rw [List.getElem?_append_right (by rw [List.length_map]; omega), List.getElem?_replicate] at h
      split at h <;> cases h
  inj := fun i j l m d e p h => by
    exfalso
    unfold st0 at h
    by_cases hi : i < ds.length
    · rw [List.getElem?_append_left (by rw [List.length_map]; exact hi), List.getElem?_map] at h
      cases q : ds[i]? with
      | none =>
        rw [q] at h
        cases h
      | some d' =>
        rw [q] at h
        cases h
    · rw [List.getElem?_append_right (by rw [List.length_map]; omega), List.getElem?_replicate] at h
      split at h <;> cases h
  gh := .no noGh fun i d h => absurd h (noFx i d)
theorem noOw {n : Nat} {ds : List Dt} {σ : L2.St} {H : Hp} {a : Addr} : ¬ OwA σ (st0 n ds) H a := fun h => h.elim noOwS (GhA.no noGh)
theorem Step.out {K : Frag} {σ σ' : L2.St} {ρ ρ' : En} {F F' H H' : Hp} (s : Step K σ ρ F H σ' ρ' F' H') (hn : ∀ a, F' a ≠ none → ¬ OwA σ ρ H a) : Ex F' (Fz F H H') := fun a o e => by
  cases q : H a with
  | none =>
    rw [fz_new q]
    exact s.sym.ex a o e
  | some u =>
    rcases s.new a (by rw [e]; exact fun z => nomatch z) with z | z | z
    · cases r : F a with
      | none => exact absurd r z
      | some w =>
        rw [fz_have q r]
        exact s.sym.ex a o e
    · rw [q] at z
      cases z
    · exact absurd z (hn a (by rw [e]; exact fun z => nomatch z))
section
variable {P : Program} {w : World} {K : Frag} {mg : Str → Option Value} {base : Heap} {x qual : Str} {params : Arguments} {body : List Stmt} {scope : Scope} {dvs : List V} {kws : List (Str × V)} {f : Addr} {fd : FuncData}
/-- the context of a body that may raise -/
abbrev cxB (P : Program) (w : World) (K : Frag) (mg : Str → Option Value) (base : Heap) (N : List Str) (qual : Str) (scope : Scope) (f : Addr) (cdv : Value) (A : Around) (outer : List PySem.Env) (s : Shared) (H : Hp) (E : XK) : Cx := cxOf (L2.CX P w) P w K mg base N qual scope f cdv A outer s H E
/-- what is raised at a body's level -/
abbrev wE (E : XK) : WX := fun cls d _ H => E cls d H
theorem fn_body {S : Fsp} {N ps : List Str} {k : Nat} (F : FunD K x qual params body scope dvs kws f fd) (sc : FnScope N ps scope) (hl : ∀ i, (S.arg i).length = ps.length)
    (hb : ∀ (cdv : Value) (A : Around) (outer : List PySem.Env) (s : Shared) (H : Hp) (E : XK), Room k (A.deeper (envOfC qual scope s.heap.objs.size f cdv)) → Takes (cxB P w K mg base N qual scope f cdv A outer s H E) (wE E) → PassesOwn (model P w) (cxB P w K mg base N qual scope f cdv A outer s H E).A (cxB P w K mg base N qual scope f cdv A outer s H E).env (cxB P w K mg base N qual scope f cdv A outer s H E).xe →
      ∃ t, PSs (cxB P w K mg base N qual scope f cdv A outer s H E) body t ∧ ∀ i, S.pre i → ∀ Z : Pd, (∀ ρ, S.post i .non → Z.nx ρ) → (∀ d ρ, S.post i d → Z.rt d ρ) → (∀ c ρ, S.exc i c → Z.ex c ρ) → StD K (wE E) t (st0 N.length (S.arg i)) Z) : FnOk P w K mg base (L2.CX P w) (k + 1) f fd ps (DSp K S) := by
  refine F.ok sc (fun vs H Q E h => ?_) (fun cdv A outer s H vs Q E hr h => ?_)
  · obtain ⟨G, i, _, r, _⟩ := h
    rw [r.length, hl]
  · obtain ⟨G, i, ex, r, hp, hq, hx⟩ := h
    obtain ⟨t, ht, hd⟩ := hb cdv A outer s H E hr (takes_of rfl rfl rfl rfl) (passes_of rfl)
    refine ⟨t, ht, hd i hp { nx := fun _ => S.post i .non, rt := fun d _ => S.post i d, ex := fun c _ => S.exc i c } (fun _ h => h) (fun _ _ h => h) (fun _ _ h => h) _ G H _ (sym0 ex r) ⟨fun ρ' σ' F' H' p st => ?_, fun d ρ' v σ' F' H' p st rd => ?_, fun _ _ _ _ _ _ p => p.elim, fun _ _ _ _ p => p.elim, fun _ _ _ _ p => p.elim, fun c ρ' cls dd σ' F' H' p st xo => ?_⟩⟩
    · exact hq .non p .non H' (fun a o e => st.keep a o e noOw) (by unfold Rep; rfl)
    · exact hq d p v H' (fun a o e => st.keep a o e noOw) (rd.mono (Xe.of (st.out fun _ _ => noOw)))
    · exact hx c p cls dd H' (fun a o e => st.keep a o e noOw) (xo.mono (Xe.of (st.out fun _ _ => noOw)))
/-- .. that hands back a new object -/
def NSp (K : Frag) (S : Fsp) : Sp := fun vs H Q E => ∃ (F : Hp) (i : S.I), Ex F H ∧ RepL K F (S.arg i) vs ∧ S.pre i ∧ (∀ d, S.post i d → ∀ p o H', Gw F H H' → H' p = none → Own K (Fz F H H') (upd H' p o) p d → Q (.ref p) (upd H' p o)) ∧
  (∀ c, S.exc i c → ∀ cls dd H', Gw F H H' → XOk K (Fz F H H') c cls dd → E cls dd H')
def del1 (H : Hp) (p : Addr) : Hp := fun a => if a = p then none else H a
theorem upd_del1 {H : Hp} {p : Addr} {o : HO} (h : H p = some o) : upd (del1 H p) p o = H := by
  funext a
  by_cases e : a = p
  · subst e
    rw [upd_same, h]
  · rw [upd_ne e]
    exact if_neg e
theorem fn_bodyN {S : Fsp} {N ps : List Str} {k : Nat} (F : FunD K x qual params body scope dvs kws f fd) (sc : FnScope N ps scope) (hl : ∀ i, (S.arg i).length = ps.length)
    (hb : ∀ (cdv : Value) (A : Around) (outer : List PySem.Env) (s : Shared) (H : Hp) (E : XK), Room k (A.deeper (envOfC qual scope s.heap.objs.size f cdv)) → Takes (cxB P w K mg base N qual scope f cdv A outer s H E) (wE E) → PassesOwn (model P w) (cxB P w K mg base N qual scope f cdv A outer s H E).A (cxB P w K mg base N qual scope f cdv A outer s H E).env (cxB P w K mg base N qual scope f cdv A outer s H E).xe →
      ∃ t, PSs (cxB P w K mg base N qual scope f cdv A outer s H E) body t ∧ ∀ i, S.pre i → ∀ Z : Pd, (∀ d ρ, S.post i d → Z.rn d ρ) → (∀ c ρ, S.exc i c → Z.ex c ρ) → StD K (wE E) t (st0 N.length (S.arg i)) Z) : FnOk P w K mg base (L2.CX P w) (k + 1) f fd ps (NSp K S) := by
  refine F.ok sc (fun vs H Q E h => ?_) (fun cdv A outer s H vs Q E hr h => ?_)
  · obtain ⟨G, i, _, r, _⟩ := h
    rw [r.length, hl]
  · obtain ⟨G, i, ex, r, hp, hq, hx⟩ := h
    obtain ⟨t, ht, hd⟩ := hb cdv A outer s H E hr (takes_of rfl rfl rfl rfl) (passes_of rfl)
    refine ⟨t, ht, hd i hp { nx := fun _ => False, rt := fun _ _ => False, rn := fun d _ => S.post i d, ex := fun c _ => S.exc i c } (fun _ _ h => h) (fun _ _ h => h) _ G H _ (sym0 ex r) ⟨fun ρ' σ' F' H' p st => p.elim, fun d ρ' v σ' F' H' p st rd => p.elim, fun d ρ' p σ' F' H' pd st hf ho ow => ?_, fun _ _ _ _ p => p.elim, fun _ _ _ _ p => p.elim, fun c ρ' cls dd σ' F' H' p st xo => ?_⟩⟩
    · have hn : H p = none := by
        rcases ow with ow | ow
        · rcases st.own p (.inl ow) with z | z
          · exact absurd z noOw
          · exact z
        · exact ow
      obtain ⟨o, hpo⟩ : ∃ o, H' p = some o := by
        cases q : H' p with
        | none => exact absurd q ho.there
        | some o => exact ⟨o, rfl⟩
      have e1 : Gw G H (del1 H' p) := fun a u e => by
        have ne : a ≠ p := ne_of_none e hn
        show (if a = p then none else H' a) = some u ∨ (G a ≠ none ∧ ∃ v, (if a = p then none else H' a) = some v ∧ Lok u v)
        rw [if_neg ne]
        exact st.keep a u e noOw
      have e2 : Ex F' (Fz G H (del1 H' p)) := fun a u e => by
        have ne : a ≠ p := fun z => by
          subst z
          rw [hf] at e
          cases e
        have e3 := st.out (fun _ _ => noOw) a u e
        have e5 : del1 H' p a = H' a := if_neg ne
        cases q : H a with
        | none =>
          rw [fz_new q] at e3 ⊢
          rw [e5]
          exact e3
        | some w =>
          cases r : G a with
          | none =>
            rw [fz_old q r] at e3
            cases e3
          | some v =>
            rw [fz_have q r] at e3 ⊢
            rw [e5]
            exact e3
      have e4 := upd_del1 hpo
      have key := hq d pd p o (del1 H' p) e1 (if_pos rfl) (by rw [e4]; exact ho.mono (Xe.of e2) rfl)
      rw [e4] at key
      exact key
    · exact hx c p cls dd H' (fun a o e => st.keep a o e noOw) (xo.mono (Xe.of (st.out fun _ _ => noOw)))
/-- .. whose first argument is an object that it changes -/
def st1 (n : Nat) (o : Dt) (ds : List Dt) : En := .ow true o :: st0 (n - 1) ds
theorem sym1 {K : Frag} {F H : Hp} {n : Str} {N : List Str} {p : Addr} {o : Dt} {ds : List Dt} {vs : List V} (e : Ex F H) (hp : F p = none) (ho : Own K F H p o) (r : RepL K F ds vs) : Sym K F H (L2.start (n :: N) (.ref p :: vs)) (st1 (n :: N).length o ds) := by
  have s0 : Sym K F H (L2.start N vs) (st0 N.length ds) := sym0 e r
  have e1 : L2.start (n :: N) (.ref p :: vs) = some (.ref p) :: L2.start N vs := by
    unfold L2.start
    simp
  have e2 : st1 (n :: N).length o ds = .ow true o :: st0 N.length ds := rfl
  have no : ∀ {i : Nat} {l : Bool} {d : Dt}, (st0 N.length ds)[i]? ≠ some (.ow l d) := fun {i l d} z => by
    obtain ⟨q, h1, _⟩ := s0.ow i l d z
    exact noOwS ⟨i, l, d, z, h1⟩
  rw [e1, e2]
  exact {
    ex := e
    len := by rw [List.length_cons, List.length_cons, s0.len]
    sh := fun i d h => by
      cases i with
      | zero => cases h
      | succ i => exact s0.sh i d (by simpa using h)
    ow := fun i l d h => by
      cases i with
      | zero =>
        cases h
        exact ⟨p, rfl, hp, ho⟩
      | succ i => exact absurd (by simpa using h) (no (i := i) (l := l) (d := d))
    inj := fun i j l m d e q h1 h2 h3 h4 => by
      cases i with
      | zero =>
        cases j with
        | zero => rfl
        | succ j => exact absurd (by simpa using h2) (no (i := j) (l := m) (d := e))
      | succ i => exact absurd (by simpa using h1) (no (i := i) (l := l) (d := d))
    gh := .no (fun i d h => by
      cases i with
      | zero => cases h
      | succ i => exact noGh i d (by simpa using h)) fun i d h => by
      exfalso
      cases i with
      | zero => cases h
      | succ i => exact noFx i d (by simpa using h) }
theorem ow1S {n : Nat} {o : Dt} {ds : List Dt} {σ : L2.St} {p a : Addr} (h : OwS (some (.ref p) :: σ) (st1 n o ds) a) : a = p := by
  obtain ⟨i, l, d, h1, h2⟩ := h
  cases i with
  | zero =>
    have z := Option.some.inj (Option.some.inj h2)
    injection z with z
    exact z.symm
  | succ i => exact absurd ⟨i, l, d, by simpa [st1] using h1, by simpa using h2⟩ (noOwS (n := n - 1) (ds := ds) (σ := σ) (a := a))
theorem ow1 {n : Nat} {o : Dt} {ds : List Dt} {σ : L2.St} {H : Hp} {p a : Addr} (h : OwA (some (.ref p) :: σ) (st1 n o ds) H a) : a = p := h.elim ow1S fun z => absurd z (GhA.no fun i d h => by
  cases i with
  | zero => cases h
  | succ i => exact noGh (n := n - 1) (ds := ds) i d (by simpa [st1] using h))
theorem fn_bodyO {S : Osp} {n : Str} {N ps : List Str} {k : Nat} (F : FunD K x qual params body scope dvs kws f fd) (sc : FnScope (n :: N) ps scope) (hl : ∀ i, (S.arg i).length + 1 = ps.length)
    (hb : ∀ (cdv : Value) (A : Around) (outer : List PySem.Env) (s : Shared) (H : Hp) (E : XK), Room k (A.deeper (envOfC qual scope s.heap.objs.size f cdv)) → Takes (cxB P w K mg base (n :: N) qual scope f cdv A outer s H E) (wE E) → PassesOwn (model P w) (cxB P w K mg base (n :: N) qual scope f cdv A outer s H E).A (cxB P w K mg base (n :: N) qual scope f cdv A outer s H E).env (cxB P w K mg base (n :: N) qual scope f cdv A outer s H E).xe →
      ∃ t, PSs (cxB P w K mg base (n :: N) qual scope f cdv A outer s H E) body t ∧ ∀ i, S.pre i → ∀ Z : Pd, (∀ o ρ, ρ[0]? = some (.ow true o) → S.post i .non o → Z.nx ρ) → (∀ d o ρ, ρ[0]? = some (.ow true o) → S.post i d o → Z.rt d ρ) → (∀ c o ρ, ρ[0]? = some (.ow true o) → S.exc i c o → Z.ex c ρ) → StD K (wE E) t (st1 (n :: N).length (S.own i) (S.arg i)) Z) : FnOk P w K mg base (L2.CX P w) (k + 1) f fd ps (OSp K S) := by
  refine F.ok sc (fun vs H Q E h => ?_) (fun cdv A outer s H vs Q E hr h => ?_)
  · obtain ⟨G, i, p, us, rfl, _, _, _, r, _⟩ := h
    rw [List.length_cons, r.length, hl]
  · obtain ⟨G, i, p, us, rfl, ex, hp, ho, r, hpre, hq, hx⟩ := h
    obtain ⟨t, ht, hd⟩ := hb cdv A outer s H E hr (takes_of rfl rfl rfl rfl) (passes_of rfl)
    have e1 : L2.start (n :: N) (.ref p :: us) = some (.ref p) :: L2.start N us := by
      unfold L2.start
      simp
    have key : ∀ {σ' : L2.St} {ρ' : En} {F' H' : Hp} {o : Dt}, Step K (L2.start (n :: N) (.ref p :: us)) (st1 (n :: N).length (S.own i) (S.arg i)) G H σ' ρ' F' H' → ρ'[0]? = some (.ow true o) → Bt G H H' p ∧ Own K (Fz G H H') H' p o ∧ Xe F' (Fz G H H') := fun {σ' ρ' F' H' o} st h0 => by
      rw [e1] at st
      obtain ⟨q, h1, h2, h3⟩ := st.sym.ow 0 true o h0
      obtain ⟨d', g1, g2⟩ := st.stay 0 (S.own i) rfl
      have eq : q = p := by
        rw [h1] at g2
        have z := Option.some.inj (Option.some.inj g2)
        injection z
      subst eq
      have ex' : Xe F' (Fz G H H') := Xe.of <| st.out fun a ha z => by
        rw [ow1 z] at ha
        exact ha h2
      exact ⟨fun a u e ne => st.keep a u e fun z => ne (ow1 z), h3.mono ex' rfl, ex'⟩
    refine ⟨t, ht, hd i hpre { nx := fun ρ => ∃ o, ρ[0]? = some (.ow true o) ∧ S.post i .non o, rt := fun d ρ => ∃ o, ρ[0]? = some (.ow true o) ∧ S.post i d o, ex := fun c ρ => ∃ o, ρ[0]? = some (.ow true o) ∧ S.exc i c o } (fun o _ h0 h => ⟨o, h0, h⟩) (fun _ o _ h0 h => ⟨o, h0, h⟩) (fun _ o _ h0 h => ⟨o, h0, h⟩) _ G H _ (sym1 ex hp ho r) ⟨fun ρ' σ' F' H' z st => ?_, fun d ρ' v σ' F' H' z st rd => ?_, fun _ _ _ _ _ _ p => p.elim, fun _ _ _ _ p => p.elim, fun _ _ _ _ p => p.elim, fun c ρ' cls dd σ' F' H' z st xo => ?_⟩⟩
    · obtain ⟨o, h0, po⟩ := z
      obtain ⟨k1, k2, k3⟩ := key st h0
      exact hq .non o po .non H' k1 k2 (by unfold Rep; rfl)
    · obtain ⟨o, h0, po⟩ := z
      obtain ⟨k1, k2, k3⟩ := key st h0
      exact hq d o po v H' k1 k2 (rd.mono k3)
    · obtain ⟨o, h0, po⟩ := z
      obtain ⟨k1, k2, k3⟩ := key st h0
      exact hx c o po cls dd H' k1 k2 (xo.mono k3)
end
end DL
set_option Elab.async false
set_option linter.all false
set_option maxRecDepth 100000
set_option autoImplicit false
set_option maxHeartbeats 4000000
namespace DL
open PySem L2 Evl PyProof.Rows
/-! ### operators for all kinds of values -/
def rAddS : R2 := fun x y H Q => ∃ i j, x = .str i ∧ y = .str j ∧ i.length + j.length ≤ sizeLine ∧ Q (.str (i ++ j)) H
def rAddU (K : Frag) : R2 := fun x y H Q => (rI0 fun i j => .int (i + j)) x y H Q ∨ (rAddS x y H Q ∨ (rCat x y H Q ∨ rCatA K x y H Q))
def strMul (x : Str) (n : Int) : Str := ⟨(List.replicate n.toNat x.cps).foldl (· ++ ·) #[]⟩
def rMulS : R2 := fun x y H Q => ∃ z n, x = .str z ∧ y = .int n ∧ 0 ≤ n ∧ n ≤ 100000 ∧ z.length ≤ 100 ∧ Q (.str (strMul z n)) H
def rMulU : R2 := fun x y H Q => (rI CMul fun i j => .int (i * j)) x y H Q ∨ ((rI CMulW fun i j => .int (i * j)) x y H Q ∨ (rMulS x y H Q ∨ rRep x y H Q))
def rEqP (K : Frag) : R2 := fun x y H Q => ∃ d e, Dp K H x d ∧ Dp K H y e ∧ d.plain = true ∧ e.plain = true ∧ d.depth ≤ 64 ∧ Q (.bl (PyData.eqv d e)) H
def rNeP (K : Frag) : R2 := fun x y H Q => ∃ d e, Dp K H x d ∧ Dp K H y e ∧ d.plain = true ∧ e.plain = true ∧ d.depth ≤ 64 ∧ Q (.bl (!PyData.eqv d e)) H
def rEqU (K : Frag) : R2 := fun x y H Q => rEq x y H Q ∨ rEqP K x y H Q
def rNeU (K : Frag) : R2 := fun x y H Q => rNe x y H Q ∨ rNeP K x y H Q
section
variable {X : Cx}
theorem mulS_len (x : Str) : ∀ n : Nat, ((List.replicate n x.cps).foldl (· ++ ·) #[] : Array Nat).size = x.length * n := by
  have key : ∀ (n : Nat) (a : Array Nat), ((List.replicate n x.cps).foldl (· ++ ·) a).size = a.size + x.length * n := by
    intro n
    induction n with
    | zero => intro a; simp
    | succ n ih =>
      intro a
      rw [List.replicate_succ, List.foldl_cons, ih, Array.size_append, Nat.mul_succ]
      show a.size + x.length + x.length * n = _
      omega
  intro n
  rw [key n #[]]
  simp
theorem op_mulS : OpR X (binaryOp .Mult) rMulS := by
  intro pins s σ H x y v u Q I rx ry h
  obtain ⟨z, n, rfl, rfl, h0, h1, h2, q⟩ := h
  obtain ⟨t, rfl⟩ := rx
  obtain ⟨t', rfl⟩ := ry
  have hz : sizeLine = 16777216 := sizeLine_eq
  have hlen : z.length * n.toNat ≤ 100 * 100000 := Nat.mul_le_mul h2 (by omega)
  have hl : Builtin.Str.tooLong (z.length * n.toNat) = false := by
    unfold Builtin.Str.tooLong
    simp only [decide_eq_false_iff_not]
    omega
  refine PySem.P.mul_str (by rw [decide_eq_false (by omega), decide_eq_false (by omega)]; rfl) (fun g1 g2 => ?_) (fun _ _ => hl) ?_
  · have g3 : (1 : Int) ≤ n := by omega
    have g4 : (100000 : Int) ≤ (2 ^ 63 - 1) / n := by
      refine Int.le_ediv_of_mul_le (by omega) ?_
      have : (100000 : Int) * n ≤ 100000 * 100000 := Int.mul_le_mul_of_nonneg_left h1 (by omega)
      omega
    omega
  · by_cases c : n < 1
    · rw [if_pos c]
      have e : n = 0 := by omega
      subst e
      refine ⟨Nat.zero_le _, ?_⟩
      exact ⟨.str (strMul z 0), H, I.tok _, ⟨_, rfl⟩, q⟩
    · rw [if_neg c]
      by_cases c2 : (n == 1 || z.length == 0) = true
      · rw [if_pos c2]
        have e : strMul z n = z := by
          rw [Bool.or_eq_true] at c2
          rcases c2 with c2 | c2
          · have e1 : n = 1 := by simpa using c2
            subst e1
            unfold strMul
            show (⟨#[] ++ z.cps⟩ : Str) = z
            simp
          · have e1 : z.cps = #[] := Array.eq_empty_of_size_eq_zero (by simpa [Str.length] using c2)
            have e2 : (strMul z n).cps = #[] := Array.eq_empty_of_size_eq_zero (by
              unfold strMul
              rw [mulS_len]
              have : z.length = 0 := by simpa using c2
              rw [this]
              omega)
            obtain ⟨a⟩ := z
            have e3 : a = #[] := e1
            subst e3
            show (⟨(strMul ⟨#[]⟩ n).cps⟩ : Str) = ⟨#[]⟩
            rw [e2]
        show EP X pins σ Q (.str z t) _
        exact ⟨.str z, H, I, ⟨_, rfl⟩, by rw [← e]; exact q⟩
      · rw [if_neg c2]
        refine ⟨?_, ?_⟩
        · show (⟨(List.replicate n.toNat z.cps).foldl (· ++ ·) #[]⟩ : Str).length ≤ sizeLine
          show ((List.replicate n.toNat z.cps).foldl (· ++ ·) #[] : Array Nat).size ≤ sizeLine
          rw [mulS_len]
          omega
        · exact ⟨.str (strMul z n), H, I.tok _, ⟨_, rfl⟩, q⟩
theorem op_addU : OpR X (binaryOp .Add) (rAddU X.K) := op_add.or (op_add_str.or (op_cat.or op_catA))
theorem op_mulU : OpR X (binaryOp .Mult) rMulU := op_mul.or (op_mulW.or (op_mulS.or op_rep))
theorem op_eqP (hu : X.A.units + 64 < cLine) : OpR X (compareOp .Eq) (rEqP X.K) := by
  intro pins s σ H x y v u Q I rx ry h
  obtain ⟨d, e, hd, he, sd, se, hz, q⟩ := h
  obtain ⟨as, r1⟩ := Dp.reads I d x v hd rx
  obtain ⟨bs, r2⟩ := Dp.reads I e y u he ry
  exact SeqAt.eq_plain r1 r2 sd se (by have := Nat.min_le_left d.depth e.depth; omega) ⟨.bl _, H, I, rfl, q⟩
theorem op_neP (hu : X.A.units + 64 < cLine) : OpR X (compareOp .NotEq) (rNeP X.K) := by
  intro pins s σ H x y v u Q I rx ry h
  obtain ⟨d, e, hd, he, sd, se, hz, q⟩ := h
  obtain ⟨as, r1⟩ := Dp.reads I d x v hd rx
  obtain ⟨bs, r2⟩ := Dp.reads I e y u he ry
  exact SeqAt.ne_plain r1 r2 sd se (by have := Nat.min_le_left d.depth e.depth; omega) ⟨.bl _, H, I, rfl, q⟩
theorem op_eqU (hu : X.A.units + 64 < cLine) : OpR X (compareOp .Eq) (rEqU X.K) := op_eq.or (op_eqP hu)
theorem op_neU (hu : X.A.units + 64 < cLine) : OpR X (compareOp .NotEq) (rNeU X.K) := op_ne.or (op_neP hu)
end
section
variable {K : Frag} {W : WX} {σ σ1 : L2.St} {ρ ρ1 : En} {F F1 H H1 : Hp} {x : PX} {P : Dt → En → Prop}
theorem o_add {i j : Int} (p : P (.int (i + j)) ρ) : OpD K (rAddU K) (.int i) (.int j) ρ P := fun σ F H Q u v s e f q => by
  cases e
  cases f
  exact .inl ⟨i, j, rfl, rfl, q _ _ _ F H p (Step.refl s) rfl⟩
theorem o_addS {i j : Str} (h : i.length + j.length ≤ 1000000) (p : P (.str (i ++ j)) ρ) : OpD K (rAddU K) (.str i) (.str j) ρ P := fun σ F H Q u v s e f q => by
  cases e
  cases f
  exact .inr (.inl ⟨i, j, rfl, rfl, Nat.le_trans h (by decide), q _ _ _ F H p (Step.refl s) rfl⟩)
theorem o_I {i j : Int} {C : Int → Int → Prop} {g : Int → Int → Int} (h : C i j) (p : P (.int (g i j)) ρ) : OpD K (rI C fun i j => .int (g i j)) (.int i) (.int j) ρ P := fun σ F H Q u v s e f q => by
  cases e
  cases f
  exact ⟨i, j, rfl, rfl, h, q _ _ _ F H p (Step.refl s) rfl⟩
theorem o_mulW {i j : Int} (h : CMulW i j) (p : P (.int (i * j)) ρ) : OpD K rMulU (.int i) (.int j) ρ P := fun σ F H Q u v s e f q => by
  cases e
  cases f
  exact .inr (.inl ⟨i, j, rfl, rfl, h, q _ _ _ F H p (Step.refl s) rfl⟩)
theorem o_mulS {z : Str} {n : Int} (h0 : 0 ≤ n) (h1 : n ≤ 100000) (h2 : z.length ≤ 100) (p : P (.str (strMul z n)) ρ) : OpD K rMulU (.str z) (.int n) ρ P := fun σ F H Q u v s e f q => by
  cases e
  cases f
  exact .inr (.inr (.inl ⟨z, n, rfl, rfl, h0, h1, h2, q _ _ _ F H p (Step.refl s) rfl⟩))
theorem o_mod {i j : Int} (h : 0 < j) (p : P (.int (i % j)) ρ) : OpD K (rI (fun _ j => 0 < j) fun i j => .int (i % j)) (.int i) (.int j) ρ P := o_I h p
theorem o_fdiv {i j : Int} (h : 0 < j) (h2 : j < 2 ^ 200) (p : P (.int (i / j)) ρ) : OpD K (rI CDivW fun i j => .int (i / j)) (.int i) (.int j) ρ P := o_I (wide_div (b := 200) h (by omega) (by decide) (by decide)) p
theorem o_pow {i j : Int} (h : 0 ≤ j ∧ j ≤ 1000000 ∧ i.natAbs < 2 ^ 64) (p : P (.int (i ^ j.toNat)) ρ) : OpD K (rI CPow fun i j => .int (i ^ j.toNat)) (.int i) (.int j) ρ P := o_I h p
theorem o_eqI {i j : Int} (p : P (.bl (decide (i = j))) ρ) : OpD K (rEqU K) (.int i) (.int j) ρ P := fun σ F H Q u v s e f q => by
  cases e
  cases f
  refine .inl ⟨rfl, ?_⟩
  have z : decide (V.int i = V.int j) = decide (i = j) := by rw [Bool.eq_iff_iff]; simp
  rw [z]
  exact q _ _ _ F H p (Step.refl s) rfl
theorem o_neI {i j : Int} (p : P (.bl (!decide (i = j))) ρ) : OpD K (rNeU K) (.int i) (.int j) ρ P := fun σ F H Q u v s e f q => by
  cases e
  cases f
  refine .inl ⟨rfl, ?_⟩
  have z : decide (V.int i = V.int j) = decide (i = j) := by rw [Bool.eq_iff_iff]; simp
  rw [z]
  exact q _ _ _ F H p (Step.refl s) rfl
theorem o_eqB {i j : Bool} (p : P (.bl (decide (i = j))) ρ) : OpD K (rEqU K) (.bl i) (.bl j) ρ P := fun σ F H Q u v s e f q => by
  cases e
  cases f
  refine .inl ⟨rfl, ?_⟩
  have z : decide (V.bl i = V.bl j) = decide (i = j) := by rw [Bool.eq_iff_iff]; simp
  rw [z]
  exact q _ _ _ F H p (Step.refl s) rfl
theorem o_neB {i j : Bool} (p : P (.bl (!decide (i = j))) ρ) : OpD K (rNeU K) (.bl i) (.bl j) ρ P := fun σ F H Q u v s e f q => by
  cases e
  cases f
  refine .inl ⟨rfl, ?_⟩
  have z : decide (V.bl i = V.bl j) = decide (i = j) := by rw [Bool.eq_iff_iff]; simp
  rw [z]
  exact q _ _ _ F H p (Step.refl s) rfl
theorem o_eqS {i j : Str} (p : P (.bl (decide (i = j))) ρ) : OpD K (rEqU K) (.str i) (.str j) ρ P := fun σ F H Q u v s e f q => by
  cases e
  cases f
  refine .inl ⟨rfl, ?_⟩
  have z : decide (V.str i = V.str j) = decide (i = j) := by rw [Bool.eq_iff_iff]; simp
  rw [z]
  exact q _ _ _ F H p (Step.refl s) rfl
theorem o_neS {i j : Str} (p : P (.bl (!decide (i = j))) ρ) : OpD K (rNeU K) (.str i) (.str j) ρ P := fun σ F H Q u v s e f q => by
  cases e
  cases f
  refine .inl ⟨rfl, ?_⟩
  have z : decide (V.str i = V.str j) = decide (i = j) := by rw [Bool.eq_iff_iff]; simp
  rw [z]
  exact q _ _ _ F H p (Step.refl s) rfl
def Dt.isNon : Dt → Bool
  | .non => true
  | _ => false
/-! ### subscripts -/
def rIxU (K : Frag) : R2 := fun x y H Q => rIxL K x y H Q ∨ (rIxT K x y H Q ∨ rIxS x y H Q)
theorem ix_seqU {X : Cx} : IxR X (rIxU X.K) := by
  intro value slice pins s σ H x y v u Q I rx ry h hs
  rcases h with h | h | h
  · exact ix_list value slice pins s σ H x y v u Q I rx ry h hs
  · exact ix_tup value slice pins s σ H x y v u Q I rx ry h hs
  · exact ix_str value slice pins s σ H x y v u Q I rx ry h hs
theorem atI_rep {ds : List Dt} {xs : List V} {i : Int} {d : Dt} (r : RepL K F ds xs) (h : atI ds i = some d) : ∃ v, atI xs i = some v ∧ Rep K F d v := by
  unfold atI at h ⊢
  rw [r.length]
  cases e : ixN ds.length i with
  | none =>
    rw [e] at h
    cases h
  | some j =>
    rw [e] at h
    exact r.get h
theorem o_ixL {ds : List Dt} {i : Int} {d : Dt} (h : atI ds i = some d) (p : P d ρ) : OpD K (rIxU K) (.lst ds) (.int i) ρ P := fun σ F H Q u v s e f q => by
  cases f
  have e' : Rep K F (.lst ds) u := e
  unfold Rep at e'
  obtain ⟨a, xs, rfl, h1, h2⟩ := e'
  obtain ⟨z, z1, z2⟩ := atI_rep h2 h
  exact .inl ⟨a, xs, i, z, rfl, rfl, ex_l s.ex h1, z1, q d ρ z F H p (Step.refl s) z2.toV⟩
theorem o_ixT {ds : List Dt} {i : Int} {d : Dt} (h : atI ds i = some d) (p : P d ρ) : OpD K (rIxU K) (.tup ds) (.int i) ρ P := fun σ F H Q u v s e f q => by
  cases f
  have e' : Rep K F (.tup ds) u := e
  unfold Rep at e'
  obtain ⟨a, xs, rfl, h1, h2⟩ := e'
  obtain ⟨z, z1, z2⟩ := atI_rep h2 h
  exact .inr (.inl ⟨a, xs, i, z, rfl, rfl, ex_t s.ex h1, z1, q d ρ z F H p (Step.refl s) z2.toV⟩)
theorem o_ixO {k : Nat} {l : Bool} {ds : List Dt} {i : Int} {d : Dt} (hk : ρ[k]? = some (.ow l (.lst ds))) (h : atI ds i = some d) (p : P d ρ) : OpD K (rIxU K) (.own k) (.int i) ρ P := fun σ F H Q u v s e f q => by
  cases f
  obtain ⟨a, e1, e2, xs, e3, e4⟩ := s.ow k l _ hk
  have eu : u = .ref a := by
    have z : σ[k]? = some (some u) := e
    rw [e1] at z
    exact (Option.some.inj (Option.some.inj z)).symm
  subst eu
  obtain ⟨z, z1, z2⟩ := atI_rep e4 h
  exact .inl ⟨a, xs, i, z, rfl, rfl, sq_of e3, z1, q d ρ z F H p (Step.refl s) z2.toV⟩
theorem o_ixS {z : Str} {i : Int} {c : Nat} (hz : z.length ≤ 1000000) (h : atI z.cps.toList i = some c) (p : P (.str ⟨#[c]⟩) ρ) : OpD K (rIxU K) (.str z) (.int i) ρ P := fun σ F H Q u v s e f q => by
  cases e
  cases f
  exact .inr (.inr ⟨z, i, c, rfl, rfl, Nat.le_trans hz (by decide), h, q _ _ _ F H p (Step.refl s) rfl⟩)
/-! ### slices -/
end
end DL
set_option Elab.async false
set_option linter.all false
set_option maxRecDepth 100000
set_option autoImplicit false
set_option maxHeartbeats 4000000
namespace DL
open PySem L2 Evl PyProof.Rows
section
variable {X : Cx}
end
section
variable {K : Frag} {W : WX} {σ σ1 : L2.St} {ρ ρ1 : En} {F F1 H H1 : Hp} {x : PX} {P : Dt → En → Prop}
/-! ### slices -/
/-! ### built-in functions -/
theorem c_abs {i : Int} (p : P (.int (if i < 0 then -i else i)) ρ) : CaD K (fun xs H Q => ∃ i, xs = [.int i] ∧ Q (.int (if i < 0 then -i else i)) H) [.int i] ρ P := fun σ F H Q us s r q => by
  obtain ⟨v, _, rfl, rv, rfl⟩ := r
  have e : v = .int i := rv
  subst e
  exact ⟨i, rfl, q _ _ _ F H p (Step.refl s) rfl⟩
def rIntU : List V → Hp → VK → Prop := fun xs H Q => (∃ i, xs = [.int i] ∧ Q (.int i) H) ∨ ∃ k, xs = [.bl k] ∧ Q (.int (if k then 1 else 0)) H
theorem call_intU {X : Cx} : CallR X (.type "int") rIntU := call_int1
theorem c_int {i : Int} (p : P (.int i) ρ) : CaD K rIntU [.int i] ρ P := fun σ F H Q us s r q => by
  obtain ⟨v, _, rfl, rv, rfl⟩ := r
  have e : v = .int i := rv
  subst e
  exact .inl ⟨i, rfl, q _ _ _ F H p (Step.refl s) rfl⟩
def rLenU (K : Frag) : List V → Hp → VK → Prop := fun xs H Q => (∃ p ys, xs = [.ref p] ∧ (SqL K H p ys ∨ SqT K H p ys) ∧ Q (.int ys.length) H) ∨ ((∃ z, xs = [.str z] ∧ z.length ≤ sizeLine ∧ Q (.int z.length) H) ∨ ∃ a kvs, xs = [V.ref a] ∧ H a = some (.dK kvs) ∧ Q (.int kvs.length) H)
theorem call_lenU {X : Cx} : CallR X (.builtin "len") (rLenU X.K) := call_len_seq.or (call_len_str.or call_lenD)
theorem c_lenS {z : Str} (hz : z.length ≤ 1000000) (p : P (.int z.length) ρ) : CaD K (rLenU K) [.str z] ρ P := fun σ F H Q us s r q => by
  obtain ⟨v, _, rfl, rv, rfl⟩ := r
  have e : v = .str z := rv
  subst e
  exact .inr (.inl ⟨z, rfl, Nat.le_trans hz (by decide), q _ _ _ F H p (Step.refl s) rfl⟩)
theorem c_lenL {ds : List Dt} (p : P (.int ds.length) ρ) : CaD K (rLenU K) [.lst ds] ρ P := fun σ F H Q us s r q => by
  obtain ⟨v, _, rfl, rv, rfl⟩ := r
  have e : Rep K F (.lst ds) v := rv
  unfold Rep at e
  obtain ⟨a, xs, rfl, h1, h2⟩ := e
  refine .inl ⟨a, xs, rfl, .inl (ex_l s.ex h1), ?_⟩
  rw [h2.length]
  exact q _ _ _ F H p (Step.refl s) rfl
theorem c_lenT {ds : List Dt} (p : P (.int ds.length) ρ) : CaD K (rLenU K) [.tup ds] ρ P := fun σ F H Q us s r q => by
  obtain ⟨v, _, rfl, rv, rfl⟩ := r
  have e : Rep K F (.tup ds) v := rv
  unfold Rep at e
  obtain ⟨a, xs, rfl, h1, h2⟩ := e
  refine .inl ⟨a, xs, rfl, .inr (ex_t s.ex h1), ?_⟩
  rw [h2.length]
  exact q _ _ _ F H p (Step.refl s) rfl
theorem c_lenO {k : Nat} {l : Bool} {ds : List Dt} (hk : ρ[k]? = some (.ow l (.lst ds))) (p : P (.int ds.length) ρ) : CaD K (rLenU K) [.own k] ρ P := fun σ F H Q us s r q => by
  obtain ⟨v, _, rfl, rv, rfl⟩ := r
  obtain ⟨a, e1, e2, xs, e3, e4⟩ := s.ow k l _ hk
  have eu : v = .ref a := by
    have z : σ[k]? = some (some v) := rv
    rw [e1] at z
    exact (Option.some.inj (Option.some.inj z)).symm
  subst eu
  refine .inl ⟨a, xs, rfl, .inl (sq_of e3), ?_⟩
  rw [e4.length]
  exact q _ _ _ F H p (Step.refl s) rfl
/-- the built-in type of data -/
def Dt.tyN : Dt → Option String
  | .non => some "NoneType"
  | .bl _ => some "bool"
  | .int _ => some "int"
  | .str _ => some "str"
  | .lst _ => some "list"
  | .tup _ => some "tuple"
  | .utp => some "tuple"
  | .dic _ _ => some "dict"
  | _ => none
theorem tyX_of {d : Dt} {v : V} {T : String} (h : Rep K F d v) (e : Ex F H) (ht : d.tyN = some T) : TyX K H v (.type T) := by
  cases d with
  | non => unfold Rep at h; subst h; cases ht; exact .base .non
  | bl b => unfold Rep at h; subst h; cases ht; exact .base (.bl b)
  | int b => unfold Rep at h; subst h; cases ht; exact .base (.int b)
  | str b => unfold Rep at h; subst h; cases ht; exact .base (.str b)
  | lst ds =>
    unfold Rep at h
    obtain ⟨a, xs, rfl, h1, _⟩ := h
    cases ht
    rcases h1 with (h1 | ⟨o, h1⟩) | h1
    · exact .base (.lst (e _ _ h1))
    · exact .base (.frz (e _ _ h1))
    · obtain ⟨o, its, n, h2, h3, _⟩ := h1
      exact .kList h2 h3
  | tup ds =>
    unfold Rep at h
    obtain ⟨a, xs, rfl, h1, _⟩ := h
    cases ht
    rcases h1 with (h1 | ⟨o, h1⟩) | h1
    · exact .base (.tup (e _ _ h1))
    · exact .fTuple (e _ _ h1)
    · obtain ⟨o, its, n, h2, h3, _⟩ := h1
      exact .kTuple h2 h3
  | utp =>
    unfold Rep at h
    obtain ⟨a, xs, rfl, h1⟩ := h
    cases ht
    rcases h1 with (h1 | ⟨o, h1⟩) | h1
    · exact .base (.tup (e _ _ h1))
    · exact .fTuple (e _ _ h1)
    · obtain ⟨o, its, n, h2, h3, _⟩ := h1
      exact .kTuple h2 h3
  | dic ks ds =>
    unfold Rep at h
    obtain ⟨a, xs, rfl, h1, _⟩ := h
    cases ht
    rcases h1 with h1 | ⟨o, h1⟩
    · exact .base (.dK (e _ _ h1))
    · exact .fDict (e _ _ h1)
  | _ => cases ht
theorem c_isi {d : Dt} {T n : String} {b : Bool} (ht : d.tyN = some T) (hk : kitB T n = some b) (p : P (.bl b) ρ) : CaD K (rIsi K) [d, .ty n] ρ P := fun σ F H Q us s r q => by
  obtain ⟨v, _, rfl, rv, w, _, rfl, rw', rfl⟩ := r
  have e : w = .ty n := rw'
  subst e
  have hr : d.real = true := by
    cases d with
    | own i => cases ht
    | _ => rfl
  exact ⟨v, .ty n, .type T, .type n, b, rfl, .ty n, tyX_of (rv.real hr) s.ex ht, kit_ty hk, q _ _ _ F H p (Step.refl s) rfl⟩
/-! ### methods of texts -/
/-! ### displays -/
theorem fz_at {p : Addr} {o : HO} (h : H p = none) : Fz F H (upd H p o) p = some o := by rw [fz_new h]; exact upd_same
/-! ### a new object in a slot -/
/-- an expression that makes a new object; it is not frozen -/
def EvN (K : Frag) (W : WX) (te : TE) (ρ : En) (x : PX) (P : Dt → En → Prop) : Prop :=
  ∀ (σ : L2.St) (F H : Hp) (Q : VK), Sym K F H σ ρ → (∀ d ρ' p o F' H', P d ρ' → Step K σ ρ F H σ ρ' F' H' → H' p = none → Own K F' (upd H' p o) p d → Q (.ref p) (upd H' p o)) →
    (∀ c ρ' cls dd F' H', x c ρ' → Step K σ ρ F H σ ρ' F' H' → XOk K F' c cls dd → W cls dd σ H') → te σ H Q
theorem ex_free {p : Addr} (e : Ex F H) (h : H p = none) : F p = none := by
  cases q : F p with
  | none => rfl
  | some o =>
    rw [e p o q] at h
    cases h
theorem OwS.of_take {i : Nat} {d : Dt} {p a : Addr} (h : OwS (σ.set i (some (.ref p))) (ρ.set i (.ow false d)) a) : OwS σ ρ a ∨ a = p := by
  obtain ⟨j, l, e, h1, h2⟩ := h
  by_cases hj : i = j
  · subst hj
    have hs : i < σ.length := by
      have := (List.getElem?_eq_some_iff.mp h2).1
      rw [List.length_set] at this
      exact this
    rw [List.getElem?_set_self hs] at h2
    have z := Option.some.inj (Option.some.inj h2)
    injection z with z
    exact .inr z.symm
  · rw [List.getElem?_set_ne hj] at h1 h2
    exact .inl ⟨j, l, e, h1, h2⟩
theorem OwA.of_take {i : Nat} {d : Dt} {p a : Addr} {H' : Hp} (hH : ∀ a, GhA σ ρ H a → H' a = H a) (h : OwA (σ.set i (some (.ref p))) (ρ.set i (.ow false d)) H' a) : OwA σ ρ H a ∨ a = p := by
  rcases h with h | h
  · rcases h.of_take with z | z
    · exact .inl (.inl z)
    · exact .inr z
  · exact .inl (.inr (h.back (gh_set2 (y := .ow false d) rfl) hH))
theorem gh_more {p : Addr} {o : HO} (s : Sym K F H σ ρ) (hp : H p = none) {a : Addr} (ha : GhA σ ρ H a) : F a = none ∧ upd H p o a = H a := by
  obtain ⟨h1, h2⟩ := ha.out s.gh
  exact ⟨h1, upd_ne fun z => h2 (by rw [z]; exact hp)⟩
theorem Sym.more {p : Addr} {o : HO} (s : Sym K F H σ ρ) (hp : H p = none) : Sym K F (upd H p o) σ ρ := by
  have g : Ex H (upd H p o) := Ex.new hp
  exact ⟨s.ex.trans g, s.len, s.sh, fun i l d h => by
    obtain ⟨q, a, b, c⟩ := s.ow i l d h
    cases e : H q with
    | none => exact absurd e c.there
    | some u => exact ⟨q, a, b, c.mono (Xe.refl F) (by rw [g q u e, e])⟩, s.inj, s.gh.mv (Xe.refl F) (fun _ _ _ h => ⟨h, rfl⟩) (fun a ha => gh_more s hp ha) fun a ha => s.gh.dj a ha⟩
theorem Step.take {i : Nat} {d : Dt} {p : Addr} {o : HO} (s : Sym K F H σ ρ) (hl : lent ρ i = false) (hp : H p = none) (ho : Own K F (upd H p o) p d) : Step K σ ρ F H (σ.set i (some (.ref p))) (ρ.set i (.ow false d)) F (upd H p o) where
  sym := (s.more hp).take (ex_free s.ex hp) (fun j l e h1 h2 => by
    obtain ⟨q, a, b, c⟩ := s.ow j l e h1
    rw [h2] at a
    have z := Option.some.inj (Option.some.inj a)
    injection z with z
    subst z
    exact c.there hp) (fun z => ((z.back (fun _ _ _ h => ⟨h, rfl⟩) fun a ha => (gh_more s hp ha).2).out s.gh).2 hp) ho
  exF := Xe.refl F
  keep := fun a u h _ => .inl (Ex.new hp a u h)
  own := fun a h => by
    rcases h.of_take (fun a ha => (gh_more s hp ha).2) with y | y
    · exact .inl y
    · rw [y]
      exact .inr hp
  new := fun a h => .inl h
  all := fun a h => by
    cases q : H a with
    | none => exact absurd q h
    | some u => rw [Ex.new hp a u q]; exact fun z => nomatch z
  stay := fun j e z => by
    have hj : i ≠ j := fun y => by
      subst y
      exact lent_no hl z
    exact ⟨e, by rw [List.getElem?_set_ne hj]; exact z, by rw [List.getElem?_set_ne hj]⟩
  fxs := fun _ _ h => fx_ne hl h
theorem s_own {te : TE} {i : Nat} {P : Pd} (h : EvN K W te ρ P.ex fun d ρ1 => lent ρ1 i = false ∧ P.nx (ρ1.set i (.ow false d))) : StD K W (tAsg te (gName i)) ρ P := fun σ F H D s l =>
  h σ F H _ s (fun d ρ' p o F' H' pp st hp ho => l.nx _ _ F' _ pp.2 (st.trans (Step.take st.sym pp.1 hp ho))) fun c ρ' cls dd F' H' p st xo => l.ex c ρ' cls dd σ F' H' p st xo
theorem n_lst {ta : TA} (h : ArD K W ta ρ x fun ds ρ1 => allReal ds = true ∧ ds.length ≤ 100000 ∧ P (.lst ds) ρ1) : EvN K W (tLst ta) ρ x P := fun σ F H Q s q w =>
  h σ F H _ s (fun ds ρ1 vs F1 H1 p s1 r => by
    obtain ⟨hr, hl, p⟩ := p
    have rr := r.real hr
    exact ⟨sz_of (by rw [rr.length]; exact hl), fun a ha => q (.lst ds) ρ1 a (.lst vs) F1 H1 p s1 ha ⟨vs, upd_same, rr⟩⟩) w
/-- a new object that is frozen at once -/
theorem rep_own {p : Addr} {o : HO} {d : Dt} (h : Own K F (upd H p o) p d) (hp : H p = none) (e : Ex F H) : Rep K (Fz F H (upd H p o)) d (.ref p) := by
  have f := fz_at (F := F) (o := o) hp
  have m : Xe F (Fz F H (upd H p o)) := fz_ex e (Ex.new hp)
  cases d with
  | lst ds =>
    obtain ⟨xs, h1, h2⟩ := h
    rw [upd_same] at h1
    cases h1
    unfold Rep
    exact ⟨p, xs, rfl, sq_of f, h2.mono m⟩
  | dic ks ds =>
    obtain ⟨xs, h1, h2, h3⟩ := h
    rw [upd_same] at h1
    cases h1
    unfold Rep
    exact ⟨p, xs, rfl, .inl f, h2, h3.mono m⟩
  | ins C fs ds =>
    obtain ⟨dx, xs, h1, h2, h3⟩ := h
    rw [upd_same] at h1
    cases h1
    unfold Rep
    exact ⟨p, dx, xs, rfl, f, h2, h3.mono m⟩
  | dtt ks =>
    have h1 : upd H p o p = some (.dT (dtV ks)) := h
    rw [upd_same] at h1
    cases h1
    unfold Rep
    exact ⟨p, rfl, f⟩
  | _ => exact h.elim
theorem e_new {te : TE} (h : EvN K W te ρ x P) : EvD K W te ρ x P := fun σ F H Q s q w =>
  h σ F H Q s (fun d ρ' p o F' H' pp st hp ho => q d ρ' (.ref p) _ _ pp (st.trans (Step.grow st.sym (Ex.new hp))) (rep_own ho hp st.sym.ex).toV) w
/-! ### a slot's own object is frozen -/
/-! ### stores -/
def SeD (K : Frag) (r : TSet) (o i d : Dt) (ρ : En) (P : En → Prop) : Prop :=
  ∀ (σ : L2.St) (F H : Hp) (Q : Hp → Prop) (u v z : V), Sym K F H σ ρ → RepV K F σ o u → RepV K F σ i v → Rep K F d z → (∀ ρ' F' H', P ρ' → Step K σ ρ F H σ ρ' F' H' → Q H') → r u v z H Q
theorem s_put {te to ti : TE} {r : TSet} {P : Pd} (h : EvD K W te ρ P.ex fun d ρ1 => d.real = true ∧ EvD K W to ρ1 P.ex fun o ρ2 => EvD K W ti ρ2 P.ex fun i ρ3 => SeD K r o i d ρ3 P.nx) : StD K W (tAsg te (gSub to ti r)) ρ P := fun σ F H D s l =>
  h σ F H _ s (fun d ρ1 v F1 H1 p1 s1 r1 => by
    obtain ⟨hr, p1⟩ := p1
    refine p1 σ F1 H1 _ s1.sym (fun o ρ2 u F2 H2 p2 s2 r2 => p2 σ F2 H2 _ s2.sym (fun i ρ3 y F3 H3 p3 s3 r3 => p3 σ F3 H3 _ u y v s3.sym (r2.mono s3.exF) r3 (((r1.real hr).mono s2.exF).mono s3.exF) fun ρ4 F4 H4 p4 s4 => l.nx ρ4 σ F4 H4 p4 (((s1.trans s2).trans s3).trans s4)) ?_) ?_
    · exact fun c ρ' cls dd F' H' px st xo => l.ex c ρ' cls dd σ F' H' px ((s1.trans s2).trans st) xo
    · exact fun c ρ' cls dd F' H' px st xo => l.ex c ρ' cls dd σ F' H' px (s1.trans st) xo) fun c ρ' cls dd F' H' p st xo => l.ex c ρ' cls dd σ F' H' p st xo
theorem RepL.set {ds : List Dt} {xs : List V} {d : Dt} {v : V} (j : Nat) (r : RepL K F ds xs) (h : Rep K F d v) : RepL K F (ds.set j d) (xs.set j v) := by
  induction ds generalizing xs j with
  | nil =>
    unfold RepL at r
    subst r
    exact repL_nil
  | cons c ds ih =>
    unfold RepL at r
    obtain ⟨u, us, rfl, r1, r2⟩ := r
    cases j with
    | zero => exact repL_cons h r2
    | succ j => exact repL_cons r1 (ih j r2)
theorem w_lst {k : Nat} {l : Bool} {ds : List Dt} {i : Int} {j : Nat} {d : Dt} {P : En → Prop} (hk : ρ[k]? = some (.ow l (.lst ds))) (hj : ixN ds.length i = some j) (p : P (ρ.set k (.ow l (.lst (ds.set j d))))) : SeD K rSetL (.own k) (.int i) d ρ P := fun σ F H Q u v z s e f g q => by
  cases f
  obtain ⟨a, e1, e2, xs, e3, e4⟩ := s.ow k l _ hk
  have eu : u = .ref a := by
    have z : σ[k]? = some (some u) := e
    rw [e1] at z
    exact (Option.some.inj (Option.some.inj z)).symm
  subst eu
  refine ⟨a, xs, i, j, rfl, rfl, e3, by rw [e4.length]; exact hj, ?_⟩
  exact q _ F _ p (Step.write s hk e1 ⟨xs.set j z, upd_same, e4.set j g⟩)
theorem e_callN {S : Fsp} {ta : TA} (h : ArD K W ta ρ x fun ds ρ1 => ∃ i, ds = S.arg i ∧ allReal ds = true ∧ S.pre i ∧ (∀ d, S.post i d → P d ρ1) ∧ ∀ c, S.exc i c → x c ρ1) :
    EvN K W (tCallS (NSp K S) (WE W) ta) ρ x P := fun σ F H Q s q w =>
  h σ F H _ s (fun ds ρ1 vs F1 H1 p s1 r => by
    obtain ⟨i, rfl, hr, hp, hk, hx⟩ := p
    exact ⟨F1, i, s1.sym.ex, r.real hr, hp, fun d pd a o H' e ha ho => q d ρ1 a o _ H' (hk d pd) (s1.trans (Step.growG s1.sym e)) ha ho, fun c pc cls dd H' e xo => w c ρ1 cls dd _ H' (hx c pc) (s1.trans (Step.growG s1.sym e)) xo⟩) w
theorem Step.more {p : Addr} {o : HO} (s : Sym K F H σ ρ) (hp : H p = none) : Step K σ ρ F H σ ρ F (upd H p o) :=
  ⟨s.more hp, Xe.refl F, fun a u h _ => .inl (Ex.new hp a u h), fun _ h => .inl (h.imp_right fun z => z.back (fun _ _ _ h => ⟨h, rfl⟩) fun a ha => (gh_more s hp ha).2), fun _ h => .inl h, fun a h => by
    cases q : H a with
    | none => exact absurd q h
    | some u => rw [Ex.new hp a u q]; exact (fun z => nomatch z), fun _ d h => ⟨d, h, rfl⟩, fun _ _ h => ⟨h, rfl⟩⟩
/-- return of a new object -/
theorem s_retNew {te : TE} {P : Pd} (h : EvN K W te ρ P.ex fun d ρ1 => P.rn d ρ1) : StD K W (tRet te) ρ P := fun σ F H D s l =>
  h σ F H _ s (fun d ρ' p o F' H' pp st hp ho => l.rn d ρ' p σ F' _ pp (st.trans (Step.more st.sym hp)) (ex_free st.sym.ex hp) ho (.inr (by
    cases q : H p with
    | none => rfl
    | some u => exact absurd hp (st.all p (by rw [q]; exact fun z => nomatch z))))) fun c ρ' cls dd F' H' p st xo => l.ex c ρ' cls dd σ F' H' p st xo
/-! ### loops -/
/-! ### forgetting -/
def Sl.ln : Sl → Bool
  | .ow true _ => true
  | .fx _ => true
  | _ => false
inductive Fg : En → En → Prop where
  | nil : Fg [] []
  | keep {a : Sl} {r s : En} (h : Fg r s) : Fg (a :: r) (a :: s)
  | drop {a : Sl} {r s : En} (h : Fg r s) (ha : a.ln = false := by rfl) : Fg (a :: r) (.no :: s)
theorem Fg.refl : ∀ ρ : En, Fg ρ ρ
  | [] => .nil
  | _ :: r => .keep (Fg.refl r)
theorem Fg.get {r s : En} (h : Fg r s) : ∀ i : Nat, s[i]? = r[i]? ∨ (s[i]? = some .no ∧ ∃ a, r[i]? = some a ∧ a.ln = false) := by
  induction h with
  | nil => exact fun i => .inl rfl
  | keep _ ih =>
    intro i
    cases i with
    | zero => exact .inl rfl
    | succ i => simpa using ih i
  | @drop a r s _ ha ih =>
    intro i
    cases i with
    | zero => exact .inr ⟨rfl, a, rfl, ha⟩
    | succ i => simpa using ih i
theorem Fg.len {r s : En} (h : Fg r s) : s.length = r.length := by
  induction h with
  | nil => rfl
  | keep _ ih => rw [List.length_cons, List.length_cons, ih]
  | drop _ _ ih => rw [List.length_cons, List.length_cons, ih]
theorem Fg.gh {ρ' : En} (g : Fg ρ ρ') (σ : L2.St) : ∀ (i : Nat) (d : Sl), spc d = true → ρ'[i]? = some d → ρ[i]? = some d ∧ σ[i]? = σ[i]? := fun i d hd h => by
  rcases g.get i with e | ⟨e, _⟩
  · exact ⟨e ▸ h, rfl⟩
  · rw [e] at h
    cases h
    cases hd
theorem Fg.ows {ρ' : En} (g : Fg ρ ρ') {a : Addr} (h : OwS σ ρ' a) : OwS σ ρ a := by
  obtain ⟨i, l, d, h1, h2⟩ := h
  rcases g.get i with z | ⟨z, _⟩
  · exact ⟨i, l, d, z ▸ h1, h2⟩
  · rw [z] at h1
    cases h1
theorem Step.forget {ρ' : En} (s : Sym K F H σ ρ) (g : Fg ρ ρ') : Step K σ ρ F H σ ρ' F H where
  sym := {
    ex := s.ex
    len := by rw [g.len]; exact s.len
    sh := fun i d h => by
      rcases g.get i with e | ⟨e, _⟩
      · exact s.sh i d (e ▸ h)
      · rw [e] at h
        cases h
    ow := fun i l d h => by
      rcases g.get i with e | ⟨e, _⟩
      · exact s.ow i l d (e ▸ h)
      · rw [e] at h
        cases h
    inj := fun i j l m d e p h1 h2 => by
      rcases g.get i with z | ⟨z, _⟩
      · rcases g.get j with y | ⟨y, _⟩
        · exact s.inj i j l m d e p (z ▸ h1) (y ▸ h2)
        · rw [y] at h2
          cases h2
      · rw [z] at h1
        cases h1
    gh := s.gh.mv (Xe.refl F) (g.gh σ) (fun a ha => ⟨(ha.out s.gh).1, rfl⟩) fun a ha z => s.gh.dj a ha (g.ows z) }
  exF := Xe.refl F
  keep := fun _ _ h _ => .inl h
  own := fun a h => .inl (h.imp (fun z => g.ows z) fun z => z.back (g.gh σ) fun _ _ => rfl)
  new := fun _ h => .inl h
  all := fun _ h => h
  stay := fun i d h => by
    rcases g.get i with z | ⟨z, a, e, hl⟩
    · exact ⟨d, z ▸ h, rfl⟩
    · rw [h] at e
      cases e
      cases hl
  fxs := fun i d h => by
    rcases g.get i with z | ⟨z, a, e, hl⟩
    · exact ⟨z ▸ h, rfl⟩
    · rw [h] at e
      cases e
      cases hl
/-- a loop's body: what its ends are -/
def upFg (I : En → Prop) : En → Prop := fun ρ => ∃ ρ', Fg ρ ρ' ∧ I ρ'
def Pd.loop (P : Pd) (I : En → Prop) (B : En → Prop) : Pd := { nx := upFg I, rt := P.rt, rn := P.rn, bk := B, ct := upFg I, ex := P.ex }
structure LoopZ (Z Z' : Pd) (I : En → Prop) (B : En → Prop) : Prop where
  nx : ∀ ρ ρ', Fg ρ ρ' → I ρ' → Z'.nx ρ
  ct : ∀ ρ ρ', Fg ρ ρ' → I ρ' → Z'.ct ρ
  bk : ∀ ρ, B ρ → Z'.bk ρ
  rt : ∀ d ρ, Z.rt d ρ → Z'.rt d ρ
  rn : ∀ d ρ, Z.rn d ρ → Z'.rn d ρ
  ex : ∀ c ρ, Z.ex c ρ → Z'.ex c ρ
/-! ### a statement and the rest -/
variable {Z : Pd} {te : TE} {u : TS}
end
end DL
set_option Elab.async false
set_option linter.all false
set_option maxRecDepth 100000
set_option autoImplicit false
set_option maxHeartbeats 4000000
namespace DL
open PySem L2 Evl PyProof.Rows
theorem kb_int_bool : kitB "int" "bool" = some false := by decide +kernel
theorem kb_int_int : kitB "int" "int" = some true := by decide +kernel
theorem kb_str_str : kitB "str" "str" = some true := by decide +kernel
theorem kb_tuple_tuple : kitB "tuple" "tuple" = some true := by decide +kernel
/-- a def of the module that keeps a promise -/
def FnG (P : Program) (w : World) (K : Frag) (mg : Str → Option Value) (base : Heap) (k : Nat) (x : Str) (ps : List Str) (sp : Sp) : Prop :=
  ∃ (f : Addr) (fd : FuncData), mg x = some (.ref f) ∧ PySem.W.keepIn K (.ref f) = true ∧ FnOk P w K mg base (L2.CX P w) k f fd ps sp ∧ Binds K fd ps []
/-- the law's end -/
theorem walk_W {l : PySem.W.OpenLaw} {n k : Nat} {q : Program} {loose : List Str} {XP : (Str → Option Value) → Heap → Prop} {YP : World → Heap → Prop} {d : DefRec} {x : Str}
    (hn : l.most = some n) (hn2 : n ≤ sizeLine) (hdf : d.params.defaults = []) (hr : Room k callerA)
    (F : ∀ (w : World) (mg : Str → Option Value) (fa : Addr) (h : Heap), YP w h → h.Ns mainGlobals mg → mg d.name = some (.ref fa) →
      ∃ (K : PySem.W.Frag) (fd : FuncData) (sp : Sp), K.In h ∧ (∀ (s : Shared) (u : Value), BindsTo s fd ⟨[u], []⟩ [(x, u)]) ∧
        (∀ (H : Hp) (a : Addr) (ns : List Int), ns.length ≤ n → Only H → SqL K H a (ns.map V.int) → sp [.ref a] H (fun v _ => v = .bl true) fun _ _ _ => False) ∧
        ∀ base : Heap, K.In base → base.Ns mainGlobals mg → FnOk l.prog w K mg base (L2.CX l.prog w) k fa fd [x] sp) :
    PySem.W.WalkO q loose XP YP l.row.toRowW d [] (fun f vs => PySem.call f vs) := by
  refine Att.attach_call hn hdf fun w s₀ s₁ mg mb fa o pm cd doc a vs ns G Y ho hd hcd hmg hobj hints hlen hg => ?_
  obtain ⟨K, fd, sp, KX, hb, hsp, hF⟩ := F w mg fa _ Y G.T.g hmg
  refine law_call KX G.T.g G.T.b G.T.builtins G.T.nolimit hg hobj hints (Nat.le_trans hlen hn2) hr hF hb (fun H hO hS => hsp H a ns hlen hO hS) fun H e s' h => ?_
  obtain ⟨_, _, _, _, _, _, _, _, _, _, _, _, z⟩ := h
  exact z.elim
section
variable {X : Cx} {k : Nat} {x : Str} {ps : List Str} {sp : Sp} {p pos : Pos} {e : Expr} {es : List Expr} {t : TA} {W : WX}
theorem pe_fn (G : FnG X.prog X.w X.K X.mg X.base k x ps sp) (hr : Room k X.A) (tk : Takes X W) (hg : Gl X x) (ha : PA X (e :: es) t) (hdb : (x == ("__debug__" : Str)) = false := by decide)
    (he : starEach (e :: es) X.env = (false, eval e X.env) :: starEach es X.env := by rfl) (hpl : (backTo pos (starEach es X.env)).any (·.1) = false := by rfl) : PE X (.Call (.Name x p) (e :: es) [] pos) (tCallS sp (WE W) t) := by
  obtain ⟨f, fd, h1, h2, h3, h4⟩ := G
  exact pe_callS h3 hr hg h1 h2 h4 (fun σ => passAt tk σ) ha hdb he hpl
theorem pt_tru {a : Expr} {ta : TE} (ha : PE X a ta) (he : ∀ whole, isTrue a X.env whole = (do let v ← whole; standAt a.pos; holding [v] (truthy v)) := by intro _; rfl) : PT X a (tTru X.K ta) := pt_truth ha he
end
section
variable {K : Frag} {W : WX} {ρ : En} {x : PX}
/-- truth -/
def truD (ρ : En) : Dt → Option Bool
  | .non => some false
  | .bl b => some b
  | .int i => some (i != 0)
  | .lst ds => some !ds.isEmpty
  | .tup ds => some !ds.isEmpty
  | .own k => match ρ[k]? with
    | some (.ow _ (.lst ds)) => some !ds.isEmpty
    | _ => none
  | _ => none
theorem isEmpty_rep {F : Hp} {ds : List Dt} {xs : List V} (r : RepL K F ds xs) : (!xs.isEmpty) = !ds.isEmpty := by
  have h := r.length
  cases ds <;> cases xs <;> first | rfl | cases h
theorem t_tru {te : TE} {P : Bool → En → Prop} (h : EvD K W te ρ x fun d ρ1 => ∃ b, truD ρ1 d = some b ∧ P b ρ1) : TtD K W (tTru K te) ρ x P := fun σ F H Q s q w =>
  h σ F H _ s (fun d ρ1 v F1 H1 p1 s1 r1 => by
    obtain ⟨b, hb, p⟩ := p1
    refine ⟨b, ?_, q b ρ1 F1 H1 p s1⟩
    cases d with
    | non => cases r1; cases hb; rfl
    | bl z => cases r1; cases hb; rfl
    | int z => cases r1; cases hb; rfl
    | lst ds =>
      have e : Rep K F1 (.lst ds) v := r1
      unfold Rep at e
      obtain ⟨a, xs, rfl, h1, h2⟩ := e
      cases hb
      exact .inl ⟨xs, ex_l s1.sym.ex h1, (isEmpty_rep h2).symm⟩
    | tup ds =>
      have e : Rep K F1 (.tup ds) v := r1
      unfold Rep at e
      obtain ⟨a, xs, rfl, h1, h2⟩ := e
      cases hb
      exact .inr (.inl ⟨xs, ex_t s1.sym.ex h1, (isEmpty_rep h2).symm⟩)
    | own k =>
      have hb : (match ρ1[k]? with
        | some (.ow _ (.lst ds)) => some !ds.isEmpty
        | _ => none) = some b := hb
      cases e : ρ1[k]? with
      | none => rw [e] at hb; cases hb
      | some z =>
        rw [e] at hb
        cases z with
        | ow l d =>
          cases d with
          | lst ds =>
            cases hb
            obtain ⟨a, e1, e2, xs, e3, e4⟩ := s1.sym.ow k l _ e
            have eu : v = .ref a := by
              have z : σ[k]? = some (some v) := r1
              rw [e1] at z
              exact (Option.some.inj (Option.some.inj z)).symm
            subst eu
            exact .inl ⟨xs, sq_of e3, (isEmpty_rep e4).symm⟩
          | _ => cases hb
        | _ => cases hb
    | _ => cases hb) w
end
end DL
set_option Elab.async false
set_option linter.all false
set_option maxRecDepth 100000
set_option autoImplicit false
set_option maxHeartbeats 4000000
/-! texts as lists of signs -/
namespace DL
open PySem L2 PyProof.Rows
open TL (tl)
theorem repL_ints {K : Frag} {F : Hp} : ∀ ns : List Int, RepL K F (ns.map Dt.int) (ns.map V.int)
  | [] => repL_nil
  | n :: ns => repL_cons (by unfold Rep; rfl) (repL_ints ns)
theorem tl_len (x : Str) : (tl x).length = x.length := (TL.len_tl x).symm
end DL
set_option Elab.async false
set_option linter.all false
set_option maxRecDepth 100000
set_option autoImplicit false
set_option maxHeartbeats 4000000
/-! exceptions of the program's own classes -/
namespace DL
open PySem L2 Evl PyProof.Rows
/-! ### what the head tells of a class -/
def eqO2 (a b : Option (Option Value)) : Bool := decide (a = b)
def oexB (K : Frag) (C : Addr) : Bool := match K.lookup C with
  | some ⟨.type c, _, .cls cd, sl⟩ => (match cd.mro, sl.toList with
    | .ref C' :: bm, [_, _, _, _, some (.builtin n), _] => decide (c = "type") && (decide (C' = C) && (decide (n = "ValueError.__new__") && (!cd.hasDel && (cd.hasDict && PySem.HandSPX.refsVE bm))))
    | _, _ => false)
  | _ => false
theorem oexB_ok {K : Frag} {C : Addr} (q : oexB K C = true) : ∃ nm q N bs bm sn sub ab col dd k0 k1 k2 k3 k5, K.lookup C = some (excClassObj nm q C N bs bm true sn sub ab col dd k0 k1 k2 k3 k5 "ValueError.__new__") ∧ PySem.HandSPX.refsVE bm = true := by
  unfold oexB at q
  split at q
  · rename_i c dd cd sl ho
    split at q
    · rename_i C' bm k0 k1 k2 k3 n k5 hm hs
      simp only [Bool.and_eq_true, decide_eq_true_eq, Bool.not_eq_true'] at q
      obtain ⟨rfl, rfl, rfl, hdel, hdct, hv⟩ := q
      obtain ⟨nm, bs, mro, ns, qn, hd, sn, sub, ab, col, del⟩ := cd
      dsimp only at hm hdel hdct
      subst hm hdel hdct
      have hsl : sl = #[k0, k1, k2, k3, some (.builtin "ValueError.__new__"), k5] := by
        obtain ⟨l⟩ := sl
        simp only at hs
        rw [hs]
      subst hsl
      exact ⟨nm, qn, ns, bs, bm, sn, sub, ab, col, dd, k0, k1, k2, k3, k5, ho, hv⟩
    · cases q
  · cases q
structure XcC (K : Frag) (C : Addr) : Prop where
  oex : OexC K C
  xf : XfC K C
  cl : (PySem.W.clsIn K C).isSome = true
  ha : PySem.W.findIn K (.ref C) "__class__" = some (some (.builtin "object.__class__"))
  hn : PySem.W.specialIn K (.builtin "object.__class__") "__get__" = some (some (.builtin "getset_descriptor.__get__"))
  ht : PySem.W.takesIn K (.builtin "object.__class__") = some true
  hm : PySem.W.mroIn K C (.type "object") = some true
def xcB (K : Frag) (C : Addr) : Bool := oexB K C && (eqO2 (PySem.W.findIn K (.ref C) "__setattr__") (some (some (.builtin "object.__setattr__"))) && (decide (PySem.W.typeIn K (.ref C) = some (.type "type")) && (PySem.W.keepIn K (.ref C) && (xfB K C &&
  ((PySem.W.clsIn K C).isSome && (eqO2 (PySem.W.findIn K (.ref C) "__class__") (some (some (.builtin "object.__class__"))) && (eqO2 (PySem.W.specialIn K (.builtin "object.__class__") "__get__") (some (some (.builtin "getset_descriptor.__get__"))) &&
    (decide (PySem.W.takesIn K (.builtin "object.__class__") = some true) && decide (PySem.W.mroIn K C (.type "object") = some true)))))))))
theorem band {a b : Bool} (h : (a && b) = true) : a = true ∧ b = true := Bool.and_eq_true_iff.mp h
theorem xcB_ok {K : Frag} {C : Addr} (h : xcB K C = true) : XcC K C := by
  obtain ⟨h1, h⟩ := band h
  obtain ⟨h2, h⟩ := band h
  obtain ⟨h3, h⟩ := band h
  obtain ⟨h4, h⟩ := band h
  obtain ⟨h5, h⟩ := band h
  obtain ⟨h6, h⟩ := band h
  obtain ⟨h7, h⟩ := band h
  obtain ⟨h8, h⟩ := band h
  obtain ⟨h9, h10⟩ := band h
  have x := xfB_ok h5
  exact ⟨⟨oexB_ok h1, of_decide_eq_true h2, x.exC, of_decide_eq_true h3, h4⟩, x, h6, of_decide_eq_true h7, of_decide_eq_true h8, of_decide_eq_true h9, of_decide_eq_true h10⟩
/-! ### __init__ with one field -/
def spX1 (C : Addr) (f : Str) : Sp := fun vs H Q _ => ∃ a v, vs = [.ref a, v] ∧ H a = some (exo a C none) ∧ ∀ dx, H dx = none → dx ≠ a → Q .non (upd (upd H dx (exd dx [(f, v)])) a (exo a C (some dx)))
def spX2 (C : Addr) (f g : Str) : Sp := fun vs H Q _ => ∃ a v u, vs = [.ref a, v, u] ∧ H a = some (exo a C none) ∧ ∀ dx, H dx = none → dx ≠ a → Q .non (upd (upd (upd H dx (exd dx [(f, v)])) a (exo a C (some dx))) dx (exd dx [(g, u), (f, v)]))
section
variable {P : Program} {w : World} {K : Frag} {mg : Str → Option Value} {base : Heap}
theorem ok_x1 {x qual fld p : Str} {params : Arguments} {body : List Stmt} {scope : Scope} {f C : Addr} {fd : FuncData} {p1 p2 p3 p4 : Pos} (F : FunD K x qual params body scope [] [] f fd) (S : FnScope ["self", p] ["self", p] scope)
    (hb : body = [.Assign [.Attribute (.Name "self" p1) fld p2] (.Name p p3) p4]) (T : XcC K C) (hno : PySem.W.findIn K (.ref C) fld = some none) (v0 : Vis scope "self") (v1 : Vis scope p) (d1 : (p == ("__debug__" : Str)) = false) (d2 : (p == ("__classdict__" : Str)) = false) :
    FnOk P w K mg base (L2.CX P w) 1 f fd ["self", p] (spX1 C fld) := by
  subst hb
  refine F.ok S (fun vs H Q E h => ?_) (fun cdv A outer s H vs Q E hr h => ?_)
  · obtain ⟨a, v, rfl, _⟩ := h
    rfl
  · obtain ⟨a, v, rfl, ha, k⟩ := h
    refine ⟨_, pss_one (ps_ost (pe_var (i := 0) rfl v0) (pe_var (i := 1) rfl v1 d1 d2)), ?_⟩
    exact ⟨v, rfl, _, rfl, a, C, rfl, T.oex, hno, .inl ⟨ha, fun dx h1 h2 => k dx h1 h2⟩⟩
theorem ok_x2 {x qual fl1 fl2 p q : Str} {params : Arguments} {body : List Stmt} {scope : Scope} {f C : Addr} {fd : FuncData} {p1 p2 p3 p4 q1 q2 q3 q4 : Pos} (F : FunD K x qual params body scope [] [] f fd) (S : FnScope ["self", p, q] ["self", p, q] scope)
    (hb : body = [.Assign [.Attribute (.Name "self" p1) fl1 p2] (.Name p p3) p4, .Assign [.Attribute (.Name "self" q1) fl2 q2] (.Name q q3) q4]) (T : XcC K C) (hn1 : PySem.W.findIn K (.ref C) fl1 = some none) (hn2 : PySem.W.findIn K (.ref C) fl2 = some none)
    (v0 : Vis scope "self") (v1 : Vis scope p) (v2 : Vis scope q) (d1 : (p == ("__debug__" : Str)) = false) (d2 : (p == ("__classdict__" : Str)) = false) (d3 : (q == ("__debug__" : Str)) = false) (d4 : (q == ("__classdict__" : Str)) = false) :
    FnOk P w K mg base (L2.CX P w) 1 f fd ["self", p, q] (spX2 C fl1 fl2) := by
  subst hb
  refine F.ok S (fun vs H Q E h => ?_) (fun cdv A outer s H vs Q E hr h => ?_)
  · obtain ⟨a, v, u, rfl, _⟩ := h
    rfl
  · obtain ⟨a, v, u, rfl, ha, k⟩ := h
    refine ⟨_, pss_cons (ps_ost (pe_var (i := 0) rfl v0) (pe_var (i := 1) rfl v1 d1 d2)) (pss_one (ps_ost (pe_var (i := 0) rfl v0) (pe_var (i := 2) rfl v2 d3 d4))), ?_⟩
    refine ⟨v, rfl, _, rfl, a, C, rfl, T.oex, hn1, .inl ⟨ha, fun dx h1 h2 => ?_⟩⟩
    exact ⟨u, rfl, _, rfl, a, C, rfl, T.oex, hn2, .inr ⟨dx, _, upd_same, by rw [upd_ne h2, upd_same], by show 1 ≤ 900; decide, k dx h1 h2⟩⟩
end
/-! ### raise -/
section
variable {X : Cx} {W : WX} {x : Str} {C fI : Addr} {e : Expr} {es : List Expr} {ta : TA} {p pos pos' : Pos} {k : Nat} {fd : FuncData} {ps : List Str} {sp : Sp}
/-- what is known of a class with __init__ -/
def XG (P : Program) (w : World) (K : Frag) (mg : Str → Option Value) (base : Heap) (x : Str) (C : Addr) (ps : List Str) (sp : Sp) : Prop :=
  mg x = some (.ref C) ∧ XcC K C ∧ ∃ (fI : Addr) (fd : FuncData), PySem.W.findIn K (.ref C) "__init__" = some (some (.ref fI)) ∧ PySem.W.typeIn K (.ref fI) = some (.type "function") ∧ FnOk P w K mg base (L2.CX P w) 1 fI fd ps sp ∧ Binds K fd ps []
/-- raise C() of a class without __init__ -/
def XN (K : Frag) (mg : Str → Option Value) (x : Str) (C : Addr) : Prop := mg x = some (.ref C) ∧ XcC K C ∧ PySem.W.excIn K C He.veBase "ValueError.__new__" = true
/-! ### try .. except X as n -/
/-! ### isinstance(e, T) in a suite -/
end
/-! ### by data -/
section
variable {K : Frag} {W : WX} {σ σ1 : L2.St} {ρ ρ1 : En} {F F1 H H1 : Hp} {x : PX} {Z : Pd} {C : Addr} {f : Str}
variable {u : TS}
/-! the slot of the exception's name is emptied -/
theorem get_set_no {i j : Nat} {z : Sl} (h : (ρ.set i .no)[j]? = some z) (hz : z ≠ .no) : i ≠ j ∧ ρ[j]? = some z := by
  by_cases e : i = j
  · subst e
    have hi : i < ρ.length := by
      have := (List.getElem?_eq_some_iff.mp h).1
      rw [List.length_set] at this
      exact this
    rw [List.getElem?_set_self hi] at h
    exact absurd (Option.some.inj h).symm hz
  · rw [List.getElem?_set_ne e] at h
    exact ⟨e, h⟩
theorem Step.unset {i : Nat} (s : Sym K F H σ ρ) (hl : lent ρ i = false) : Step K σ ρ F H (σ.set i none) (ρ.set i .no) F H where
  sym := {
    ex := s.ex
    len := by rw [List.length_set, List.length_set]; exact s.len
    sh := fun j d h => by
      obtain ⟨e, h⟩ := get_set_no h (by intro z; cases z)
      obtain ⟨v, a, b⟩ := s.sh j d h
      exact ⟨v, by rw [List.getElem?_set_ne e]; exact a, b⟩
    ow := fun j l d h => by
      obtain ⟨e, h⟩ := get_set_no h (by intro z; cases z)
      obtain ⟨p, a, b⟩ := s.ow j l d h
      exact ⟨p, by rw [List.getElem?_set_ne e]; exact a, b⟩
    inj := fun j k l m d e p h1 h2 h3 h4 => by
      obtain ⟨e1, h1⟩ := get_set_no h1 (by intro z; cases z)
      obtain ⟨e2, h2⟩ := get_set_no h2 (by intro z; cases z)
      rw [List.getElem?_set_ne e1] at h3
      rw [List.getElem?_set_ne e2] at h4
      exact s.inj j k l m d e p h1 h2 h3 h4
    gh := s.gh.mv (Xe.refl F) (gh_set2 (y := .no) rfl) (fun a ha => ⟨(ha.out s.gh).1, rfl⟩) fun a ha ⟨j, l, d, h1, h2⟩ => by
      obtain ⟨e, h1⟩ := get_set_no h1 (by intro z; cases z)
      rw [List.getElem?_set_ne e] at h2
      exact s.gh.dj a ha ⟨j, l, d, h1, h2⟩ }
  exF := Xe.refl F
  keep := fun _ _ h _ => .inl h
  own := fun a h => by
    rcases h with h | h
    case inr => exact .inl (.inr (h.back (gh_set2 (y := .no) rfl) fun _ _ => rfl))
    obtain ⟨j, l, d, h1, h2⟩ := h
    obtain ⟨e, h1⟩ := get_set_no h1 (by intro z; cases z)
    rw [List.getElem?_set_ne e] at h2
    exact .inl (.inl ⟨j, l, d, h1, h2⟩)
  new := fun _ h => .inl h
  all := fun _ h => h
  stay := fun j d h => by
    have e : i ≠ j := fun z => by
      subst z
      exact lent_no hl h
    exact ⟨d, by rw [List.getElem?_set_ne e]; exact h, by rw [List.getElem?_set_ne e]⟩
  fxs := fun _ _ h => fx_ne hl h
def w0 : WX := fun _ _ _ _ => False
/-- behind a try's suite -/
def Pd.suite (Z : Pd) (i : Nat) : Pd := { nx := fun ρ => lent ρ i = false ∧ Z.nx (ρ.set i .no), rt := Z.rt, rn := Z.rn, bk := fun ρ => lent ρ i = false ∧ Z.bk (ρ.set i .no), ct := fun ρ => lent ρ i = false ∧ Z.ct (ρ.set i .no), ex := px0 }
end
end DL
set_option Elab.async false
set_option linter.all false
set_option maxRecDepth 100000
set_option autoImplicit false
set_option maxHeartbeats 4000000
/-! order, loops, defaults, the head with more facts -/
namespace DL
open PySem L2 Evl PyProof.Rows
/-! ### the head -/
def SaysE (fa : List He.Fa) (fn : List He.DefD) (ex : List (Frag → Bool)) (K : Frag) : Prop := He.SaysD fa fn K ∧ (ex.all fun e => e K) = true
theorem SaysE.ex {fa : List He.Fa} {fn : List He.DefD} {ex : List (Frag → Bool)} {K : Frag} (c : SaysE fa fn ex K) (i : Nat) {f : Frag → Bool} (h : ex[i]? = some f := by rfl) : f K = true :=
  List.all_eq_true.mp c.2 f (List.mem_of_getElem? h)
/-! ### data as the model's data -/
mutual
def Dt.pd : Dt → Option PyData
  | .non => some .none
  | .bl b => some (.bool b)
  | .int i => some (.int i)
  | .str x => some (.str x)
  | .lst ds => (pdL ds).map .list
  | .tup ds => (pdL ds).map .tuple
  | _ => none
def pdL : List Dt → Option (List PyData)
  | [] => some []
  | d :: ds => match d.pd, pdL ds with
    | some p, some ps => some (p :: ps)
    | _, _ => none
end
theorem pdL_cons {d : Dt} {ds : List Dt} {ps : List PyData} (h : pdL (d :: ds) = some ps) : ∃ p qs, ps = p :: qs ∧ d.pd = some p ∧ pdL ds = some qs := by
  unfold pdL at h
  cases e : d.pd with
  | none => rw [e] at h; cases h
  | some p =>
    cases e2 : pdL ds with
    | none => rw [e, e2] at h; cases h
    | some qs =>
      rw [e, e2] at h
      cases h
      exact ⟨p, qs, rfl, rfl, rfl⟩
mutual
theorem Rep.dp {K : Frag} {F : Hp} : ∀ {d : Dt} {v : V} {p : PyData}, Rep K F d v → d.pd = some p → Dp K F v p
  | .non, v, p, h, e => by
    unfold Rep at h
    unfold Dt.pd at e
    cases h
    cases e
    exact .non
  | .bl b, v, p, h, e => by
    unfold Rep at h
    unfold Dt.pd at e
    cases h
    cases e
    exact .bl b
  | .int b, v, p, h, e => by
    unfold Rep at h
    unfold Dt.pd at e
    cases h
    cases e
    exact .int b
  | .str b, v, p, h, e => by
    unfold Rep at h
    unfold Dt.pd at e
    cases h
    cases e
    exact .str b
  | .lst ds, v, p, h, e => by
    unfold Rep at h
    unfold Dt.pd at e
    obtain ⟨a, xs, rfl, h1, h2⟩ := h
    cases e2 : pdL ds with
    | none => rw [e2] at e; cases e
    | some ps =>
      rw [e2] at e
      cases e
      exact .lst h1 (RepL.dp h2 e2)
  | .tup ds, v, p, h, e => by
    unfold Rep at h
    unfold Dt.pd at e
    obtain ⟨a, xs, rfl, h1, h2⟩ := h
    cases e2 : pdL ds with
    | none => rw [e2] at e; cases e
    | some ps =>
      rw [e2] at e
      cases e
      exact .tup h1 (RepL.dp h2 e2)
  | .ty _, _, _, _, e => by unfold Dt.pd at e; cases e
  | .ref _, _, _, _, e => by unfold Dt.pd at e; cases e
  | .dic _ _, _, _, _, e => by unfold Dt.pd at e; cases e
  | .ins _ _ _, _, _, _, e => by unfold Dt.pd at e; cases e
  | .exn _ _ _ _ _, _, _, _, e => by unfold Dt.pd at e; cases e
  | .own _, _, _, _, e => by unfold Dt.pd at e; cases e
  | .dtt _, _, _, _, e => by unfold Dt.pd at e; cases e
  | .ttp _, _, _, _, e => by unfold Dt.pd at e; cases e
  | .lpl _, _, _, _, e => by unfold Dt.pd at e; cases e
  | .utp, _, _, _, e => by unfold Dt.pd at e; cases e
  | .any, _, _, _, e => by unfold Dt.pd at e; cases e
  | .exv _ _ _, _, _, _, e => by unfold Dt.pd at e; cases e
theorem RepL.dp {K : Frag} {F : Hp} : ∀ {ds : List Dt} {vs : List V} {ps : List PyData}, RepL K F ds vs → pdL ds = some ps → DpAll K F vs ps
  | [], vs, ps, h, e => by
    unfold RepL at h
    unfold pdL at e
    cases h
    cases e
    exact .nil
  | d :: ds, vs, ps, h, e => by
    unfold RepL at h
    obtain ⟨v, r, rfl, h1, h2⟩ := h
    obtain ⟨p, qs, rfl, e1, e2⟩ := pdL_cons e
    exact .cons (Rep.dp h1 e1) (RepL.dp h2 e2)
end
mutual
theorem Dt.pd_plain : ∀ {d : Dt} {p : PyData}, d.pd = some p → p.plain = true
  | .non, p, e => by unfold Dt.pd at e; cases e; rfl
  | .bl b, p, e => by unfold Dt.pd at e; cases e; rfl
  | .int b, p, e => by unfold Dt.pd at e; cases e; rfl
  | .str b, p, e => by unfold Dt.pd at e; cases e; rfl
  | .lst ds, p, e => by
    unfold Dt.pd at e
    cases e2 : pdL ds with
    | none => rw [e2] at e; cases e
    | some ps =>
      rw [e2] at e
      cases e
      show PyData.plain (.list ps) = true
      unfold PyData.plain
      exact pdL_plain e2
  | .tup ds, p, e => by
    unfold Dt.pd at e
    cases e2 : pdL ds with
    | none => rw [e2] at e; cases e
    | some ps =>
      rw [e2] at e
      cases e
      show PyData.plain (.tuple ps) = true
      unfold PyData.plain
      exact pdL_plain e2
  | .ty _, _, e => by unfold Dt.pd at e; cases e
  | .ref _, _, e => by unfold Dt.pd at e; cases e
  | .dic _ _, _, e => by unfold Dt.pd at e; cases e
  | .ins _ _ _, _, e => by unfold Dt.pd at e; cases e
  | .exn _ _ _ _ _, _, e => by unfold Dt.pd at e; cases e
  | .own _, _, e => by unfold Dt.pd at e; cases e
  | .dtt _, _, e => by unfold Dt.pd at e; cases e
  | .ttp _, _, e => by unfold Dt.pd at e; cases e
  | .lpl _, _, e => by unfold Dt.pd at e; cases e
  | .utp, _, e => by unfold Dt.pd at e; cases e
  | .any, _, e => by unfold Dt.pd at e; cases e
  | .exv _ _ _, _, e => by unfold Dt.pd at e; cases e
theorem pdL_plain : ∀ {ds : List Dt} {ps : List PyData}, pdL ds = some ps → PyData.plainAll ps = true
  | [], ps, e => by unfold pdL at e; cases e; rfl
  | d :: ds, ps, e => by
    obtain ⟨p, qs, rfl, e1, e2⟩ := pdL_cons e
    unfold PyData.plainAll
    rw [Dt.pd_plain e1, pdL_plain e2]
    rfl
end
theorem pd_real {d : Dt} {p : PyData} (h : d.pd = some p) : d.real = true := by
  cases d with
  | own i => unfold Dt.pd at h; cases h
  | _ => rfl
/-! ### order -/
def rCmpU (f : Int → Int → Bool) (g : List Nat → List Nat → Bool) (h : PyData → PyData → Bool) (K : Frag) : R2 := fun x y H Q => (rI0 fun i j => .bl (f i j)) x y H Q ∨ ((∃ i j, x = .str i ∧ y = .str j ∧ Q (.bl (g i.cps.toList j.cps.toList)) H) ∨
  ∃ d e, Dp K H x d ∧ Dp K H y e ∧ PySem.W.alike d e = true ∧ d ≠ .none ∧ d.depth ≤ 64 ∧ Q (.bl (h d e)) H)
abbrev rLtU := rCmpU (fun i j => decide (i < j)) (fun a b => decide (a < b)) (fun d e => PySem.W.dataLt d e)
abbrev rGeU := rCmpU (fun i j => decide (j ≤ i)) (fun a b => !decide (a < b)) (fun d e => !PySem.W.dataLt d e)
section
variable {X : Cx}
theorem op_ltU (hu : X.A.units + 64 < cLine) : OpR X (compareOp .Lt) (rLtU X.K) := op_lt.or (op_lt_str.or (by
  intro pins s σ H x y v u Q I rx ry h
  obtain ⟨d, e, hd, he, ha, hn, hz, q⟩ := h
  obtain ⟨as, r1⟩ := Dp.reads I d x v hd rx
  obtain ⟨bs, r2⟩ := Dp.reads I e y u he ry
  exact PySem.W.lt_data r1 r2 ha hn (by have := Nat.min_le_left d.depth e.depth; omega) ⟨.bl _, H, I, rfl, q⟩))
theorem op_geU (hu : X.A.units + 64 < cLine) : OpR X (compareOp .GtE) (rGeU X.K) := op_ge.or (op_ge_str.or (by
  intro pins s σ H x y v u Q I rx ry h
  obtain ⟨d, e, hd, he, ha, hn, hz, q⟩ := h
  obtain ⟨as, r1⟩ := Dp.reads I d x v hd rx
  obtain ⟨bs, r2⟩ := Dp.reads I e y u he ry
  exact PySem.W.ge_data r1 r2 ha hn (by have := Nat.min_le_left d.depth e.depth; omega) ⟨.bl _, H, I, rfl, q⟩))
/-! x in t -/
theorem bne_ff (b : Bool) : (false != b) = b := by cases b <;> rfl
theorem bne_tt (b : Bool) : (true != b) = !b := by cases b <;> rfl
end
section
variable {K : Frag} {W : WX} {σ σ1 : L2.St} {ρ ρ1 : En} {F F1 H H1 : Hp} {x : PX} {P : Dt → En → Prop}
theorem o_cmpI {f : Int → Int → Bool} {g : List Nat → List Nat → Bool} {h : PyData → PyData → Bool} {i j : Int} (p : P (.bl (f i j)) ρ) : OpD K (rCmpU f g h K) (.int i) (.int j) ρ P := fun σ F H Q u v s e f' q => by
  cases e
  cases f'
  exact .inl ⟨i, j, rfl, rfl, q _ _ _ F H p (Step.refl s) rfl⟩
theorem o_cmpS {f : Int → Int → Bool} {g : List Nat → List Nat → Bool} {h : PyData → PyData → Bool} {i j : Str} (p : P (.bl (g i.cps.toList j.cps.toList)) ρ) : OpD K (rCmpU f g h K) (.str i) (.str j) ρ P := fun σ F H Q u v s e f' q => by
  cases e
  cases f'
  exact .inr (.inl ⟨i, j, rfl, rfl, q _ _ _ F H p (Step.refl s) rfl⟩)
theorem o_cmpD {f : Int → Int → Bool} {g : List Nat → List Nat → Bool} {h : PyData → PyData → Bool} {a b : Dt} {d e : PyData} (ha : a.pd = some d) (hb : b.pd = some e) (hal : PySem.W.alike d e = true) (hn : d ≠ .none) (hz : d.depth ≤ 64) (p : P (.bl (h d e)) ρ) : OpD K (rCmpU f g h K) a b ρ P := fun σ F H Q u v s r1 r2 q =>
  .inr (.inr ⟨d, e, ((r1.real (pd_real ha)).mono s.exx).dp ha, ((r2.real (pd_real hb)).mono s.exx).dp hb, hal, hn, hz, q _ _ _ F H p (Step.refl s) rfl⟩)
/-! ### while, op= -/
/-! ### for over lists, tuples, texts -/
/-! ### more built-ins -/
/-! ### defaults -/
variable {u : TS} {Z : Pd}
end
end DL
set_option Elab.async false
set_option linter.all false
set_option maxRecDepth 100000
set_option autoImplicit false
set_option maxHeartbeats 4000000
namespace DL
open PySem L2 Evl PyProof.Rows
/-! the same in an except suite: K by itself -/
section
variable {X : Cx} {K : Frag}
theorem op_ltK (hK : X.K = K) (hu : X.A.units + 64 < cLine) : OpR X (compareOp .Lt) (rLtU K) := hK ▸ op_ltU hu
theorem op_geK (hK : X.K = K) (hu : X.A.units + 64 < cLine) : OpR X (compareOp .GtE) (rGeU K) := hK ▸ op_geU hu
theorem call_isiK (hK : X.K = K) : CallR X (.builtin "isinstance") (rIsi K) := hK ▸ call_isi
theorem pi_listK {tg l : Expr} {tl : TE} (hK : X.K = K) (hl : PE X l tl) : PI X tg l (iList K tl) := hK ▸ pi_list hl
theorem pi_tupK {tg l : Expr} {tl : TE} (hK : X.K = K) (hl : PE X l tl) : PI X tg l (iTup K tl) := hK ▸ pi_tup hl
theorem call_lenK (hK : X.K = K) : CallR X (.builtin "len") (rLenU K) := hK ▸ call_lenU
theorem ix_seqK (hK : X.K = K) : IxR X (rIxU K) := hK ▸ ix_seqU
theorem pt_truK (hK : X.K = K) {a : Expr} {ta : TE} (ha : PE X a ta) (he : ∀ whole, isTrue a X.env whole = (do let v ← whole; standAt a.pos; holding [v] (truthy v)) := by intro _; rfl) : PT X a (tTru K ta) := hK ▸ pt_tru ha he
end
section
variable {K : Frag} {W : WX} {σ σ1 : L2.St} {ρ ρ1 ρ2 : En} {F F1 F2 H H1 H2 H3 : Hp} {x : PX} {P : Dt → En → Prop}
/-- a new object that no slot owns is changed -/
theorem Step.side {p : Addr} (st : Step K σ ρ F H σ1 ρ2 F2 H2) (hp : H p = none) (hno : ¬ OwA σ1 ρ2 H2 p) (hF : F2 p = none) (h2 : H2 p ≠ none) (h3 : H3 p ≠ none) (b : Bt F2 H2 H3 p) : Step K σ ρ F H σ1 ρ2 (Fz F2 H2 H3) H3 := by
  have s := st.sym
  have np : ∀ a u, F2 a = some u → a ≠ p := fun a u e z => by
    subst z
    rw [hF] at e
    cases e
  have exF : Xe F2 (Fz F2 H2 H3) := fun a u e => by
    rw [fz_have (s.ex a u e) e]
    rcases b a u (s.ex a u e) (np a u e) with z | ⟨_, z⟩
    · exact .inl z
    · exact .inr z
  have gk : ∀ a, GhA σ1 ρ2 H2 a → Fz F2 H2 H3 a = none ∧ H3 a = H2 a := fun a ha => by
    obtain ⟨g1, g2⟩ := ha.out s.gh
    have ne : a ≠ p := fun z => hno (.inr (z ▸ ha))
    cases q : H2 a with
    | none => exact absurd q g2
    | some u =>
      refine ⟨fz_old q g1, ?_⟩
      rcases b a u q ne with z | ⟨z, _⟩
      · exact z
      · exact absurd g1 z
  exact {
    sym := {
      ex := fz_in
      len := s.len
      sh := fun j e h => by
        obtain ⟨v, a, r⟩ := s.sh j e h
        exact ⟨v, a, r.mono exF⟩
      ow := fun j m e h => by
        obtain ⟨q, a, r, c⟩ := s.ow j m e h
        have ne : q ≠ p := fun z => by
          subst z
          exact hno (.inl ⟨j, m, e, h, a⟩)
        cases hq : H2 q with
        | none => exact absurd hq c.there
        | some u =>
          refine ⟨q, a, fz_old hq r, c.mono exF ?_⟩
          rcases b q u hq ne with z | ⟨z, _⟩
          · rw [hq]; exact z
          · exact absurd r z
      inj := s.inj
      gh := s.gh.mv exF (fun _ _ _ h => ⟨h, rfl⟩) gk fun a ha => s.gh.dj a ha }
    exF := st.exF.trans exF
    keep := fun a u h n => by
      have ne : a ≠ p := fun z => by
        subst z
        rw [hp] at h
        cases h
      have f1 : F2 a ≠ none → F a ≠ none := fun z => by
        rcases st.new a z with y | y | y
        · exact y
        · rw [h] at y
          cases y
        · exact absurd y n
      rcases st.keep a u h n with h1 | ⟨hf, v, h1, l⟩
      · rcases b a u h1 ne with h2 | ⟨hg, v, h2, l2⟩
        · exact .inl h2
        · exact .inr ⟨f1 hg, v, h2, l2⟩
      · rcases b a v h1 ne with h2 | ⟨hg, v', h2, l2⟩
        · exact .inr ⟨hf, v, h2, l⟩
        · exact (l.noL l2).elim
    own := fun a h => st.own a (h.imp_right fun z => z.back (fun _ _ _ h => ⟨h, rfl⟩) fun a ha => (gk a ha).2)
    new := fun a h => by
      rcases fz_some h with z | z
      · exact st.new a z
      · refine .inr (.inl ?_)
        cases e : H a with
        | none => rfl
        | some u => exact absurd z (st.all a (by rw [e]; exact fun z => nomatch z))
    all := fun a h => by
      have ne : a ≠ p := fun z => by
        subst z
        exact h hp
      cases q : H2 a with
      | none => exact absurd q (st.all a h)
      | some u =>
        rcases b a u q ne with z | ⟨_, v, z, _⟩
        · rw [z]; exact fun z => nomatch z
        · rw [z]; exact fun z => nomatch z
    stay := st.stay
    fxs := st.fxs }
theorem u_neg {i : Int} (p : P (.int (-i)) ρ) : UnD K (rU fun i => .int (-i)) (.int i) ρ P := fun σ F H Q u s e q => by
  cases e
  exact ⟨i, rfl, q _ _ _ F H p (Step.refl s) rfl⟩
end
end DL
set_option Elab.async false
set_option linter.all false
set_option maxRecDepth 100000
set_option autoImplicit false
set_option maxHeartbeats 4000000
/-! what is walked: for, comprehensions; targets -/
namespace DL
open PySem L2 Evl PyProof.Rows
theorem fz_self {F H : Hp} (e : Ex F H) : Fz F H H = F := by
  funext a
  cases q : H a with
  | none => rw [fz_new q, q, ex_free e q]
  | some o =>
    cases r : F a with
    | none => rw [fz_old q r]
    | some u => rw [fz_have q r, e a u r]
/-- the items of a walk, by data -/
structure WkD (K : Frag) (J : It) (F : Hp) (zs : List Dt) : Prop where
  go : ∀ i F' H, i < zs.length → Xe F F' → Ex F' H → J.go i H
  stop : ∀ F' H, Xe F F' → Ex F' H → J.stop zs.length H
  yld : ∀ i F' H v H' z, zs[i]? = some z → Xe F F' → Ex F' H → J.yld i H v H' → Ex H H' ∧ Rep K (Fz F' H H') z v
def ItD (K : Frag) (W : WX) (wi : TI) (ρ : En) (x : PX) (P : List Dt → En → Prop) : Prop :=
  ∀ (σ : L2.St) (F H : Hp) (R : It → Hp → Prop), Sym K F H σ ρ → (∀ zs ρ' J F' H', P zs ρ' → Step K σ ρ F H σ ρ' F' H' → WkD K J F' zs → R J H') →
    (∀ c ρ' cls dd F' H', x c ρ' → Step K σ ρ F H σ ρ' F' H' → XOk K F' c cls dd → W cls dd σ H') → wi σ H R
section
variable {K : Frag} {W : WX} {σ σ1 : L2.St} {ρ ρ1 : En} {F F1 H H1 : Hp} {x : PX} {P : List Dt → En → Prop}
theorem wk_list {a : Addr} {xs : List V} {zs : List Dt} (h : SqL K F a xs) (r : RepL K F zs xs) : WkD K (Itl K a) F zs where
  go := fun i F' H hi e g => ⟨xs, xs[i]'(by rw [r.length]; exact hi), ex_l g (xe_l e h), by simp [r.length, hi]⟩
  stop := fun F' H e g => ⟨xs, ex_l g (xe_l e h), by rw [r.length]; exact Nat.le_refl _⟩
  yld := fun i F' H v H' z hz e g y => by
    obtain ⟨rfl, y⟩ := y
    have hy := y xs (ex_l g (xe_l e h))
    obtain ⟨u, h1, h2⟩ := r.get hz
    rw [hy] at h1
    cases h1
    exact ⟨Ex.refl _, by rw [fz_self g]; exact h2.mono e⟩
theorem wk_tup {a : Addr} {xs : List V} {zs : List Dt} (h : SqT K F a xs) (r : RepL K F zs xs) : WkD K (Itt K a) F zs where
  go := fun i F' H hi e g => ⟨xs, xs[i]'(by rw [r.length]; exact hi), ex_t g (xe_t e h), by simp [r.length, hi]⟩
  stop := fun F' H e g => ⟨xs, ex_t g (xe_t e h), by rw [r.length]; exact Nat.le_refl _⟩
  yld := fun i F' H v H' z hz e g y => by
    obtain ⟨rfl, y⟩ := y
    have hy := y xs (ex_t g (xe_t e h))
    obtain ⟨u, h1, h2⟩ := r.get hz
    rw [hy] at h1
    cases h1
    exact ⟨Ex.refl _, by rw [fz_self g]; exact h2.mono e⟩
theorem i_list {te : TE} (h : EvD K W te ρ x fun d ρ1 => ∃ zs, d = .lst zs ∧ P zs ρ1) : ItD K W (iList K te) ρ x P := fun σ F H R s q w =>
  h σ F H _ s (fun d ρ1 v F1 H1 p s1 r => by
    obtain ⟨zs, rfl, p⟩ := p
    have e : Rep K F1 (.lst zs) v := r
    unfold Rep at e
    obtain ⟨a, xs, rfl, h1, h2⟩ := e
    exact ⟨a, rfl, ⟨xs, ex_l s1.sym.ex h1⟩, q zs ρ1 _ F1 H1 p s1 (wk_list h1 h2)⟩) w
theorem i_tup {te : TE} (h : EvD K W te ρ x fun d ρ1 => ∃ zs, d = .tup zs ∧ P zs ρ1) : ItD K W (iTup K te) ρ x P := fun σ F H R s q w =>
  h σ F H _ s (fun d ρ1 v F1 H1 p s1 r => by
    obtain ⟨zs, rfl, p⟩ := p
    have e : Rep K F1 (.tup zs) v := r
    unfold Rep at e
    obtain ⟨a, xs, rfl, h1, h2⟩ := e
    exact ⟨a, rfl, ⟨xs, ex_t s1.sym.ex h1⟩, q zs ρ1 _ F1 H1 p s1 (wk_tup h1 h2)⟩) w
def rngD (lo : Int) (n : Nat) : List Dt := (List.range n).map fun i => .int (lo + (i : Nat))
theorem rngD_len (lo : Int) (n : Nat) : (rngD lo n).length = n := by unfold rngD; simp
theorem rngD_get {lo : Int} {n i : Nat} (h : i < n) : (rngD lo n)[i]? = some (.int (lo + (i : Nat))) := by unfold rngD; simp [h]
theorem wk_rng {lo : Int} {n : Nat} : WkD K (Itr lo n) F (rngD lo n) where
  go := fun i F' H hi _ _ => by rw [rngD_len] at hi; exact hi
  stop := fun F' H _ _ => by rw [rngD_len]; exact Nat.le_refl _
  yld := fun i F' H v H' z hz e g y => by
    obtain ⟨rfl, y⟩ := y
    have hi : i < n := by
      have := (List.getElem?_eq_some_iff.mp hz).1
      rw [rngD_len] at this
      exact this
    rw [rngD_get hi] at hz
    cases hz
    subst y
    exact ⟨Ex.refl _, by unfold Rep; rfl⟩
theorem i_rng1 {ta : TA} (h : ArD K W ta ρ x fun ds ρ1 => ∃ n : Int, ds = [.int n] ∧ -100000 ≤ n ∧ n ≤ 100000 ∧ P (rngD 0 n.toNat) ρ1) : ItD K W (iRng1 ta) ρ x P := fun σ F H R s q w =>
  h σ F H _ s (fun ds ρ1 vs F1 H1 p s1 r => by
    obtain ⟨n, rfl, h1, h2, p⟩ := p
    obtain ⟨v, _, rfl, rv, rfl⟩ := r
    have e : v = .int n := rv
    subst e
    exact ⟨n, rfl, by omega, by omega, q _ ρ1 _ F1 H1 p s1 wk_rng⟩) w
def signsD (z : Str) : List Dt := (TL.tl z).map fun c => .str ⟨#[c]⟩
theorem wk_str {z : Str} : WkD K (Its z) F (signsD z) where
  go := fun i F' H hi _ _ => by
    unfold signsD at hi
    rw [List.length_map] at hi
    have : (TL.tl z).length = z.cps.size := by show z.cps.toList.length = _; rw [Array.length_toList]
    show i < z.cps.size
    omega
  stop := fun F' H _ _ => by
    unfold signsD
    rw [List.length_map]
    have : (TL.tl z).length = z.cps.size := by show z.cps.toList.length = _; rw [Array.length_toList]
    show z.cps.size ≤ _
    omega
  yld := fun i F' H v H' d hz e g y => by
    obtain ⟨rfl, c, hc, rfl⟩ := y
    have e2 : (signsD z)[i]? = some (.str ⟨#[c]⟩) := by
      unfold signsD
      rw [List.getElem?_map]
      have : (TL.tl z)[i]? = some c := by show z.cps.toList[i]? = _; rw [Array.getElem?_toList]; exact hc
      rw [this]
      rfl
    rw [e2] at hz
    cases hz
    exact ⟨Ex.refl _, by unfold Rep; rfl⟩
theorem i_str {te : TE} (h : EvD K W te ρ x fun d ρ1 => ∃ z, d = .str z ∧ P (signsD z) ρ1) : ItD K W (iStr te) ρ x P := fun σ F H R s q w =>
  h σ F H _ s (fun d ρ1 v F1 H1 p s1 r => by
    obtain ⟨z, rfl, p⟩ := p
    have e : v = .str z := r
    subst e
    exact ⟨z, rfl, q _ ρ1 _ F1 H1 p s1 wk_str⟩) w
/-! ### targets -/
def Wp : Option (List Nat) → L2.St → L2.St → Prop
  | none, _, _ => True
  | some vs, σ', σ => wipe σ' vs = wipe σ vs
def inV : Option (List Nat) → Nat → Bool
  | none, _ => true
  | some vs, i => vs.contains i
theorem wipe_get (σ : L2.St) (j : Nat) : ∀ vs : List Nat, (wipe σ vs)[j]? = if j ∈ vs then σ[j]?.map (fun _ => none) else σ[j]?
  | [] => by simp [wipe]
  | v :: vs => by
    unfold wipe
    by_cases e : v = j
    · subst e
      rw [List.getElem?_set_self', if_pos List.mem_cons_self, wipe_get σ v vs]
      split
      · cases σ[v]? <;> rfl
      · cases σ[v]? <;> rfl
    · rw [List.getElem?_set_ne e, wipe_get σ j vs]
      have : (j ∈ v :: vs) ↔ (j ∈ vs) := by
        rw [List.mem_cons]
        exact ⟨fun h => h.elim (fun z => absurd z.symm e) id, Or.inr⟩
      by_cases h : j ∈ vs
      · rw [if_pos h, if_pos (this.mpr h)]
      · rw [if_neg h, if_neg (fun z => h (this.mp z))]
theorem wipe_set {σ : L2.St} {i : Nat} {v : Option V} {vs : List Nat} (h : i ∈ vs) : wipe (σ.set i v) vs = wipe σ vs := by
  apply List.ext_getElem?
  intro j
  rw [wipe_get, wipe_get]
  by_cases hj : j ∈ vs
  · rw [if_pos hj, if_pos hj]
    by_cases e : i = j
    · subst e
      rw [List.getElem?_set_self']
      cases σ[i]? <;> rfl
    · rw [List.getElem?_set_ne e]
  · rw [if_neg hj, if_neg hj, List.getElem?_set_ne (fun e => hj (by rw [← e]; exact h))]
theorem wipe_wipe (σ : L2.St) (vs : List Nat) : wipe (wipe σ vs) vs = wipe σ vs := by
  apply List.ext_getElem?
  intro j
  rw [wipe_get, wipe_get]
  by_cases hj : j ∈ vs
  · rw [if_pos hj, if_pos hj]
    cases σ[j]? <;> rfl
  · rw [if_neg hj, if_neg hj]
theorem Wp.refl (vo : Option (List Nat)) (σ : L2.St) : Wp vo σ σ := by
  cases vo with
  | none => trivial
  | some vs => exact rfl
theorem Wp.trans {vo : Option (List Nat)} {σ σ1 σ2 : L2.St} (a : Wp vo σ1 σ) (b : Wp vo σ2 σ1) : Wp vo σ2 σ := by
  cases vo with
  | none => trivial
  | some vs => exact (show wipe σ2 vs = wipe σ1 vs from b).trans a
theorem Wp.set {vo : Option (List Nat)} {i : Nat} {v : Option V} (h : inV vo i = true) : Wp vo (σ.set i v) σ := by
  cases vo with
  | none => trivial
  | some vs => exact wipe_set (List.contains_iff_mem.mp h)
def TgD (K : Frag) (vo : Option (List Nat)) (g : TG) (z : Dt) (ρ : En) (P : En → Prop) : Prop :=
  ∀ (σ : L2.St) (F H : Hp) (Q : L2.St → Hp → Prop) (v : V), Sym K F H σ ρ → Rep K F z v → (∀ ρ' σ', P ρ' → Wp vo σ' σ → Step K σ ρ F H σ' ρ' F H → Q σ' H) → g v σ H Q
theorem g_name {vo : Option (List Nat)} {i : Nat} {z : Dt} {P : En → Prop} (hv : inV vo i = true) (hl : lent ρ i = false) (p : P (ρ.set i (.sh z))) : TgD K vo (gName i) z ρ P := fun σ F H Q v s r q =>
  q _ _ p (Wp.set hv) (Step.set s hl r)
/-! ### for -/
theorem s_for {wi : TI} {g : TG} {tb : TS} {Z : Pd} (h : ItD K W wi ρ Z.ex fun zs ρ1 => ∃ I : Nat → En → Prop, I 0 ρ1 ∧
      (∀ (i : Nat) ρ' z, zs[i]? = some z → I i ρ' → TgD K none g z ρ' fun ρ2 => StD K W tb ρ2 (Z.loop (I (i + 1)) Z.nx)) ∧ ∀ ρ', I zs.length ρ' → Z.nx ρ') :
    StD K W (tFor wi g tb) ρ Z := fun σ F H D s l =>
  h σ F H _ s (fun zs ρ1 J F1 H1 p s1 wk => by
    obtain ⟨I, h0, hs, hd⟩ := p
    refine ⟨fun i m σ' H' => m = zs.length - i ∧ i ≤ zs.length ∧ ∃ F' ρ', I i ρ' ∧ Step K σ ρ1 F1 H1 σ' ρ' F' H', ⟨zs.length, by simp, Nat.zero_le _, F1, ρ1, h0, Step.refl s1.sym⟩, ?_⟩
    rintro i m σ' H' ⟨rfl, hi, F', ρ', p, st⟩
    by_cases hlt : i < zs.length
    · refine .inr ⟨wk.go i F' H' hlt st.exF st.sym.ex, fun σ2 H2 => ∃ F2 ρ2, I (i + 1) ρ2 ∧ Step K σ ρ1 F1 H1 σ2 ρ2 F2 H2, fun σ2 H2 ⟨F2, ρ2, p2, st2⟩ => ⟨zs.length - (i + 1), by omega, rfl, hlt, F2, ρ2, p2, st2⟩, fun v H2 y => ?_⟩
      have hz : zs[i]? = some zs[i] := by simp [hlt]
      obtain ⟨g1, r1⟩ := wk.yld i F' H' v H2 _ hz st.exF st.sym.ex y
      have st1 := Step.grow st.sym g1
      refine hs i ρ' _ hz p σ' _ H2 _ v st1.sym r1 fun ρ3 σ3 p3 _ st3 => ?_
      have all := (s1.trans (st.trans st1)).trans st3
      exact p3 σ3 _ H2 _ st3.sym ⟨fun ρ4 σ4 F4 H4 ⟨ρ5, g5, p5⟩ t4 => ⟨F4, ρ5, p5, (((st.trans st1).trans st3).trans t4).trans (Step.forget t4.sym g5)⟩, (l.later all).rt, (l.later all).rn, (l.later all).nx,
        fun ρ4 σ4 F4 H4 ⟨ρ5, g5, p5⟩ t4 => ⟨F4, ρ5, p5, (((st.trans st1).trans st3).trans t4).trans (Step.forget t4.sym g5)⟩, (l.later all).ex⟩
    · have e : i = zs.length := by omega
      subst e
      exact .inl ⟨wk.stop F' H' st.exF st.sym.ex, l.nx ρ' σ' F' H' (hd ρ' p) (s1.trans st)⟩) fun c ρ' cls dd F' H' p st xo => l.ex c ρ' cls dd σ F' H' p st xo
/-! ### an object aside -/
structure Aside (σ : L2.St) (ρ : En) (F H : Hp) (D : Addr) (o : HO) : Prop where
  ow : ¬ OwA σ ρ H D
  fr : F D = none
  at_ : H D = some o
theorem Aside.step {D : Addr} {o : HO} (a : Aside σ ρ F H D o) (st : Step K σ ρ F H σ1 ρ1 F1 H1) : Aside σ1 ρ1 F1 H1 D o := by
  refine ⟨fun z => ?_, ?_, ?_⟩
  · rcases st.own D z with y | y
    · exact a.ow y
    · rw [a.at_] at y
      cases y
  · cases e : F1 D with
    | none => rfl
    | some u =>
      rcases st.new D (by rw [e]; exact fun z => nomatch z) with y | y | y
      · exact absurd a.fr y
      · rw [a.at_] at y
        cases y
      · exact absurd y a.ow
  · rcases st.keep D o a.at_ a.ow with y | ⟨y, _⟩
    · exact y
    · exact absurd a.fr y
theorem ow_aside {D : Addr} {H2 : Hp} (n : ¬ OwA σ ρ H D) (e : ∀ b, b ≠ D → H2 b = H b) {b : Addr} (z : OwA σ ρ H2 b) : OwA σ ρ H b := by
  refine z.imp_right fun ⟨i, d, p, h1, h2, h3⟩ => ?_
  have ne : p ≠ D := fun y => n (.inr ⟨i, d, p, h1, h2, .inl y.symm⟩)
  exact ⟨i, d, p, h1, h2, h3.back (e p ne)⟩
theorem gh_aside {D : Addr} {H2 : Hp} (s : Sym K F H σ ρ) (n : ¬ OwA σ ρ H D) (e : ∀ b, b ≠ D → H2 b = H b) : GhS K F H2 σ ρ := s.gh.mv (Xe.refl F) (fun _ _ _ h => ⟨h, rfl⟩) (fun a ha => ⟨(ha.out s.gh).1, e a fun z => n (.inr (z ▸ ha))⟩) fun a ha => s.gh.dj a ha
theorem Aside.upd {D : Addr} {o u : HO} (a : Aside σ ρ F H D o) : Aside σ ρ F (L2.upd H D u) D u := ⟨fun z => a.ow (ow_aside a.ow (fun b hb => upd_ne hb) z), a.fr, upd_same⟩
/-- what is aside is changed -/
theorem Step.aside {p : Addr} {o u : HO} (st : Step K σ ρ F H σ1 ρ1 F1 H1) (hp : H p = none) (a : Aside σ1 ρ1 F1 H1 p o) : Step K σ ρ F H σ1 ρ1 F1 (upd H1 p u) := by
  have s := st.sym
  have np : ∀ b v, F1 b = some v → b ≠ p := fun b v e z => by
    subst z
    rw [a.fr] at e
    cases e
  exact {
    sym := {
      ex := fun b v e => by rw [upd_ne (np b v e)]; exact s.ex b v e
      len := s.len
      sh := s.sh
      ow := fun j m e h => by
        obtain ⟨q, h1, h2, h3⟩ := s.ow j m e h
        have ne : q ≠ p := fun z => by
          subst z
          exact a.ow (.inl ⟨j, m, e, h, h1⟩)
        exact ⟨q, h1, h2, h3.mono (Xe.refl _) (upd_ne ne)⟩
      inj := s.inj
      gh := gh_aside s a.ow fun b hb => upd_ne hb }
    exF := st.exF
    keep := fun b v h n => by
      have ne : b ≠ p := fun z => by
        subst z
        rw [hp] at h
        cases h
      rw [upd_ne ne]
      exact st.keep b v h n
    own := fun b z => st.own b (ow_aside a.ow (fun c hc => upd_ne hc) z)
    new := st.new
    all := fun b h => by
      have ne : b ≠ p := fun z => by
        subst z
        exact h hp
      rw [upd_ne ne]
      exact st.all b h
    stay := st.stay
    fxs := st.fxs }
theorem Aside.new {D : Addr} {o : HO} (s : Sym K F H σ ρ) (h : H D = none) : Aside σ ρ F (L2.upd H D o) D o := by
  refine ⟨fun z => ?_, ex_free s.ex h, upd_same⟩
  rcases z with z | z
  case inr => exact ((z.back (fun _ _ _ h => ⟨h, rfl⟩) fun a ha => (gh_more s h ha).2).out s.gh).2 h
  obtain ⟨j, l, e, h1, h2⟩ := z
  obtain ⟨q, a, b, c⟩ := s.ow j l e h1
  rw [h2] at a
  have z := Option.some.inj (Option.some.inj a)
  injection z with z
  subst z
  exact c.there h
theorem del_back {D : Addr} {o : HO} (h : H D = some o) : upd (del1 H D) D o = H := upd_del1 h
/-- a step up to what is aside, the thing itself taken away -/
theorem Step.without {p : Addr} {o : HO} (st : Step K σ ρ F H σ1 ρ1 F1 H1) (hp : H p = none) (a : Aside σ1 ρ1 F1 H1 p o) : Step K σ ρ F H σ1 ρ1 F1 (del1 H1 p) := by
  have s := st.sym
  have ne1 : ∀ b, b ≠ p → del1 H1 p b = H1 b := fun b e => if_neg e
  have np : ∀ b v, F1 b = some v → b ≠ p := fun b v e z => by
    subst z
    rw [a.fr] at e
    cases e
  exact {
    sym := {
      ex := fun b v e => by rw [ne1 b (np b v e)]; exact s.ex b v e
      len := s.len
      sh := s.sh
      ow := fun j m e h => by
        obtain ⟨q, h1, h2, h3⟩ := s.ow j m e h
        have ne : q ≠ p := fun z => by
          subst z
          exact a.ow (.inl ⟨j, m, e, h, h1⟩)
        exact ⟨q, h1, h2, h3.mono (Xe.refl _) (ne1 q ne)⟩
      inj := s.inj
      gh := gh_aside s a.ow ne1 }
    exF := st.exF
    keep := fun b v h n => by
      have ne : b ≠ p := fun z => by
        subst z
        rw [hp] at h
        cases h
      rw [ne1 b ne]
      exact st.keep b v h n
    own := fun b z => st.own b (ow_aside a.ow ne1 z)
    new := st.new
    all := fun b h => by
      have ne : b ≠ p := fun z => by
        subst z
        exact h hp
      rw [ne1 b ne]
      exact st.all b h
    stay := st.stay
    fxs := st.fxs }
/-! ### the block's own slots -/
def wipeE (ρ : En) : List Nat → En
  | [] => ρ
  | v :: vs => (wipeE ρ vs).set v .no
theorem wipeE_get (ρ : En) (j : Nat) : ∀ vs : List Nat, (wipeE ρ vs)[j]? = if j ∈ vs then ρ[j]?.map (fun _ => .no) else ρ[j]?
  | [] => by simp [wipeE]
  | v :: vs => by
    unfold wipeE
    by_cases e : v = j
    · subst e
      rw [List.getElem?_set_self', if_pos List.mem_cons_self, wipeE_get ρ v vs]
      split
      · cases ρ[v]? <;> rfl
      · cases ρ[v]? <;> rfl
    · rw [List.getElem?_set_ne e, wipeE_get ρ j vs]
      have : (j ∈ v :: vs) ↔ (j ∈ vs) := by
        rw [List.mem_cons]
        exact ⟨fun h => h.elim (fun z => absurd z.symm e) id, Or.inr⟩
      by_cases h : j ∈ vs
      · rw [if_pos h, if_pos (this.mpr h)]
      · rw [if_neg h, if_neg (fun z => h (this.mp z))]
theorem wipeE_have {ρ : En} {j : Nat} {vs : List Nat} {z : Sl} (h : (wipeE ρ vs)[j]? = some z) (hz : z ≠ .no) : j ∉ vs ∧ ρ[j]? = some z := by
  rw [wipeE_get] at h
  by_cases hj : j ∈ vs
  · rw [if_pos hj] at h
    cases e : ρ[j]? with
    | none => rw [e] at h; cases h
    | some y =>
      rw [e] at h
      exact absurd (Option.some.inj h).symm hz
  · rw [if_neg hj] at h
    exact ⟨hj, h⟩
def noLent (ρ : En) (vs : List Nat) : Bool := vs.all fun v => !lent ρ v
theorem Step.wipe : ∀ {vs : List Nat} (s : Sym K F H σ ρ) (hl : noLent ρ vs = true), Step K σ ρ F H (wipe σ vs) (wipeE ρ vs) F H
  | [], s, _ => Step.refl s
  | v :: vs, s, hl => by
    unfold noLent at hl
    rw [List.all_cons, Bool.and_eq_true] at hl
    have st := Step.wipe (vs := vs) s hl.2
    refine st.trans (Step.unset st.sym ?_)
    cases e : lent (wipeE ρ vs) v with
    | false => rfl
    | true =>
      exfalso
      unfold lent at e
      split at e
      · rename_i d hd
        obtain ⟨_, h2⟩ := wipeE_have hd (by intro z; cases z)
        have h3 : lent ρ v = true := by unfold lent; rw [h2]
        rw [h3] at hl
        exact absurd hl.1 (by decide)
      · rename_i d hd
        obtain ⟨_, h2⟩ := wipeE_have hd (by intro z; cases z)
        have h3 : lent ρ v = true := by unfold lent; rw [h2]
        rw [h3] at hl
        exact absurd hl.1 (by decide)
      · rename_i d hd
        obtain ⟨_, h2⟩ := wipeE_have hd (by intro z; cases z)
        have h3 : lent ρ v = true := by unfold lent; rw [h2]
        rw [h3] at hl
        exact absurd hl.1 (by decide)
      · cases e
theorem Sym.unwipe {vs : List Nat} (s : Sym K F H (wipe σ vs) (wipeE ρ vs)) : Sym K F H σ (wipeE ρ vs) := by
  have back : ∀ {j : Nat} {z : Sl}, (wipeE ρ vs)[j]? = some z → z ≠ .no → (wipe σ vs)[j]? = σ[j]? := fun {j z} h hz => by
    rw [wipe_get, if_neg (wipeE_have h hz).1]
  exact {
    ex := s.ex
    len := by have := s.len; rw [wipe_length] at this; exact this
    sh := fun i d h => by rw [← back h (by intro z; cases z)]; exact s.sh i d h
    ow := fun i l d h => by rw [← back h (by intro z; cases z)]; exact s.ow i l d h
    inj := fun i j l m d e p h1 h2 h3 h4 => s.inj i j l m d e p h1 h2 (by rw [back h1 (by intro z; cases z)]; exact h3) (by rw [back h2 (by intro z; cases z)]; exact h4)
    gh := s.gh.mv (Xe.refl F) (fun i d hd h => ⟨h, (back h (by rintro rfl; cases hd)).symm⟩) (fun a ha => ⟨(ha.out s.gh).1, rfl⟩) fun a ha ⟨j, l, d, h1, h2⟩ => s.gh.dj a ha ⟨j, l, d, h1, by rw [back h1 (by intro z; cases z)]; exact h2⟩ }
theorem OwA.unwipe {vs : List Nat} {H : Hp} {a : Addr} (z : OwA σ (wipeE ρ vs) H a) : OwA (L2.wipe σ vs) (wipeE ρ vs) H a := by
  have back : ∀ {j : Nat} {z : Sl}, (wipeE ρ vs)[j]? = some z → z ≠ .no → (L2.wipe σ vs)[j]? = σ[j]? := fun {j z} h hz => by
    rw [wipe_get, if_neg (wipeE_have h hz).1]
  exact z.imp (fun ⟨j, l, d, h1, h2⟩ => ⟨j, l, d, h1, by rw [back h1 (by intro z; cases z)]; exact h2⟩) fun ⟨j, d, p, h1, h2, h3⟩ => ⟨j, d, p, h1, by rw [back h1 (by intro z; cases z)]; exact h2, h3⟩
theorem Step.unwipe {vs : List Nat} {σ0 : L2.St} {ρ0 : En} {F0 H0 : Hp} (st : Step K σ0 ρ0 F0 H0 (L2.wipe σ vs) (wipeE ρ vs) F H) (e : σ0 = σ) : Step K σ0 ρ0 F0 H0 σ (wipeE ρ vs) F H := by
  have back : ∀ {j : Nat} {z : Sl}, (wipeE ρ vs)[j]? = some z → z ≠ .no → (L2.wipe σ vs)[j]? = σ[j]? := fun {j z} h hz => by
    rw [wipe_get, if_neg (wipeE_have h hz).1]
  exact {
    sym := st.sym.unwipe
    exF := st.exF
    keep := st.keep
    own := fun a z => st.own a (z.imp (fun ⟨j, l, d, h1, h2⟩ => ⟨j, l, d, h1, by rw [back h1 (by intro z; cases z)]; exact h2⟩) fun ⟨j, d, p, h1, h2, h3⟩ => ⟨j, d, p, h1, by rw [back h1 (by intro z; cases z)]; exact h2, h3⟩)
    new := st.new
    all := st.all
    stay := fun i d h => by
      obtain ⟨d', h1, h2⟩ := st.stay i d h
      exact ⟨d', h1, by rw [back h1 (by intro z; cases z)] at h2; exact h2⟩
    fxs := fun i d h => by
      obtain ⟨h1, h2⟩ := st.fxs i d h
      exact ⟨h1, by rw [back h1 (by intro z; cases z)] at h2; exact h2⟩ }
/-! ### comprehensions -/
variable {Q : Dt → En → Prop}
theorem t_yes {P : Bool → En → Prop} (p : P true ρ) : TtD K W tYes ρ x P := fun σ F H Q s q _ => q true ρ F H p (Step.refl s)
theorem n_lc {wi : TI} {g : TG} {tt : TT} {te : TE} {vs : List Nat} (h : ItD K W wi ρ x fun zs ρ1 => noLent ρ1 vs = true ∧ ∃ I : Nat → List Dt → En → Prop, I 0 [] (wipeE ρ1 vs) ∧
      (∀ i acc ρ' z, zs[i]? = some z → I i acc ρ' → TgD K (some vs) g z ρ' fun ρ2 => TtD K w0 tt ρ2 px0 fun b ρ3 =>
        (b = true → EvD K w0 te ρ3 px0 fun d ρ4 => d.real = true ∧ acc.length < 100000 ∧ noLent ρ4 vs = true ∧ I (i + 1) (acc ++ [d]) (wipeE ρ4 vs)) ∧ (b = false → noLent ρ3 vs = true ∧ I (i + 1) acc (wipeE ρ3 vs))) ∧
      ∀ acc ρ', I zs.length acc ρ' → Q (.lst acc) ρ') : EvN K W (tLc wi g tt te vs) ρ x Q := fun σ F H R s q w =>
  h σ F H _ s (fun zs ρ1 J F1 H1 p s1 wk D hD => by
    obtain ⟨hl, I, h0, hs, hd⟩ := p
    have sw := Step.wipe (vs := vs) s1.sym hl
    -- the thing aside
    refine ⟨fun i m H' => m = zs.length - i ∧ i ≤ zs.length ∧ ∃ F' ρ' acc xs, I i acc (wipeE ρ' vs) ∧ Step K σ ρ1 F1 H1 (wipe σ vs) (wipeE ρ' vs) F' H' ∧ Aside (wipe σ vs) (wipeE ρ' vs) F' H' D (.lst xs) ∧ RepL K F' acc xs,
      ⟨zs.length, by simp, Nat.zero_le _, F1, ρ1, [], [], h0, sw.trans (Step.more sw.sym hD), Aside.new sw.sym hD, repL_nil⟩, ?_⟩
    rintro i m H' ⟨rfl, hi, F', ρ', acc, xs, pI, st, as, ra⟩
    by_cases hlt : i < zs.length
    · refine .inr ⟨wk.go i F' H' hlt st.exF st.sym.ex, fun H2 => ∃ F2 ρ2 acc2 xs2, I (i + 1) acc2 (wipeE ρ2 vs) ∧ Step K σ ρ1 F1 H1 (wipe σ vs) (wipeE ρ2 vs) F2 H2 ∧ Aside (wipe σ vs) (wipeE ρ2 vs) F2 H2 D (.lst xs2) ∧ RepL K F2 acc2 xs2,
        fun H2 ⟨F2, ρ2, acc2, xs2, p2, st2, as2, ra2⟩ => ⟨zs.length - (i + 1), by omega, rfl, hlt, F2, ρ2, acc2, xs2, p2, st2, as2, ra2⟩, fun v H2 y => ?_⟩
      have hz : zs[i]? = some zs[i] := by simp [hlt]
      obtain ⟨g1, r1⟩ := wk.yld i F' H' v H2 _ hz st.exF st.sym.ex y
      have st1 := Step.grow st.sym g1
      refine hs i acc _ _ hz pI (wipe σ vs) _ H2 _ v st1.sym r1 fun ρ3 σ3 p3 w3 st3 => ⟨?_, ?_⟩
      · exact (show L2.wipe σ3 vs = L2.wipe (L2.wipe σ vs) vs from w3).trans (wipe_wipe σ vs)
      · have ew : L2.wipe σ3 vs = L2.wipe σ vs := (show L2.wipe σ3 vs = L2.wipe (L2.wipe σ vs) vs from w3).trans (wipe_wipe σ vs)
        have b3 := st1.trans st3
        refine p3 σ3 _ H2 _ st3.sym (fun b ρ4 F4 H4 pb st4 => ?_) fun _ _ _ _ _ _ z => z.elim
        have b4 := b3.trans st4
        cases b with
        | true =>
          rw [if_pos rfl]
          refine pb.1 rfl σ3 F4 H4 _ st4.sym (fun d ρ5 u F5 H5 p5 st5 r5 => ?_) fun _ _ _ _ _ _ z => z.elim
          have b5 := b4.trans st5
          have sw5 := Step.wipe (vs := vs) st5.sym p5.2.2.1
          rw [ew] at sw5
          have b6 := b5.trans sw5
          have as6 := as.step b6
          refine ⟨xs, as6.at_, ?_, F5, ρ5, acc ++ [d], xs ++ [u], p5.2.2.2, (st.trans b6).aside hD as6, as6.upd, (ra.mono b6.exF).app (repL_cons (r5.real p5.1) repL_nil)⟩
          rw [ra.length]
          exact Nat.lt_of_lt_of_le p5.2.1 (by decide)
        | false =>
          rw [if_neg (by decide)]
          obtain ⟨hl5, p5⟩ := pb.2 rfl
          have sw5 := Step.wipe (vs := vs) st4.sym hl5
          rw [ew] at sw5
          have b6 := b4.trans sw5
          exact ⟨F4, ρ4, acc, xs, p5, st.trans b6, as.step b6, ra.mono b6.exF⟩
    · have e : i = zs.length := by omega
      subst e
      refine .inl ⟨wk.stop F' H' st.exF st.sym.ex, ?_⟩
      have su := (st.unwipe (σ := σ) rfl)
      have as2 : Aside σ (wipeE ρ' vs) F' H' D (.lst xs) := ⟨fun z => as.ow (OwA.unwipe z), as.fr, as.at_⟩
      have key := q (.lst acc) _ D (.lst xs) F' (del1 H' D) (hd acc _ pI) (s1.trans (su.without hD as2)) (if_pos rfl) (by rw [del_back as.at_]; exact ⟨xs, as.at_, ra⟩)
      rw [del_back as.at_] at key
      exact key) w
end
end DL
set_option Elab.async false
set_option linter.all false
set_option maxRecDepth 100000
set_option autoImplicit false
set_option maxHeartbeats 4000000
/-! dicts -/
namespace DL
open PySem L2 Evl PyProof.Rows
def keyD : Key → Dt
  | .inl i => .int i
  | .inr z => .str z
def Dt.key : Dt → Option Key
  | .int i => some (.inl i)
  | .str z => some (.inr z)
  | _ => none
theorem key_of_D {d : Dt} {k : Key} (h : d.key = some k) : d = keyD k := by
  cases d with
  | int i => cases h; rfl
  | str z => cases h; rfl
  | _ => cases h
theorem rep_key {K : Frag} {F : Hp} {k : Key} {v : V} (h : Rep K F (keyD k) v) : v = kV k := by
  cases k with
  | inl i => unfold keyD Rep at h; exact h
  | inr z => unfold keyD Rep at h; exact h
theorem key_rep {K : Frag} {F : Hp} {k : Key} : Rep K F (keyD k) (kV k) := by
  cases k with
  | inl i => unfold keyD Rep; rfl
  | inr z => unfold keyD Rep; rfl
def dicD (l : List (Key × Dt)) : Dt := .dic (l.map (·.1)) (l.map (·.2))
def RepKV (K : Frag) (F : Hp) : List (Key × Dt) → List (Key × V) → Prop
  | [], kvs => kvs = []
  | p :: l, kvs => ∃ v r, kvs = (p.1, v) :: r ∧ Rep K F p.2 v ∧ RepKV K F l r
section
variable {K : Frag} {F F' H : Hp}
theorem RepKV.mono (e : Xe F F') : ∀ {l : List (Key × Dt)} {kvs : List (Key × V)}, RepKV K F l kvs → RepKV K F' l kvs
  | [], _, h => h
  | p :: l, _, ⟨v, r, h1, h2, h3⟩ => ⟨v, r, h1, h2.mono e, RepKV.mono e h3⟩
theorem RepKV.len : ∀ {l : List (Key × Dt)} {kvs : List (Key × V)}, RepKV K F l kvs → kvs.length = l.length
  | [], _, h => by cases h; rfl
  | p :: l, _, ⟨v, r, h1, h2, h3⟩ => by subst h1; rw [List.length_cons, List.length_cons, RepKV.len h3]
theorem RepKV.keys : ∀ {l : List (Key × Dt)} {kvs : List (Key × V)}, RepKV K F l kvs → kvs.map (·.1) = l.map (·.1)
  | [], _, h => by cases h; rfl
  | p :: l, _, ⟨v, r, h1, h2, h3⟩ => by subst h1; rw [List.map_cons, List.map_cons, RepKV.keys h3]
theorem repKV_of : ∀ {l : List (Key × Dt)} {xs : List V}, RepL K F (l.map (·.2)) xs → RepKV K F l ((l.map (·.1)).zip xs)
  | [], xs, h => rfl
  | p :: l, xs, h => by
    rw [List.map_cons] at h
    unfold RepL at h
    obtain ⟨v, r, rfl, h1, h2⟩ := h
    exact ⟨v, _, rfl, h1, repKV_of h2⟩
theorem of_repKV : ∀ {l : List (Key × Dt)} {kvs : List (Key × V)}, RepKV K F l kvs → ∃ xs, kvs = (l.map (·.1)).zip xs ∧ RepL K F (l.map (·.2)) xs
  | [], _, h => by cases h; exact ⟨[], rfl, repL_nil⟩
  | p :: l, _, ⟨v, r, h1, h2, h3⟩ => by
    obtain ⟨xs, e, h4⟩ := of_repKV h3
    subst h1 e
    exact ⟨v :: xs, rfl, repL_cons h2 h4⟩
theorem rep_dic {l : List (Key × Dt)} {v : V} : Rep K F (dicD l) v ↔ ∃ a kvs, v = .ref a ∧ Rd F a (.dK kvs) ∧ RepKV K F l kvs := by
  unfold dicD Rep
  constructor
  · rintro ⟨a, xs, rfl, h1, h2, h3⟩
    exact ⟨a, _, rfl, h1, repKV_of h3⟩
  · rintro ⟨a, kvs, rfl, h1, h2⟩
    obtain ⟨xs, rfl, h3⟩ := of_repKV h2
    exact ⟨a, xs, rfl, h1, by simp, h3⟩
theorem own_dic {l : List (Key × Dt)} {p : Addr} : Own K F H p (dicD l) ↔ ∃ kvs, H p = some (.dK kvs) ∧ RepKV K F l kvs := by
  show (∃ xs, H p = some (.dK ((l.map (·.1)).zip xs)) ∧ (l.map (·.1)).length = (l.map (·.2)).length ∧ RepL K F (l.map (·.2)) xs) ↔ _
  constructor
  · rintro ⟨xs, h1, h2, h3⟩
    exact ⟨_, h1, repKV_of h3⟩
  · rintro ⟨kvs, h1, h2⟩
    obtain ⟨xs, rfl, h3⟩ := of_repKV h2
    exact ⟨xs, h1, by simp, h3⟩
def valD (l : List (Key × Dt)) (k : Key) : Option Dt := (l.find? fun kv => decide (kv.1 = k)).map (·.2)
def putD (l : List (Key × Dt)) (k : Key) (d : Dt) : List (Key × Dt) :=
  if (l.any fun kv => decide (kv.1 = k)) = true then l.map (fun kv => if kv.1 = k then (kv.1, d) else kv) else l ++ [(k, d)]
def dropD (l : List (Key × Dt)) (k : Key) : List (Key × Dt) := l.filter fun kv => decide (kv.1 ≠ k)
theorem RepKV.val (k : Key) : ∀ {l : List (Key × Dt)} {kvs : List (Key × V)}, RepKV K F l kvs → (∀ d, valD l k = some d → ∃ v, valV kvs k = some v ∧ Rep K F d v) ∧ (valD l k = none → valV kvs k = none)
  | [], _, h => by
    cases h
    exact ⟨(fun d z => nomatch z), fun _ => rfl⟩
  | p :: l, _, ⟨v, r, h1, h2, h3⟩ => by
    subst h1
    obtain ⟨i1, i2⟩ := RepKV.val k h3
    by_cases e : p.1 = k
    · have e1 : valD (p :: l) k = some p.2 := by simp [valD, List.find?_cons, e]
      have e2 : valV ((p.1, v) :: r) k = some v := valV_pos e
      rw [e1, e2]
      exact ⟨fun d z => by cases z; exact ⟨v, rfl, h2⟩, fun z => nomatch z⟩
    · have e1 : valD (p :: l) k = valD l k := by simp [valD, List.find?_cons, e]
      have e2 : valV ((p.1, v) :: r) k = valV r k := valV_neg e
      rw [e1, e2]
      exact ⟨i1, i2⟩
theorem RepKV.has {k : Key} {l : List (Key × Dt)} {kvs : List (Key × V)} (h : RepKV K F l kvs) : (valV kvs k).isSome = (valD l k).isSome := by
  obtain ⟨h1, h2⟩ := h.val k
  cases e : valD l k with
  | none => rw [h2 e] <;> rfl
  | some d =>
    obtain ⟨v, h3, _⟩ := h1 d e
    rw [h3] <;> rfl
theorem RepKV.app : ∀ {l m : List (Key × Dt)} {a b : List (Key × V)}, RepKV K F l a → RepKV K F m b → RepKV K F (l ++ m) (a ++ b)
  | [], m, a, b, h, g => by cases h; exact g
  | p :: l, m, _, b, ⟨v, r, h1, h2, h3⟩, g => by subst h1; exact ⟨v, r ++ b, rfl, h2, RepKV.app h3 g⟩
theorem RepKV.any (k : Key) : ∀ {l : List (Key × Dt)} {kvs : List (Key × V)}, RepKV K F l kvs → (kvs.any fun kv => decide (kv.1 = k)) = (l.any fun kv => decide (kv.1 = k))
  | [], _, h => by cases h; rfl
  | p :: l, _, ⟨v, r, h1, h2, h3⟩ => by subst h1; rw [List.any_cons, List.any_cons, RepKV.any k h3]
theorem RepKV.over (k : Key) {d : Dt} {w : V} (hr : Rep K F d w) : ∀ {l : List (Key × Dt)} {kvs : List (Key × V)}, RepKV K F l kvs → RepKV K F (l.map fun kv => if kv.1 = k then (kv.1, d) else kv) (kvs.map fun kv => if kv.1 = k then (kv.1, w) else kv)
  | [], _, h => by cases h; rfl
  | p :: l, _, ⟨v, r, h1, h2, h3⟩ => by
    subst h1
    have ih := RepKV.over k hr h3
    rw [List.map_cons, List.map_cons]
    by_cases e : p.1 = k
    · rw [if_pos e, if_pos e]
      exact ⟨w, _, rfl, hr, ih⟩
    · rw [if_neg e, if_neg e]
      exact ⟨v, _, rfl, h2, ih⟩
theorem RepKV.put {k : Key} {d : Dt} {w : V} (hr : Rep K F d w) {l : List (Key × Dt)} {kvs : List (Key × V)} (h : RepKV K F l kvs) : RepKV K F (putD l k d) (putK kvs k w) := by
  unfold putD putK
  rw [h.any k]
  split
  · exact RepKV.over k hr h
  · exact RepKV.app h ⟨w, [], rfl, hr, rfl⟩
theorem RepKV.drop (k : Key) : ∀ {l : List (Key × Dt)} {kvs : List (Key × V)}, RepKV K F l kvs → RepKV K F (dropD l k) (dropK kvs k)
  | [], _, h => by cases h; rfl
  | p :: l, _, ⟨v, r, h1, h2, h3⟩ => by
    subst h1
    have ih := RepKV.drop k h3
    unfold dropD dropK at ih ⊢
    rw [List.filter_cons, List.filter_cons]
    by_cases e : p.1 = k
    · rw [if_neg (by simp [e]), if_neg (by simp [e])]
      exact ih
    · rw [if_pos (by simp [e]), if_pos (by simp [e])]
      exact ⟨v, _, rfl, h2, ih⟩
theorem RepKV.get : ∀ {l : List (Key × Dt)} {kvs : List (Key × V)} {i : Nat} {p : Key × Dt}, RepKV K F l kvs → l[i]? = some p → ∃ v, kvs[i]? = some (p.1, v) ∧ Rep K F p.2 v
  | [], _, i, p, _, e => by simp at e
  | q :: l, _, 0, p, ⟨v, r, h1, h2, h3⟩, e => by
    simp at e
    subst e h1
    exact ⟨v, rfl, h2⟩
  | q :: l, _, i + 1, p, ⟨v, r, h1, h2, h3⟩, e => by
    subst h1
    obtain ⟨u, e1, e2⟩ := RepKV.get (i := i) (p := p) h3 (by simpa using e)
    exact ⟨u, by simpa using e1, e2⟩
end
/-- a dict in hand -/
def DicAt (ρ : En) (e : Dt) (l : List (Key × Dt)) : Prop := e = dicD l ∨ ∃ k b, e = .own k ∧ ρ[k]? = some (.ow b (dicD l))
section
variable {K : Frag} {W : WX} {σ σ1 : L2.St} {ρ ρ1 : En} {F F1 H H1 : Hp} {x : PX} {P : Dt → En → Prop} {l : List (Key × Dt)}
theorem DicAt.at_ {e : Dt} {u : V} (d : DicAt ρ e l) (s : Sym K F H σ ρ) (r : RepV K F σ e u) : ∃ a kvs, u = .ref a ∧ Rd H a (.dK kvs) ∧ RepKV K F l kvs := by
  rcases d with rfl | ⟨k, b, rfl, hk⟩
  · have h : Rep K F (dicD l) u := r
    obtain ⟨a, kvs, rfl, h1, h2⟩ := rep_dic.mp h
    exact ⟨a, kvs, rfl, ex_rd s.ex h1, h2⟩
  · obtain ⟨a, e1, e2, e3⟩ := s.ow k b _ hk
    obtain ⟨kvs, h1, h2⟩ := own_dic.mp e3
    have eu : u = .ref a := by
      have z : σ[k]? = some (some u) := r
      rw [e1] at z
      exact (Option.some.inj (Option.some.inj z)).symm
    exact ⟨a, kvs, eu, .inl h1, h2⟩
/-! ### d[k] -/
def rIxDic : R2 := fun x y H Q => ∃ a v, x = .ref a ∧ DGet H a y (some v) ∧ Q v H
theorem ix_dic {X : Cx} (hu : X.A.units + 64 < cLine) : IxR X rIxDic := by
  intro value slice pins s σ H x y v u Q I rx ry h hs
  obtain ⟨a, z, rfl, g, q⟩ := h
  cases (show v = Value.ref a from rx)
  have hT := dict_typeIs I g
  unfold subscriptTail
  refine wpAny_bind ?_
  rw [getitemInPython_of_ne hT.not_modules]
  refine wpAny_bind (wpAny_specialOf hT PySem.F.slot_dict_getitem.lookup ?_)
  have done : wpAny (model X.prog X.w) X.A (subscripted slice false (.ref a) u) (fun r s3 => wpAny (model X.prog X.w) X.A (letTemporaryGo value (.ref a) r >>= fun _ => pure r) (EP X pins σ Q) X.xe s3) X.xe s := by
    rw [hs]
    refine wpAny_operating (d_getItem (by omega) I g ry fun w' s' I' r' => ?_)
    exact wpAny_bind (wpAny_letTemporaryGo (wpAny_pure ⟨z, H, I', r', q⟩))
  first
    | exact wpAny_pure (wpAny_bind done)
    | exact wpAny_bind (wpAny_pure (wpAny_bind done))
    | exact wpAny_bind done
def rIxV (K : Frag) : R2 := fun x y H Q => rIxU K x y H Q ∨ rIxDic x y H Q
theorem ix_V {X : Cx} (hK : X.K = K) (hu : X.A.units + 64 < cLine) : IxR X (rIxV K) := (ix_seqK hK).or (ix_dic hu)
theorem v_ix {d e : Dt} (h : OpD K (rIxU K) d e ρ P) : OpD K (rIxV K) d e ρ P := fun σ F H Q u v s r1 r2 q => .inl (h σ F H Q u v s r1 r2 q)
theorem o_ixD {d e v : Dt} {k : Key} (hd : DicAt ρ d l) (hk : e.key = some k) (hv : valD l k = some v) (p : P v ρ) : OpD K (rIxV K) d e ρ P := fun σ F H Q u y s r1 r2 q => by
  obtain ⟨a, kvs, rfl, h1, h2⟩ := hd.at_ s r1
  have ek := key_of_D hk
  subst ek
  have ey : y = kV k := rep_key (r2.real (by cases k <;> rfl))
  subst ey
  obtain ⟨z, e1, e2⟩ := (h2.val k).1 v hv
  exact .inr ⟨a, z, rfl, .inl ⟨kvs, k, h1, rfl, e1.symm⟩, q v ρ z F H p (Step.refl s) e2.toV⟩
/-! ### k in d -/
/-! ### d[k] = v -/
def rSetV : TSet := fun o i v H Q => rSetL o i v H Q ∨ rSetD o i v H Q
theorem set_V {X : Cx} (hu : X.A.units + 64 < cLine) : PSet X rSetV := by
  intro pins s σ H o i v ov iv u Q I ro ri rv h
  rcases h with h | h
  · exact set_list pins s σ H o i v ov iv u Q I ro ri rv h
  · exact set_dict (by omega) pins s σ H o i v ov iv u Q I ro ri rv h
theorem w_lstV {k : Nat} {b : Bool} {ds : List Dt} {i : Int} {j : Nat} {d : Dt} {P : En → Prop} (hk : ρ[k]? = some (.ow b (.lst ds))) (hj : ixN ds.length i = some j) (p : P (ρ.set k (.ow b (.lst (ds.set j d))))) : SeD K rSetV (.own k) (.int i) d ρ P := fun σ F H Q u v z s e f g q => .inl (w_lst hk hj p σ F H Q u v z s e f g q)
theorem w_dic {k : Nat} {b : Bool} {e d : Dt} {y : Key} {P : En → Prop} (hk : ρ[k]? = some (.ow b (dicD l))) (hy : e.key = some y) (hl : l.length < 100000) (p : P (ρ.set k (.ow b (dicD (putD l y d))))) : SeD K rSetV (.own k) e d ρ P := fun σ F H Q u v z s r1 r2 g q => by
  obtain ⟨a, e1, e2, e3⟩ := s.ow k b _ hk
  obtain ⟨kvs, h1, h2⟩ := own_dic.mp e3
  have eu : u = .ref a := by
    have z : σ[k]? = some (some u) := r1
    rw [e1] at z
    exact (Option.some.inj (Option.some.inj z)).symm
  subst eu
  have ek := key_of_D hy
  subst ek
  have ev : v = kV y := rep_key (r2.real (by cases y <;> rfl))
  subst ev
  refine .inr ⟨a, _, rfl, DPut.k h1 (by rw [h2.len]; exact Nat.lt_of_lt_of_le hl (by decide)), ?_⟩
  exact q _ F _ p (Step.write s hk e1 (own_dic.mpr ⟨_, upd_same, h2.put g⟩))
/-! ### walks of dicts -/
/-- the dict is locked from here on -/
def tLkf (t : TE) : TE := fun σ H Q => t σ H fun x H1 => (∃ d kvs, H1 d = some (.dK kvs) ∧ x = .ref d ∧ ∀ ob, Q x (upd H1 d (.frz ob (.dK kvs)))) ∨ Q x H1
theorem pe_lkf {X : Cx} {e : Expr} {t : TE} (h : PE X e t) : PE X e (tLkf t) := by
  refine ⟨fun pins s σ H Q I q => wpAny_mono (h.run pins s σ H _ I q) (fun u s1 z => ?_) fun _ _ z => z⟩
  obtain ⟨v, H1, I1, r, q1⟩ := z
  rcases q1 with ⟨d, kvs, hd, rfl, q1⟩ | q1
  · obtain ⟨ob, I2⟩ := I1.lock hd trivial
    exact ⟨_, _, I2, r, q1 ob⟩
  · exact ⟨v, H1, I1, r, q1⟩
theorem frz_at {F' : Hp} {d : Addr} {ob : Obj} {u : HO} (h : F d = some (.frz ob u)) (e : Xe F F') (g : Ex F' H) : H d = some (.frz ob u) := by
  rcases e d _ h with z | ⟨u, _, _, _, z, _⟩
  · exact g _ _ z
  · cases z
def keysD (l : List (Key × Dt)) : List Dt := l.map fun p => keyD p.1
def valsD (l : List (Key × Dt)) : List Dt := l.map (·.2)
def itemsD (l : List (Key × Dt)) : List Dt := ((keysD l).zip (valsD l)).map fun p => .tup [p.1, p.2]
theorem wk_keys {d : Addr} {ob : Obj} {kvs : List (Key × V)} (h : F d = some (.frz ob (.dK kvs))) (r : RepKV K F l kvs) : WkD K (Itk d ob kvs) F (keysD l) where
  go := fun i F' H hi e g => ⟨frz_at h e g, by
    unfold keysD at hi
    rw [List.length_map] at hi
    rw [r.len]
    exact hi⟩
  stop := fun F' H e g => ⟨frz_at h e g, by
    unfold keysD
    rw [List.length_map, r.len]
    exact Nat.le_refl _⟩
  yld := fun i F' H v H' z hz e g y => by
    obtain ⟨rfl, k, w, h1, rfl⟩ := y
    have hi : i < l.length := by
      have := (List.getElem?_eq_some_iff.mp hz).1
      unfold keysD at this
      rw [List.length_map] at this
      exact this
    obtain ⟨u, h2, _⟩ := r.get (i := i) (p := l[i]) (by simp [hi])
    rw [h1] at h2
    cases h2
    have ez : z = keyD l[i].1 := by
      unfold keysD at hz
      rw [List.getElem?_map, List.getElem?_eq_getElem hi] at hz
      exact (Option.some.inj hz).symm
    subst ez
    exact ⟨Ex.refl _, by rw [fz_self g]; exact key_rep⟩
/-- what is read is locked -/
theorem lkf {te : TE} {R : VK} {Q : List (Key × Dt) → En → Prop} (h : EvD K W te ρ x fun d ρ1 => ∃ l, d = dicD l ∧ Q l ρ1) (s : Sym K F H σ ρ)
    (q : ∀ (d : Addr) (ob : Obj) (kvs : List (Key × V)) (l : List (Key × Dt)) (ρ1 : En) (F1 H1 : Hp), Q l ρ1 → Step K σ ρ F H σ ρ1 F1 H1 → F1 d = some (.frz ob (.dK kvs)) → RepKV K F1 l kvs → R (.ref d) H1)
    (w : ∀ c ρ' cls dd F' H', x c ρ' → Step K σ ρ F H σ ρ' F' H' → XOk K F' c cls dd → W cls dd σ H') : tLkf te σ H R :=
  h σ F H _ s (fun d ρ1 v F1 H1 p s1 r => by
    obtain ⟨l, rfl, p⟩ := p
    have e : Rep K F1 (dicD l) v := r
    obtain ⟨a, kvs, rfl, h1, h2⟩ := rep_dic.mp e
    rcases h1 with h1 | ⟨ob, h1⟩
    · refine .inl ⟨a, kvs, s1.sym.ex _ _ h1, rfl, fun ob => ?_⟩
      have st := Step.lock (ob := ob) s1.sym h1
      exact q a ob kvs l ρ1 _ _ p (s1.trans st) upd_same (h2.mono st.exF)
    · exact .inr (q a ob kvs l ρ1 F1 H1 p s1 h1 h2)) w
theorem i_keys {te : TE} {P : List Dt → En → Prop} (h : EvD K W te ρ x fun d ρ1 => ∃ l, d = dicD l ∧ P (keysD l) ρ1) : ItD K W (iKeys (tLkf te)) ρ x P := fun σ F H R s q w =>
  lkf (Q := fun l ρ1 => P (keysD l) ρ1) h s (fun d ob kvs l ρ1 F1 H1 p s1 h1 h2 => ⟨d, ob, rfl, .inl ⟨kvs, s1.sym.ex _ _ h1, q _ ρ1 _ F1 H1 p s1 (wk_keys h1 h2)⟩⟩) w
/-! ### new dicts -/
/-- a call that makes a new object -/
def CaN (K : Frag) (r : List V → Hp → VK → Prop) (ds : List Dt) (ρ : En) (P : Dt → En → Prop) : Prop :=
  ∀ (σ : L2.St) (F H : Hp) (Q : VK) (us : List V), Sym K F H σ ρ → RepVL K F σ ds us → (∀ d ρ' p o F' H', P d ρ' → Step K σ ρ F H σ ρ' F' H' → H' p = none → Own K F' (upd H' p o) p d → Q (.ref p) (upd H' p o)) → r us H Q
/-- dict([(k, v), ..]) -/
def pairsD (ps : List (Key × Dt)) : List Dt := ps.map fun p => .tup [keyD p.1, p.2]
def mergeD (l more : List (Key × Dt)) : List (Key × Dt) := more.foldl (fun acc kv => putD acc kv.1 kv.2) l
/-! ### dict comprehensions -/
/-! ### d.get, len -/
def rLenV (K : Frag) : List V → Hp → VK → Prop := fun xs H Q => rLenU K xs H Q ∨ ∃ a kvs, xs = [V.ref a] ∧ Rd H a (.dK kvs) ∧ Q (.int kvs.length) H
theorem call_lenV {X : Cx} (hK : X.K = K) : CallR X (.builtin "len") (rLenV K) := (call_lenK hK).or (by
  intro pins s σ H xs us Q I r h
  obtain ⟨a, kvs, rfl, hd, q⟩ := h
  obtain ⟨u, rfl, ru⟩ := r.one
  cases (show u = Value.ref a from ru)
  exact d_len I hd fun t s' I' => ⟨.int _, H, I', ⟨t, rfl⟩, q⟩)
theorem v_len {ds : List Dt} (h : CaD K (rLenU K) ds ρ P) : CaD K (rLenV K) ds ρ P := fun σ F H Q us s r q => .inl (h σ F H Q us s r q)
theorem c_lenD {d : Dt} (hd : DicAt ρ d l) (p : P (.int l.length) ρ) : CaD K (rLenV K) [d] ρ P := fun σ F H Q us s r q => by
  obtain ⟨v, _, rfl, rv, rfl⟩ := r
  obtain ⟨a, kvs, rfl, h1, h2⟩ := hd.at_ s rv
  refine .inr ⟨a, kvs, rfl, h1, ?_⟩
  rw [h2.len]
  exact q _ _ _ F H p (Step.refl s) rfl
end
end DL
set_option Elab.async false
set_option linter.all false
set_option maxRecDepth 100000
set_option autoImplicit false
set_option maxHeartbeats 4000000
/-! own classes and their instances -/
namespace DL
open PySem L2 Evl PyProof.Rows
/-! ### what the head tells of a class -/
def tyNs : List String := ["NoneType", "bool", "int", "str", "list", "tuple", "dict"]
structure ClC (K : Frag) (C : Addr) : Prop where
  cl : Cls K C
  mks : PySem.W.makesIn K C = true
  kp : PySem.W.keepIn K (.ref C) = true
  is : C8.InsC K C
  sf : PySem.W.selfFirst K C = true
  ks : ∀ T ∈ tyNs, PySem.W.kitOne K (.type T) (.ref C) = some false
  sb : ∀ T ∈ tyNs, PySem.W.subIn K (.type T) (.ref C) = some false
/-! ### calls, what is raised at the caller's slots -/
section
variable {X : Cx} {CX : CXT} {k : Nat} {f C : Addr} {fd : FuncData} {ps : List Str} {sp : Sp} {dvs : List V} {ds : List Value} {E : L2.St → XK} {x m : Str} {p pos apos : Pos} {e o : Expr} {es : List Expr} {ta : TE} {t : TA}
end
/-! ### by data -/
section
variable {K : Frag} {W : WX} {σ σ1 : L2.St} {ρ ρ1 : En} {F F1 H H1 : Hp} {x : PX} {P : Dt → En → Prop} {C : Addr} {m f : Str}
/-- an instance in hand -/
def InsAt (ρ : En) (e : Dt) (C : Addr) (fs : List Str) (ds : List Dt) : Prop := e = .ins C fs ds ∨ ∃ k b, e = .own k ∧ ρ[k]? = some (.ow b (.ins C fs ds))
theorem InsAt.at_ {e : Dt} {u : V} {fs : List Str} {ds : List Dt} (d : InsAt ρ e C fs ds) (s : Sym K F H σ ρ) (r : RepV K F σ e u) : ∃ a dx xs, u = .ref a ∧ H a = some (.ins C dx (fs.zip xs)) ∧ fs.length = ds.length ∧ RepL K F ds xs := by
  rcases d with rfl | ⟨k, b, rfl, hk⟩
  · have h : Rep K F (.ins C fs ds) u := r
    unfold Rep at h
    obtain ⟨a, dx, xs, rfl, h1, h2, h3⟩ := h
    exact ⟨a, dx, xs, rfl, s.ex _ _ h1, h2, h3⟩
  · obtain ⟨a, e1, e2, dx, xs, h1, h2, h3⟩ := s.ow k b _ hk
    have eu : u = .ref a := by
      have z : σ[k]? = some (some u) := r
      rw [e1] at z
      exact (Option.some.inj (Option.some.inj z)).symm
    exact ⟨a, dx, xs, eu, h1, h2, h3⟩
/-! isinstance -/
theorem c_isIns {e : Dt} {fs : List Str} {ds : List Dt} {D : Addr} {b : Bool} (hi : InsAt ρ e C fs ds) (T : ClC K C) (hk : PySem.W.kitOne K (.ref C) (.ref D) = some b) (p : P (.bl b) ρ) : CaD K (rIsi K) [e, .ref D] ρ P := fun σ F H Q us s r q => by
  obtain ⟨v, _, rfl, rv, w, _, rfl, rw', rfl⟩ := r
  have ew : w = .ref D := rw'
  subst ew
  obtain ⟨a, dx, xs, rfl, h1, _, _⟩ := hi.at_ s rv
  exact ⟨_, _, .ref C, .ref D, b, rfl, .own D, .base (.ins h1 T.cl T.is.ha T.is.hn T.is.htk T.is.hm), hk, q _ _ _ F H p (Step.refl s) rfl⟩
theorem c_isNo {d : Dt} {T : String} {D : Addr} (ht : d.tyN = some T) (hD : ClC K D) (p : P (.bl false) ρ) : CaD K (rIsi K) [d, .ref D] ρ P := fun σ F H Q us s r q => by
  obtain ⟨v, _, rfl, rv, w, _, rfl, rw', rfl⟩ := r
  have ew : w = .ref D := rw'
  subst ew
  have hr : d.real = true := by
    cases d with
    | own i => cases ht
    | _ => rfl
  have hT : T ∈ tyNs := by
    cases d <;> first | (cases ht; done) | (cases ht; decide)
  exact ⟨v, .ref D, .type T, .ref D, false, rfl, .own D, tyX_of (rv.real hr) s.ex ht, hD.ks T hT, q _ _ _ F H p (Step.refl s) rfl⟩
end
end DL
set_option Elab.async false
set_option linter.all false
set_option maxRecDepth 100000
set_option autoImplicit false
set_option maxHeartbeats 4000000
/-! dicts compared; operators of own classes -/
namespace DL
open PySem L2 Evl PyProof.Rows
/-- the pairs of ks, looked up in ls, with the comparison's answers -/
inductive KvE (K : Frag) (H : Hp) (ls : List (Key × V)) : List (Key × V) → Bool → Prop
  | nil : KvE K H ls [] true
  | miss {k : Key} {v : V} {r : List (Key × V)} : valV ls k = none → KvE K H ls ((k, v) :: r) false
  | hit {k : Key} {v u : V} {r : List (Key × V)} {p q : PyData} {b : Bool} : valV ls k = some u → Dp K H v p → Dp K H u q → p.plain = true → q.plain = true → p.depth ≤ 60 → KvE K H ls r b → KvE K H ls ((k, v) :: r) (PyData.eqv p q && b)
theorem KvE.hits {X : Cx} {pins : List (Addr × Obj)} {σ : L2.St} {H : Hp} {s : Shared} {A : Around} (I : Inv X pins σ H s) (hu : A.units + 60 < cLine) {ls : List (Key × V)} {vb : List (Key × Value)} (rb : KV ls vb) {ks : List (Key × V)} {b : Bool} (h : KvE X.K H ls ks b) :
    ∀ {va : List (Key × Value)}, KV ks va → PySem.W.KeqHits A s vb va b := by
  induction h with
  | nil =>
    intro va ra
    cases ra
    exact .nil
  | @miss k v r hm =>
    intro va ra
    cases ra with
    | @cons _ q _ qs h1 h2 =>
      obtain ⟨k2, v2⟩ := q
      obtain ⟨e, _⟩ := h1
      cases (show k = k2 from e)
      exact .miss (RelO.none_of (by rw [← hm]; exact rb.val k))
  | @hit k v u r p q b hs hp hq pp pq hd _ ih =>
    intro va ra
    cases ra with
    | @cons _ q2 _ qs h1 h2 =>
      obtain ⟨k2, v2⟩ := q2
      obtain ⟨e, rv⟩ := h1
      cases (show k = k2 from e)
      have rr : RelO (some u) (valueAt vb k) := by rw [← hs]; exact rb.val k
      obtain ⟨y, hy, ry⟩ := rr.some_of
      obtain ⟨as, r1⟩ := Dp.reads I p v v2 hp rv
      obtain ⟨bs, r2⟩ := Dp.reads I q u y hq ry
      exact .hit hy (SeqAt.eqAt_plain p q A s v2 y as bs r1 r2 pp pq (by have := Nat.min_le_left p.depth q.depth; omega)) (ih h2)
def rEqDic (K : Frag) (neg : Bool) : R2 := fun x y H Q => ∃ a b ks ls r, x = .ref a ∧ y = .ref b ∧ Rd H a (.dK ks) ∧ Rd H b (.dK ls) ∧ (ks.length = ls.length → KvE K H ls ks r) ∧ Q (.bl (neg != (ks.length == ls.length && r))) H
section
variable {X : Cx} {K : Frag}
theorem op_eqDic (hu : X.A.units + 64 < cLine) : OpR X (compareOp .Eq) (rEqDic X.K false) := by
  intro pins s σ H x y v u Q I rx ry h
  obtain ⟨a, b, ks, ls, r, rfl, rfl, ea, eb, hk, q⟩ := h
  cases (show v = Value.ref a from rx)
  cases (show u = Value.ref b from ry)
  obtain ⟨_, ya, va, ra, da⟩ := dk_rd I.hok ea
  obtain ⟨_, yb, vb, rb, db⟩ := dk_rd I.hok eb
  rw [bne_ff] at q
  refine PySem.W.keq_eq (knd := mixKind X.prog X.w) (r := r) ya yb da db (by omega) (fun e => (hk (by rw [ra.length, rb.length]; exact e)).hits I (by show X.A.units + 1 + 60 < cLine; omega) rb ra) ⟨.bl _, H, I, rfl, ?_⟩
  rw [← ra.length, ← rb.length]
  exact q
theorem op_neDic (hu : X.A.units + 64 < cLine) : OpR X (compareOp .NotEq) (rEqDic X.K true) := by
  intro pins s σ H x y v u Q I rx ry h
  obtain ⟨a, b, ks, ls, r, rfl, rfl, ea, eb, hk, q⟩ := h
  cases (show v = Value.ref a from rx)
  cases (show u = Value.ref b from ry)
  obtain ⟨_, ya, va, ra, da⟩ := dk_rd I.hok ea
  obtain ⟨_, yb, vb, rb, db⟩ := dk_rd I.hok eb
  rw [bne_tt] at q
  refine PySem.W.keq_ne (knd := mixKind X.prog X.w) (r := r) ya yb da db (by omega) (fun e => (hk (by rw [ra.length, rb.length]; exact e)).hits I (by show X.A.units + 1 + 60 < cLine; omega) rb ra) ⟨.bl _, H, I, rfl, ?_⟩
  rw [← ra.length, ← rb.length]
  exact q
def rEqV2 (K : Frag) : R2 := fun x y H Q => rEqU K x y H Q ∨ rEqDic K false x y H Q
def rNeV2 (K : Frag) : R2 := fun x y H Q => rNeU K x y H Q ∨ rEqDic K true x y H Q
theorem op_eqV2 (hK : X.K = K) (hu : X.A.units + 64 < cLine) : OpR X (compareOp .Eq) (rEqV2 K) := hK ▸ (op_eqU hu).or (op_eqDic hu)
theorem op_neV2 (hK : X.K = K) (hu : X.A.units + 64 < cLine) : OpR X (compareOp .NotEq) (rNeV2 K) := hK ▸ (op_neU hu).or (op_neDic hu)
end
/-- two dicts of plain data compared -/
def kvEq (m : List (Key × Dt)) : List (Key × Dt) → Option Bool
  | [] => some true
  | p :: l => match valD m p.1 with
    | none => some false
    | some e => match p.2.pd, e.pd, kvEq m l with
      | some a, some b, some r => if a.depth ≤ 60 then some (PyData.eqv a b && r) else none
      | _, _, _ => none
def eqDic (l m : List (Key × Dt)) : Option Bool := if l.length = m.length then kvEq m l else some false
section
variable {K : Frag} {W : WX} {σ σ1 : L2.St} {ρ ρ1 : En} {F F1 H H1 : Hp} {x : PX} {P : Dt → En → Prop}
theorem kvE_of (e : Ex F H) {m : List (Key × Dt)} {ls : List (Key × V)} (rm : RepKV K F m ls) : ∀ {l : List (Key × Dt)} {ks : List (Key × V)} {b : Bool}, RepKV K F l ks → kvEq m l = some b → KvE K H ls ks b
  | [], _, b, h, g => by
    cases h
    cases g
    exact .nil
  | p :: l, _, b, ⟨v, r, h1, h2, h3⟩, g => by
    subst h1
    unfold kvEq at g
    cases e1 : valD m p.1 with
    | none =>
      rw [e1] at g
      cases g
      exact .miss ((rm.val p.1).2 e1)
    | some z =>
      rw [e1] at g
      obtain ⟨u, hu1, hu2⟩ := (rm.val p.1).1 z e1
      cases e2 : p.2.pd with
      | none => simp only [e2] at g; cases g
      | some pa =>
        cases e3 : z.pd with
        | none => simp only [e2, e3] at g; cases g
        | some pb =>
          cases e4 : kvEq m l with
          | none => simp only [e2, e3, e4] at g; cases g
          | some rb =>
            simp only [e2, e3, e4] at g
            by_cases hd : pa.depth ≤ 60
            · rw [if_pos hd] at g
              cases g
              exact .hit hu1 ((h2.mono (Xe.of e)).dp e2) ((hu2.mono (Xe.of e)).dp e3) (Dt.pd_plain e2) (Dt.pd_plain e3) hd (kvE_of e rm h3 e4)
            · rw [if_neg hd] at g
              cases g
theorem rEqDic_of {neg : Bool} {a b : Dt} {l m : List (Key × Dt)} {r : Bool} (ha : DicAt ρ a l) (hb : DicAt ρ b m) (h : eqDic l m = some r) (p : P (.bl (neg != r)) ρ) : OpD K (rEqDic K neg) a b ρ P := fun σ F H Q u v s r1 r2 q => by
  obtain ⟨a, ks, rfl, h1, h2⟩ := ha.at_ s r1
  obtain ⟨b, ls, rfl, h3, h4⟩ := hb.at_ s r2
  unfold eqDic at h
  by_cases e : l.length = m.length
  · rw [if_pos e] at h
    refine ⟨a, b, ks, ls, r, rfl, rfl, h1, h3, fun _ => kvE_of s.ex h4 h2 h, ?_⟩
    have e2 : (ks.length == ls.length && r) = r := by rw [h2.len, h4.len, e]; simp
    rw [e2]
    exact q _ ρ _ F H p (Step.refl s) rfl
  · rw [if_neg e] at h
    cases h
    refine ⟨a, b, ks, ls, true, rfl, rfl, h1, h3, fun z => absurd (by rw [h2.len, h4.len] at z; exact z) e, ?_⟩
    have e2 : (ks.length == ls.length && true) = false := by rw [h2.len, h4.len]; simpa using e
    rw [e2]
    exact q _ ρ _ F H p (Step.refl s) rfl
theorem v_eq {d e : Dt} (h : OpD K (rEqU K) d e ρ P) : OpD K (rEqV2 K) d e ρ P := fun σ F H Q u v s r1 r2 q => .inl (h σ F H Q u v s r1 r2 q)
theorem v_ne {d e : Dt} (h : OpD K (rNeU K) d e ρ P) : OpD K (rNeV2 K) d e ρ P := fun σ F H Q u v s r1 r2 q => .inl (h σ F H Q u v s r1 r2 q)
theorem o_eqDic {a b : Dt} {l m : List (Key × Dt)} {r : Bool} (ha : DicAt ρ a l) (hb : DicAt ρ b m) (h : eqDic l m = some r) (p : P (.bl r) ρ) : OpD K (rEqV2 K) a b ρ P := fun σ F H Q u v s r1 r2 q => .inr (rEqDic_of (neg := false) ha hb h (by rw [bne_ff]; exact p) σ F H Q u v s r1 r2 q)
theorem o_neDic {a b : Dt} {l m : List (Key × Dt)} {r : Bool} (ha : DicAt ρ a l) (hb : DicAt ρ b m) (h : eqDic l m = some r) (p : P (.bl (!r)) ρ) : OpD K (rNeV2 K) a b ρ P := fun σ F H Q u v s r1 r2 q => .inr (rEqDic_of (neg := true) ha hb h (by rw [bne_tt]; exact p) σ F H Q u v s r1 r2 q)
end
/-! ### operators of own classes, what is raised at the caller's slots -/
def OpRS (X : Cx) (σ : L2.St) (f : Value → Value → Sem Value) (r : R2) : Prop :=
  ∀ (pins : List (Addr × Obj)) (s : Shared) (H : Hp) (x y : V) (v u : Value) (Q : VK), Inv X pins σ H s → RelV x v → RelV y u → r x y H Q → wpAny (model X.prog X.w) X.A (f v u) (EP X pins σ Q) X.xe s
section
variable {X : Cx} {K : Frag} {C g : Addr} {k : Nat} {fd : FuncData} {ps : List Str} {sp : Sp} {W : WX}
theorem OpR.at_ {f : Value → Value → Sem Value} {r : R2} (h : OpR X f r) (σ : L2.St) : OpRS X σ f r := fun pins s H x y v u Q I rx ry q => h pins s σ H x y v u Q I rx ry q
theorem OpRS.or {σ : L2.St} {f : Value → Value → Sem Value} {r r' : R2} (h : OpRS X σ f r) (h' : OpRS X σ f r') : OpRS X σ f (fun x y H Q => r x y H Q ∨ r' x y H Q) := fun pins s H x y v u Q I rx ry q => q.elim (h pins s H x y v u Q I rx ry) (h' pins s H x y v u Q I rx ry)
/-- what a built-in type has for the operator nm -/
structure BiT (T nm : String) : Prop where
  fl : ∃ r, fillsNumberSlot (.type T) nm = pure r
  lk : ∃ r, typeLookup (.type T) (dunderR nm) = pure r
end
/-! ### by data -/
section
variable {K : Frag} {W : WX} {σ σ1 : L2.St} {ρ ρ1 : En} {F F1 H H1 : Hp} {x : PX} {P : Dt → En → Prop} {C : Addr} {S : Fsp}
/-- the type of data -/
def TyD (K : Frag) (d : Dt) (t : Value) : Prop := (∃ T, d.tyN = some T ∧ t = .type T) ∨ ∃ C fs ds, d = .ins C fs ds ∧ ClC K C ∧ t = .ref C
end
/-! types and operators -/
end DL
set_option Elab.async false
set_option linter.all false
set_option maxRecDepth 100000
set_option autoImplicit false
set_option maxHeartbeats 4000000
/-! lists, texts, sorting -/
namespace DL
open PySem L2 Evl PyProof.Rows
/-- a list in hand; a list or a tuple -/
def LstAt (ρ : En) (e : Dt) (ds : List Dt) : Prop := e = .lst ds ∨ ∃ k b, e = .own k ∧ ρ[k]? = some (.ow b (.lst ds))
section
variable {K : Frag} {W : WX} {σ σ1 : L2.St} {ρ ρ1 : En} {F F1 H H1 : Hp} {x : PX} {P : Dt → En → Prop} {ds es : List Dt}
theorem LstAt.at_ {e : Dt} {u : V} (d : LstAt ρ e ds) (s : Sym K F H σ ρ) (r : RepV K F σ e u) : ∃ a xs, u = .ref a ∧ SqL K H a xs ∧ RepL K F ds xs := by
  rcases d with rfl | ⟨k, b, rfl, hk⟩
  · have h : Rep K F (.lst ds) u := r
    unfold Rep at h
    obtain ⟨a, xs, rfl, h1, h2⟩ := h
    exact ⟨a, xs, rfl, ex_l s.ex h1, h2⟩
  · obtain ⟨a, e1, e2, xs, h1, h2⟩ := s.ow k b _ hk
    have eu : u = .ref a := by
      have z : σ[k]? = some (some u) := r
      rw [e1] at z
      exact (Option.some.inj (Option.some.inj z)).symm
    exact ⟨a, xs, eu, sq_of h1, h2⟩
/-! ### list + list -/
def rCatL (K : Frag) : R2 := fun x y H Q => ∃ l b xs zs, x = .ref l ∧ y = .ref b ∧ SqL K H l xs ∧ SqL K H b zs ∧ xs.length + zs.length ≤ sizeLine ∧ ∀ p, H p = none → Q (.ref p) (upd H p (.lst (xs ++ zs)))
theorem op_catL {X : Cx} : OpR X (binaryOp .Add) (rCatL X.K) := by
  intro pins s σ H x y v u Q I rx ry h
  obtain ⟨l, b, xs, zs, rfl, rfl, h1, h2, hz, q⟩ := h
  cases (show v = Value.ref l from rx)
  cases (show u = Value.ref b from ry)
  obtain ⟨i1, r1, p1, _⟩ := I.list h1
  obtain ⟨i2, r2, p2, _⟩ := I.list h2
  obtain ⟨⟨c1, d1, t1, sl1⟩, o1, e1, n1, f1⟩ := id p1.isList
  obtain ⟨⟨c2, d2, t2, sl2⟩, o2, e2, n2, f2⟩ := id p2.isList
  simp only at e1 f1 e2 f2
  subst e1 f1 e2 f2
  have l1 := r1.length
  have l2 := r2.length
  refine concat_meets ⟨_, o1, rfl⟩ ⟨_, o2, rfl⟩ noFill_list_add seq_list_add PySem.F.slot_list_add PySem.F.entry_list_add (PySem.F.args_list_add_2 _ _) (list_addW l b i1.toArray i2.toArray n1 n2 d1 d2 sl1 sl2 (by simp; omega)) ⟨o1, o2, ?_⟩
  rw [show i1.toArray ++ i2.toArray = (i1 ++ i2).toArray by simp]
  exact ⟨.ref _, _, I.lnew (t' := s.toks) (r1.append r2) (by rw [List.length_append]; omega), rfl, q _ I.fresh⟩
def rAddV (K : Frag) : R2 := fun x y H Q => rAddU K x y H Q ∨ rCatL K x y H Q
theorem op_addV {X : Cx} (hK : X.K = K) : OpR X (binaryOp .Add) (rAddV K) := hK ▸ op_addU.or op_catL
theorem v_add {d e : Dt} (h : OpD K (rAddU K) d e ρ P) : OpD K (rAddV K) d e ρ P := fun σ F H Q u v s r1 r2 q => .inl (h σ F H Q u v s r1 r2 q)
/-- an operation that makes a new object -/
def OpN (K : Frag) (r : R2) (d e : Dt) (ρ : En) (P : Dt → En → Prop) : Prop :=
  ∀ (σ : L2.St) (F H : Hp) (Q : VK) (u v : V), Sym K F H σ ρ → RepV K F σ d u → RepV K F σ e v → (∀ d' ρ' p o F' H', P d' ρ' → Step K σ ρ F H σ ρ' F' H' → H' p = none → Own K F' (upd H' p o) p d' → Q (.ref p) (upd H' p o)) → r u v H Q
theorem o_new {r : R2} {d e : Dt} (h : OpN K r d e ρ P) : OpD K r d e ρ P := fun σ F H Q u v s r1 r2 q =>
  h σ F H Q u v s r1 r2 fun d' ρ' p o F' H' pp st hp ho => q d' ρ' (.ref p) _ _ pp (st.trans (Step.grow st.sym (Ex.new hp))) (rep_own ho hp st.sym.ex).toV
theorem on_cat {d e : Dt} (hd : LstAt ρ d ds) (he : LstAt ρ e es) (hl : ds.length + es.length ≤ 100000) (p : P (.lst (ds ++ es)) ρ) : OpN K (rAddV K) d e ρ P := fun σ F H Q u v s r1 r2 q => by
  obtain ⟨a, xs, rfl, h1, h2⟩ := hd.at_ s r1
  obtain ⟨b, ys, rfl, h3, h4⟩ := he.at_ s r2
  refine .inr ⟨a, b, xs, ys, rfl, rfl, h1, h3, ?_, fun z hz => q _ ρ z _ F H p (Step.refl s) hz ⟨_, upd_same, h2.app h4⟩⟩
  rw [h2.length, h4.length]
  exact Nat.le_trans hl (by decide)
theorem o_cat {d e : Dt} (hd : LstAt ρ d ds) (he : LstAt ρ e es) (hl : ds.length + es.length ≤ 100000) (p : P (.lst (ds ++ es)) ρ) : OpD K (rAddV K) d e ρ P := o_new (on_cat hd he hl p)
/-! ### list(x), tuple(x) -/
/-! ### slices of lists -/
/-! ### sorted texts -/
def leS (a b : Str) : Bool := !decide (b.cps.toList < a.cps.toList)
def sortS (xs : List Str) : List Str := xs.mergeSort leS
def strsD (xs : List Str) : List Dt := xs.map .str
/-! ### str(x), join, f-strings -/
/-! ### methods that change a slot's own list -/
end
end DL
set_option Elab.async false
set_option linter.all false
set_option maxRecDepth 100000
set_option autoImplicit false
set_option maxHeartbeats 4000000
/-! what is known of methods; displays; f-strings; a comprehension kept -/
namespace DL
open PySem L2 Evl PyProof.Rows
section
variable {X : Cx} {K : Frag} {W : WX} {k : Nat} {C : Addr} {x m : Str} {ps : List Str} {sp : Sp} {dvs : List V} {p pos apos : Pos} {e o : Expr} {es : List Expr} {ta : TE} {t : TA}
end
section
variable {K : Frag} {W : WX} {σ σ1 : L2.St} {ρ ρ1 : En} {F F1 H H1 : Hp} {x : PX} {P : Dt → En → Prop}
/-! ### {k: v, ..} -/
/-! ### f-strings -/
end
end DL
set_option Elab.async false
set_option linter.all false
set_option maxRecDepth 100000
set_option autoImplicit false
set_option maxHeartbeats 4000000
/-! defs that run where no repr is under way: repr of lists and tuples -/
namespace DL
open PySem L2 Evl PyProof.Rows
/-- a promise that is kept where nothing is being shown -/
structure FnQ (P : Program) (w : World) (K : Frag) (mg : Str → Option Value) (base : Heap) (k : Nat) (f : Addr) (fd : FuncData) (ps : List Str) (sp : Sp) : Prop where
  len : ∀ vs H Q E, sp vs H Q E → vs.length = ps.length
  run : ∀ (A : Around) (outer : List PySem.Env) (s : Shared) (H : Hp) (args : Args) (us : List Value) (vs : List V) (Q : VK) (E : XK), A.guards = some [] → Room k A → Env0 P w K mg base A outer s H → BindsTo s fd args (ps.zip us) → Vals vs us → sp vs H Q E →
    codeAny (model P w) A (.call (.ref f) args) (CR (L2.CX P w) outer P w H s Q E) s
section
variable {P : Program} {w : World} {K : Frag} {mg : Str → Option Value} {base : Heap} {x qual : Str} {params : Arguments} {body : List Stmt} {scope : Scope} {dvs : List V} {kws : List (Str × V)} {f : Addr} {fd : FuncData}
end
section
variable {X : Cx} {k : Nat} {f : Addr} {fd : FuncData} {ps : List Str} {sp : Sp} {W : WX} {x : Str} {p pos : Pos} {e : Expr} {es : List Expr} {t : TA}
/-! ### repr -/
end
section
variable {K : Frag} {W : WX} {σ σ1 : L2.St} {ρ ρ1 : En} {F F1 H H1 : Hp} {x : PX} {P : Dt → En → Prop}
end
section
variable {P : Program} {w : World} {K : Frag} {mg : Str → Option Value} {base : Heap} {x qual : Str} {params : Arguments} {body : List Stmt} {scope : Scope} {dvs : List V} {kws : List (Str × V)} {f : Addr} {fd : FuncData}
end
/-! ### the law's end -/
end DL
namespace DL
open PySem L2 Evl PyProof.Rows
section
variable {X : Cx} {K : Frag} {e : Expr} {te : TE} {p apos cpos pos : Pos}
end
section
variable {K : Frag} {W : WX} {σ σ1 : L2.St} {ρ ρ1 : En} {F F1 H H1 : Hp} {x : PX} {P : Dt → En → Prop}
end
end DL
set_option Elab.async false
set_option linter.all false
set_option maxRecDepth 100000
set_option autoImplicit false
set_option maxHeartbeats 4000000
/-! comprehensions by a map and a filter -/
namespace DL
open PySem L2 Evl PyProof.Rows
section
variable {K : Frag} {W : WX} {ρ : En} {x : PX}
theorem EvD.mono {te : TE} {P Q : Dt → En → Prop} (h : EvD K W te ρ x P) (m : ∀ d ρ', P d ρ' → Q d ρ') : EvD K W te ρ x Q := fun σ F H R s q w =>
  h σ F H R s (fun d ρ' v F' H' p => q d ρ' v F' H' (m d ρ' p)) w
theorem EvN.mono {te : TE} {P Q : Dt → En → Prop} (h : EvN K W te ρ x P) (m : ∀ d ρ', P d ρ' → Q d ρ') : EvN K W te ρ x Q := fun σ F H R s q w =>
  h σ F H R s (fun d ρ' v o F' H' p => q d ρ' v o F' H' (m d ρ' p)) w
theorem TtD.mono {tt : TT} {P Q : Bool → En → Prop} (h : TtD K W tt ρ x P) (m : ∀ b ρ', P b ρ' → Q b ρ') : TtD K W tt ρ x Q := fun σ F H R s q w =>
  h σ F H R s (fun d ρ' F' H' p => q d ρ' F' H' (m d ρ' p)) w
theorem TgD.mono {vo : Option (List Nat)} {g : TG} {z : Dt} {P Q : En → Prop} (h : TgD K vo g z ρ P) (m : ∀ ρ', P ρ' → Q ρ') : TgD K vo g z ρ Q := fun σ F H R v s r q =>
  h σ F H R v s r fun ρ' σ' p => q ρ' σ' (m ρ' p)
theorem ItD.mono {wi : TI} {P Q : List Dt → En → Prop} (h : ItD K W wi ρ x P) (m : ∀ zs ρ', P zs ρ' → Q zs ρ') : ItD K W wi ρ x Q := fun σ F H R s q w =>
  h σ F H R s (fun zs ρ' J F' H' p => q zs ρ' J F' H' (m zs ρ' p)) w
theorem ArD.mono {ta : TA} {P Q : List Dt → En → Prop} (h : ArD K W ta ρ x P) (m : ∀ d ρ', P d ρ' → Q d ρ') : ArD K W ta ρ x Q := fun σ F H R s q w =>
  h σ F H R s (fun d ρ' v F' H' p => q d ρ' v F' H' (m d ρ' p)) w
/-- a call's new object, shared at once -/
theorem c_new {r : List V → Hp → VK → Prop} {ds : List Dt} {P : Dt → En → Prop} (h : CaN K r ds ρ P) : CaD K r ds ρ P := fun σ F H Q us s r q =>
  h σ F H Q us s r fun d ρ' p o F' H' pp st hp ho => q d ρ' (.ref p) _ _ pp (st.trans (Step.grow st.sym (Ex.new hp))) (rep_own ho hp st.sym.ex).toV
/-- a slot that holds nothing of its own -/
def slS : Option Dt → Sl
  | none => .no
  | some d => .sh d
/-! ### the values of a dict, plainly -/
/-- a dict whose keys are texts -/
def kvL (m : List (Str × Dt)) : List (Key × Dt) := m.map fun p => (Sum.inr p.1, p.2)
end
end DL
set_option Elab.async false
set_option linter.all false
set_option maxRecDepth 100000
set_option autoImplicit false
set_option maxHeartbeats 4000000
/-! zip of a tuple with a list; enumerate of a tuple -/
namespace DL
open PySem PySem.Spec PyProof.Rows L2
/-! ### enumerate -/
end DL
set_option Elab.async false
set_option linter.all false
set_option maxRecDepth 100000
set_option autoImplicit false
set_option maxHeartbeats 4000000
/-! zip, enumerate, all, split, written tuples and dicts, by data -/
namespace DL
open PySem L2 Evl PyProof.Rows
section
variable {K : Frag} {W : WX} {ρ : En} {x : PX} {F : Hp}
/-! ### enumerate -/
/-! ### all, any -/
/-! ### written tuples of texts -/
/-! ### x.split(sep) -/
/-! ### x in an own list of plain data -/
/-! ### written dicts -/
end
/-! ### keys that a written dict does not have -/
/-! ### properties -/
/-- the getter of a property -/
def pAd (K : Frag) (x m : Str) : Addr := match PySem.W.recIn K (He.ma K (He.ga K x) m) "property" with
  | some (.ref g :: _) => g
  | _ => 0
def fnA (K : Frag) (a : Addr) : He.FnW := match K.lookup a with
  | some ⟨_, _, .func fd, _⟩ => some (fd.name, fd.qualname, fd.params, fd.body, fd.scope, fd.globals, fd.closure, fd.builtins)
  | _ => none
/-! ### the head, with written dicts and properties -/
abbrev AlF : Type := (He.AlD × Bool) × List (Option (List (Option (Str × Int)))) × List He.FnW
def SaysF (w : World) (fa : List He.Fa) (fn : List He.DefD) (ex : List (Frag → Bool)) (dc : List (Str × List Str)) (pr : List (Str × Str × He.DefD)) (K : Frag) : Prop :=
  SaysE fa fn ex K ∧ (dc.map fun q => He.dicW K (He.ga K q.1)) = (dc.map fun q => some (He.keysIn w.params q.2)) ∧ (pr.map fun q => fnA K (pAd K q.1 q.2.1)) = pr.map fun q => q.2.2.val
section
variable {w : World} {fa : List He.Fa} {fn : List He.DefD} {ex : List (Frag → Bool)} {dc : List (Str × List Str)} {pr : List (Str × Str × He.DefD)} {K : Frag}
theorem SaysF.dic (c : SaysF w fa fn ex dc pr K) (i : Nat) {q : Str × List Str} (h : dc[i]? = some q := by rfl) : ∃ es n, KDict K w (He.ga K q.1) es n := by
  have e := congrArg (fun l => l[i]?) c.2.1
  simp only [List.getElem?_map, h] at e
  exact He.dicW_ok (Option.some.inj e)
end
end DL
/-! ### the same, where the frozen part is asked at written addresses -/
namespace DL
open PySem L2 Evl
def obsL (as : List Addr) (fa : List He.Fa) (fn : List He.DefD) (ex : List (Frag → Bool)) (dc : List (Str × List Str)) (pr : List (Str × Str × He.DefD)) (g : Addr → Option Obj) : AlF :=
  ((He.obsD fa fn (He.frG g as), ex.all fun e => e (He.frG g as)), dc.map (fun q => He.dicW (He.frG g as) (He.ga (He.frG g as) q.1)), pr.map fun q => fnA (He.frG g as) (pAd (He.frG g as) q.1 q.2.1))
def hookL (as : List Addr) (fa : List He.Fa) (fn : List He.DefD) (ex : List (Frag → Bool)) (dc : List (Str × List Str)) (pr : List (Str × Str × He.DefD)) : PySem.W.Hook where
  α := AlF
  obs := fun s => obsL as fa fn ex dc pr s.heap.get?
  val := fun w => ((He.valD fn, true), dc.map (fun q : Str × List Str => some (He.keysIn w.params q.2)), pr.map fun q : Str × Str × He.DefD => q.2.2.val)
  says := fun w h => ∃ K : PySem.W.Frag, K.In h ∧ SaysF w fa fn ex dc pr K
  of := fun _ _ e => ⟨_, He.frG_in, ⟨congrArg Prod.fst (congrArg Prod.fst e), congrArg Prod.snd (congrArg Prod.fst e)⟩, congrArg Prod.fst (congrArg Prod.snd e), congrArg Prod.snd (congrArg Prod.snd e)⟩
  keeps := fun _ _ _ ⟨K, hK, c⟩ k => ⟨K, PySem.W.Frag.In.keeps hK k, c⟩
theorem obsL_eq {as : List Addr} {fa : List He.Fa} {fn : List He.DefD} {ex : List (Frag → Bool)} {dc : List (Str × List Str)} {pr : List (Str × Str × He.DefD)} {g : Addr → Option Obj} {s : Shared} (h : ∀ a, g a = s.heap.get? a) : obsL as fa fn ex dc pr g = (hookL as fa fn ex dc pr).obs s := by
  have e : g = s.heap.get? := funext h
  rw [e] <;> rfl
end DL
set_option Elab.async false
set_option linter.all false
set_option maxRecDepth 100000
set_option autoImplicit false
set_option maxHeartbeats 4000000
/-! calls with keywords -/
namespace DL
open PySem L2 Evl PyProof.Rows
section
variable {X : Cx} {CX : CXT} {k n : Nat} {f C : Addr} {fd : FuncData} {ps ks : List Str} {sp : Sp} {E : L2.St → XK} {x : Str} {p pos : Pos} {e : Expr} {es : List Expr} {kws : List Keyword} {t tk : TA} {g : List Value → List Value → List Value} {gV : List V → List V → List V}
end
section
variable {K : Frag} {W : WX} {ρ : En} {x : PX} {C : Addr} {P : Dt → En → Prop}
end
end DL
set_option Elab.async false
set_option linter.all false
set_option maxRecDepth 100000
set_option autoImplicit false
set_option maxHeartbeats 4000000
/-! a field's dict, filled in a loop -/
namespace DL
open PySem L2 Evl PyProof.Rows
/-- nothing but going on, or raising -/
def Pd.only (nx : En → Prop) (ex : PX) : Pd := ⟨nx, fun _ _ => False, fun _ _ => False, fun _ => False, fun _ => False, ex⟩
section
variable {K : Frag} {W : WX} {σ σ1 : L2.St} {ρ ρ1 : En} {F F1 H H1 : Hp}
theorem RepL.split : ∀ {ds es : List Dt} {vs : List V}, RepL K F (ds ++ es) vs → ∃ as bs, vs = as ++ bs ∧ RepL K F ds as ∧ RepL K F es bs
  | [], es, vs, h => ⟨[], vs, rfl, repL_nil, h⟩
  | d :: ds, es, vs, h => by
    rw [List.cons_append] at h
    unfold RepL at h
    obtain ⟨v, ws, rfl, h1, h2⟩ := h
    obtain ⟨as, bs, rfl, h3, h4⟩ := RepL.split h2
    exact ⟨v :: as, bs, rfl, repL_cons h1 h3, h4⟩
end
end DL
set_option Elab.async false
set_option linter.all false
set_option maxRecDepth 100000
set_option autoImplicit false
set_option maxHeartbeats 4000000
/-! written tuples as terms; classes made with keywords; addresses of defaults -/
namespace DL
open PySem L2 Evl PyProof.Rows
end DL
set_option Elab.async false
set_option linter.all false
set_option maxRecDepth 100000
set_option autoImplicit false
set_option maxHeartbeats 4000000
/-! object's __ne__ is the class's: a fact and its check -/
namespace DL
open PySem L2 Evl PyProof.Rows
end DL
set_option Elab.async false
set_option linter.all false
set_option maxRecDepth 100000
set_option autoImplicit false
set_option maxHeartbeats 4000000
namespace T
open PySem L2 PyProof.Rows DL
def top (i : Nat) : Stmt := PySem.Challenge.pw_partlabels_k11_errors.main.body.getD i (.Pass ⟨0, 0, 0, 0⟩)
abbrev s_BadLineu_initu : Stmt := inClass (top 3) 0
abbrev s_BadNameu_initu : Stmt := inClass (top 4) 0
abbrev s_UnknownNameu_initu : Stmt := inClass (top 5) 0
abbrev s_BadNumberu_initu : Stmt := inClass (top 6) 0
abbrev s_BadCountu_initu : Stmt := inClass (top 7) 0
abbrev s_BadDeedu_initu : Stmt := inClass (top 8) 0
abbrev s_BadHeadu_initu : Stmt := inClass (top 11) 0
abbrev s_BadShownu_initu : Stmt := inClass (top 12) 0
abbrev s_BadChangeu_initu : Stmt := inClass (top 14) 0
abbrev s_BadTimesu_initu : Stmt := inClass (top 15) 0
abbrev s_BadWeightu_initu : Stmt := inClass (top 16) 0
abbrev s_NotDocumentu_initu : Stmt := inClass (top 17) 0
abbrev s_NoDocumentu_initu : Stmt := inClass (top 18) 0
abbrev s_NoLabelu_initu : Stmt := inClass (top 19) 0
abbrev s_BadKeyu_initu : Stmt := inClass (top 21) 0
abbrev s_KeyTakenu_initu : Stmt := inClass (top 22) 0
abbrev s_UnknownKeyu_initu : Stmt := inClass (top 23) 0
abbrev s_NotLetu_initu : Stmt := inClass (top 24) 0
abbrev s_law_tape : Stmt := top 27
abbrev s_law_pick : Stmt := top 28
abbrev s_law_thing : Stmt := top 29
abbrev s_law_told : Stmt := top 30
abbrev s_law_named : Stmt := top 31
abbrev s_law_kinds : Stmt := top 32
abbrev s_law : Stmt := top 33
theorem sc_BadLineu_initu : FnScope ["self", "line"] ["self", "line"] (defScope s_BadLineu_initu) := ⟨rfl, rfl, rfl, by decide +kernel, rfl, by decide +kernel, by decide +kernel⟩
theorem sc_BadNameu_initu : FnScope ["self", "name"] ["self", "name"] (defScope s_BadNameu_initu) := ⟨rfl, rfl, rfl, by decide +kernel, rfl, by decide +kernel, by decide +kernel⟩
theorem sc_UnknownNameu_initu : FnScope ["self", "name"] ["self", "name"] (defScope s_UnknownNameu_initu) := ⟨rfl, rfl, rfl, by decide +kernel, rfl, by decide +kernel, by decide +kernel⟩
theorem sc_BadNumberu_initu : FnScope ["self", "number"] ["self", "number"] (defScope s_BadNumberu_initu) := ⟨rfl, rfl, rfl, by decide +kernel, rfl, by decide +kernel, by decide +kernel⟩
theorem sc_BadCountu_initu : FnScope ["self", "count"] ["self", "count"] (defScope s_BadCountu_initu) := ⟨rfl, rfl, rfl, by decide +kernel, rfl, by decide +kernel, by decide +kernel⟩
theorem sc_BadDeedu_initu : FnScope ["self", "deed"] ["self", "deed"] (defScope s_BadDeedu_initu) := ⟨rfl, rfl, rfl, by decide +kernel, rfl, by decide +kernel, by decide +kernel⟩
theorem sc_BadHeadu_initu : FnScope ["self", "value"] ["self", "value"] (defScope s_BadHeadu_initu) := ⟨rfl, rfl, rfl, by decide +kernel, rfl, by decide +kernel, by decide +kernel⟩
theorem sc_BadShownu_initu : FnScope ["self", "index"] ["self", "index"] (defScope s_BadShownu_initu) := ⟨rfl, rfl, rfl, by decide +kernel, rfl, by decide +kernel, by decide +kernel⟩
theorem sc_BadChangeu_initu : FnScope ["self", "counter"] ["self", "counter"] (defScope s_BadChangeu_initu) := ⟨rfl, rfl, rfl, by decide +kernel, rfl, by decide +kernel, by decide +kernel⟩
theorem sc_BadTimesu_initu : FnScope ["self", "times"] ["self", "times"] (defScope s_BadTimesu_initu) := ⟨rfl, rfl, rfl, by decide +kernel, rfl, by decide +kernel, by decide +kernel⟩
theorem sc_BadWeightu_initu : FnScope ["self", "counter"] ["self", "counter"] (defScope s_BadWeightu_initu) := ⟨rfl, rfl, rfl, by decide +kernel, rfl, by decide +kernel, by decide +kernel⟩
theorem sc_NotDocumentu_initu : FnScope ["self", "index"] ["self", "index"] (defScope s_NotDocumentu_initu) := ⟨rfl, rfl, rfl, by decide +kernel, rfl, by decide +kernel, by decide +kernel⟩
theorem sc_NoDocumentu_initu : FnScope ["self", "kind"] ["self", "kind"] (defScope s_NoDocumentu_initu) := ⟨rfl, rfl, rfl, by decide +kernel, rfl, by decide +kernel, by decide +kernel⟩
theorem sc_NoLabelu_initu : FnScope ["self", "kind"] ["self", "kind"] (defScope s_NoLabelu_initu) := ⟨rfl, rfl, rfl, by decide +kernel, rfl, by decide +kernel, by decide +kernel⟩
theorem sc_BadKeyu_initu : FnScope ["self", "key"] ["self", "key"] (defScope s_BadKeyu_initu) := ⟨rfl, rfl, rfl, by decide +kernel, rfl, by decide +kernel, by decide +kernel⟩
theorem sc_KeyTakenu_initu : FnScope ["self", "key"] ["self", "key"] (defScope s_KeyTakenu_initu) := ⟨rfl, rfl, rfl, by decide +kernel, rfl, by decide +kernel, by decide +kernel⟩
theorem sc_UnknownKeyu_initu : FnScope ["self", "key"] ["self", "key"] (defScope s_UnknownKeyu_initu) := ⟨rfl, rfl, rfl, by decide +kernel, rfl, by decide +kernel, by decide +kernel⟩
theorem sc_NotLetu_initu : FnScope ["self", "kind", "other"] ["self", "kind", "other"] (defScope s_NotLetu_initu) := ⟨rfl, rfl, rfl, by decide +kernel, rfl, by decide +kernel, by decide +kernel⟩
theorem sc_law_tape : FnScope ["_law_script", "_law_k", "_law_cell"] ["_law_script", "_law_k"] (defScope s_law_tape) := ⟨rfl, rfl, rfl, by decide +kernel, rfl, by decide +kernel, by decide +kernel⟩
theorem sc_law_pick : FnScope ["_law_tape_here", "_law_many", "_law_digit", "_law_mixed"] ["_law_tape_here", "_law_many"] (defScope s_law_pick) := ⟨rfl, rfl, rfl, by decide +kernel, rfl, by decide +kernel, by decide +kernel⟩
theorem sc_law_thing : FnScope ["_law_tape_here"] ["_law_tape_here"] (defScope s_law_thing) := ⟨rfl, rfl, rfl, by decide +kernel, rfl, by decide +kernel, by decide +kernel⟩
theorem sc_law_told : FnScope ["_law_a", "_law_found"] ["_law_a"] (defScope s_law_told) := ⟨rfl, rfl, rfl, by decide +kernel, rfl, by decide +kernel, by decide +kernel⟩
theorem sc_law_named : FnScope ["_law_a", "_law_found"] ["_law_a"] (defScope s_law_named) := ⟨rfl, rfl, rfl, by decide +kernel, rfl, by decide +kernel, by decide +kernel⟩
theorem sc_law_kinds : FnScope ["_law_e", "_law_found"] ["_law_e"] (defScope s_law_kinds) := ⟨rfl, rfl, rfl, by decide +kernel, rfl, by decide +kernel, by decide +kernel⟩
theorem sc_law : FnScope ["_law_script", "_law_tape_here", "_law_a", "_law_b", "_law_k", "_law_both", "_law_errors", "_law_e", "_law_j"] ["_law_script"] (defScope s_law) := ⟨rfl, rfl, rfl, by decide +kernel, rfl, by decide +kernel, by decide +kernel⟩
def exL : List Str := ["BadText", "BadLine", "BadName", "UnknownName", "BadNumber", "BadCount", "BadDeed", "BadLabel", "BadRow", "BadHead", "BadShown", "BadJoints", "BadChange", "BadTimes", "BadWeight", "NotDocument", "NoDocument", "NoLabel", "UnlikeSchemes", "BadKey", "KeyTaken", "UnknownKey", "NotLet", "NothingToUndo"]
structure Tx (w : World) (K : DL.Frag) (mg : Str → Option Value) : Prop where
  n_ValueError : mg "ValueError" = none
  n_abs : mg "abs" = none
  n_int : mg "int" = none
  n_isinstance : mg "isinstance" = none
  n_len : mg "len" = none
  n_range : mg "range" = none
  g_law_tape : mg "_law_tape" = some (.ref (He.ga K "_law_tape"))
  F_law_tape : ∃ fd, FunD K "_law_tape" "_law_tape" (defArgs s_law_tape) (defBody s_law_tape) (defScope s_law_tape) [] [] (He.ga K "_law_tape") fd
  g_law_pick : mg "_law_pick" = some (.ref (He.ga K "_law_pick"))
  F_law_pick : ∃ fd, FunD K "_law_pick" "_law_pick" (defArgs s_law_pick) (defBody s_law_pick) (defScope s_law_pick) [] [] (He.ga K "_law_pick") fd
  g_law_thing : mg "_law_thing" = some (.ref (He.ga K "_law_thing"))
  F_law_thing : ∃ fd, FunD K "_law_thing" "_law_thing" (defArgs s_law_thing) (defBody s_law_thing) (defScope s_law_thing) [] [] (He.ga K "_law_thing") fd
  g_law_told : mg "_law_told" = some (.ref (He.ga K "_law_told"))
  F_law_told : ∃ fd, FunD K "_law_told" "_law_told" (defArgs s_law_told) (defBody s_law_told) (defScope s_law_told) [] [] (He.ga K "_law_told") fd
  g_law_named : mg "_law_named" = some (.ref (He.ga K "_law_named"))
  F_law_named : ∃ fd, FunD K "_law_named" "_law_named" (defArgs s_law_named) (defBody s_law_named) (defScope s_law_named) [] [] (He.ga K "_law_named") fd
  g_law_kinds : mg "_law_kinds" = some (.ref (He.ga K "_law_kinds"))
  F_law_kinds : ∃ fd, FunD K "_law_kinds" "_law_kinds" (defArgs s_law_kinds) (defBody s_law_kinds) (defScope s_law_kinds) [] [] (He.ga K "_law_kinds") fd
  g_law : mg "law" = some (.ref (He.ga K "law"))
  F_law : ∃ fd, FunD K "law" "law" (defArgs s_law) (defBody s_law) (defScope s_law) [] [] (He.ga K "law") fd
  g_PartError : mg "PartError" = some (.ref (He.ga K "PartError"))
  g_BadText : mg "BadText" = some (.ref (He.ga K "BadText"))
  x_BadText : XcC K (He.ga K "BadText")
  v_BadText : PySem.W.excIn K (He.ga K "BadText") He.veBase "ValueError.__new__" = true
  g_BadLine : mg "BadLine" = some (.ref (He.ga K "BadLine"))
  x_BadLine : XcC K (He.ga K "BadLine")
  i_BadLine : PySem.W.findIn K (.ref (He.ga K "BadLine")) "__init__" = some (some (.ref (He.ma K (He.ga K "BadLine") "__init__")))
  t_BadLine : PySem.W.typeIn K (.ref (He.ma K (He.ga K "BadLine") "__init__")) = some (.type "function")
  F_BadLine : ∃ fd, FunD K "__init__" "BadLine.__init__" (defArgs s_BadLineu_initu) (defBody s_BadLineu_initu) (defScope s_BadLineu_initu) [] [] (He.ma K (He.ga K "BadLine") "__init__") fd
  no_BadLine_line : PySem.W.findIn K (.ref (He.ga K "BadLine")) "line" = some none
  g_BadName : mg "BadName" = some (.ref (He.ga K "BadName"))
  x_BadName : XcC K (He.ga K "BadName")
  i_BadName : PySem.W.findIn K (.ref (He.ga K "BadName")) "__init__" = some (some (.ref (He.ma K (He.ga K "BadName") "__init__")))
  t_BadName : PySem.W.typeIn K (.ref (He.ma K (He.ga K "BadName") "__init__")) = some (.type "function")
  F_BadName : ∃ fd, FunD K "__init__" "BadName.__init__" (defArgs s_BadNameu_initu) (defBody s_BadNameu_initu) (defScope s_BadNameu_initu) [] [] (He.ma K (He.ga K "BadName") "__init__") fd
  no_BadName_name : PySem.W.findIn K (.ref (He.ga K "BadName")) "name" = some none
  g_UnknownName : mg "UnknownName" = some (.ref (He.ga K "UnknownName"))
  x_UnknownName : XcC K (He.ga K "UnknownName")
  i_UnknownName : PySem.W.findIn K (.ref (He.ga K "UnknownName")) "__init__" = some (some (.ref (He.ma K (He.ga K "UnknownName") "__init__")))
  t_UnknownName : PySem.W.typeIn K (.ref (He.ma K (He.ga K "UnknownName") "__init__")) = some (.type "function")
  F_UnknownName : ∃ fd, FunD K "__init__" "UnknownName.__init__" (defArgs s_UnknownNameu_initu) (defBody s_UnknownNameu_initu) (defScope s_UnknownNameu_initu) [] [] (He.ma K (He.ga K "UnknownName") "__init__") fd
  no_UnknownName_name : PySem.W.findIn K (.ref (He.ga K "UnknownName")) "name" = some none
  g_BadNumber : mg "BadNumber" = some (.ref (He.ga K "BadNumber"))
  x_BadNumber : XcC K (He.ga K "BadNumber")
  i_BadNumber : PySem.W.findIn K (.ref (He.ga K "BadNumber")) "__init__" = some (some (.ref (He.ma K (He.ga K "BadNumber") "__init__")))
  t_BadNumber : PySem.W.typeIn K (.ref (He.ma K (He.ga K "BadNumber") "__init__")) = some (.type "function")
  F_BadNumber : ∃ fd, FunD K "__init__" "BadNumber.__init__" (defArgs s_BadNumberu_initu) (defBody s_BadNumberu_initu) (defScope s_BadNumberu_initu) [] [] (He.ma K (He.ga K "BadNumber") "__init__") fd
  no_BadNumber_number : PySem.W.findIn K (.ref (He.ga K "BadNumber")) "number" = some none
  g_BadCount : mg "BadCount" = some (.ref (He.ga K "BadCount"))
  x_BadCount : XcC K (He.ga K "BadCount")
  i_BadCount : PySem.W.findIn K (.ref (He.ga K "BadCount")) "__init__" = some (some (.ref (He.ma K (He.ga K "BadCount") "__init__")))
  t_BadCount : PySem.W.typeIn K (.ref (He.ma K (He.ga K "BadCount") "__init__")) = some (.type "function")
  F_BadCount : ∃ fd, FunD K "__init__" "BadCount.__init__" (defArgs s_BadCountu_initu) (defBody s_BadCountu_initu) (defScope s_BadCountu_initu) [] [] (He.ma K (He.ga K "BadCount") "__init__") fd
  no_BadCount_count : PySem.W.findIn K (.ref (He.ga K "BadCount")) "count" = some none
  g_BadDeed : mg "BadDeed" = some (.ref (He.ga K "BadDeed"))
  x_BadDeed : XcC K (He.ga K "BadDeed")
  i_BadDeed : PySem.W.findIn K (.ref (He.ga K "BadDeed")) "__init__" = some (some (.ref (He.ma K (He.ga K "BadDeed") "__init__")))
  t_BadDeed : PySem.W.typeIn K (.ref (He.ma K (He.ga K "BadDeed") "__init__")) = some (.type "function")
  F_BadDeed : ∃ fd, FunD K "__init__" "BadDeed.__init__" (defArgs s_BadDeedu_initu) (defBody s_BadDeedu_initu) (defScope s_BadDeedu_initu) [] [] (He.ma K (He.ga K "BadDeed") "__init__") fd
  no_BadDeed_deed : PySem.W.findIn K (.ref (He.ga K "BadDeed")) "deed" = some none
  g_BadLabel : mg "BadLabel" = some (.ref (He.ga K "BadLabel"))
  x_BadLabel : XcC K (He.ga K "BadLabel")
  v_BadLabel : PySem.W.excIn K (He.ga K "BadLabel") He.veBase "ValueError.__new__" = true
  g_BadRow : mg "BadRow" = some (.ref (He.ga K "BadRow"))
  x_BadRow : XcC K (He.ga K "BadRow")
  v_BadRow : PySem.W.excIn K (He.ga K "BadRow") He.veBase "ValueError.__new__" = true
  g_BadHead : mg "BadHead" = some (.ref (He.ga K "BadHead"))
  x_BadHead : XcC K (He.ga K "BadHead")
  i_BadHead : PySem.W.findIn K (.ref (He.ga K "BadHead")) "__init__" = some (some (.ref (He.ma K (He.ga K "BadHead") "__init__")))
  t_BadHead : PySem.W.typeIn K (.ref (He.ma K (He.ga K "BadHead") "__init__")) = some (.type "function")
  F_BadHead : ∃ fd, FunD K "__init__" "BadHead.__init__" (defArgs s_BadHeadu_initu) (defBody s_BadHeadu_initu) (defScope s_BadHeadu_initu) [] [] (He.ma K (He.ga K "BadHead") "__init__") fd
  no_BadHead_value : PySem.W.findIn K (.ref (He.ga K "BadHead")) "value" = some none
  g_BadShown : mg "BadShown" = some (.ref (He.ga K "BadShown"))
  x_BadShown : XcC K (He.ga K "BadShown")
  i_BadShown : PySem.W.findIn K (.ref (He.ga K "BadShown")) "__init__" = some (some (.ref (He.ma K (He.ga K "BadShown") "__init__")))
  t_BadShown : PySem.W.typeIn K (.ref (He.ma K (He.ga K "BadShown") "__init__")) = some (.type "function")
  F_BadShown : ∃ fd, FunD K "__init__" "BadShown.__init__" (defArgs s_BadShownu_initu) (defBody s_BadShownu_initu) (defScope s_BadShownu_initu) [] [] (He.ma K (He.ga K "BadShown") "__init__") fd
  no_BadShown_index : PySem.W.findIn K (.ref (He.ga K "BadShown")) "index" = some none
  g_BadJoints : mg "BadJoints" = some (.ref (He.ga K "BadJoints"))
  x_BadJoints : XcC K (He.ga K "BadJoints")
  v_BadJoints : PySem.W.excIn K (He.ga K "BadJoints") He.veBase "ValueError.__new__" = true
  g_BadChange : mg "BadChange" = some (.ref (He.ga K "BadChange"))
  x_BadChange : XcC K (He.ga K "BadChange")
  i_BadChange : PySem.W.findIn K (.ref (He.ga K "BadChange")) "__init__" = some (some (.ref (He.ma K (He.ga K "BadChange") "__init__")))
  t_BadChange : PySem.W.typeIn K (.ref (He.ma K (He.ga K "BadChange") "__init__")) = some (.type "function")
  F_BadChange : ∃ fd, FunD K "__init__" "BadChange.__init__" (defArgs s_BadChangeu_initu) (defBody s_BadChangeu_initu) (defScope s_BadChangeu_initu) [] [] (He.ma K (He.ga K "BadChange") "__init__") fd
  no_BadChange_counter : PySem.W.findIn K (.ref (He.ga K "BadChange")) "counter" = some none
  g_BadTimes : mg "BadTimes" = some (.ref (He.ga K "BadTimes"))
  x_BadTimes : XcC K (He.ga K "BadTimes")
  i_BadTimes : PySem.W.findIn K (.ref (He.ga K "BadTimes")) "__init__" = some (some (.ref (He.ma K (He.ga K "BadTimes") "__init__")))
  t_BadTimes : PySem.W.typeIn K (.ref (He.ma K (He.ga K "BadTimes") "__init__")) = some (.type "function")
  F_BadTimes : ∃ fd, FunD K "__init__" "BadTimes.__init__" (defArgs s_BadTimesu_initu) (defBody s_BadTimesu_initu) (defScope s_BadTimesu_initu) [] [] (He.ma K (He.ga K "BadTimes") "__init__") fd
  no_BadTimes_times : PySem.W.findIn K (.ref (He.ga K "BadTimes")) "times" = some none
  g_BadWeight : mg "BadWeight" = some (.ref (He.ga K "BadWeight"))
  x_BadWeight : XcC K (He.ga K "BadWeight")
  i_BadWeight : PySem.W.findIn K (.ref (He.ga K "BadWeight")) "__init__" = some (some (.ref (He.ma K (He.ga K "BadWeight") "__init__")))
  t_BadWeight : PySem.W.typeIn K (.ref (He.ma K (He.ga K "BadWeight") "__init__")) = some (.type "function")
  F_BadWeight : ∃ fd, FunD K "__init__" "BadWeight.__init__" (defArgs s_BadWeightu_initu) (defBody s_BadWeightu_initu) (defScope s_BadWeightu_initu) [] [] (He.ma K (He.ga K "BadWeight") "__init__") fd
  no_BadWeight_counter : PySem.W.findIn K (.ref (He.ga K "BadWeight")) "counter" = some none
  g_NotDocument : mg "NotDocument" = some (.ref (He.ga K "NotDocument"))
  x_NotDocument : XcC K (He.ga K "NotDocument")
  i_NotDocument : PySem.W.findIn K (.ref (He.ga K "NotDocument")) "__init__" = some (some (.ref (He.ma K (He.ga K "NotDocument") "__init__")))
  t_NotDocument : PySem.W.typeIn K (.ref (He.ma K (He.ga K "NotDocument") "__init__")) = some (.type "function")
  F_NotDocument : ∃ fd, FunD K "__init__" "NotDocument.__init__" (defArgs s_NotDocumentu_initu) (defBody s_NotDocumentu_initu) (defScope s_NotDocumentu_initu) [] [] (He.ma K (He.ga K "NotDocument") "__init__") fd
  no_NotDocument_index : PySem.W.findIn K (.ref (He.ga K "NotDocument")) "index" = some none
  g_NoDocument : mg "NoDocument" = some (.ref (He.ga K "NoDocument"))
  x_NoDocument : XcC K (He.ga K "NoDocument")
  i_NoDocument : PySem.W.findIn K (.ref (He.ga K "NoDocument")) "__init__" = some (some (.ref (He.ma K (He.ga K "NoDocument") "__init__")))
  t_NoDocument : PySem.W.typeIn K (.ref (He.ma K (He.ga K "NoDocument") "__init__")) = some (.type "function")
  F_NoDocument : ∃ fd, FunD K "__init__" "NoDocument.__init__" (defArgs s_NoDocumentu_initu) (defBody s_NoDocumentu_initu) (defScope s_NoDocumentu_initu) [] [] (He.ma K (He.ga K "NoDocument") "__init__") fd
  no_NoDocument_kind : PySem.W.findIn K (.ref (He.ga K "NoDocument")) "kind" = some none
  g_NoLabel : mg "NoLabel" = some (.ref (He.ga K "NoLabel"))
  x_NoLabel : XcC K (He.ga K "NoLabel")
  i_NoLabel : PySem.W.findIn K (.ref (He.ga K "NoLabel")) "__init__" = some (some (.ref (He.ma K (He.ga K "NoLabel") "__init__")))
  t_NoLabel : PySem.W.typeIn K (.ref (He.ma K (He.ga K "NoLabel") "__init__")) = some (.type "function")
  F_NoLabel : ∃ fd, FunD K "__init__" "NoLabel.__init__" (defArgs s_NoLabelu_initu) (defBody s_NoLabelu_initu) (defScope s_NoLabelu_initu) [] [] (He.ma K (He.ga K "NoLabel") "__init__") fd
  no_NoLabel_kind : PySem.W.findIn K (.ref (He.ga K "NoLabel")) "kind" = some none
  g_UnlikeSchemes : mg "UnlikeSchemes" = some (.ref (He.ga K "UnlikeSchemes"))
  x_UnlikeSchemes : XcC K (He.ga K "UnlikeSchemes")
  v_UnlikeSchemes : PySem.W.excIn K (He.ga K "UnlikeSchemes") He.veBase "ValueError.__new__" = true
  g_BadKey : mg "BadKey" = some (.ref (He.ga K "BadKey"))
  x_BadKey : XcC K (He.ga K "BadKey")
  i_BadKey : PySem.W.findIn K (.ref (He.ga K "BadKey")) "__init__" = some (some (.ref (He.ma K (He.ga K "BadKey") "__init__")))
  t_BadKey : PySem.W.typeIn K (.ref (He.ma K (He.ga K "BadKey") "__init__")) = some (.type "function")
  F_BadKey : ∃ fd, FunD K "__init__" "BadKey.__init__" (defArgs s_BadKeyu_initu) (defBody s_BadKeyu_initu) (defScope s_BadKeyu_initu) [] [] (He.ma K (He.ga K "BadKey") "__init__") fd
  no_BadKey_key : PySem.W.findIn K (.ref (He.ga K "BadKey")) "key" = some none
  g_KeyTaken : mg "KeyTaken" = some (.ref (He.ga K "KeyTaken"))
  x_KeyTaken : XcC K (He.ga K "KeyTaken")
  i_KeyTaken : PySem.W.findIn K (.ref (He.ga K "KeyTaken")) "__init__" = some (some (.ref (He.ma K (He.ga K "KeyTaken") "__init__")))
  t_KeyTaken : PySem.W.typeIn K (.ref (He.ma K (He.ga K "KeyTaken") "__init__")) = some (.type "function")
  F_KeyTaken : ∃ fd, FunD K "__init__" "KeyTaken.__init__" (defArgs s_KeyTakenu_initu) (defBody s_KeyTakenu_initu) (defScope s_KeyTakenu_initu) [] [] (He.ma K (He.ga K "KeyTaken") "__init__") fd
  no_KeyTaken_key : PySem.W.findIn K (.ref (He.ga K "KeyTaken")) "key" = some none
  g_UnknownKey : mg "UnknownKey" = some (.ref (He.ga K "UnknownKey"))
  x_UnknownKey : XcC K (He.ga K "UnknownKey")
  i_UnknownKey : PySem.W.findIn K (.ref (He.ga K "UnknownKey")) "__init__" = some (some (.ref (He.ma K (He.ga K "UnknownKey") "__init__")))
  t_UnknownKey : PySem.W.typeIn K (.ref (He.ma K (He.ga K "UnknownKey") "__init__")) = some (.type "function")
  F_UnknownKey : ∃ fd, FunD K "__init__" "UnknownKey.__init__" (defArgs s_UnknownKeyu_initu) (defBody s_UnknownKeyu_initu) (defScope s_UnknownKeyu_initu) [] [] (He.ma K (He.ga K "UnknownKey") "__init__") fd
  no_UnknownKey_key : PySem.W.findIn K (.ref (He.ga K "UnknownKey")) "key" = some none
  g_NotLet : mg "NotLet" = some (.ref (He.ga K "NotLet"))
  x_NotLet : XcC K (He.ga K "NotLet")
  i_NotLet : PySem.W.findIn K (.ref (He.ga K "NotLet")) "__init__" = some (some (.ref (He.ma K (He.ga K "NotLet") "__init__")))
  t_NotLet : PySem.W.typeIn K (.ref (He.ma K (He.ga K "NotLet") "__init__")) = some (.type "function")
  F_NotLet : ∃ fd, FunD K "__init__" "NotLet.__init__" (defArgs s_NotLetu_initu) (defBody s_NotLetu_initu) (defScope s_NotLetu_initu) [] [] (He.ma K (He.ga K "NotLet") "__init__") fd
  no_NotLet_kind : PySem.W.findIn K (.ref (He.ga K "NotLet")) "kind" = some none
  no_NotLet_other : PySem.W.findIn K (.ref (He.ga K "NotLet")) "other" = some none
  g_NothingToUndo : mg "NothingToUndo" = some (.ref (He.ga K "NothingToUndo"))
  x_NothingToUndo : XcC K (He.ga K "NothingToUndo")
  v_NothingToUndo : PySem.W.excIn K (He.ga K "NothingToUndo") He.veBase "ValueError.__new__" = true
  kt : ∀ X ∈ exL, ∀ Y ∈ exL, PySem.W.kitOne K (.ref (He.ga K X)) (.ref (He.ga K Y)) = some (decide (X = Y))
  kp : ∀ X ∈ exL, PySem.W.kitOne K (.ref (He.ga K X)) (.ref (He.ga K "PartError")) = some true
  kv : ∀ X ∈ exL, PySem.W.kitOne K (.ref (He.ga K X)) (.type "ValueError") = some true
def clsL (K : DL.Frag) : List Addr := []
def xclL (K : DL.Frag) : List Addr := [He.ga K "BadText", He.ga K "BadLine", He.ga K "BadName", He.ga K "UnknownName", He.ga K "BadNumber", He.ga K "BadCount", He.ga K "BadDeed", He.ga K "BadLabel", He.ga K "BadRow", He.ga K "BadHead", He.ga K "BadShown", He.ga K "BadJoints", He.ga K "BadChange", He.ga K "BadTimes", He.ga K "BadWeight", He.ga K "NotDocument", He.ga K "NoDocument", He.ga K "NoLabel", He.ga K "UnlikeSchemes", He.ga K "BadKey", He.ga K "KeyTaken", He.ga K "UnknownKey", He.ga K "NotLet", He.ga K "NothingToUndo"]
theorem Tx.cls {w : World} {K : DL.Frag} {mg : Str → Option Value} (T : Tx w K mg) : ∀ C ∈ clsL K, ClC K C := fun C h => by simp [clsL] at h
theorem Tx.xcl {w : World} {K : DL.Frag} {mg : Str → Option Value} (T : Tx w K mg) : ∀ C ∈ xclL K, XcC K C := by
  intro C h
  simp only [xclL, List.mem_cons, List.mem_nil_iff, or_false] at h
  rcases h with rfl | rfl | rfl | rfl | rfl | rfl | rfl | rfl | rfl | rfl | rfl | rfl | rfl | rfl | rfl | rfl | rfl | rfl | rfl | rfl | rfl | rfl | rfl | rfl
  · exact T.x_BadText
  · exact T.x_BadLine
  · exact T.x_BadName
  · exact T.x_UnknownName
  · exact T.x_BadNumber
  · exact T.x_BadCount
  · exact T.x_BadDeed
  · exact T.x_BadLabel
  · exact T.x_BadRow
  · exact T.x_BadHead
  · exact T.x_BadShown
  · exact T.x_BadJoints
  · exact T.x_BadChange
  · exact T.x_BadTimes
  · exact T.x_BadWeight
  · exact T.x_NotDocument
  · exact T.x_NoDocument
  · exact T.x_NoLabel
  · exact T.x_UnlikeSchemes
  · exact T.x_BadKey
  · exact T.x_KeyTaken
  · exact T.x_UnknownKey
  · exact T.x_NotLet
  · exact T.x_NothingToUndo
end T
set_option Elab.async false
set_option linter.all false
set_option maxRecDepth 100000
set_option autoImplicit false
set_option maxHeartbeats 4000000
namespace T
open PySem L2 PyProof.Rows DL
def d_BadLineu_initu : He.DefD := ⟨("BadLine", some "__init__"), "__init__", "BadLine.__init__", defArgs s_BadLineu_initu, defBody s_BadLineu_initu, defScope s_BadLineu_initu, [], []⟩
def d_BadNameu_initu : He.DefD := ⟨("BadName", some "__init__"), "__init__", "BadName.__init__", defArgs s_BadNameu_initu, defBody s_BadNameu_initu, defScope s_BadNameu_initu, [], []⟩
def d_UnknownNameu_initu : He.DefD := ⟨("UnknownName", some "__init__"), "__init__", "UnknownName.__init__", defArgs s_UnknownNameu_initu, defBody s_UnknownNameu_initu, defScope s_UnknownNameu_initu, [], []⟩
def d_BadNumberu_initu : He.DefD := ⟨("BadNumber", some "__init__"), "__init__", "BadNumber.__init__", defArgs s_BadNumberu_initu, defBody s_BadNumberu_initu, defScope s_BadNumberu_initu, [], []⟩
def d_BadCountu_initu : He.DefD := ⟨("BadCount", some "__init__"), "__init__", "BadCount.__init__", defArgs s_BadCountu_initu, defBody s_BadCountu_initu, defScope s_BadCountu_initu, [], []⟩
def d_BadDeedu_initu : He.DefD := ⟨("BadDeed", some "__init__"), "__init__", "BadDeed.__init__", defArgs s_BadDeedu_initu, defBody s_BadDeedu_initu, defScope s_BadDeedu_initu, [], []⟩
def d_BadHeadu_initu : He.DefD := ⟨("BadHead", some "__init__"), "__init__", "BadHead.__init__", defArgs s_BadHeadu_initu, defBody s_BadHeadu_initu, defScope s_BadHeadu_initu, [], []⟩
def d_BadShownu_initu : He.DefD := ⟨("BadShown", some "__init__"), "__init__", "BadShown.__init__", defArgs s_BadShownu_initu, defBody s_BadShownu_initu, defScope s_BadShownu_initu, [], []⟩
def d_BadChangeu_initu : He.DefD := ⟨("BadChange", some "__init__"), "__init__", "BadChange.__init__", defArgs s_BadChangeu_initu, defBody s_BadChangeu_initu, defScope s_BadChangeu_initu, [], []⟩
def d_BadTimesu_initu : He.DefD := ⟨("BadTimes", some "__init__"), "__init__", "BadTimes.__init__", defArgs s_BadTimesu_initu, defBody s_BadTimesu_initu, defScope s_BadTimesu_initu, [], []⟩
def d_BadWeightu_initu : He.DefD := ⟨("BadWeight", some "__init__"), "__init__", "BadWeight.__init__", defArgs s_BadWeightu_initu, defBody s_BadWeightu_initu, defScope s_BadWeightu_initu, [], []⟩
def d_NotDocumentu_initu : He.DefD := ⟨("NotDocument", some "__init__"), "__init__", "NotDocument.__init__", defArgs s_NotDocumentu_initu, defBody s_NotDocumentu_initu, defScope s_NotDocumentu_initu, [], []⟩
def d_NoDocumentu_initu : He.DefD := ⟨("NoDocument", some "__init__"), "__init__", "NoDocument.__init__", defArgs s_NoDocumentu_initu, defBody s_NoDocumentu_initu, defScope s_NoDocumentu_initu, [], []⟩
def d_NoLabelu_initu : He.DefD := ⟨("NoLabel", some "__init__"), "__init__", "NoLabel.__init__", defArgs s_NoLabelu_initu, defBody s_NoLabelu_initu, defScope s_NoLabelu_initu, [], []⟩
def d_BadKeyu_initu : He.DefD := ⟨("BadKey", some "__init__"), "__init__", "BadKey.__init__", defArgs s_BadKeyu_initu, defBody s_BadKeyu_initu, defScope s_BadKeyu_initu, [], []⟩
def d_KeyTakenu_initu : He.DefD := ⟨("KeyTaken", some "__init__"), "__init__", "KeyTaken.__init__", defArgs s_KeyTakenu_initu, defBody s_KeyTakenu_initu, defScope s_KeyTakenu_initu, [], []⟩
def d_UnknownKeyu_initu : He.DefD := ⟨("UnknownKey", some "__init__"), "__init__", "UnknownKey.__init__", defArgs s_UnknownKeyu_initu, defBody s_UnknownKeyu_initu, defScope s_UnknownKeyu_initu, [], []⟩
def d_NotLetu_initu : He.DefD := ⟨("NotLet", some "__init__"), "__init__", "NotLet.__init__", defArgs s_NotLetu_initu, defBody s_NotLetu_initu, defScope s_NotLetu_initu, [], []⟩
def d_law_tape : He.DefD := ⟨("_law_tape", none), "_law_tape", "_law_tape", defArgs s_law_tape, defBody s_law_tape, defScope s_law_tape, [], []⟩
def d_law_pick : He.DefD := ⟨("_law_pick", none), "_law_pick", "_law_pick", defArgs s_law_pick, defBody s_law_pick, defScope s_law_pick, [], []⟩
def d_law_thing : He.DefD := ⟨("_law_thing", none), "_law_thing", "_law_thing", defArgs s_law_thing, defBody s_law_thing, defScope s_law_thing, [], []⟩
def d_law_told : He.DefD := ⟨("_law_told", none), "_law_told", "_law_told", defArgs s_law_told, defBody s_law_told, defScope s_law_told, [], []⟩
def d_law_named : He.DefD := ⟨("_law_named", none), "_law_named", "_law_named", defArgs s_law_named, defBody s_law_named, defScope s_law_named, [], []⟩
def d_law_kinds : He.DefD := ⟨("_law_kinds", none), "_law_kinds", "_law_kinds", defArgs s_law_kinds, defBody s_law_kinds, defScope s_law_kinds, [], []⟩
def d_law : He.DefD := ⟨("law", none), "law", "law", defArgs s_law, defBody s_law, defScope s_law, [], []⟩
def fn : List He.DefD := ([d_BadLineu_initu, d_BadNameu_initu, d_UnknownNameu_initu, d_BadNumberu_initu, d_BadCountu_initu, d_BadDeedu_initu, d_BadHeadu_initu, d_BadShownu_initu, d_BadChangeu_initu, d_BadTimesu_initu, d_BadWeightu_initu, d_NotDocumentu_initu, d_NoDocumentu_initu, d_NoLabelu_initu, d_BadKeyu_initu] : List (He.DefD)) ++ ([d_KeyTakenu_initu, d_UnknownKeyu_initu, d_NotLetu_initu, d_law_tape, d_law_pick, d_law_thing, d_law_told, d_law_named, d_law_kinds, d_law] : List (He.DefD))
def ex : List (DL.Frag → Bool) := ([fun K => xcB K (He.ga K "BadText"), fun K => PySem.W.excIn K (He.ga K "BadText") He.veBase "ValueError.__new__", fun K => xcB K (He.ga K "BadLine"), fun K => He.eqO (PySem.W.findIn K (.ref (He.ga K "BadLine")) "__init__") (some (some (.ref (He.ma K (He.ga K "BadLine") "__init__")))), fun K => decide (PySem.W.typeIn K (.ref (He.ma K (He.ga K "BadLine") "__init__")) = some (.type "function")), fun K => He.eqO (PySem.W.findIn K (.ref (He.ga K "BadLine")) "line") (some none), fun K => xcB K (He.ga K "BadName"), fun K => He.eqO (PySem.W.findIn K (.ref (He.ga K "BadName")) "__init__") (some (some (.ref (He.ma K (He.ga K "BadName") "__init__")))), fun K => decide (PySem.W.typeIn K (.ref (He.ma K (He.ga K "BadName") "__init__")) = some (.type "function")), fun K => He.eqO (PySem.W.findIn K (.ref (He.ga K "BadName")) "name") (some none), fun K => xcB K (He.ga K "UnknownName"), fun K => He.eqO (PySem.W.findIn K (.ref (He.ga K "UnknownName")) "__init__") (some (some (.ref (He.ma K (He.ga K "UnknownName") "__init__")))), fun K => decide (PySem.W.typeIn K (.ref (He.ma K (He.ga K "UnknownName") "__init__")) = some (.type "function")), fun K => He.eqO (PySem.W.findIn K (.ref (He.ga K "UnknownName")) "name") (some none), fun K => xcB K (He.ga K "BadNumber")] : List (DL.Frag → Bool)) ++ ([fun K => He.eqO (PySem.W.findIn K (.ref (He.ga K "BadNumber")) "__init__") (some (some (.ref (He.ma K (He.ga K "BadNumber") "__init__")))), fun K => decide (PySem.W.typeIn K (.ref (He.ma K (He.ga K "BadNumber") "__init__")) = some (.type "function")), fun K => He.eqO (PySem.W.findIn K (.ref (He.ga K "BadNumber")) "number") (some none), fun K => xcB K (He.ga K "BadCount"), fun K => He.eqO (PySem.W.findIn K (.ref (He.ga K "BadCount")) "__init__") (some (some (.ref (He.ma K (He.ga K "BadCount") "__init__")))), fun K => decide (PySem.W.typeIn K (.ref (He.ma K (He.ga K "BadCount") "__init__")) = some (.type "function")), fun K => He.eqO (PySem.W.findIn K (.ref (He.ga K "BadCount")) "count") (some none), fun K => xcB K (He.ga K "BadDeed"), fun K => He.eqO (PySem.W.findIn K (.ref (He.ga K "BadDeed")) "__init__") (some (some (.ref (He.ma K (He.ga K "BadDeed") "__init__")))), fun K => decide (PySem.W.typeIn K (.ref (He.ma K (He.ga K "BadDeed") "__init__")) = some (.type "function")), fun K => He.eqO (PySem.W.findIn K (.ref (He.ga K "BadDeed")) "deed") (some none), fun K => xcB K (He.ga K "BadLabel"), fun K => PySem.W.excIn K (He.ga K "BadLabel") He.veBase "ValueError.__new__", fun K => xcB K (He.ga K "BadRow"), fun K => PySem.W.excIn K (He.ga K "BadRow") He.veBase "ValueError.__new__"] : List (DL.Frag → Bool)) ++ ([fun K => xcB K (He.ga K "BadHead"), fun K => He.eqO (PySem.W.findIn K (.ref (He.ga K "BadHead")) "__init__") (some (some (.ref (He.ma K (He.ga K "BadHead") "__init__")))), fun K => decide (PySem.W.typeIn K (.ref (He.ma K (He.ga K "BadHead") "__init__")) = some (.type "function")), fun K => He.eqO (PySem.W.findIn K (.ref (He.ga K "BadHead")) "value") (some none), fun K => xcB K (He.ga K "BadShown"), fun K => He.eqO (PySem.W.findIn K (.ref (He.ga K "BadShown")) "__init__") (some (some (.ref (He.ma K (He.ga K "BadShown") "__init__")))), fun K => decide (PySem.W.typeIn K (.ref (He.ma K (He.ga K "BadShown") "__init__")) = some (.type "function")), fun K => He.eqO (PySem.W.findIn K (.ref (He.ga K "BadShown")) "index") (some none), fun K => xcB K (He.ga K "BadJoints"), fun K => PySem.W.excIn K (He.ga K "BadJoints") He.veBase "ValueError.__new__", fun K => xcB K (He.ga K "BadChange"), fun K => He.eqO (PySem.W.findIn K (.ref (He.ga K "BadChange")) "__init__") (some (some (.ref (He.ma K (He.ga K "BadChange") "__init__")))), fun K => decide (PySem.W.typeIn K (.ref (He.ma K (He.ga K "BadChange") "__init__")) = some (.type "function")), fun K => He.eqO (PySem.W.findIn K (.ref (He.ga K "BadChange")) "counter") (some none), fun K => xcB K (He.ga K "BadTimes")] : List (DL.Frag → Bool)) ++ ([fun K => He.eqO (PySem.W.findIn K (.ref (He.ga K "BadTimes")) "__init__") (some (some (.ref (He.ma K (He.ga K "BadTimes") "__init__")))), fun K => decide (PySem.W.typeIn K (.ref (He.ma K (He.ga K "BadTimes") "__init__")) = some (.type "function")), fun K => He.eqO (PySem.W.findIn K (.ref (He.ga K "BadTimes")) "times") (some none), fun K => xcB K (He.ga K "BadWeight"), fun K => He.eqO (PySem.W.findIn K (.ref (He.ga K "BadWeight")) "__init__") (some (some (.ref (He.ma K (He.ga K "BadWeight") "__init__")))), fun K => decide (PySem.W.typeIn K (.ref (He.ma K (He.ga K "BadWeight") "__init__")) = some (.type "function")), fun K => He.eqO (PySem.W.findIn K (.ref (He.ga K "BadWeight")) "counter") (some none), fun K => xcB K (He.ga K "NotDocument"), fun K => He.eqO (PySem.W.findIn K (.ref (He.ga K "NotDocument")) "__init__") (some (some (.ref (He.ma K (He.ga K "NotDocument") "__init__")))), fun K => decide (PySem.W.typeIn K (.ref (He.ma K (He.ga K "NotDocument") "__init__")) = some (.type "function")), fun K => He.eqO (PySem.W.findIn K (.ref (He.ga K "NotDocument")) "index") (some none), fun K => xcB K (He.ga K "NoDocument"), fun K => He.eqO (PySem.W.findIn K (.ref (He.ga K "NoDocument")) "__init__") (some (some (.ref (He.ma K (He.ga K "NoDocument") "__init__")))), fun K => decide (PySem.W.typeIn K (.ref (He.ma K (He.ga K "NoDocument") "__init__")) = some (.type "function")), fun K => He.eqO (PySem.W.findIn K (.ref (He.ga K "NoDocument")) "kind") (some none)] : List (DL.Frag → Bool)) ++ ([fun K => xcB K (He.ga K "NoLabel"), fun K => He.eqO (PySem.W.findIn K (.ref (He.ga K "NoLabel")) "__init__") (some (some (.ref (He.ma K (He.ga K "NoLabel") "__init__")))), fun K => decide (PySem.W.typeIn K (.ref (He.ma K (He.ga K "NoLabel") "__init__")) = some (.type "function")), fun K => He.eqO (PySem.W.findIn K (.ref (He.ga K "NoLabel")) "kind") (some none), fun K => xcB K (He.ga K "UnlikeSchemes"), fun K => PySem.W.excIn K (He.ga K "UnlikeSchemes") He.veBase "ValueError.__new__", fun K => xcB K (He.ga K "BadKey"), fun K => He.eqO (PySem.W.findIn K (.ref (He.ga K "BadKey")) "__init__") (some (some (.ref (He.ma K (He.ga K "BadKey") "__init__")))), fun K => decide (PySem.W.typeIn K (.ref (He.ma K (He.ga K "BadKey") "__init__")) = some (.type "function")), fun K => He.eqO (PySem.W.findIn K (.ref (He.ga K "BadKey")) "key") (some none), fun K => xcB K (He.ga K "KeyTaken"), fun K => He.eqO (PySem.W.findIn K (.ref (He.ga K "KeyTaken")) "__init__") (some (some (.ref (He.ma K (He.ga K "KeyTaken") "__init__")))), fun K => decide (PySem.W.typeIn K (.ref (He.ma K (He.ga K "KeyTaken") "__init__")) = some (.type "function")), fun K => He.eqO (PySem.W.findIn K (.ref (He.ga K "KeyTaken")) "key") (some none), fun K => xcB K (He.ga K "UnknownKey")] : List (DL.Frag → Bool)) ++ ([fun K => He.eqO (PySem.W.findIn K (.ref (He.ga K "UnknownKey")) "__init__") (some (some (.ref (He.ma K (He.ga K "UnknownKey") "__init__")))), fun K => decide (PySem.W.typeIn K (.ref (He.ma K (He.ga K "UnknownKey") "__init__")) = some (.type "function")), fun K => He.eqO (PySem.W.findIn K (.ref (He.ga K "UnknownKey")) "key") (some none), fun K => xcB K (He.ga K "NotLet"), fun K => He.eqO (PySem.W.findIn K (.ref (He.ga K "NotLet")) "__init__") (some (some (.ref (He.ma K (He.ga K "NotLet") "__init__")))), fun K => decide (PySem.W.typeIn K (.ref (He.ma K (He.ga K "NotLet") "__init__")) = some (.type "function")), fun K => He.eqO (PySem.W.findIn K (.ref (He.ga K "NotLet")) "kind") (some none), fun K => He.eqO (PySem.W.findIn K (.ref (He.ga K "NotLet")) "other") (some none), fun K => xcB K (He.ga K "NothingToUndo"), fun K => PySem.W.excIn K (He.ga K "NothingToUndo") He.veBase "ValueError.__new__", fun K => exL.all fun X => exL.all fun Y => decide (PySem.W.kitOne K (.ref (He.ga K X)) (.ref (He.ga K Y)) = some (decide (X = Y))), fun K => exL.all fun X => decide (PySem.W.kitOne K (.ref (He.ga K X)) (.ref (He.ga K "PartError")) = some true), fun K => exL.all fun X => decide (PySem.W.kitOne K (.ref (He.ga K X)) (.type "ValueError") = some true)] : List (DL.Frag → Bool))
def fa : List He.Fa := ([.free "ValueError", .free "abs", .free "int", .free "isinstance", .free "len", .free "range", .glo "_law_tape", .glo "_law_pick", .glo "_law_thing", .glo "_law_told", .glo "_law_named", .glo "_law_kinds", .glo "law", .glo "PartError", .glo "BadText"] : List (He.Fa)) ++ ([.glo "BadLine", .glo "BadName", .glo "UnknownName", .glo "BadNumber", .glo "BadCount", .glo "BadDeed", .glo "BadLabel", .glo "BadRow", .glo "BadHead", .glo "BadShown", .glo "BadJoints", .glo "BadChange", .glo "BadTimes", .glo "BadWeight", .glo "NotDocument"] : List (He.Fa)) ++ ([.glo "NoDocument", .glo "NoLabel", .glo "UnlikeSchemes", .glo "BadKey", .glo "KeyTaken", .glo "UnknownKey", .glo "NotLet", .glo "NothingToUndo"] : List (He.Fa))
abbrev R : PySem.W.OpenRow := PySem.W.OpenLaw.row PySem.Challenge.rw_partlabels_k11_errors
def dc : List (Str × List Str) := []
def pr : List (Str × Str × He.DefD) := []
def adr : List Addr := ([3, 6, 4, 24, 37, 56, 75, 94, 113, 132, 151, 163, 175, 194, 213] : List (Addr)) ++ ([225, 244, 263, 282, 301, 320, 339, 351, 370, 389, 408, 427, 439, 448, 455] : List (Addr)) ++ ([462, 469, 476, 483, 488, 0, 23, 36, 55, 74, 93, 112, 131, 150, 162] : List (Addr)) ++ ([174, 193, 212, 224, 243, 262, 281, 300, 319, 338, 350, 369, 388, 407, 426] : List (Addr)) ++ ([438, 447, 454, 461, 468, 475, 482, 487, 22, 25, 35, 53, 54, 72, 73] : List (Addr)) ++ ([91, 92, 110, 111, 129, 130, 148, 149, 161, 173, 191, 192, 210, 211, 223] : List (Addr)) ++ ([241, 242, 260, 261, 279, 280, 298, 299, 317, 318, 336, 337, 349, 367, 368] : List (Addr)) ++ ([386, 387, 405, 406, 424, 425, 437, 442, 443, 444, 445, 446, 449, 450, 451] : List (Addr)) ++ ([452, 453, 456, 457, 458, 459, 460, 463, 464, 465, 466, 467, 470, 471, 472] : List (Addr)) ++ ([473, 474, 477, 478, 479, 480, 481, 484, 485, 486, 52, 71, 90, 109, 128] : List (Addr)) ++ ([147, 190, 209, 240, 259, 278, 297, 316, 335, 366, 385, 404, 423, 47, 48] : List (Addr)) ++ ([49, 50, 51, 66, 67, 68, 69, 70, 85, 86, 87, 88, 89, 104, 105] : List (Addr)) ++ ([106, 107, 108, 123, 124, 125, 126, 127, 142, 143, 144, 145, 146, 185, 186] : List (Addr)) ++ ([187, 188, 189, 204, 205, 206, 207, 208, 235, 236, 237, 238, 239, 254, 255] : List (Addr)) ++ ([256, 257, 258, 273, 274, 275, 276, 277, 292, 293, 294, 295, 296, 311, 312] : List (Addr)) ++ ([313, 314, 315, 330, 331, 332, 333, 334, 361, 362, 363, 364, 365, 380, 381] : List (Addr)) ++ ([382, 383, 384, 399, 400, 401, 402, 403, 418, 419, 420, 421, 422] : List (Addr))
abbrev hk : PySem.W.Hook := DL.hookL adr fa fn ex dc pr
def ob (s : PySem.W.SharedT) : DL.AlF := DL.obsL adr fa fn ex dc pr (HandSHeadRun.getT s)
theorem ob_eq (s : PySem.W.SharedT) : ob s = hk.obs s.abs := DL.obsL_eq (HandSHeadRun.getT_eq s)
def loose : List PySem.Str := (["PartError", "BadText", "BadLine", "BadName", "UnknownName", "BadNumber", "BadCount", "BadDeed", "BadLabel", "BadRow", "BadHead", "BadShown", "BadJoints", "BadChange", "BadTimes"] : List (PySem.Str)) ++ (["BadWeight", "NotDocument", "NoDocument", "NoLabel", "UnlikeSchemes", "BadKey", "KeyTaken", "UnknownKey", "NotLet", "NothingToUndo", "_law_tape", "_law_pick", "_law_thing", "_law_told", "_law_named"] : List (PySem.Str)) ++ (["_law_kinds"] : List (PySem.Str))
open HandSHeadRun in
noncomputable def fin (w : World) (os : OsState) : Option PySem.W.SharedT := endF (stepQ (denQ tabQ) R.prog w) 20000 R.prog w os
open HandSHeadRun PySem.W in
noncomputable def lk (w : World) (s : SharedT) : Bool := looksF R.prog (boot_heap w.params) s.abs
open HandSHeadRun PySem.W in
noncomputable abbrev sn (s : SharedT) := seenQ (PySem.W.view R.prog [33]) loose (importedModules R.prog.main.body) (fun s => xlAt (PySem.W.view R.prog [33]) [] s && recOk R.toRowW.records s) s.abs
set_option maxHeartbeats 0 in
theorem run_true (w : World) (f : String → Bool) : HandSHeadRun.RunEq R (PySem.W.view R.prog [33]) hk ob 20000 loose { w with params := { w.params with followText := fun s => if s = "special-get-raises" then true else f s } } := by
  intro os
  kernel_rfl
set_option maxHeartbeats 0 in
theorem run_false (w : World) (f : String → Bool) : HandSHeadRun.RunEq R (PySem.W.view R.prog [33]) hk ob 20000 loose { w with params := { w.params with followText := fun s => if s = "special-get-raises" then false else f s } } := by
  intro os
  kernel_rfl
theorem runB (b : Bool) (w : World) (f : String → Bool) : HandSHeadRun.RunEq R (PySem.W.view R.prog [33]) hk ob 20000 loose { w with params := { w.params with followText := fun s => if s = "special-get-raises" then b else f s } } := by
  cases b
  · exact run_false w f
  · exact run_true w f
theorem run (w : World) : HandSHeadRun.RunEq R (PySem.W.view R.prog [33]) hk ob 20000 loose w := by
  have e := runB (w.params.followText "special-get-raises") w w.params.followText
  have ef : (fun s => if s = "special-get-raises" then w.params.followText "special-get-raises" else w.params.followText s) = w.params.followText := by
    funext s
    split
    · rename_i h
      rw [h]
    · rfl
  rw [ef] at e
  exact e
theorem tx_of {w : World} {K : DL.Frag} {h : Heap} {mg : Str → Option Value} (X : K.In h) (G : h.Ns mainGlobals mg) (c : DL.SaysF w fa fn ex dc pr K) : Tx w K mg :=
  ⟨He.free_ok X G (c.1.1.fact 0 (f := .free "ValueError") rfl),
    He.free_ok X G (c.1.1.fact 1 (f := .free "abs") rfl),
    He.free_ok X G (c.1.1.fact 2 (f := .free "int") rfl),
    He.free_ok X G (c.1.1.fact 3 (f := .free "isinstance") rfl),
    He.free_ok X G (c.1.1.fact 4 (f := .free "len") rfl),
    He.free_ok X G (c.1.1.fact 5 (f := .free "range") rfl),
    He.glo_ok X G (c.1.1.fact 6 (f := .glo "_law_tape") rfl),
    c.1.1.def_ 18 (d := d_law_tape) rfl,
    He.glo_ok X G (c.1.1.fact 7 (f := .glo "_law_pick") rfl),
    c.1.1.def_ 19 (d := d_law_pick) rfl,
    He.glo_ok X G (c.1.1.fact 8 (f := .glo "_law_thing") rfl),
    c.1.1.def_ 20 (d := d_law_thing) rfl,
    He.glo_ok X G (c.1.1.fact 9 (f := .glo "_law_told") rfl),
    c.1.1.def_ 21 (d := d_law_told) rfl,
    He.glo_ok X G (c.1.1.fact 10 (f := .glo "_law_named") rfl),
    c.1.1.def_ 22 (d := d_law_named) rfl,
    He.glo_ok X G (c.1.1.fact 11 (f := .glo "_law_kinds") rfl),
    c.1.1.def_ 23 (d := d_law_kinds) rfl,
    He.glo_ok X G (c.1.1.fact 12 (f := .glo "law") rfl),
    c.1.1.def_ 24 (d := d_law) rfl,
    He.glo_ok X G (c.1.1.fact 13 (f := .glo "PartError") rfl),
    He.glo_ok X G (c.1.1.fact 14 (f := .glo "BadText") rfl),
    xcB_ok (c.1.ex 0 rfl),
    c.1.ex 1 rfl,
    He.glo_ok X G (c.1.1.fact 15 (f := .glo "BadLine") rfl),
    xcB_ok (c.1.ex 2 rfl),
    He.eqO_ok (c.1.ex 3 rfl),
    of_decide_eq_true (c.1.ex 4 rfl),
    c.1.1.def_ 0 (d := d_BadLineu_initu) rfl,
    He.eqO_ok (c.1.ex 5 rfl),
    He.glo_ok X G (c.1.1.fact 16 (f := .glo "BadName") rfl),
    xcB_ok (c.1.ex 6 rfl),
    He.eqO_ok (c.1.ex 7 rfl),
    of_decide_eq_true (c.1.ex 8 rfl),
    c.1.1.def_ 1 (d := d_BadNameu_initu) rfl,
    He.eqO_ok (c.1.ex 9 rfl),
    He.glo_ok X G (c.1.1.fact 17 (f := .glo "UnknownName") rfl),
    xcB_ok (c.1.ex 10 rfl),
    He.eqO_ok (c.1.ex 11 rfl),
    of_decide_eq_true (c.1.ex 12 rfl),
    c.1.1.def_ 2 (d := d_UnknownNameu_initu) rfl,
    He.eqO_ok (c.1.ex 13 rfl),
    He.glo_ok X G (c.1.1.fact 18 (f := .glo "BadNumber") rfl),
    xcB_ok (c.1.ex 14 rfl),
    He.eqO_ok (c.1.ex 15 rfl),
    of_decide_eq_true (c.1.ex 16 rfl),
    c.1.1.def_ 3 (d := d_BadNumberu_initu) rfl,
    He.eqO_ok (c.1.ex 17 rfl),
    He.glo_ok X G (c.1.1.fact 19 (f := .glo "BadCount") rfl),
    xcB_ok (c.1.ex 18 rfl),
    He.eqO_ok (c.1.ex 19 rfl),
    of_decide_eq_true (c.1.ex 20 rfl),
    c.1.1.def_ 4 (d := d_BadCountu_initu) rfl,
    He.eqO_ok (c.1.ex 21 rfl),
    He.glo_ok X G (c.1.1.fact 20 (f := .glo "BadDeed") rfl),
    xcB_ok (c.1.ex 22 rfl),
    He.eqO_ok (c.1.ex 23 rfl),
    of_decide_eq_true (c.1.ex 24 rfl),
    c.1.1.def_ 5 (d := d_BadDeedu_initu) rfl,
    He.eqO_ok (c.1.ex 25 rfl),
    He.glo_ok X G (c.1.1.fact 21 (f := .glo "BadLabel") rfl),
    xcB_ok (c.1.ex 26 rfl),
    c.1.ex 27 rfl,
    He.glo_ok X G (c.1.1.fact 22 (f := .glo "BadRow") rfl),
    xcB_ok (c.1.ex 28 rfl),
    c.1.ex 29 rfl,
    He.glo_ok X G (c.1.1.fact 23 (f := .glo "BadHead") rfl),
    xcB_ok (c.1.ex 30 rfl),
    He.eqO_ok (c.1.ex 31 rfl),
    of_decide_eq_true (c.1.ex 32 rfl),
    c.1.1.def_ 6 (d := d_BadHeadu_initu) rfl,
    He.eqO_ok (c.1.ex 33 rfl),
    He.glo_ok X G (c.1.1.fact 24 (f := .glo "BadShown") rfl),
    xcB_ok (c.1.ex 34 rfl),
    He.eqO_ok (c.1.ex 35 rfl),
    of_decide_eq_true (c.1.ex 36 rfl),
    c.1.1.def_ 7 (d := d_BadShownu_initu) rfl,
    He.eqO_ok (c.1.ex 37 rfl),
    He.glo_ok X G (c.1.1.fact 25 (f := .glo "BadJoints") rfl),
    xcB_ok (c.1.ex 38 rfl),
    c.1.ex 39 rfl,
    He.glo_ok X G (c.1.1.fact 26 (f := .glo "BadChange") rfl),
    xcB_ok (c.1.ex 40 rfl),
    He.eqO_ok (c.1.ex 41 rfl),
    of_decide_eq_true (c.1.ex 42 rfl),
    c.1.1.def_ 8 (d := d_BadChangeu_initu) rfl,
    He.eqO_ok (c.1.ex 43 rfl),
    He.glo_ok X G (c.1.1.fact 27 (f := .glo "BadTimes") rfl),
    xcB_ok (c.1.ex 44 rfl),
    He.eqO_ok (c.1.ex 45 rfl),
    of_decide_eq_true (c.1.ex 46 rfl),
    c.1.1.def_ 9 (d := d_BadTimesu_initu) rfl,
    He.eqO_ok (c.1.ex 47 rfl),
    He.glo_ok X G (c.1.1.fact 28 (f := .glo "BadWeight") rfl),
    xcB_ok (c.1.ex 48 rfl),
    He.eqO_ok (c.1.ex 49 rfl),
    of_decide_eq_true (c.1.ex 50 rfl),
    c.1.1.def_ 10 (d := d_BadWeightu_initu) rfl,
    He.eqO_ok (c.1.ex 51 rfl),
    He.glo_ok X G (c.1.1.fact 29 (f := .glo "NotDocument") rfl),
    xcB_ok (c.1.ex 52 rfl),
    He.eqO_ok (c.1.ex 53 rfl),
    of_decide_eq_true (c.1.ex 54 rfl),
    c.1.1.def_ 11 (d := d_NotDocumentu_initu) rfl,
    He.eqO_ok (c.1.ex 55 rfl),
    He.glo_ok X G (c.1.1.fact 30 (f := .glo "NoDocument") rfl),
    xcB_ok (c.1.ex 56 rfl),
    He.eqO_ok (c.1.ex 57 rfl),
    of_decide_eq_true (c.1.ex 58 rfl),
    c.1.1.def_ 12 (d := d_NoDocumentu_initu) rfl,
    He.eqO_ok (c.1.ex 59 rfl),
    He.glo_ok X G (c.1.1.fact 31 (f := .glo "NoLabel") rfl),
    xcB_ok (c.1.ex 60 rfl),
    He.eqO_ok (c.1.ex 61 rfl),
    of_decide_eq_true (c.1.ex 62 rfl),
    c.1.1.def_ 13 (d := d_NoLabelu_initu) rfl,
    He.eqO_ok (c.1.ex 63 rfl),
    He.glo_ok X G (c.1.1.fact 32 (f := .glo "UnlikeSchemes") rfl),
    xcB_ok (c.1.ex 64 rfl),
    c.1.ex 65 rfl,
    He.glo_ok X G (c.1.1.fact 33 (f := .glo "BadKey") rfl),
    xcB_ok (c.1.ex 66 rfl),
    He.eqO_ok (c.1.ex 67 rfl),
    of_decide_eq_true (c.1.ex 68 rfl),
    c.1.1.def_ 14 (d := d_BadKeyu_initu) rfl,
    He.eqO_ok (c.1.ex 69 rfl),
    He.glo_ok X G (c.1.1.fact 34 (f := .glo "KeyTaken") rfl),
    xcB_ok (c.1.ex 70 rfl),
    He.eqO_ok (c.1.ex 71 rfl),
    of_decide_eq_true (c.1.ex 72 rfl),
    c.1.1.def_ 15 (d := d_KeyTakenu_initu) rfl,
    He.eqO_ok (c.1.ex 73 rfl),
    He.glo_ok X G (c.1.1.fact 35 (f := .glo "UnknownKey") rfl),
    xcB_ok (c.1.ex 74 rfl),
    He.eqO_ok (c.1.ex 75 rfl),
    of_decide_eq_true (c.1.ex 76 rfl),
    c.1.1.def_ 16 (d := d_UnknownKeyu_initu) rfl,
    He.eqO_ok (c.1.ex 77 rfl),
    He.glo_ok X G (c.1.1.fact 36 (f := .glo "NotLet") rfl),
    xcB_ok (c.1.ex 78 rfl),
    He.eqO_ok (c.1.ex 79 rfl),
    of_decide_eq_true (c.1.ex 80 rfl),
    c.1.1.def_ 17 (d := d_NotLetu_initu) rfl,
    He.eqO_ok (c.1.ex 81 rfl),
    He.eqO_ok (c.1.ex 82 rfl),
    He.glo_ok X G (c.1.1.fact 37 (f := .glo "NothingToUndo") rfl),
    xcB_ok (c.1.ex 83 rfl),
    c.1.ex 84 rfl,
    fun X hX Y hY => of_decide_eq_true (List.all_eq_true.mp (List.all_eq_true.mp (c.1.ex 85 rfl) X hX) Y hY),
    fun X hX => of_decide_eq_true (List.all_eq_true.mp (c.1.ex 86 rfl) X hX),
    fun X hX => of_decide_eq_true (List.all_eq_true.mp (c.1.ex 87 rfl) X hX)⟩
end T
set_option Elab.async false
set_option linter.all false
set_option maxRecDepth 100000
set_option autoImplicit false
set_option maxHeartbeats 4000000
/-! The layer of mirrors: what a def computes, as a function on data. -/
namespace DL
open PySem L2 Evl PyProof.Rows
inductive Rz (α : Type) where
  | ok (a : α) (ρ : En)
  | ex (c : Xc) (ρ : En)
abbrev Mo (α : Type) := En → Option (Rz α)
def wpm {α : Type} (r : Option (Rz α)) (P : α → En → Prop) (x : PX) : Prop := match r with
  | some (.ok a ρ) => P a ρ
  | some (.ex c ρ) => x c ρ
  | none => False
def mRet {α : Type} (a : α) : Mo α := fun ρ => some (.ok a ρ)
def mBind {α β : Type} (m : Mo α) (f : α → Mo β) : Mo β := fun ρ => match m ρ with
  | some (.ok a ρ1) => f a ρ1
  | some (.ex c ρ1) => some (.ex c ρ1)
  | none => none
def mF {α : Type} (f : En → Option α) : Mo α := fun ρ => match f ρ with
  | some a => some (.ok a ρ)
  | none => none
def mNo {α : Type} : Mo α := fun _ => none
theorem wpm_bind {α β : Type} {m : Mo α} {f : α → Mo β} {ρ : En} {P : β → En → Prop} {x : PX} (h : wpm (mBind m f ρ) P x) : wpm (m ρ) (fun a ρ1 => wpm (f a ρ1) P x) x := by
  unfold mBind at h
  cases e : m ρ with
  | none => rw [e] at h; exact h
  | some r => cases r <;> (rw [e] at h; exact h)
theorem wpm_mono {α : Type} {r : Option (Rz α)} {P Q : α → En → Prop} {x : PX} (h : wpm r P x) (g : ∀ a ρ, P a ρ → Q a ρ) : wpm r Q x := by
  cases r with
  | none => exact h
  | some r => cases r with
    | ok a ρ => exact g a ρ h
    | ex c ρ => exact h
theorem wpm_F {α : Type} {f : En → Option α} {ρ : En} {P : α → En → Prop} {x : PX} (h : wpm (mF f ρ) P x) : ∃ a, f ρ = some a ∧ P a ρ := by
  unfold mF at h
  cases e : f ρ with
  | none => rw [e] at h; exact h.elim
  | some a => rw [e] at h; exact ⟨a, rfl, h⟩
section
variable {K : Frag} {W : WX}
def EvM (K : Frag) (W : WX) (te : TE) (m : Mo Dt) : Prop := ∀ (ρ : En) (x : PX) (P : Dt → En → Prop), wpm (m ρ) P x → EvD K W te ρ x P
def EvNM (K : Frag) (W : WX) (te : TE) (m : Mo Dt) : Prop := ∀ (ρ : En) (x : PX) (P : Dt → En → Prop), wpm (m ρ) P x → EvN K W te ρ x P
def TtM (K : Frag) (W : WX) (tt : TT) (m : Mo Bool) : Prop := ∀ (ρ : En) (x : PX) (P : Bool → En → Prop), wpm (m ρ) P x → TtD K W tt ρ x P
def ArM (K : Frag) (W : WX) (ta : TA) (m : Mo (List Dt)) : Prop := ∀ (ρ : En) (x : PX) (P : List Dt → En → Prop), wpm (m ρ) P x → ArD K W ta ρ x P
def ItM (K : Frag) (W : WX) (wi : TI) (m : Mo (List Dt)) : Prop := ∀ (ρ : En) (x : PX) (P : List Dt → En → Prop), wpm (m ρ) P x → ItD K W wi ρ x P
theorem em_new {te : TE} {m : Mo Dt} (h : EvNM K W te m) : EvM K W te m := fun ρ x P p => e_new (h ρ x P p)
/-! ### expressions -/
theorem e_fx {ρ : En} {x : PX} {i : Nat} {d : Dt} {P : Dt → En → Prop} (h : ρ[i]? = some (.fx d)) (p : P d ρ) : EvD K W (tVar i) ρ x P := fun σ F H Q s q _ => by
  obtain ⟨v, e1, e2⟩ := s.gh.fx i d h
  refine ⟨v, e1, q d ρ v F H p (Step.refl s) ?_⟩
  cases d with
  | own j =>
    unfold Rep at e2
    exact e2.elim
  | _ => exact e2
def mVar (i : Nat) : Mo Dt := fun ρ => match ρ[i]? with
  | some (.sh d) => some (.ok d ρ)
  | some (.fx d) => some (.ok d ρ)
  | some (.ow _ _) => some (.ok (.own i) ρ)
  | _ => none
theorem em_var {i : Nat} : EvM K W (tVar i) (mVar i) := fun ρ x P h => by
  unfold mVar at h
  cases e : ρ[i]? with
  | none => rw [e] at h; exact h.elim
  | some s => cases s with
    | no => rw [e] at h; exact h.elim
    | gh _ => rw [e] at h; exact h.elim
    | fx d => rw [e] at h; exact e_fx e h
    | sh d => rw [e] at h; exact e_var e h
    | ow l d => rw [e] at h; exact e_own e h
/-- a slot's object goes out: it is frozen -/
def mVarF (i : Nat) : Mo Dt := fun ρ => match ρ[i]? with
  | some (.sh d) => some (.ok d ρ)
  | some (.ow false d) => some (.ok d (ρ.set i (.sh d)))
  | _ => none
theorem em_int {i : Int} : EvM K W (tC (.int i)) (mRet (.int i)) := fun ρ x P h => e_int h
theorem em_str {z : Str} : EvM K W (tC (.str z)) (mRet (.str z)) := fun ρ x P h => e_str h
theorem em_bl {z : Bool} : EvM K W (tC (.bl z)) (mRet (.bl z)) := fun ρ x P h => e_bl h
theorem em_non : EvM K W (tC .non) (mRet .non) := fun ρ x P h => e_non h
theorem em_ty {z : String} : EvM K W (tC (.ty z)) (mRet (.ty z)) := fun ρ x P h => e_ty h
theorem em_ref {a : Addr} : EvM K W (tC (.ref a)) (mRet (.ref a)) := fun ρ x P h => e_ref h
/-! operators -/
def OpF (K : Frag) (r : R2) (f : En → Dt → Dt → Option Dt) : Prop := ∀ (ρ : En) (d e z : Dt) (P : Dt → En → Prop), f ρ d e = some z → P z ρ → OpD K r d e ρ P
def OpNF (K : Frag) (r : R2) (f : En → Dt → Dt → Option Dt) : Prop := ∀ (ρ : En) (d e z : Dt) (P : Dt → En → Prop), f ρ d e = some z → P z ρ → OpN K r d e ρ P
def CaF (K : Frag) (r : List V → Hp → VK → Prop) (f : En → List Dt → Option Dt) : Prop := ∀ (ρ : En) (ds : List Dt) (z : Dt) (P : Dt → En → Prop), f ρ ds = some z → P z ρ → CaD K r ds ρ P
def CaNF (K : Frag) (r : List V → Hp → VK → Prop) (f : En → List Dt → Option Dt) : Prop := ∀ (ρ : En) (ds : List Dt) (z : Dt) (P : Dt → En → Prop), f ρ ds = some z → P z ρ → CaN K r ds ρ P
def UnF (K : Frag) (r : V → Hp → VK → Prop) (f : En → Dt → Option Dt) : Prop := ∀ (ρ : En) (d z : Dt) (P : Dt → En → Prop), f ρ d = some z → P z ρ → UnD K r d ρ P
def mOp (f : En → Dt → Dt → Option Dt) (a b : Mo Dt) : Mo Dt := mBind a fun d => mBind b fun e => mF fun ρ => f ρ d e
def mUn (f : En → Dt → Option Dt) (a : Mo Dt) : Mo Dt := mBind a fun d => mF fun ρ => f ρ d
def mCB (f : En → List Dt → Option Dt) (a : Mo (List Dt)) : Mo Dt := mBind a fun ds => mF fun ρ => f ρ ds
theorem em_op {r : R2} {f : En → Dt → Dt → Option Dt} {ta tb : TE} {a b : Mo Dt} (hf : OpF K r f) (ha : EvM K W ta a) (hb : EvM K W tb b) : EvM K W (tOp r ta tb) (mOp f a b) := fun ρ x P h =>
  e_op (ha ρ x _ (wpm_mono (wpm_bind h) fun d ρ1 h1 => hb ρ1 x _ (wpm_mono (wpm_bind h1) fun e ρ2 h2 => by
    obtain ⟨z, h3, h4⟩ := wpm_F h2
    exact hf ρ2 d e z P h3 h4)))
theorem em_un {r : V → Hp → VK → Prop} {f : En → Dt → Option Dt} {ta : TE} {a : Mo Dt} (hf : UnF K r f) (ha : EvM K W ta a) : EvM K W (tUn r ta) (mUn f a) := fun ρ x P h =>
  e_un (ha ρ x _ (wpm_mono (wpm_bind h) fun d ρ1 h1 => by
    obtain ⟨z, h3, h4⟩ := wpm_F h1
    exact hf ρ1 d z P h3 h4))
theorem em_cb {r : List V → Hp → VK → Prop} {f : En → List Dt → Option Dt} {ta : TA} {a : Mo (List Dt)} (hf : CaF K r f) (ha : ArM K W ta a) : EvM K W (tCB r ta) (mCB f a) := fun ρ x P h =>
  e_cb (ha ρ x _ (wpm_mono (wpm_bind h) fun d ρ1 h1 => by
    obtain ⟨z, h3, h4⟩ := wpm_F h1
    exact hf ρ1 d z P h3 h4))
theorem OpNF.d {r : R2} {f : En → Dt → Dt → Option Dt} (h : OpNF K r f) : OpF K r f := fun ρ d e z P h1 h2 => o_new (h ρ d e z P h1 h2)
theorem CaNF.d {r : List V → Hp → VK → Prop} {f : En → List Dt → Option Dt} (h : CaNF K r f) : CaF K r f := fun ρ d z P h1 h2 => c_new (h ρ d z P h1 h2)
/-! arguments -/
def mNil : Mo (List Dt) := mRet []
def mCons (a : Mo Dt) (b : Mo (List Dt)) : Mo (List Dt) := mBind a fun d => mBind b fun ds => mRet (d :: ds)
theorem am_nil : ArM K W tNil mNil := fun ρ x P h => a_nil h
theorem am_cons {te : TE} {ta : TA} {a : Mo Dt} {b : Mo (List Dt)} (ha : EvM K W te a) (hb : ArM K W ta b) : ArM K W (tCons te ta) (mCons a b) := fun ρ x P h =>
  a_cons (ha ρ x _ (wpm_mono (wpm_bind h) fun d ρ1 h1 => hb ρ1 x _ (wpm_mono (wpm_bind h1) fun ds ρ2 h2 => h2)))
/-! tests -/
def mTest (a : Mo Dt) : Mo Bool := mBind a fun d => match d with
  | .bl b => mRet b
  | _ => mNo
def mTru (a : Mo Dt) : Mo Bool := mBind a fun d => mF fun ρ => truD ρ d
def mAnd (a b : Mo Bool) : Mo Bool := mBind a fun x => match x with
  | true => b
  | false => mRet false
def mOr (a b : Mo Bool) : Mo Bool := mBind a fun x => match x with
  | true => mRet true
  | false => b
def mNot (a : Mo Bool) : Mo Bool := mBind a fun x => mRet (!x)
theorem bl_of {d : Dt} {ρ : En} {P : Bool → En → Prop} {x : PX} (h : wpm ((match d with | .bl b => mRet b | _ => mNo : Mo Bool) ρ) P x) : ∃ b, d = .bl b ∧ P b ρ := by
  cases d with
  | bl b => exact ⟨b, rfl, h⟩
  | _ => exact h.elim
theorem tm_test {te : TE} {a : Mo Dt} (ha : EvM K W te a) : TtM K W (tTest te) (mTest a) := fun ρ x P h =>
  t_test (ha ρ x _ (wpm_mono (wpm_bind h) fun d ρ1 h1 => bl_of h1))
theorem tm_tru {te : TE} {a : Mo Dt} (ha : EvM K W te a) : TtM K W (tTru K te) (mTru a) := fun ρ x P h =>
  t_tru (ha ρ x _ (wpm_mono (wpm_bind h) fun d ρ1 h1 => wpm_F h1))
theorem tm_or {t u : TT} {a b : Mo Bool} (ha : TtM K W t a) (hb : TtM K W u b) : TtM K W (tOr t u) (mOr a b) := fun ρ x P h =>
  t_or (ha ρ x _ (wpm_mono (wpm_bind h) fun d ρ1 h1 => by
    cases d with
    | true => exact ⟨fun _ => h1, fun z => nomatch z⟩
    | false => exact ⟨(fun z => nomatch z), fun _ => hb ρ1 x P h1⟩))
theorem tm_not {t : TT} {a : Mo Bool} (ha : TtM K W t a) : TtM K W (tNot t) (mNot a) := fun ρ x P h =>
  t_not (ha ρ x _ (wpm_mono (wpm_bind h) fun d ρ1 h1 => h1))
theorem tm_yes : TtM K W tYes (mRet true) := fun ρ x P h => t_yes h
def mIf {α : Type} (t : Mo Bool) (a b : Mo α) : Mo α := mBind t fun x => match x with
  | true => a
  | false => b
theorem em_if {t : TT} {ta tb : TE} {m : Mo Bool} {a b : Mo Dt} (ht : TtM K W t m) (ha : EvM K W ta a) (hb : EvM K W tb b) : EvM K W (tIf t ta tb) (mIf m a b) := fun ρ x P h =>
  e_if (ht ρ x _ (wpm_mono (wpm_bind h) fun d ρ1 h1 => by
    cases d with
    | true => exact ⟨fun _ => ha ρ1 x P h1, fun z => nomatch z⟩
    | false => exact ⟨(fun z => nomatch z), fun _ => hb ρ1 x P h1⟩))
def mAndV (a b : Mo Dt) : Mo Dt := mBind (mTest a) fun x => match x with
  | true => b
  | false => mRet (.bl false)
def mOrV (a b : Mo Dt) : Mo Dt := mBind (mTest a) fun x => match x with
  | true => mRet (.bl true)
  | false => b
def mNotV (a : Mo Dt) : Mo Dt := mBind (mTest a) fun x => mRet (.bl (!x))
/-- a chain -/
def mChain (f g : En → Dt → Dt → Option Dt) (a b c : Mo Dt) : Mo Dt := mBind a fun d => mBind b fun e => mBind (mTest (mF fun ρ => f ρ d e)) fun x => match x with
  | true => mBind c fun k => mF fun ρ => g ρ e k
  | false => mRet (.bl false)
/-! displays -/
def mTup (a : Mo (List Dt)) : Mo Dt := mBind a fun ds => mF fun _ => if allReal ds = true ∧ ds.length ≤ 100000 then some (.tup ds) else none
def mLst (a : Mo (List Dt)) : Mo Dt := mBind a fun ds => mF fun _ => if allReal ds = true ∧ ds.length ≤ 100000 then some (.lst ds) else none
theorem ite_some {α : Type} {c : Prop} [Decidable c] {a b : α} (h : (if c then some a else none) = some b) : c ∧ a = b := by
  by_cases z : c
  · rw [if_pos z] at h; exact ⟨z, Option.some.inj h⟩
  · rw [if_neg z] at h; cases h
theorem en_lst {ta : TA} {a : Mo (List Dt)} (ha : ArM K W ta a) : EvNM K W (tLst ta) (mLst a) := fun ρ x P h =>
  n_lst (ha ρ x _ (wpm_mono (wpm_bind h) fun d ρ1 h1 => by
    obtain ⟨z, h2, h3⟩ := wpm_F h1
    obtain ⟨⟨h4, h5⟩, rfl⟩ := ite_some h2
    exact ⟨h4, h5, h3⟩))
/-! slices -/
def mNoPart : Mo (Option Int) := mRet none
def mPart (a : Mo Dt) : Mo (Option Int) := mBind a fun d => match d with
  | .int i => mRet (some i)
  | _ => mNo
def mSl (f : En → Dt → Option Int → Option Int → Option Dt) (a : Mo Dt) (l h : Mo (Option Int)) : Mo Dt := mBind a fun d => mBind l fun lo => mBind h fun hi => mF fun ρ => f ρ d lo hi
end
end DL
set_option Elab.async false
set_option linter.all false
set_option maxRecDepth 100000
set_option autoImplicit false
set_option maxHeartbeats 4000000
namespace DL
open PySem L2 Evl PyProof.Rows
/-- what stands in a slot that owns -/
def look (ρ : En) : Dt → Dt
  | .own k => match ρ[k]? with
    | some (.ow _ d) => d
    | _ => .own k
  | d => d
theorem look_own {ρ : En} {d e : Dt} (h : look ρ d = e) (he : e.real = true) : d = e ∨ ∃ k b, d = .own k ∧ ρ[k]? = some (.ow b e) := by
  cases d with
  | own k =>
    have h : (match ρ[k]? with
      | some (.ow _ d) => d
      | _ => .own k) = e := h
    cases q : ρ[k]? with
    | none => rw [q] at h; subst h; cases he
    | some s => cases s with
      | ow b d => rw [q] at h; subst h; exact .inr ⟨k, b, rfl, q⟩
      | _ => rw [q] at h; subst h; cases he
  | _ => exact .inl h
theorem look_lst {ρ : En} {d : Dt} {ds : List Dt} (h : look ρ d = .lst ds) : LstAt ρ d ds := look_own h rfl
def dicL : Dt → Option (List (Key × Dt))
  | .dic ks ds => if ks.length = ds.length then some (ks.zip ds) else none
  | _ => none
theorem zip_fst {α β : Type} : ∀ {a : List α} {b : List β}, a.length = b.length → (a.zip b).map (·.1) = a
  | [], _, _ => rfl
  | x :: a, [], h => by cases h
  | x :: a, y :: b, h => by rw [List.zip_cons_cons, List.map_cons, zip_fst (Nat.succ.inj h)]
theorem zip_snd {α β : Type} : ∀ {a : List α} {b : List β}, a.length = b.length → (a.zip b).map (·.2) = b
  | [], [], _ => rfl
  | [], _ :: _, h => by cases h
  | x :: a, [], h => by cases h
  | x :: a, y :: b, h => by rw [List.zip_cons_cons, List.map_cons, zip_snd (Nat.succ.inj h)]
theorem dicL_eq {d : Dt} {l : List (Key × Dt)} (h : dicL d = some l) : d = dicD l := by
  cases d with
  | dic ks ds =>
    obtain ⟨h1, rfl⟩ := ite_some (h : (if ks.length = ds.length then some (ks.zip ds) else none) = some l)
    unfold dicD
    rw [zip_fst h1, zip_snd h1]
  | _ => cases h
theorem dicL_dicD (l : List (Key × Dt)) : dicL (dicD l) = some l := by
  show (if (l.map (·.1)).length = (l.map (·.2)).length then some ((l.map (·.1)).zip (l.map (·.2))) else none) = _
  rw [if_pos (by simp)]
  congr 1
  induction l with
  | nil => rfl
  | cons p l ih => rw [List.map_cons, List.map_cons, List.zip_cons_cons, ih]
theorem dicL_real {d : Dt} {l : List (Key × Dt)} (h : dicL d = some l) : d.real = true := by
  rw [dicL_eq h]; rfl
theorem look_dic {ρ : En} {d : Dt} {l : List (Key × Dt)} (h : dicL (look ρ d) = some l) : DicAt ρ d l := by
  rcases look_own rfl (dicL_real h) with e | ⟨k, b, e1, e2⟩
  · exact .inl (e.trans (dicL_eq h))
  · exact .inr ⟨k, b, e1, by rw [e2, dicL_eq h]⟩
section
variable {K : Frag} {σ : L2.St} {F H : Hp} {ρ : En}
theorem dpAt {d : Dt} {v : V} {p : PyData} (s : Sym K F H σ ρ) (r : RepV K F σ d v) (h : (look ρ d).pd = some p) : Dp K H v p := by
  rcases look_own rfl (pd_real h) with e | ⟨k, b, e1, e2⟩
  · rw [← e] at h
    exact ((r.real (pd_real h)).mono s.exx).dp h
  · subst e1
    have e3 : look ρ (.own k) = look ρ (.own k) := rfl
    cases q : look ρ (.own k) with
    | lst bs =>
      rw [q] at h e2
      obtain ⟨c, xs, rfl, h1, h2⟩ := LstAt.at_ (.inr ⟨k, b, rfl, e2⟩) s r
      exact Rep.dp (d := .lst bs) (show Rep K H (.lst bs) (.ref c) by unfold Rep; exact ⟨c, xs, rfl, h1, h2.mono s.exx⟩) h
    | non => rw [q] at e2; obtain ⟨a, e1, e3, e4⟩ := s.ow k b _ e2; exact e4.elim
    | bl _ => rw [q] at e2; obtain ⟨a, e1, e3, e4⟩ := s.ow k b _ e2; exact e4.elim
    | int _ => rw [q] at e2; obtain ⟨a, e1, e3, e4⟩ := s.ow k b _ e2; exact e4.elim
    | str _ => rw [q] at e2; obtain ⟨a, e1, e3, e4⟩ := s.ow k b _ e2; exact e4.elim
    | tup _ => rw [q] at e2; obtain ⟨a, e1, e3, e4⟩ := s.ow k b _ e2; exact e4.elim
    | _ => rw [q] at h; cases h
end
section
variable {K : Frag}
/-! ### arithmetic -/
def addF (ρ : En) (d e : Dt) : Option Dt := match look ρ d, look ρ e with
  | .int i, .int j => some (.int (i + j))
  | .str a, .str b => if a.length + b.length ≤ 1000000 then some (.str (a ++ b)) else none
  | .lst a, .lst b => if a.length + b.length ≤ 100000 then some (.lst (a ++ b)) else none
  | _, _ => none
/-- a slot never owns what is no object -/
theorem opd_own {r : R2} {d e z : Dt} {ρ : En} {P : Dt → En → Prop} (h : look ρ d = z) (hr : z.real = true) (hn : ∀ (F H : Hp) (p : Addr), ¬ Own K F H p z) (g : d = z → OpD K r d e ρ P) : OpD K r d e ρ P := by
  rcases look_own h hr with e | ⟨k, b, e1, e2⟩
  · exact g e
  · intro σ F H Q u v s r1 r2 q
    obtain ⟨a, _, _, e4⟩ := s.ow k b _ e2
    exact (hn _ _ _ e4).elim
theorem opd_own2 {r : R2} {d e z : Dt} {ρ : En} {P : Dt → En → Prop} (h : look ρ e = z) (hr : z.real = true) (hn : ∀ (F H : Hp) (p : Addr), ¬ Own K F H p z) (g : e = z → OpD K r d e ρ P) : OpD K r d e ρ P := by
  rcases look_own h hr with e | ⟨k, b, e1, e2⟩
  · exact g e
  · intro σ F H Q u v s r1 r2 q
    obtain ⟨a, _, _, e4⟩ := s.ow k b _ e2
    exact (hn _ _ _ e4).elim
theorem addF_ok : OpF K (rAddV K) addF := fun ρ d e z P h p => by
  unfold addF at h
  split at h
  · rename_i i j h1 h2
    cases h
    refine opd_own h1 rfl (fun _ _ _ h => h) fun e1 => opd_own2 h2 rfl (fun _ _ _ h => h) fun e2 => ?_
    subst e1 e2
    exact v_add (o_add p)
  · rename_i a b h1 h2
    obtain ⟨h3, rfl⟩ := ite_some h
    refine opd_own h1 rfl (fun _ _ _ h => h) fun e1 => opd_own2 h2 rfl (fun _ _ _ h => h) fun e2 => ?_
    subst e1 e2
    exact v_add (o_addS h3 p)
  · rename_i a b h1 h2
    obtain ⟨h3, rfl⟩ := ite_some h
    exact o_cat (look_lst h1) (look_lst h2) h3 p
  · cases h
def subF (_ : En) (d e : Dt) : Option Dt := match d, e with
  | .int i, .int j => some (.int (i - j))
  | _, _ => none
def mulF (_ : En) (d e : Dt) : Option Dt := match d, e with
  | .int i, .int j => if i.natAbs < 2 ^ 4000 ∧ j.natAbs < 2 ^ 4000 then some (.int (i * j)) else none
  | .str z, .int n => if 0 ≤ n ∧ n ≤ 100000 ∧ z.length ≤ 100 then some (.str (strMul z n)) else none
  | _, _ => none
theorem mulF_ok : OpF K rMulU mulF := fun ρ d e z P h p => by
  unfold mulF at h
  split at h
  · obtain ⟨⟨h1, h2⟩, rfl⟩ := ite_some h
    exact o_mulW (wide_mul h1 h2 (by decide) (by decide) (by decide)) p
  · obtain ⟨⟨h1, h2, h3⟩, rfl⟩ := ite_some h
    exact o_mulS h1 h2 h3 p
  · cases h
def fdivF (_ : En) (d e : Dt) : Option Dt := match d, e with
  | .int i, .int j => if 0 < j ∧ j < 2 ^ 200 then some (.int (i / j)) else none
  | _, _ => none
theorem fdivF_ok : OpF K (rI CDivW fun i j => .int (i / j)) fdivF := fun ρ d e z P h p => by
  unfold fdivF at h
  split at h
  · obtain ⟨⟨h1, h2⟩, rfl⟩ := ite_some h
    exact o_fdiv h1 h2 p
  · cases h
def modF (_ : En) (d e : Dt) : Option Dt := match d, e with
  | .int i, .int j => if 0 < j then some (.int (i % j)) else none
  | _, _ => none
theorem modF_ok : OpF K (rI (fun _ j => 0 < j) fun i j => .int (i % j)) modF := fun ρ d e z P h p => by
  unfold modF at h
  split at h
  · obtain ⟨h1, rfl⟩ := ite_some h
    exact o_mod h1 p
  · cases h
def powF (_ : En) (d e : Dt) : Option Dt := match d, e with
  | .int i, .int j => if 0 ≤ j ∧ j ≤ 1000000 ∧ i.natAbs < 2 ^ 64 then some (.int (i ^ j.toNat)) else none
  | _, _ => none
theorem powF_ok : OpF K (rI CPow fun i j => .int (i ^ j.toNat)) powF := fun ρ d e z P h p => by
  unfold powF at h
  split at h
  · obtain ⟨h1, rfl⟩ := ite_some h
    exact o_pow h1 p
  · cases h
def negF (_ : En) (d : Dt) : Option Dt := match d with
  | .int i => some (.int (-i))
  | _ => none
theorem negF_ok : UnF K (rU fun i => .int (-i)) negF := fun ρ d z P h p => by
  unfold negF at h
  split at h
  · cases h; exact u_neg p
  · cases h
/-! ### comparisons -/
def eqB (ρ : En) (d e : Dt) : Option Bool := match look ρ d, look ρ e with
  | .int i, .int j => some (decide (i = j))
  | .str i, .str j => some (decide (i = j))
  | .bl i, .bl j => some (decide (i = j))
  | .dic ks ds, .dic ls es => match dicL (.dic ks ds), dicL (.dic ls es) with
    | some l, some m => eqDic l m
    | _, _ => none
  | a, b => match a.pd, b.pd with
    | some p, some q => if p.depth ≤ 64 then some (PyData.eqv p q) else none
    | _, _ => none
def eqF (ρ : En) (d e : Dt) : Option Dt := (eqB ρ d e).map .bl
def neF (ρ : En) (d e : Dt) : Option Dt := (eqB ρ d e).map fun b => .bl (!b)
theorem rEqP_at {ρ : En} {d e : Dt} {p q : PyData} {P : Dt → En → Prop} (h1 : (look ρ d).pd = some p) (h2 : (look ρ e).pd = some q) (hz : p.depth ≤ 64) (k : P (.bl (PyData.eqv p q)) ρ) : OpD K (rEqV2 K) d e ρ P := fun σ F H Q u v s r1 r2 g =>
  .inl (.inr ⟨p, q, dpAt s r1 h1, dpAt s r2 h2, Dt.pd_plain h1, Dt.pd_plain h2, hz, g _ _ _ F H k (Step.refl s) rfl⟩)
theorem rNeP_at {ρ : En} {d e : Dt} {p q : PyData} {P : Dt → En → Prop} (h1 : (look ρ d).pd = some p) (h2 : (look ρ e).pd = some q) (hz : p.depth ≤ 64) (k : P (.bl (!PyData.eqv p q)) ρ) : OpD K (rNeV2 K) d e ρ P := fun σ F H Q u v s r1 r2 g =>
  .inl (.inr ⟨p, q, dpAt s r1 h1, dpAt s r2 h2, Dt.pd_plain h1, Dt.pd_plain h2, hz, g _ _ _ F H k (Step.refl s) rfl⟩)
theorem eqF_ok : OpF K (rEqV2 K) eqF := fun ρ d e z P h p => by
  unfold eqF at h
  obtain ⟨b, hb, rfl⟩ := Option.map_eq_some_iff.mp h
  unfold eqB at hb
  split at hb
  · rename_i i j h1 h2
    cases hb
    refine opd_own h1 rfl (fun _ _ _ h => h) fun e1 => opd_own2 h2 rfl (fun _ _ _ h => h) fun e2 => ?_
    subst e1 e2
    exact v_eq (o_eqI p)
  · rename_i i j h1 h2
    cases hb
    refine opd_own h1 rfl (fun _ _ _ h => h) fun e1 => opd_own2 h2 rfl (fun _ _ _ h => h) fun e2 => ?_
    subst e1 e2
    exact v_eq (o_eqS p)
  · rename_i i j h1 h2
    cases hb
    refine opd_own h1 rfl (fun _ _ _ h => h) fun e1 => opd_own2 h2 rfl (fun _ _ _ h => h) fun e2 => ?_
    subst e1 e2
    exact v_eq (o_eqB p)
  · rename_i h1 h2
    split at hb
    · rename_i l m e1 e2
      exact o_eqDic (look_dic (by rw [h1]; exact e1)) (look_dic (by rw [h2]; exact e2)) hb p
    · cases hb
  · split at hb
    · rename_i u v e1 e2
      obtain ⟨hz, rfl⟩ := ite_some hb
      exact rEqP_at e1 e2 hz p
    · cases hb
theorem neF_ok : OpF K (rNeV2 K) neF := fun ρ d e z P h p => by
  unfold neF at h
  obtain ⟨b, hb, rfl⟩ := Option.map_eq_some_iff.mp h
  unfold eqB at hb
  split at hb
  · rename_i i j h1 h2
    cases hb
    refine opd_own h1 rfl (fun _ _ _ h => h) fun e1 => opd_own2 h2 rfl (fun _ _ _ h => h) fun e2 => ?_
    subst e1 e2
    exact v_ne (o_neI p)
  · rename_i i j h1 h2
    cases hb
    refine opd_own h1 rfl (fun _ _ _ h => h) fun e1 => opd_own2 h2 rfl (fun _ _ _ h => h) fun e2 => ?_
    subst e1 e2
    exact v_ne (o_neS p)
  · rename_i i j h1 h2
    cases hb
    refine opd_own h1 rfl (fun _ _ _ h => h) fun e1 => opd_own2 h2 rfl (fun _ _ _ h => h) fun e2 => ?_
    subst e1 e2
    exact v_ne (o_neB p)
  · rename_i h1 h2
    split at hb
    · rename_i l m e1 e2
      exact o_neDic (look_dic (by rw [h1]; exact e1)) (look_dic (by rw [h2]; exact e2)) hb p
    · cases hb
  · split at hb
    · rename_i u v e1 e2
      obtain ⟨hz, rfl⟩ := ite_some hb
      exact rNeP_at e1 e2 hz p
    · cases hb
def cmpF (f : Int → Int → Bool) (g : List Nat → List Nat → Bool) (h : PyData → PyData → Bool) (_ : En) (d e : Dt) : Option Dt := match d, e with
  | .int i, .int j => some (.bl (f i j))
  | .str i, .str j => some (.bl (g i.cps.toList j.cps.toList))
  | a, b => match a.pd, b.pd with
    | some p, some q => if PySem.W.alike p q = true ∧ p.depth ≤ 64 ∧ a.isNon = false then some (.bl (h p q)) else none
    | _, _ => none
theorem cmpF_ok {f : Int → Int → Bool} {g : List Nat → List Nat → Bool} {h : PyData → PyData → Bool} : OpF K (rCmpU f g h K) (cmpF f g h) := fun ρ d e z P hh p => by
  unfold cmpF at hh
  split at hh
  · cases hh; exact o_cmpI p
  · cases hh; exact o_cmpS p
  · split at hh
    · rename_i u v e1 e2
      obtain ⟨⟨h1, h2, h3⟩, rfl⟩ := ite_some hh
      refine o_cmpD e1 e2 h1 (fun z => ?_) h2 p
      subst z
      cases d with
      | non => cases h3
      | lst ds => unfold Dt.pd at e1; cases q : pdL ds <;> rw [q] at e1 <;> cases e1
      | tup ds => unfold Dt.pd at e1; cases q : pdL ds <;> rw [q] at e1 <;> cases e1
      | _ => cases e1
    · cases hh
abbrev ltF := cmpF (fun i j => decide (i < j)) (fun a b => decide (a < b)) (fun d e => PySem.W.dataLt d e)
abbrev geF := cmpF (fun i j => decide (j ≤ i)) (fun a b => !decide (a < b)) (fun d e => !PySem.W.dataLt d e)
/-! ### in -/
def inB (ρ : En) (d e : Dt) : Option Bool := match look ρ e with
  | .lst bs => match d.pd, pdL bs with
    | some p, some es => if p.depth ≤ 63 then some (es.any fun z => PyData.eqv z p) else none
    | _, _ => none
  | .tup bs => match d.pd, pdL bs with
    | some p, some es => if p.depth ≤ 63 then some (es.any fun z => PyData.eqv z p) else none
    | _, _ => none
  | .str z => match d with
    | .str y => some (!(Builtin.Str.occurrences z y 0 z.length 1).isEmpty)
    | _ => none
  | .dic ks ds => match d.key, dicL (.dic ks ds) with
    | some k, some l => some (valD l k).isSome
    | _, _ => none
  | _ => none
def inF (neg : Bool) (ρ : En) (d e : Dt) : Option Dt := (inB ρ d e).map fun b => .bl (neg != b)
/-! ### subscripts, cuts -/
def ixF (ρ : En) (d e : Dt) : Option Dt := match look ρ d with
  | .lst ds => match e with
    | .int i => atI ds i
    | _ => none
  | .tup ds => match e with
    | .int i => atI ds i
    | _ => none
  | .str z => match e with
    | .int i => if z.length ≤ 1000000 then (atI z.cps.toList i).map fun c => .str ⟨#[c]⟩ else none
    | _ => none
  | .dic ks ds => match e.key, dicL (.dic ks ds) with
    | some k, some l => valD l k
    | _, _ => none
  | _ => none
theorem ixF_ok : OpF K (rIxV K) ixF := fun ρ d e z P h p => by
  unfold ixF at h
  split at h
  · rename_i ds h1
    split at h
    · rcases look_own h1 rfl with e3 | ⟨k, c, e3, e4⟩
      · subst e3; exact v_ix (o_ixL h p)
      · subst e3; exact v_ix (o_ixO e4 h p)
    · cases h
  · rename_i ds h1
    split at h
    · refine opd_own h1 rfl (fun _ _ _ h => h) fun e3 => ?_
      subst e3
      exact v_ix (o_ixT h p)
    · cases h
  · rename_i y h1
    split at h
    · by_cases hz : y.length ≤ 1000000
      · rw [if_pos hz] at h
        obtain ⟨c, h2, rfl⟩ := Option.map_eq_some_iff.mp h
        refine opd_own h1 rfl (fun _ _ _ h => h) fun e3 => ?_
        subst e3
        exact v_ix (o_ixS hz h2 p)
      · rw [if_neg hz] at h; cases h
    · cases h
  · rename_i ks ds h1
    split at h
    · rename_i k l e1 e2
      exact o_ixD (look_dic (by rw [h1]; exact e2)) e1 h p
    · cases h
  · cases h
end
end DL
set_option Elab.async false
set_option linter.all false
set_option maxRecDepth 100000
set_option autoImplicit false
set_option maxHeartbeats 4000000
namespace DL
open PySem L2 Evl PyProof.Rows
section
variable {K : Frag} {W : WX}
/-- a slot never owns what is no object -/
theorem cad_own {r : List V → Hp → VK → Prop} {d z : Dt} {ds : List Dt} {ρ : En} {P : Dt → En → Prop} (h : look ρ d = z) (hr : z.real = true) (hn : ∀ (F H : Hp) (p : Addr), ¬ Own K F H p z) (g : d = z → CaD K r ds ρ P) : CaD K r ds ρ P := by
  rcases look_own h hr with e | ⟨k, b, e1, e2⟩
  · exact g e
  · intro σ F H Q u s r1 q
    obtain ⟨a, _, _, e4⟩ := s.ow k b _ e2
    exact (hn _ _ _ e4).elim
/-! ### built-in functions -/
def absF (_ : En) (ds : List Dt) : Option Dt := match ds with
  | [.int i] => some (.int (if i < 0 then -i else i))
  | _ => none
theorem absF_ok : CaF K (fun xs H Q => ∃ i, xs = [.int i] ∧ Q (.int (if i < 0 then -i else i)) H) absF := fun ρ ds z P h p => by
  unfold absF at h
  split at h
  · cases h; exact c_abs p
  · cases h
def intF (_ : En) (ds : List Dt) : Option Dt := match ds with
  | [.int i] => some (.int i)
  | [.bl b] => some (.int (if b then 1 else 0))
  | _ => none
theorem intF_ok : CaF K rIntU intF := fun ρ ds z P h p => by
  unfold intF at h
  split at h
  · cases h; exact c_int p
  · cases h
    intro σ F H Q us s r q
    obtain ⟨v, _, rfl, rv, rfl⟩ := r
    rename_i b
    have e : v = .bl b := rv
    subst e
    exact .inr ⟨b, rfl, q _ _ _ F H p (Step.refl s) rfl⟩
  · cases h
def lenF (ρ : En) (ds : List Dt) : Option Dt := match ds with
  | [d] => match look ρ d with
    | .lst xs => some (.int xs.length)
    | .tup xs => some (.int xs.length)
    | .str z => if z.length ≤ 1000000 then some (.int z.length) else none
    | .dic ks vs => match dicL (.dic ks vs) with
      | some l => some (.int l.length)
      | none => none
    | _ => none
  | _ => none
theorem lenF_ok : CaF K (rLenV K) lenF := fun ρ ds z P h p => by
  unfold lenF at h
  split at h
  · rename_i d
    split at h
    · rename_i xs h1
      cases h
      rcases look_own h1 rfl with e | ⟨k, b, e1, e2⟩
      · subst e; exact v_len (c_lenL p)
      · subst e1; exact v_len (c_lenO e2 p)
    · rename_i xs h1
      cases h
      refine cad_own h1 rfl (fun _ _ _ h => h) fun e => ?_
      subst e
      exact v_len (c_lenT p)
    · rename_i y h1
      obtain ⟨hz, rfl⟩ := ite_some h
      refine cad_own h1 rfl (fun _ _ _ h => h) fun e => ?_
      subst e
      exact v_len (c_lenS hz p)
    · rename_i ks vs h1
      split at h
      · rename_i l e1
        cases h
        exact c_lenD (look_dic (by rw [h1]; exact e1)) p
      · cases h
    · cases h
  · cases h
def listF (ρ : En) (ds : List Dt) : Option Dt := match ds with
  | [d] => match look ρ d with
    | .lst xs => some (.lst xs)
    | .tup xs => some (.lst xs)
    | .dic ks vs => match dicL (.dic ks vs) with
      | some l => some (.lst (keysD l))
      | none => none
    | _ => none
  | _ => none
def tupF (ρ : En) (ds : List Dt) : Option Dt := match ds with
  | [d] => match look ρ d with
    | .lst xs => some (.tup xs)
    | .tup xs => some (.tup xs)
    | _ => none
  | _ => none
/-- a list of pairs -/
def prsOf : List Dt → Option (List (Key × Dt))
  | [] => some []
  | .tup [k, v] :: ds => match k.key, prsOf ds with
    | some k, some l => some ((k, v) :: l)
    | _, _ => none
  | _ => none
theorem prsOf_pairs : ∀ (l : List (Key × Dt)), prsOf (pairsD l) = some l
  | [] => rfl
  | (k, v) :: l => by
    have e : pairsD ((k, v) :: l) = .tup [keyD k, v] :: pairsD l := rfl
    rw [e]
    unfold prsOf
    rw [prsOf_pairs l]
    cases k <;> rfl
def dictF (ρ : En) (ds : List Dt) : Option Dt := match ds with
  | [d] => match look ρ d with
    | .dic ks vs => match dicL (.dic ks vs) with
      | some l => some (dicD l)
      | none => none
    | .lst xs => if d.real = true then match prsOf xs with
      | some l => some (dicD (mergeD [] l))
      | none => none else none
    | _ => none
  | _ => none
/-- isinstance; cls: the program's classes -/
def isiF (K : Frag) (cls : List Addr) (ρ : En) (ds : List Dt) : Option Dt := match ds with
  | [d, .ty n] => match d.tyN with
    | some T => (kitB T n).map .bl
    | none => none
  | [d, .ref D] => match look ρ d with
    | .ins C fs vs => if C ∈ cls then (PySem.W.kitOne K (.ref C) (.ref D)).map .bl else none
    | _ => match d.tyN with
      | some _ => if D ∈ cls then some (.bl false) else none
      | none => none
  | _ => none
theorem isiF_ok {cls : List Addr} (hc : ∀ C ∈ cls, ClC K C) : CaF K (rIsi K) (isiF K cls) := fun ρ ds z P h p => by
  unfold isiF at h
  split at h
  · split at h
    · rename_i T e1
      obtain ⟨b, e2, rfl⟩ := Option.map_eq_some_iff.mp h
      exact c_isi e1 e2 p
    · cases h
  · split at h
    · rename_i C fs vs h1
      by_cases hC : C ∈ cls
      · rw [if_pos hC] at h
        obtain ⟨b, e2, rfl⟩ := Option.map_eq_some_iff.mp h
        exact c_isIns (look_own h1 rfl) (hc C hC) e2 p
      · rw [if_neg hC] at h; cases h
    · split at h
      · rename_i T e1
        obtain ⟨hD, rfl⟩ := ite_some h
        exact c_isNo e1 (hc _ hD) p
      · cases h
  · cases h
/-! ### methods of texts -/
def mMtS (f : Str → List Dt → Option Dt) (o : Mo Dt) (a : Mo (List Dt)) : Mo Dt := mBind o fun d => match d with
  | .str z => mBind a fun ds => mF fun _ => f z ds
  | _ => mNo
/-! ### methods of lists that a slot owns -/
def mMtL (f : List Dt → List Dt → Option (Dt × List Dt)) (j : Nat) (a : Mo (List Dt)) : Mo Dt := fun ρ => match ρ[j]? with
  | some (.ow _ (.lst _)) => mBind a (fun es ρ2 => match ρ2[j]? with
    | some (.ow b (.lst ds)) => match f ds es with
      | some (z, ds') => some (.ok z (ρ2.set j (.ow b (.lst ds'))))
      | none => none
    | _ => none) ρ
  | _ => none
/-! ### dict.get, list(d.items()) -/
def mGet2 (a b c : Mo Dt) : Mo Dt := mBind a fun d => match dicL d with
  | some l => mBind b fun e => match e.key with
    | some k => mBind c fun z => mF fun _ => if z.real = true then some ((valD l k).getD z) else none
    | none => mNo
  | none => mNo
def mItV (a : Mo Dt) : Mo Dt := mBind a fun d => mF fun ρ => match dicL (look ρ d) with
  | some l => some (.lst (pairsD l))
  | none => none
def mRev (a : Mo Dt) : Mo Dt := mBind a fun d => mF fun ρ => match look ρ d with
  | .lst ds => some (.lst ds.reverse)
  | _ => none
/-! ### what is walked -/
theorem pi_or {X : Cx} {tg l : Expr} {t u : TI} (h : PI X tg l t) (g : PI X tg l u) : PI X tg l (fun σ H R => t σ H R ∨ u σ H R) := ⟨fun pins s σ H R I q => by
  rcases q with q | q
  · exact h.run pins s σ H R I q
  · exact g.run pins s σ H R I q⟩
/-- a list, a tuple, a text or a dict's keys -/
def iAny (K : Frag) (te : TE) : TI := fun σ H R => iList K te σ H R ∨ (iTup K te σ H R ∨ (iStr te σ H R ∨ iKeys (tLkf te) σ H R))
theorem pi_any {X : Cx} {tg l : Expr} {tl : TE} (hK : X.K = K) (hl : PE X l tl) : PI X tg l (iAny K tl) := pi_or (pi_listK hK hl) (pi_or (pi_tupK hK hl) (pi_or (pi_str hl) (pi_keys (pe_lkf hl))))
def itemsF (d : Dt) : Option (List Dt) := match d with
  | .lst zs => some zs
  | .tup zs => some zs
  | .str z => some (signsD z)
  | .dic ks vs => match dicL (.dic ks vs) with
    | some l => some (keysD l)
    | none => none
  | _ => none
def mIter (a : Mo Dt) : Mo (List Dt) := mBind a fun d => mF fun _ => itemsF d
theorem im_any {te : TE} {a : Mo Dt} (ha : EvM K W te a) : ItM K W (iAny K te) (mIter a) := fun ρ x P h => by
  have ha := ha ρ x
  have h := wpm_bind h
  intro σ F H R s q w
  cases e : a ρ with
  | none => rw [e] at h; exact h.elim
  | some r =>
    rw [e] at h ha
    cases r with
    | ex c ρ1 => exact .inl (i_list (ha _ h) σ F H R s q w)
    | ok d ρ1 =>
      obtain ⟨zs, h1, h2⟩ := wpm_F h
      unfold itemsF at h1
      split at h1
      · cases h1; exact .inl (i_list (P := P) (ha _ ⟨_, rfl, h2⟩) σ F H R s q w)
      · cases h1; exact .inr (.inl (i_tup (P := P) (ha _ ⟨_, rfl, h2⟩) σ F H R s q w))
      · cases h1; exact .inr (.inr (.inl (i_str (P := P) (ha _ ⟨_, rfl, h2⟩) σ F H R s q w)))
      · split at h1
        · rename_i l e1
          cases h1
          exact .inr (.inr (.inr (i_keys (P := P) (ha _ ⟨l, dicL_eq e1, h2⟩) σ F H R s q w)))
        · cases h1
      · cases h1
def mItems (a : Mo Dt) : Mo (List Dt) := mBind a fun d => mF fun _ => (dicL d).map itemsD
def mVals (a : Mo Dt) : Mo (List Dt) := mBind a fun d => mF fun _ => (dicL d).map valsD
def rng1F (ds : List Dt) : Option (List Dt) := match ds with
  | [.int n] => if -100000 ≤ n ∧ n ≤ 100000 then some (rngD 0 n.toNat) else none
  | _ => none
def mItA (f : List Dt → Option (List Dt)) (a : Mo (List Dt)) : Mo (List Dt) := mBind a fun ds => mF fun _ => f ds
theorem im_rng1 {ta : TA} {a : Mo (List Dt)} (ha : ArM K W ta a) : ItM K W (iRng1 ta) (mItA rng1F a) := fun ρ x P h =>
  i_rng1 (ha ρ x _ (wpm_mono (wpm_bind h) fun ds ρ1 h1 => by
    obtain ⟨z, h2, h3⟩ := wpm_F h1
    unfold rng1F at h2
    split at h2
    · obtain ⟨⟨h4, h5⟩, rfl⟩ := ite_some h2
      exact ⟨_, rfl, h4, h5, h3⟩
    · cases h2))
/-! ### targets -/
abbrev GF := Dt → En → Option En
def TgM (K : Frag) (vo : Option (List Nat)) (g : TG) (f : GF) : Prop := ∀ (z : Dt) (ρ ρ' : En) (P : En → Prop), f z ρ = some ρ' → P ρ' → TgD K vo g z ρ P
def gfName (i : Nat) : GF := fun z ρ => if lent ρ i = false then some (ρ.set i (.sh z)) else none
theorem gm_name {vo : Option (List Nat)} {i : Nat} (hv : inV vo i = true) : TgM K vo (gName i) (gfName i) := fun z ρ ρ' P h p => by
  obtain ⟨h1, rfl⟩ := ite_some h
  exact g_name hv h1 p
def gfNil : List Dt → En → Option En := fun zs ρ => match zs with
  | [] => some ρ
  | _ => none
def gfCons (f : GF) (g : List Dt → En → Option En) : List Dt → En → Option En := fun zs ρ => match zs with
  | z :: zs => match f z ρ with
    | some ρ1 => g zs ρ1
    | none => none
  | [] => none
def gfTup (n : Nat) (g : List Dt → En → Option En) : GF := fun z ρ => match z with
  | .tup zs => if zs.length = n then g zs ρ else none
  | _ => none
end
end DL
set_option Elab.async false
set_option linter.all false
set_option maxRecDepth 100000
set_option autoImplicit false
set_option maxHeartbeats 4000000
namespace DL
open PySem L2 Evl PyProof.Rows
/-! ### comprehensions -/
def lcL (g : GF) (t : Mo Bool) (e : Mo Dt) (vs : List Nat) : List Dt → En → Option (List Dt × En)
  | [], ρ => some ([], ρ)
  | z :: zs, ρ => match g z ρ with
    | none => none
    | some ρ2 => match t ρ2 with
      | some (.ok true ρ3) => match e ρ3 with
        | some (.ok d ρ4) => if d.real = true ∧ noLent ρ4 vs = true then match lcL g t e vs zs (wipeE ρ4 vs) with
          | some (ds, ρ') => some (d :: ds, ρ')
          | none => none else none
        | _ => none
      | some (.ok false ρ3) => if noLent ρ3 vs = true then lcL g t e vs zs (wipeE ρ3 vs) else none
      | _ => none
def mLc (it : Mo (List Dt)) (g : GF) (t : Mo Bool) (e : Mo Dt) (vs : List Nat) : Mo Dt := mBind it fun zs ρ1 => if noLent ρ1 vs = true then match lcL g t e vs zs (wipeE ρ1 vs) with
  | some (ds, ρ') => if ds.length ≤ 100000 then some (.ok (.lst ds) ρ') else none
  | none => none else none
def dcL (g : GF) (t : Mo Bool) (k e : Mo Dt) (vs : List Nat) : List Dt → En → Option (List (Key × Dt) × En)
  | [], ρ => some ([], ρ)
  | z :: zs, ρ => match g z ρ with
    | none => none
    | some ρ2 => match t ρ2 with
      | some (.ok true ρ3) => match k ρ3 with
        | some (.ok kd ρ4) => match kd.key with
          | some y => match e ρ4 with
            | some (.ok d ρ5) => if d.real = true ∧ noLent ρ5 vs = true then match dcL g t k e vs zs (wipeE ρ5 vs) with
              | some (ds, ρ') => some ((y, d) :: ds, ρ')
              | none => none else none
            | _ => none
          | none => none
        | _ => none
      | some (.ok false ρ3) => if noLent ρ3 vs = true then dcL g t k e vs zs (wipeE ρ3 vs) else none
      | _ => none
def mDc (it : Mo (List Dt)) (g : GF) (t : Mo Bool) (k e : Mo Dt) (vs : List Nat) : Mo Dt := mBind it fun zs ρ1 => if noLent ρ1 vs = true then match dcL g t k e vs zs (wipeE ρ1 vs) with
  | some (ds, ρ') => if ds.length ≤ 100000 then some (.ok (dicD (mergeD [] ds)) ρ') else none
  | none => none else none
theorem drop_at {α : Type} {l : List α} {i : Nat} {z : α} (h : l[i]? = some z) : l.drop i = z :: l.drop (i + 1) := by
  obtain ⟨h1, h2⟩ := List.getElem?_eq_some_iff.mp h
  rw [List.drop_eq_getElem_cons h1, h2]
theorem wpm_ok {α : Type} {r : Option (Rz α)} {a : α} {ρ : En} {P : α → En → Prop} {x : PX} (h : r = some (.ok a ρ)) (p : P a ρ) : wpm r P x := by
  rw [h]
  exact p
section
variable {K : Frag} {W : WX}
theorem en_lc {wi : TI} {g : TG} {tt : TT} {te : TE} {vs : List Nat} {it : Mo (List Dt)} {f : GF} {t : Mo Bool} {e : Mo Dt} (hi : ItM K W wi it) (hg : TgM K (some vs) g f) (ht : TtM K w0 tt t) (he : EvM K w0 te e) : EvNM K W (tLc wi g tt te vs) (mLc it f t e vs) := fun ρ x P h =>
  n_lc (hi ρ x _ (wpm_mono (wpm_bind h) fun zs ρ1 h1 => by
    by_cases hl : noLent ρ1 vs = true
    · rw [if_pos hl] at h1
      cases q : lcL f t e vs zs (wipeE ρ1 vs) with
      | none => rw [q] at h1; exact h1.elim
      | some r =>
        obtain ⟨all, ρf⟩ := r
        rw [q] at h1
        have h1 : wpm (if all.length ≤ 100000 then some (Rz.ok (Dt.lst all) ρf) else none) P x := h1
        by_cases hn : all.length ≤ 100000
        · rw [if_pos hn] at h1
          refine ⟨hl, fun i acc ρ' => ∃ ds, lcL f t e vs (zs.drop i) ρ' = some (ds, ρf) ∧ acc ++ ds = all, ⟨all, q, rfl⟩, ?_, ?_⟩
          · rintro i acc ρ' z hz ⟨ds, h2, h3⟩
            rw [drop_at hz] at h2
            unfold lcL at h2
            split at h2
            · cases h2
            · rename_i ρ2 e1
              refine hg z ρ' ρ2 _ e1 ?_
              split at h2
              · rename_i ρ3 e2
                refine ht ρ2 px0 _ (wpm_ok e2 ⟨fun _ => ?_, fun z => nomatch z⟩)
                split at h2
                · rename_i d ρ4 e3
                  refine he ρ3 px0 _ (wpm_ok e3 ?_)
                  by_cases c : d.real = true ∧ noLent ρ4 vs = true
                  · rw [if_pos c] at h2
                    split at h2
                    · rename_i ds' ρ'' e4
                      cases h2
                      refine ⟨c.1, ?_, c.2, ds', e4, by rw [List.append_assoc]; exact h3⟩
                      have := congrArg List.length h3
                      rw [List.length_append, List.length_cons] at this
                      omega
                    · cases h2
                  · rw [if_neg c] at h2; cases h2
                · cases h2
              · rename_i ρ3 e2
                refine ht ρ2 px0 _ (wpm_ok e2 ⟨(fun z => nomatch z), fun _ => ?_⟩)
                by_cases c : noLent ρ3 vs = true
                · rw [if_pos c] at h2
                  exact ⟨c, ds, h2, h3⟩
                · rw [if_neg c] at h2; cases h2
              · cases h2
          · rintro acc ρ' ⟨ds, h2, h3⟩
            rw [List.drop_length] at h2
            unfold lcL at h2
            cases h2
            rw [List.append_nil] at h3
            subst h3
            exact h1
        · rw [if_neg hn] at h1; exact h1.elim
    · rw [if_neg hl] at h1; exact h1.elim))
/-! ### statements -/
inductive So where
  | nx (ρ : En)
  | rt (d : Dt) (ρ : En)
  | rn (d : Dt) (ρ : En)
  | bk (ρ : En)
  | ct (ρ : En)
  | ex (c : Xc) (ρ : En)
abbrev SM := En → Option So
def wps (r : Option So) (Z : Pd) : Prop := match r with
  | some (.nx ρ) => Z.nx ρ
  | some (.rt d ρ) => Z.rt d ρ
  | some (.rn d ρ) => Z.rn d ρ
  | some (.bk ρ) => Z.bk ρ
  | some (.ct ρ) => Z.ct ρ
  | some (.ex c ρ) => Z.ex c ρ
  | none => False
def StM (K : Frag) (W : WX) (ts : TS) (m : SM) : Prop := ∀ (ρ : En) (Z : Pd), wps (m ρ) Z → StD K W ts ρ Z
def sE {α : Type} (m : Mo α) (f : α → SM) : SM := fun ρ => match m ρ with
  | some (.ok a ρ1) => f a ρ1
  | some (.ex c ρ1) => some (.ex c ρ1)
  | none => none
theorem wps_E {α : Type} {m : Mo α} {f : α → SM} {ρ : En} {Z : Pd} (h : wps (sE m f ρ) Z) : wpm (m ρ) (fun a ρ1 => wps (f a ρ1) Z) Z.ex := by
  unfold sE at h
  cases e : m ρ with
  | none => rw [e] at h; exact h
  | some r => cases r <;> (rw [e] at h; exact h)
def sSeq (a b : SM) : SM := fun ρ => match a ρ with
  | some (.nx ρ1) => b ρ1
  | r => r
theorem sm_seq {t u : TS} {a b : SM} (ha : StM K W t a) (hb : StM K W u b) : StM K W (tSeq t u) (sSeq a b) := fun ρ Z h => by
  refine s_seq (ha ρ _ ?_)
  unfold sSeq at h
  cases e : a ρ with
  | none => rw [e] at h; exact h
  | some r =>
    rw [e] at h
    cases r with
    | nx ρ1 => exact hb ρ1 Z h
    | _ => exact h
def sNext : SM := fun ρ => some (.nx ρ)
theorem sm_next : StM K W tNext sNext := fun ρ Z h => s_next h
def sSet (i : Nat) (m : Mo Dt) : SM := sE m fun d ρ => if d.real = true ∧ lent ρ i = false then some (.nx (ρ.set i (.sh d))) else none
theorem wps_ite {c : Prop} [Decidable c] {r : So} {Z : Pd} (h : wps (if c then some r else none) Z) : c ∧ wps (some r) Z := by
  by_cases z : c
  · rw [if_pos z] at h; exact ⟨z, h⟩
  · rw [if_neg z] at h; exact h.elim
theorem sm_set {i : Nat} {te : TE} {m : Mo Dt} (hm : EvM K W te m) : StM K W (tAsg te (gName i)) (sSet i m) := fun ρ Z h =>
  s_set (hm ρ _ _ (wpm_mono (wps_E h) fun d ρ1 h1 => by
    obtain ⟨⟨h2, h3⟩, h4⟩ := wps_ite h1
    exact ⟨h2, h3, h4⟩))
def sOwn (i : Nat) (m : Mo Dt) : SM := sE m fun d ρ => if lent ρ i = false then some (.nx (ρ.set i (.ow false d))) else none
theorem sm_own {i : Nat} {te : TE} {m : Mo Dt} (hm : EvNM K W te m) : StM K W (tAsg te (gName i)) (sOwn i m) := fun ρ Z h =>
  s_own (hm ρ _ _ (wpm_mono (wps_E h) fun d ρ1 h1 => by
    obtain ⟨h3, h4⟩ := wps_ite h1
    exact ⟨h3, h4⟩))
def sUnp (g : GF) (m : Mo Dt) : SM := sE m fun d ρ => if d.real = true then match g d ρ with
  | some ρ' => some (.nx ρ')
  | none => none else none
def sDrop (m : Mo Dt) : SM := sE m fun _ ρ => some (.nx ρ)
def sRet (m : Mo Dt) : SM := sE m fun d ρ => if d.real = true then some (.rt d ρ) else none
theorem sm_ret {te : TE} {m : Mo Dt} (hm : EvM K W te m) : StM K W (tRet te) (sRet m) := fun ρ Z h =>
  s_ret (hm ρ _ _ (wpm_mono (wps_E h) fun d ρ1 h1 => wps_ite h1))
def sRetN : SM := fun ρ => some (.rt .non ρ)
def sRetNew (m : Mo Dt) : SM := sE m fun d ρ => some (.rn d ρ)
theorem sm_retNew {te : TE} {m : Mo Dt} (hm : EvNM K W te m) : StM K W (tRet te) (sRetNew m) := fun ρ Z h =>
  s_retNew (hm ρ _ _ (wpm_mono (wps_E h) fun d ρ1 h1 => h1))
def sRetOwn (i : Nat) : SM := fun ρ => match ρ[i]? with
  | some (.ow false d) => some (.rn d ρ)
  | _ => none
def sIf (t : Mo Bool) (a b : SM) : SM := sE t fun x => match x with
  | true => a
  | false => b
theorem sm_if {c : TT} {t u : TS} {m : Mo Bool} {a b : SM} (hm : TtM K W c m) (ha : StM K W t a) (hb : StM K W u b) : StM K W (tIfS c t u) (sIf m a b) := fun ρ Z h =>
  s_if (hm ρ _ _ (wpm_mono (wps_E h) fun x ρ1 h1 => by
    cases x with
    | true => exact ⟨fun _ => ha ρ1 Z h1, fun z => nomatch z⟩
    | false => exact ⟨(fun z => nomatch z), fun _ => hb ρ1 Z h1⟩))
/-- stores -/
def SeF (K : Frag) (r : TSet) (f : En → Dt → Dt → Dt → Option En) : Prop := ∀ (ρ : En) (o i d : Dt) (ρ' : En) (P : En → Prop), f ρ o i d = some ρ' → P ρ' → SeD K r o i d ρ P
def sPut (f : En → Dt → Dt → Dt → Option En) (m o i : Mo Dt) : SM := sE m fun d ρ => if d.real = true then sE o (fun ov => sE i fun iv ρ3 => match f ρ3 ov iv d with
  | some ρ4 => some (.nx ρ4)
  | none => none) ρ else none
theorem sm_put {te to ti : TE} {r : TSet} {f : En → Dt → Dt → Dt → Option En} {m o i : Mo Dt} (hf : SeF K r f) (hm : EvM K W te m) (ho : EvM K W to o) (hi : EvM K W ti i) : StM K W (tAsg te (gSub to ti r)) (sPut f m o i) := fun ρ Z h =>
  s_put (hm ρ _ _ (wpm_mono (wps_E h) fun d ρ1 h1 => by
    by_cases c : d.real = true
    · rw [if_pos c] at h1
      refine ⟨c, ho ρ1 _ _ (wpm_mono (wps_E h1) fun ov ρ2 h2 => hi ρ2 _ _ (wpm_mono (wps_E h2) fun iv ρ3 h3 => ?_))⟩
      split at h3
      · rename_i ρ4 e
        exact hf ρ3 ov iv d ρ4 _ e h3
      · exact h3.elim
    · rw [if_neg c] at h1; exact h1.elim))
def setF (ρ : En) (o i d : Dt) : Option En := match o with
  | .own k => match ρ[k]? with
    | some (.ow b (.lst ds)) => match i with
      | .int n => match ixN ds.length n with
        | some j => some (ρ.set k (.ow b (.lst (ds.set j d))))
        | none => none
      | _ => none
    | some (.ow b (.dic ks vs)) => match i.key, dicL (.dic ks vs) with
      | some y, some l => if l.length < 100000 then some (ρ.set k (.ow b (dicD (putD l y d)))) else none
      | _, _ => none
    | _ => none
  | _ => none
theorem setF_ok : SeF K rSetV setF := fun ρ o i d ρ' P h p => by
  unfold setF at h
  split at h
  · rename_i k
    split at h
    · rename_i b ds e1
      split at h
      · split at h
        · rename_i j e2
          cases h
          exact w_lstV e1 e2 p
        · cases h
      · cases h
    · rename_i b ks vs e1
      split at h
      · rename_i y l e2 e3
        obtain ⟨hl, rfl⟩ := ite_some h
        exact w_dic (by rw [e1, dicL_eq e3]) e2 hl p
      · cases h
    · cases h
  · cases h
/-- loops -/
def forL (g : GF) (b : SM) : List Dt → SM
  | [], ρ => some (.nx ρ)
  | z :: zs, ρ => match g z ρ with
    | none => none
    | some ρ2 => match b ρ2 with
      | some (.nx ρ3) => forL g b zs ρ3
      | some (.ct ρ3) => forL g b zs ρ3
      | some (.bk ρ3) => some (.nx ρ3)
      | r => r
def sFor (it : Mo (List Dt)) (g : GF) (b : SM) : SM := sE it fun zs => forL g b zs
theorem sm_for {wi : TI} {g : TG} {tb : TS} {it : Mo (List Dt)} {f : GF} {b : SM} (hi : ItM K W wi it) (hg : TgM K none g f) (hb : StM K W tb b) : StM K W (tFor wi g tb) (sFor it f b) := fun ρ Z h =>
  s_for (hi ρ _ _ (wpm_mono (wps_E h) fun zs ρ1 h1 => by
    refine ⟨fun i ρ' => wps (forL f b (zs.drop i) ρ') Z, h1, fun i ρ' z hz h2 => ?_, fun ρ' h2 => ?_⟩
    · have h2 : wps (forL f b (zs.drop i) ρ') Z := h2
      rw [drop_at hz] at h2
      unfold forL at h2
      split at h2
      · exact h2.elim
      · rename_i ρ2 e1
        refine hg z ρ' ρ2 _ e1 (hb ρ2 _ ?_)
        cases e2 : b ρ2 with
        | none => rw [e2] at h2; exact h2
        | some r =>
          rw [e2] at h2
          cases r with
          | nx ρ3 => exact ⟨ρ3, Fg.refl _, h2⟩
          | ct ρ3 => exact ⟨ρ3, Fg.refl _, h2⟩
          | bk ρ3 => exact h2
          | rt d ρ3 => exact h2
          | rn d ρ3 => exact h2
          | ex c ρ3 => exact h2
    · have h2 : wps (forL f b (zs.drop zs.length) ρ') Z := h2
      rw [List.drop_length] at h2
      exact h2))
/-- raising -/
def sRai0 (C : Addr) : SM := fun ρ => some (.ex ⟨C, [], []⟩ ρ)
def sRai1 (C : Addr) (f : Str) (m : Mo Dt) : SM := sE m fun d ρ => if d.real = true then some (.ex ⟨C, [f], [d]⟩ ρ) else none
end
end DL
set_option Elab.async false
set_option linter.all false
set_option maxRecDepth 100000
set_option autoImplicit false
set_option maxHeartbeats 4000000
namespace DL
open PySem L2 Evl PyProof.Rows
/-! ### defs -/
inductive Fo where
  | val (d : Dt)
  | exc (c : Xc)
abbrev DF := List Dt → Option Fo
def spF (F : DF) (n : Nat) : Fsp where
  I := { l : List Dt // l.length = n }
  arg i := i.1
  pre i := F i.1 ≠ none
  post i d := F i.1 = some (.val d)
  exc i c := F i.1 = some (.exc c)
def runD (b : SM) (n : Nat) : DF := fun args => match b (st0 n args) with
  | some (.nx _) => some (.val .non)
  | some (.rt d _) => some (.val d)
  | some (.ex c _) => some (.exc c)
  | _ => none
def runN (b : SM) (n : Nat) : DF := fun args => match b (st0 n args) with
  | some (.rn d _) => some (.val d)
  | some (.ex c _) => some (.exc c)
  | _ => none
inductive Oo where
  | val (d o : Dt)
  | exc (c : Xc) (o : Dt)
abbrev OF := Dt → List Dt → Option Oo
def spO (F : OF) (n : Nat) : Osp where
  I := Dt × { l : List Dt // l.length = n }
  own i := i.1
  arg i := i.2.1
  pre i := F i.1 i.2.1 ≠ none
  post i d o := F i.1 i.2.1 = some (.val d o)
  exc i c o := F i.1 i.2.1 = some (.exc c o)
def own0 (ρ : En) : Option Dt := match ρ[(0 : Nat)]? with
  | some (.ow true o) => some o
  | _ => none
def runO (b : SM) (n : Nat) : OF := fun o args => match b (st1 n o args) with
  | some (.nx ρ) => (own0 ρ).map fun o => .val .non o
  | some (.rt d ρ) => (own0 ρ).map fun o => .val d o
  | some (.ex c ρ) => (own0 ρ).map fun o => .exc c o
  | _ => none
section
variable {K : Frag} {W : WX}
theorem body_D {t : TS} {b : SM} {n k : Nat} (h : StM K W t b) (i : (spF (runD b n) k).I) (hp : (spF (runD b n) k).pre i) (Z : Pd) (h1 : ∀ ρ, (spF (runD b n) k).post i .non → Z.nx ρ) (h2 : ∀ d ρ, (spF (runD b n) k).post i d → Z.rt d ρ) (h3 : ∀ c ρ, (spF (runD b n) k).exc i c → Z.ex c ρ) : StD K W t (st0 n ((spF (runD b n) k).arg i)) Z := by
  refine h _ _ ?_
  have hp : runD b n i.1 ≠ none := hp
  have h1 : ∀ ρ, runD b n i.1 = some (.val .non) → Z.nx ρ := h1
  have h2 : ∀ d ρ, runD b n i.1 = some (.val d) → Z.rt d ρ := h2
  have h3 : ∀ c ρ, runD b n i.1 = some (.exc c) → Z.ex c ρ := h3
  show wps (b (st0 n i.1)) Z
  unfold runD at hp h1 h2 h3
  cases e : b (st0 n i.1) with
  | none => rw [e] at hp; exact (hp rfl).elim
  | some r =>
    rw [e] at hp h1 h2 h3
    cases r with
    | nx ρ => exact h1 ρ rfl
    | rt d ρ => exact h2 d ρ rfl
    | ex c ρ => exact h3 c ρ rfl
    | _ => exact (hp rfl).elim
theorem body_N {t : TS} {b : SM} {n k : Nat} (h : StM K W t b) (i : (spF (runN b n) k).I) (hp : (spF (runN b n) k).pre i) (Z : Pd) (h2 : ∀ d ρ, (spF (runN b n) k).post i d → Z.rn d ρ) (h3 : ∀ c ρ, (spF (runN b n) k).exc i c → Z.ex c ρ) : StD K W t (st0 n ((spF (runN b n) k).arg i)) Z := by
  refine h _ _ ?_
  have hp : runN b n i.1 ≠ none := hp
  have h2 : ∀ d ρ, runN b n i.1 = some (.val d) → Z.rn d ρ := h2
  have h3 : ∀ c ρ, runN b n i.1 = some (.exc c) → Z.ex c ρ := h3
  show wps (b (st0 n i.1)) Z
  unfold runN at hp h2 h3
  cases e : b (st0 n i.1) with
  | none => rw [e] at hp; exact (hp rfl).elim
  | some r =>
    rw [e] at hp h2 h3
    cases r with
    | rn d ρ => exact h2 d ρ rfl
    | ex c ρ => exact h3 c ρ rfl
    | _ => exact (hp rfl).elim
theorem body_O {t : TS} {b : SM} {n k : Nat} (h : StM K W t b) (i : (spO (runO b n) k).I) (hp : (spO (runO b n) k).pre i) (Z : Pd) (h1 : ∀ o ρ, ρ[0]? = some (.ow true o) → (spO (runO b n) k).post i .non o → Z.nx ρ) (h2 : ∀ d o ρ, ρ[0]? = some (.ow true o) → (spO (runO b n) k).post i d o → Z.rt d ρ) (h3 : ∀ c o ρ, ρ[0]? = some (.ow true o) → (spO (runO b n) k).exc i c o → Z.ex c ρ) : StD K W t (st1 n ((spO (runO b n) k).own i) ((spO (runO b n) k).arg i)) Z := by
  refine h _ _ ?_
  have hp : runO b n i.1 i.2.1 ≠ none := hp
  have h1 : ∀ o ρ, ρ[0]? = some (.ow true o) → runO b n i.1 i.2.1 = some (.val .non o) → Z.nx ρ := h1
  have h2 : ∀ d o ρ, ρ[0]? = some (.ow true o) → runO b n i.1 i.2.1 = some (.val d o) → Z.rt d ρ := h2
  have h3 : ∀ c o ρ, ρ[0]? = some (.ow true o) → runO b n i.1 i.2.1 = some (.exc c o) → Z.ex c ρ := h3
  show wps (b (st1 n i.1 i.2.1)) Z
  have key : ∀ ρ : En, own0 ρ ≠ none → ∃ o, ρ[0]? = some (.ow true o) ∧ own0 ρ = some o := fun ρ h => by
    unfold own0 at h ⊢
    split
    · rename_i o e; exact ⟨o, e, rfl⟩
    · rename_i e
      split at h
      · rename_i o e2; exact (e o e2).elim
      · exact (h rfl).elim
  unfold runO at hp h1 h2 h3
  cases e : b (st1 n i.1 i.2.1) with
  | none => rw [e] at hp; exact (hp rfl).elim
  | some r =>
    rw [e] at hp h1 h2 h3
    cases r with
    | nx ρ =>
      obtain ⟨o, e1, e2⟩ := key ρ (fun z => hp (by dsimp only; rw [z]; rfl))
      exact h1 o ρ e1 (by dsimp only; rw [e2]; rfl)
    | rt d ρ =>
      obtain ⟨o, e1, e2⟩ := key ρ (fun z => hp (by dsimp only; rw [z]; rfl))
      exact h2 d o ρ e1 (by dsimp only; rw [e2]; rfl)
    | ex c ρ =>
      obtain ⟨o, e1, e2⟩ := key ρ (fun z => hp (by dsimp only; rw [z]; rfl))
      exact h3 c o ρ e1 (by dsimp only; rw [e2]; rfl)
    | _ => exact (hp rfl).elim
/-! ### calls -/
def out (r : Option Fo) : Mo Dt := fun ρ => match r with
  | some (.val d) => some (.ok d ρ)
  | some (.exc c) => some (.ex c ρ)
  | none => none
def mCall (F : DF) (n : Nat) (a : Mo (List Dt)) : Mo Dt := mBind a fun ds ρ => if ds.length = n ∧ allReal ds = true then out (F ds) ρ else none
theorem out_of {F : DF} {n : Nat} {ds : List Dt} {ρ : En} {P : Dt → En → Prop} {x : PX} (hn : ds.length = n) (h : wpm (out (F ds) ρ) P x) : ∃ i : (spF F n).I, ds = (spF F n).arg i ∧ (spF F n).pre i ∧ (∀ d, (spF F n).post i d → P d ρ) ∧ ∀ c, (spF F n).exc i c → x c ρ := by
  refine ⟨⟨ds, hn⟩, rfl, fun (z : F ds = none) => ?_, fun d (z : F ds = some (.val d)) => ?_, fun c (z : F ds = some (.exc c)) => ?_⟩
  · rw [z] at h; exact h
  · rw [z] at h; exact h
  · rw [z] at h; exact h
theorem em_call {F : DF} {n : Nat} {ta : TA} {a : Mo (List Dt)} (ha : ArM K W ta a) : EvM K W (tCallS (DSp K (spF F n)) (WE W) ta) (mCall F n a) := fun ρ x P h =>
  e_call (ha ρ x _ (wpm_mono (wpm_bind h) fun ds ρ1 h1 => by
    by_cases c : ds.length = n ∧ allReal ds = true
    · rw [if_pos c] at h1
      obtain ⟨i, h2, h3, h4, h5⟩ := out_of c.1 h1
      exact ⟨i, h2, c.2, h3, h4, h5⟩
    · rw [if_neg c] at h1; exact h1.elim))
theorem en_call {F : DF} {n : Nat} {ta : TA} {a : Mo (List Dt)} (ha : ArM K W ta a) : EvNM K W (tCallS (NSp K (spF F n)) (WE W) ta) (mCall F n a) := fun ρ x P h =>
  e_callN (ha ρ x _ (wpm_mono (wpm_bind h) fun ds ρ1 h1 => by
    by_cases c : ds.length = n ∧ allReal ds = true
    · rw [if_pos c] at h1
      obtain ⟨i, h2, h3, h4, h5⟩ := out_of c.1 h1
      exact ⟨i, h2, c.2, h3, h4, h5⟩
    · rw [if_neg c] at h1; exact h1.elim))
/-- .. with defaults -/
def mCallD (F : DF) (n : Nat) (dds : List Dt) (a : Mo (List Dt)) : Mo Dt := mBind a fun ds ρ => if (ds ++ dds).length = n ∧ allReal ds = true then out (F (ds ++ dds)) ρ else none
/-- f(t, ..): f changes what slot j owns -/
def mCallO (F : OF) (n : Nat) (j : Nat) (a : Mo (List Dt)) : Mo Dt := fun ρ => match ρ[j]? with
  | some (.ow _ _) => mBind a (fun es ρ1 => if es.length = n ∧ allReal es = true then match ρ1[j]? with
    | some (.ow l o) => match F o es with
      | some (.val d o') => some (.ok d (ρ1.set j (.ow l o')))
      | some (.exc c o') => some (.ex c (ρ1.set j (.ow l o')))
      | none => none
    | _ => none else none) ρ
  | _ => none
theorem em_callO {F : OF} {n j : Nat} {ta : TA} {a : Mo (List Dt)} (ha : ArM K W ta a) : EvM K W (tCallS (OSp K (spO F n)) (WE W) (tCons (tVar j) ta)) (mCallO F n j a) := fun ρ x P h => by
  unfold mCallO at h
  split at h
  · rename_i l0 o0 e0
    refine e_callO (a_cons (e_own e0 (ha ρ x _ (wpm_mono (wpm_bind h) fun es ρ1 h1 => ?_))))
    by_cases c : es.length = n ∧ allReal es = true
    · rw [if_pos c] at h1
      split at h1
      · rename_i l o e1
        refine ⟨j, l, o, es, (o, ⟨es, c.1⟩), rfl, e1, rfl, rfl, c.2, fun (z : F o es = none) => ?_, fun d o' (z : F o es = some (.val d o')) => ?_, fun y o' (z : F o es = some (.exc y o')) => ?_⟩
        · rw [z] at h1; exact h1
        · rw [z] at h1; exact h1
        · rw [z] at h1; exact h1
      · exact h1.elim
    · rw [if_neg c] at h1; exact h1.elim
  · exact h.elim
/-! ### own classes -/
def mFld (C : Addr) (f : Str) (o : Mo Dt) : Mo Dt := mBind o fun d => mF fun ρ => match look ρ d with
  | .ins C' fs ds => if C' = C then (fs.zip ds).lookup f else none
  | _ => none
/-- a method: the object is not changed -/
def mMeth (C : Addr) (m : Str) (F : DF) (n : Nat) (o : Mo Dt) (a : Mo (List Dt)) : Mo Dt := mBind o fun d => match d with
  | .ins C' fs ds => if C' = C ∧ fs.contains m = false then mBind a fun es ρ => if es.length + 1 = n ∧ allReal es = true then out (F (.ins C' fs ds :: es)) ρ else none else mNo
  | _ => mNo
/-- a property -/
def mProp (C : Addr) (F : DF) (o : Mo Dt) : Mo Dt := mBind o fun d => mF fun _ => match d with
  | .ins C' fs ds => if C' = C then match F [.ins C' fs ds] with
    | some (.val z) => some z
    | _ => none else none
  | _ => none
/-- a new object of an own class -/
def outO (r : Option Oo) : Mo Dt := fun ρ => match r with
  | some (.val .non o) => some (.ok o ρ)
  | some (.exc c _) => some (.ex c ρ)
  | _ => none
def mMake (C : Addr) (F : OF) (n : Nat) (dds : List Dt) (a : Mo (List Dt)) : Mo Dt := mBind a fun es ρ => if (es ++ dds).length = n ∧ allReal es = true then outO (F (.ins C [] []) (es ++ dds)) ρ else none
/-- .. with keywords -/
def mMakeN (C : Addr) (F : OF) (n k m : Nat) (gD : List Dt → List Dt → List Dt) (a b : Mo (List Dt)) : Mo Dt := mBind a fun es => mBind b fun fs ρ => if es.length + 1 = n ∧ fs.length = m ∧ (gD es fs).length = k ∧ allReal es = true ∧ allReal fs = true then outO (F (.ins C [] []) (gD es fs)) ρ else none
/-- self.f = e -/
def sFld (C : Addr) (f : Str) (o m : Mo Dt) : SM := sE m fun d ρ => if d.real = true then sE o (fun ov ρ2 => match ov with
  | .own j => match ρ2[j]? with
    | some (.ow l (.ins C' fs ds)) => if C' = C ∧ fs.contains f = false ∧ fs.length < 900 then some (.nx (ρ2.set j (.ow l (.ins C' (fs ++ [f]) (ds ++ [d]))))) else none
    | _ => none
  | _ => none) ρ else none
def sAugX (i : Nat) (f : En → Dt → Dt → Option Dt) (m : Mo Dt) : SM := fun ρ => match ρ[i]? with
  | some (.sh d) => sE m (fun e ρ1 => match f ρ1 d e with
    | some z => if z.real = true ∧ lent ρ1 i = false then some (.nx (ρ1.set i (.sh z))) else none
    | none => none) ρ
  | _ => none
def iaddF (_ : En) (d e : Dt) : Option Dt := match d, e with
  | .int i, .int j => some (.int (i + j))
  | .str a, .str b => if a.length + b.length ≤ 1000000 then some (.str (a ++ b)) else none
  | _, _ => none
end
end DL
set_option Elab.async false
set_option linter.all false
set_option maxRecDepth 100000
set_option autoImplicit false
set_option maxHeartbeats 4000000
namespace DL
open PySem L2 Evl PyProof.Rows
section
variable {K : Frag} {W : WX}
/-! ### written dicts -/
/-! ### self.f = {} filled in a loop -/
def fdR (g : GF) (t1 : SM) (e : Mo Dt) (i0 j : Nat) (s : Sl) (acc' : List (Key × Dt)) (ρ' : En) : List Dt → List (Key × Dt) → En → Prop
  | [], acc, ρ => acc = acc' ∧ ρ = ρ'
  | z :: zs, acc, ρ => ∃ ρ2 ρ3 d ρ4 kd y, g z ρ = some ρ2 ∧ t1 ρ2 = some (.nx ρ3) ∧ e ρ3 = some (.ok d ρ4) ∧ d.real = true ∧ ρ4[i0]? = some s ∧ ρ4[j]? = some (.sh kd) ∧ kd.key = some y ∧ acc.length < 100000 ∧ fdR g t1 e i0 j s acc' ρ' zs (putD acc y d) ρ4
structure FdOk (C : Addr) (f : Str) (i0 j : Nat) (it : Mo (List Dt)) (g : GF) (t1 : SM) (e : Mo Dt) (ρ r : En) (l : Bool) (fs : List Str) (ds : List Dt) (acc : List (Key × Dt)) (ρ0 : En) : Prop where
  h0 : ρ[i0]? = some (.ow l (.ins C fs ds))
  hf : fs.contains f = false
  hl : fs.length < 900
  hi : i0 < ρ0.length
  hr : r = ρ0.set i0 (.ow l (.ins C (fs ++ [f]) (ds ++ [dicD acc])))
  go : ∀ D : Addr, ∃ zs ρ1, it (ρ.set i0 (.ow l (.ins C (fs ++ [f]) (ds ++ [.ref D])))) = some (.ok zs ρ1) ∧ fdR g t1 e i0 j (.ow l (.ins C (fs ++ [f]) (ds ++ [.ref D]))) acc (ρ0.set i0 (.ow l (.ins C (fs ++ [f]) (ds ++ [.ref D])))) zs [] ρ1
/-! ### a new list, changed and dropped -/
/-! ### try -/
end
end DL
set_option Elab.async false
set_option linter.all false
set_option maxRecDepth 100000
set_option autoImplicit false
set_option maxHeartbeats 4000000
namespace DL
open PySem L2 Evl PyProof.Rows
section
variable {K : Frag} {W : WX}
/-! ### written dicts with keys and values -/
end
theorem vals_app : ∀ {a c : List V} {b d : List Value}, Vals a b → Vals c d → Vals (a ++ c) (b ++ d)
  | _, _, _, _, .nil, h => h
  | _, _, _, _, .cons x r, h => .cons x (vals_app r h)
end DL
set_option Elab.async false
set_option linter.all false
set_option maxRecDepth 100000
set_option autoImplicit false
set_option maxHeartbeats 4000000
/-! several except clauses, each with a name -/
namespace DL
open PySem L2 PyProof.Rows
abbrev Cl := Value × Nat × (Addr → Value → Option Addr → TS)
inductive HdA (X : Cx) : List ExceptHandler → List Cl → Prop
  | nil : HdA X [] []
  | cons {x n : Str} {z : Cl} {b0 : Stmt} {bs : List Stmt} {p q : Pos} {hs : List ExceptHandler} {l : List Cl}
      (hi : X.N[z.2.1]? = some n) (hk : X.env.kindOf n = some .local) (hc : Names X x z.1)
      (hb : ∀ (a : Addr) (o : Obj) (cls : Value) (d : Option Addr) (pn : List (Addr × Obj)), Zc cls d o → (∃ vs, o.data = .fields vs) → PSs (X.suite a ((a, o) :: pn)) (b0 :: bs) (z.2.2 a cls d))
      (r : HdA X hs l) : HdA X (.ExceptHandler (some (.Name x p)) (some n) (b0 :: bs) q :: hs) (z :: l)
section
variable {X : Cx} {body : List Stmt} {h0 : ExceptHandler} {hds : List ExceptHandler} {l : List Cl} {pos : Pos} {tb : WX → TS} {W : WX}
end
section
variable {K : Frag} {W : WX} {ρ : En} {Z : Pd}
abbrev ClS := Addr × Nat × (Addr → Option Addr → Addr → SM)
inductive ClM (K : Frag) : List Cl → List ClS → Prop
  | nil : ClM K [] []
  | cons {c : Addr} {i : Nat} {ts : Addr → Value → Option Addr → TS} {g : Addr → Option Addr → Addr → SM} {l : List Cl} {m : List ClS} (h : ∀ a dd C, StM K w0 (ts a (.ref C) dd) (g a dd C)) (r : ClM K l m) : ClM K ((.ref c, i, ts) :: l) ((c, i, g) :: m)
end
end DL
set_option Elab.async false
set_option linter.all false
set_option maxRecDepth 100000
set_option autoImplicit false
set_option maxHeartbeats 4000000
/-! starred items of a list, sum, a list's repetition -/
namespace DL
open PySem L2 Evl StX PyProof.Rows
section
variable {K : Frag} {W : WX} {F : Hp} {σ : L2.St} {ρ : En} {x : PX}
end
end DL
set_option Elab.async false
set_option linter.all false
set_option maxRecDepth 100000
set_option autoImplicit false
set_option maxHeartbeats 4000000
/-! repr; a list's repetition -/
namespace DL
open PySem L2 Evl PyProof.Rows
section
variable {K : Frag} {W : WX} {F : Hp} {σ : L2.St} {ρ : En} {x : PX}
end
/-! name = {k: v for ..} -/
section
variable {X : Cx}
end
end DL
set_option Elab.async false
set_option linter.all false
set_option maxRecDepth 100000
set_option autoImplicit false
set_option maxHeartbeats 4000000
/-! a list times a number -/
namespace DL
open PySem L2 Evl PyProof.Rows
section
variable {K : Frag} {W : WX} {F H : Hp} {σ : L2.St} {ρ : En} {x : PX} {P : Dt → En → Prop} {ds : List Dt}
end
end DL
set_option Elab.async false
set_option linter.all false
set_option maxRecDepth 100000
set_option autoImplicit false
set_option maxHeartbeats 4000000
/-! a cut of a tuple -/
namespace DL
open PySem L2 Evl PyProof.Rows
section
variable {K : Frag} {W : WX} {F H : Hp} {σ : L2.St} {ρ : En} {x : PX} {P : Dt → En → Prop} {ds : List Dt}
end
end DL
set_option Elab.async false
set_option linter.all false
set_option maxRecDepth 100000
set_option autoImplicit false
set_option maxHeartbeats 4000000
/-! a, b = a tuple or a list -/
namespace DL
open PySem L2 Evl PyProof.Rows
section
variable {K : Frag} {W : WX} {F H : Hp} {σ : L2.St} {ρ : En} {x : PX} {P : Dt → En → Prop} {ds : List Dt}
end
end DL
set_option Elab.async false
set_option linter.all false
set_option maxRecDepth 100000
set_option autoImplicit false
set_option maxHeartbeats 4000000
/-! x[i], y = e; sorted of ints; a default () -/
namespace DL
open PySem L2 Evl PyProof.Rows
section
variable {K : Frag} {W : WX} {F H : Hp} {σ : L2.St} {ρ : En} {x : PX} {P : Dt → En → Prop} {ds : List Dt}
/-! sorted of ints -/
/-! a default () -/
end
end DL
set_option Elab.async false
set_option linter.all false
set_option maxRecDepth 100000
set_option autoImplicit false
set_option maxHeartbeats 4000000
/-! an owned list lent to a def for reading -/
namespace DL
open PySem L2 Evl PyProof.Rows
mutual
/-- no list of n items within -/
def lfree (n : Nat) : Dt → Bool
  | .lst ds => decide (ds.length ≠ n) && lfreeL n ds
  | .tup ds => lfreeL n ds
  | .lpl ds => decide (ds.length ≠ n) && lfreeL n ds
  | .dic _ ds => lfreeL n ds
  | .ins _ _ ds => lfreeL n ds
  | .exn _ _ _ _ ds => lfreeL n ds
  | .exv _ _ ds => lfreeL n ds
  | _ => true
def lfreeL (n : Nat) : List Dt → Bool
  | [] => true
  | d :: ds => lfree n d && lfreeL n ds
end
section
variable {K : Frag} {F F' : Hp} {p : Addr} {n : Nat}
theorem rd_drop {a : Addr} {o : HO} {xs : List V} (hF : ∀ a, a ≠ p → F' a = F a) (hp : F' p = some (.lst xs)) (h : Rd F' a o) (ho : o ≠ .lst xs) : Rd F a o := by
  by_cases e : a = p
  · subst e
    rcases h with h | ⟨ob, h⟩
    · rw [hp] at h
      exact absurd (Option.some.inj h).symm ho
    · rw [hp] at h
      cases h
  · unfold Rd at h ⊢
    rw [hF a e] at h
    exact h
mutual
theorem Rep.dropP {xs : List V} (hF : ∀ a, a ≠ p → F' a = F a) (hp : F' p = some (.lst xs)) (hx : xs.length = n) : ∀ {d : Dt} {v : V}, lfree n d = true → Rep K F' d v → Rep K F d v
  | .non, _, _, h => h
  | .bl _, _, _, h => h
  | .int _, _, _, h => h
  | .str _, _, _, h => h
  | .ty _, _, _, h => h
  | .ref _, _, _, h => h
  | .lst ds, v, l, h => by
    unfold lfree at l
    obtain ⟨l1, l2⟩ := Bool.and_eq_true_iff.mp l
    have l1 := of_decide_eq_true l1
    unfold Rep at h ⊢
    obtain ⟨a, ys, h1, h2, h3⟩ := h
    refine ⟨a, ys, h1, ?_, RepL.dropP hF hp hx l2 h3⟩
    have hl : ys.length = ds.length := h3.length
    rcases h2 with h2 | h2
    · refine .inl (rd_drop hF hp h2 fun e => ?_)
      injection e with e
      rw [e, hx] at hl
      exact l1 hl.symm
    · exact .inr h2
  | .tup ds, v, l, h => by
    unfold Rep at h ⊢
    obtain ⟨a, ys, h1, h2, h3⟩ := h
    refine ⟨a, ys, h1, ?_, RepL.dropP hF hp hx l h3⟩
    rcases h2 with h2 | h2
    · exact .inl (rd_drop hF hp h2 fun e => nomatch e)
    · exact .inr h2
  | .dic ks ds, v, l, h => by
    unfold Rep at h ⊢
    obtain ⟨a, ys, h1, h2, h3, h4⟩ := h
    exact ⟨a, ys, h1, rd_drop hF hp h2 (fun e => nomatch e), h3, RepL.dropP hF hp hx l h4⟩
  | .ins C fs ds, v, l, h => by
    unfold Rep at h ⊢
    obtain ⟨a, dx, ys, h1, h2, h3, h4⟩ := h
    have e : a ≠ p := by
      rintro rfl
      rw [hp] at h2
      cases h2
    exact ⟨a, dx, ys, h1, by rw [← hF a e]; exact h2, h3, RepL.dropP hF hp hx l h4⟩
  | .exn a dd C fs ds, v, l, h => by
    unfold Rep at h ⊢
    obtain ⟨h1, h2⟩ := h
    refine ⟨h1, ?_⟩
    rcases h2 with h2 | ⟨b, ys, h3, h4, h5, h6⟩
    · exact .inl h2
    · have e : b ≠ p := by
        rintro rfl
        rw [hp] at h4
        cases h4
      exact .inr ⟨b, ys, h3, by rw [← hF b e]; exact h4, h5, RepL.dropP hF hp hx l h6⟩
  | .own _, _, _, h => by unfold Rep at h; exact h.elim
  | .dtt ks, v, l, h => by
    unfold Rep at h ⊢
    obtain ⟨a, h1, h2⟩ := h
    have e : a ≠ p := by
      rintro rfl
      rw [hp] at h2
      cases h2
    exact ⟨a, h1, by rw [← hF a e]; exact h2⟩
  | .ttp ks, v, l, h => by
    unfold Rep at h ⊢
    obtain ⟨a, h1, h2⟩ := h
    have e : a ≠ p := by
      rintro rfl
      rw [hp] at h2
      cases h2
    exact ⟨a, h1, by rw [← hF a e]; exact h2⟩
  | .lpl ds, v, l, h => by
    unfold lfree at l
    obtain ⟨l1, l2⟩ := Bool.and_eq_true_iff.mp l
    have l1 := of_decide_eq_true l1
    unfold Rep at h ⊢
    obtain ⟨a, ys, h1, h2, h3⟩ := h
    have hl : ys.length = ds.length := h3.length
    have e : a ≠ p := by
      rintro rfl
      rw [hp] at h2
      cases h2
      exact l1 (by rw [← hl, hx])
    exact ⟨a, ys, h1, by rw [← hF a e]; exact h2, RepL.dropP hF hp hx l2 h3⟩
  | .any, v, l, h => by
    unfold Rep at h ⊢
    exact h
  | .utp, v, l, h => by
    unfold Rep at h ⊢
    obtain ⟨a, ys, h1, h2⟩ := h
    refine ⟨a, ys, h1, ?_⟩
    rcases h2 with h2 | h2
    · exact .inl (rd_drop hF hp h2 fun e => nomatch e)
    · exact .inr h2
  | .exv C' fs ds, v, l, h => by
    unfold Rep at h ⊢
    obtain ⟨a, dd, h1, h2, h3⟩ := h
    have e : a ≠ p := by
      rintro rfl
      rw [hp] at h2
      cases h2
    refine ⟨a, dd, h1, by rw [← hF a e]; exact h2, ?_⟩
    rcases h3 with h3 | ⟨b, ys, h3, h4, h5, h6⟩
    · exact .inl h3
    · have e : b ≠ p := by
        rintro rfl
        rw [hp] at h4
        cases h4
      exact .inr ⟨b, ys, h3, by rw [← hF b e]; exact h4, h5, RepL.dropP hF hp hx l h6⟩
theorem RepL.dropP {xs : List V} (hF : ∀ a, a ≠ p → F' a = F a) (hp : F' p = some (.lst xs)) (hx : xs.length = n) : ∀ {ds : List Dt} {vs : List V}, lfreeL n ds = true → RepL K F' ds vs → RepL K F ds vs
  | [], _, _, h => by unfold RepL at h ⊢; exact h
  | d :: ds, _, l, h => by
    unfold lfreeL at l
    obtain ⟨l1, l2⟩ := Bool.and_eq_true_iff.mp l
    unfold RepL at h ⊢
    obtain ⟨v, r, h1, h2, h3⟩ := h
    exact ⟨v, r, h1, Rep.dropP hF hp hx l1 h2, RepL.dropP hF hp hx l2 h3⟩
end
end
section
variable {K : Frag} {W : WX} {F H : Hp} {σ : L2.St} {ρ : En} {x : PX} {P : Dt → En → Prop} {ds : List Dt}
end
end DL
set_option Elab.async false
set_option linter.all false
set_option maxRecDepth 100000
set_option autoImplicit false
set_option maxHeartbeats 4000000
/-! == of nested data within which there are empty dicts, where it is True -/
namespace DL
open PySem L2 Evl PyProof.Rows
section
variable {X : Cx} {pins : List (Addr × Obj)} {σ : L2.St} {H : Hp} {s : Shared}
end
section
variable {K : Frag} {W : WX} {F H : Hp} {σ : L2.St} {ρ : En} {x : PX} {P : Dt → En → Prop} {ds : List Dt}
end
end DL
set_option Elab.async false
set_option linter.all false
set_option maxRecDepth 100000
set_option autoImplicit false
set_option maxHeartbeats 4000000
/-! a, *b = a list -/
namespace DL
open PySem L2 Evl PyProof.Rows
section
variable {prog : Program} {w : World} {A : Around} {E : Value → Shared → Prop} {s : Shared}
/-- what is as it was but for new objects -/
structure Later (s s' : Shared) : Prop where
  heap : ∀ b o, s.heap.get? b = some o → s'.heap.get? b = some o
  gens : s'.gens = s.gens
  drawn : s'.drawn = s.drawn
  os : s'.os = s.os
end
section
variable {K : Frag} {W : WX} {F H : Hp} {σ : L2.St} {ρ : En} {x : PX} {P : Dt → En → Prop} {ds : List Dt}
end
/-! methods of texts -/
section
variable {K : Frag} {W : WX} {F H : Hp} {σ : L2.St} {ρ : En} {x : PX} {P : Dt → En → Prop} {ds : List Dt}
/-! d.pop(k), d.pop(k, x) of an own dict -/
end
/-! x in a tuple of texts, where x is a dict -/
section
variable {A : Around} {s : Shared}
end
section
variable {X : Cx}
end
end DL
set_option Elab.async false
set_option linter.all false
set_option maxRecDepth 100000
set_option autoImplicit false
set_option maxHeartbeats 4000000
/-! an owned dict lent to a def for reading: behind the call nothing is locked that was not -/
namespace DL
open PySem L2 Evl PyProof.Rows
section
variable {H H' : Hp} {a : Addr}
end
/-- the same, some dicts locked or not -/
def Ulk (F F' : Hp) : Prop := ∀ a o, F a = some o → F' a = some o ∨ ∃ ob k, o = .frz ob (.dK k) ∧ F' a = some (.dK k)
section
variable {K : Frag} {F F' : Hp}
theorem Ulk.rd {a : Addr} {o : HO} (l : Ulk F F') (h : Rd F a o) (hn : ∀ k, o ≠ .dK k) (hf : ∀ ob u, o ≠ .frz ob u) : Rd F' a o := by
  rcases h with h | ⟨ob, h⟩
  · rcases l a _ h with z | ⟨ob', k, e, _⟩
    · exact .inl z
    · exact absurd e (hf ob' _)
  · rcases l a _ h with z | ⟨ob', k, e, _⟩
    · exact .inr ⟨ob, z⟩
    · cases e
      exact absurd rfl (hn k)
theorem Ulk.at_ {a : Addr} {o : HO} (l : Ulk F F') (h : F a = some o) (hf : ∀ ob u, o ≠ .frz ob u) : F' a = some o := by
  rcases l a _ h with z | ⟨ob', k, e, _⟩
  · exact z
  · exact absurd e (hf ob' _)
end
mutual
/-- no dict within -/
def dfree : Dt → Bool
  | .lst ds => dfreeL ds
  | .tup ds => dfreeL ds
  | .lpl ds => dfreeL ds
  | .dic _ _ => false
  | .ins _ _ ds => dfreeL ds
  | .exn _ _ _ _ ds => dfreeL ds
  | .exv _ _ ds => dfreeL ds
  | _ => true
def dfreeL : List Dt → Bool
  | [] => true
  | d :: ds => dfree d && dfreeL ds
end
section
variable {K : Frag} {F F' : Hp} {p : Addr}
theorem rd_dropD {a : Addr} {o : HO} {kvs : List (Key × V)} (hF : ∀ a, a ≠ p → F' a = F a) (hp : F' p = some (.dK kvs)) (h : Rd F' a o) (ho : o ≠ .dK kvs) : Rd F a o := by
  by_cases e : a = p
  · subst e
    rcases h with h | ⟨ob, h⟩
    · rw [hp] at h
      exact absurd (Option.some.inj h).symm ho
    · rw [hp] at h
      cases h
  · unfold Rd at h ⊢
    rw [hF a e] at h
    exact h
mutual
theorem Rep.dropD {kvs : List (Key × V)} (hF : ∀ a, a ≠ p → F' a = F a) (hp : F' p = some (.dK kvs)) : ∀ {d : Dt} {v : V}, dfree d = true → Rep K F' d v → Rep K F d v
  | .non, _, _, h => h
  | .bl _, _, _, h => h
  | .int _, _, _, h => h
  | .str _, _, _, h => h
  | .ty _, _, _, h => h
  | .ref _, _, _, h => h
  | .lst ds, v, l, h => by
    unfold Rep at h ⊢
    obtain ⟨a, ys, h1, h2, h3⟩ := h
    refine ⟨a, ys, h1, ?_, RepL.dropD hF hp l h3⟩
    rcases h2 with h2 | h2
    · exact .inl (rd_dropD hF hp h2 fun e => nomatch e)
    · exact .inr h2
  | .tup ds, v, l, h => by
    unfold Rep at h ⊢
    obtain ⟨a, ys, h1, h2, h3⟩ := h
    refine ⟨a, ys, h1, ?_, RepL.dropD hF hp l h3⟩
    rcases h2 with h2 | h2
    · exact .inl (rd_dropD hF hp h2 fun e => nomatch e)
    · exact .inr h2
  | .dic ks ds, v, l, h => nomatch l
  | .ins C fs ds, v, l, h => by
    unfold Rep at h ⊢
    obtain ⟨a, dx, ys, h1, h2, h3, h4⟩ := h
    have e : a ≠ p := by
      rintro rfl
      rw [hp] at h2
      cases h2
    exact ⟨a, dx, ys, h1, by rw [← hF a e]; exact h2, h3, RepL.dropD hF hp l h4⟩
  | .exn a dd C fs ds, v, l, h => by
    unfold Rep at h ⊢
    obtain ⟨h1, h2⟩ := h
    refine ⟨h1, ?_⟩
    rcases h2 with h2 | ⟨b, ys, h3, h4, h5, h6⟩
    · exact .inl h2
    · have e : b ≠ p := by
        rintro rfl
        rw [hp] at h4
        cases h4
      exact .inr ⟨b, ys, h3, by rw [← hF b e]; exact h4, h5, RepL.dropD hF hp l h6⟩
  | .own _, _, _, h => by unfold Rep at h; exact h.elim
  | .dtt ks, v, l, h => by
    unfold Rep at h ⊢
    obtain ⟨a, h1, h2⟩ := h
    have e : a ≠ p := by
      rintro rfl
      rw [hp] at h2
      cases h2
    exact ⟨a, h1, by rw [← hF a e]; exact h2⟩
  | .ttp ks, v, l, h => by
    unfold Rep at h ⊢
    obtain ⟨a, h1, h2⟩ := h
    have e : a ≠ p := by
      rintro rfl
      rw [hp] at h2
      cases h2
    exact ⟨a, h1, by rw [← hF a e]; exact h2⟩
  | .lpl ds, v, l, h => by
    unfold Rep at h ⊢
    obtain ⟨a, ys, h1, h2, h3⟩ := h
    have e : a ≠ p := by
      rintro rfl
      rw [hp] at h2
      cases h2
    exact ⟨a, ys, h1, by rw [← hF a e]; exact h2, RepL.dropD hF hp l h3⟩
  | .any, v, l, h => by
    unfold Rep at h ⊢
    exact h
  | .utp, v, l, h => by
    unfold Rep at h ⊢
    obtain ⟨a, ys, h1, h2⟩ := h
    refine ⟨a, ys, h1, ?_⟩
    rcases h2 with h2 | h2
    · exact .inl (rd_dropD hF hp h2 fun e => nomatch e)
    · exact .inr h2
  | .exv C' fs ds, v, l, h => by
    unfold Rep at h ⊢
    obtain ⟨a, dd, h1, h2, h3⟩ := h
    have e : a ≠ p := by
      rintro rfl
      rw [hp] at h2
      cases h2
    refine ⟨a, dd, h1, by rw [← hF a e]; exact h2, ?_⟩
    rcases h3 with h3 | ⟨b, ys, h3, h4, h5, h6⟩
    · exact .inl h3
    · have e : b ≠ p := by
        rintro rfl
        rw [hp] at h4
        cases h4
      exact .inr ⟨b, ys, h3, by rw [← hF b e]; exact h4, h5, RepL.dropD hF hp l h6⟩
theorem RepL.dropD {kvs : List (Key × V)} (hF : ∀ a, a ≠ p → F' a = F a) (hp : F' p = some (.dK kvs)) : ∀ {ds : List Dt} {vs : List V}, dfreeL ds = true → RepL K F' ds vs → RepL K F ds vs
  | [], _, _, h => by unfold RepL at h ⊢; exact h
  | d :: ds, _, l, h => by
    unfold dfreeL at l
    obtain ⟨l1, l2⟩ := Bool.and_eq_true_iff.mp l
    unfold RepL at h ⊢
    obtain ⟨v, r, h1, h2, h3⟩ := h
    exact ⟨v, r, h1, Rep.dropD hF hp l1 h2, RepL.dropD hF hp l2 h3⟩
end
end
section
variable {K : Frag} {W : WX} {F H : Hp} {σ : L2.St} {ρ : En} {x : PX} {P : Dt → En → Prop} {ds : List Dt}
end
end DL
set_option Elab.async false
set_option linter.all false
set_option maxRecDepth 100000
set_option autoImplicit false
set_option maxHeartbeats 4000000
/-! own lists and dicts: x.clear(), x.pop(), d.clear() -/
namespace DL
open PySem L2 Evl PyProof.Rows
section
variable {K : Frag} {W : WX} {F H : Hp} {σ : L2.St} {ρ : En} {x : PX} {P : Dt → En → Prop} {ds : List Dt}
end
end DL
set_option Elab.async false
set_option linter.all false
set_option maxRecDepth 100000
set_option autoImplicit false
set_option maxHeartbeats 4000000
/-! a, b, .. = e, f, ..: data, and new objects that the slots own -/
namespace DL
open PySem L2 Evl PyProof.Rows
section
variable {K : Frag} {W : WX} {F H F' H' : Hp} {σ σ' : L2.St} {ρ ρ' : En} {x : PX}
def owV : List (Bool × Dt) → List V → List Addr
  | (true, _) :: its, .ref p :: r => p :: owV its r
  | _ :: its, _ :: r => owV its r
  | _, _ => []
/-- values beside the state: data, and objects that nobody owns -/
def HelX (K : Frag) (F H : Hp) (σ : L2.St) (ρ : En) : List (Bool × Dt) → List V → Prop
  | [], vs => vs = []
  | (true, d) :: its, vs => ∃ p r, vs = .ref p :: r ∧ F p = none ∧ ¬ OwA σ ρ H p ∧ Own K F H p d ∧ HelX K F H σ ρ its r ∧ p ∉ owV its r
  | (false, d) :: its, vs => ∃ v r, vs = v :: r ∧ Rep K F d v ∧ HelX K F H σ ρ its r
theorem owV_sh (d : Dt) (its : List (Bool × Dt)) (v : V) (r : List V) : owV ((false, d) :: its) (v :: r) = owV its r := by
  cases v <;> rfl
theorem held_step {p : Addr} {d : Dt} (h1 : F p = none) (h2 : ¬ OwA σ ρ H p) (h3 : Own K F H p d) (s : Step K σ ρ F H σ' ρ' F' H') : F' p = none ∧ ¬ OwA σ' ρ' H' p ∧ Own K F' H' p d := by
  have hh := h3.there
  refine ⟨?_, fun z => ?_, ?_⟩
  · cases e : F' p with
    | none => rfl
    | some o =>
      rcases s.new p (by rw [e]; exact fun z => nomatch z) with y | y | y
      · exact absurd h1 y
      · exact absurd y hh
      · exact absurd y h2
  · rcases s.own p z with y | y
    · exact h2 y
    · exact hh y
  · cases e : H p with
    | none => exact absurd e hh
    | some o =>
      rcases s.keep p o e h2 with y | ⟨y, _⟩
      · exact Own.mono s.exF (y.trans e.symm) h3
      · exact absurd h1 y
theorem HelX.step (s : Step K σ ρ F H σ' ρ' F' H') : ∀ {its : List (Bool × Dt)} {vs : List V}, HelX K F H σ ρ its vs → HelX K F' H' σ' ρ' its vs
  | [], _, h => h
  | (true, d) :: its, _, ⟨p, r, e, h1, h2, h3, h4, h5⟩ => by
    obtain ⟨k1, k2, k3⟩ := held_step h1 h2 h3 s
    exact ⟨p, r, e, k1, k2, k3, HelX.step s h4, h5⟩
  | (false, d) :: its, _, ⟨v, r, e, h1, h2⟩ => ⟨v, r, e, h1.mono s.exF, HelX.step s h2⟩
theorem HelX.re : ∀ {its : List (Bool × Dt)} {vs : List V}, (∀ a ∈ owV its vs, OwA σ' ρ' H a → OwA σ ρ H a) → HelX K F H σ ρ its vs → HelX K F H σ' ρ' its vs
  | [], _, _, h => h
  | (true, d) :: its, _, g, ⟨p, r, e, h1, h2, h3, h4, h5⟩ => by
    subst e
    exact ⟨p, r, rfl, h1, fun z => h2 (g p List.mem_cons_self z), h3, HelX.re (fun a ha => g a (List.mem_cons_of_mem _ ha)) h4, h5⟩
  | (false, d) :: its, _, g, ⟨v, r, e, h1, h2⟩ => by
    subst e
    rw [owV_sh] at g
    exact ⟨v, r, rfl, h1, HelX.re g h2⟩
theorem HelX.len : ∀ {its : List (Bool × Dt)} {vs : List V}, HelX K F H σ ρ its vs → vs.length = its.length
  | [], _, h => by rw [show _ = _ from h]; rfl
  | (true, d) :: its, _, ⟨p, r, e, _, _, _, h4, _⟩ => by
    subst e
    rw [List.length_cons, List.length_cons, HelX.len h4]
  | (false, d) :: its, _, ⟨v, r, e, _, h2⟩ => by
    subst e
    rw [List.length_cons, List.length_cons, HelX.len h2]
end
/-! the monadic form -/
section
variable {K : Frag} {W : WX}
end
end DL
set_option Elab.async false
set_option linter.all false
set_option maxRecDepth 100000
set_option autoImplicit false
set_option maxHeartbeats 4000000
/-! defs that give None or a new object that the caller owns -/
namespace DL
open PySem L2 Evl PyProof.Rows
section
variable {P : Program} {w : World} {K : Frag} {mg : Str → Option Value} {base : Heap} {x qual : Str} {params : Arguments} {body : List Stmt} {scope : Scope} {dvs : List V} {kws : List (Str × V)} {f : Addr} {fd : FuncData}
end
section
variable {K : Frag} {W : WX} {ρ : En} {x : PX}
end
section
variable {K : Frag} {W : WX} {ρ : En} {x : PX} {C : Addr} {m : Str} {P : Dt → En → Prop}
end
section
variable {K : Frag} {W : WX}
end
/-! an own object is not None -/
/-! a, b = e, f and a, b, c = e, f, g with plain local names: stored from the right, no tuple -/
section
variable {K : Frag} {W : WX} {ρ : En}
end
end DL
set_option Elab.async false
set_option linter.all false
set_option maxRecDepth 100000
set_option autoImplicit false
set_option maxHeartbeats 4000000
/-! x == y by an own __eq__, as a mirror; int(text) -/
namespace DL
open PySem L2 Evl PyProof.Rows
end DL
set_option Elab.async false
set_option linter.all false
set_option maxRecDepth 100000
set_option autoImplicit false
set_option maxHeartbeats 4000000
/-! an owned list lent while any expression is evaluated: the slot shows it as shared data meanwhile -/
namespace DL
open PySem L2 Evl PyProof.Rows
/-- what an own slot holds, no list of n items within -/
def lfreeI (n : Nat) : Dt → Bool
  | .lst ds => lfreeL n ds
  | .dic _ ds => lfreeL n ds
  | .ins _ _ ds => lfreeL n ds
  | _ => true
def lfreeS (n : Nat) : Sl → Bool
  | .ow _ d => lfreeI n d
  | .gh _ => false
  | _ => true
section
variable {K : Frag} {F F' H H' : Hp} {σ : L2.St} {ρ : En} {p : Addr} {n : Nat}
theorem Own.dropP {q : Addr} {xs : List V} (hF : ∀ a, a ≠ p → F' a = F a) (hp : F' p = some (.lst xs)) (hx : xs.length = n) : ∀ {d : Dt}, lfreeI n d = true → Own K F' H q d → Own K F H q d
  | .lst ds, l, ⟨ys, h1, h2⟩ => ⟨ys, h1, RepL.dropP hF hp hx l h2⟩
  | .dic ks ds, l, ⟨ys, h1, h2, h3⟩ => ⟨ys, h1, h2, RepL.dropP hF hp hx l h3⟩
  | .ins C fs ds, l, ⟨dx, ys, h1, h2, h3⟩ => ⟨dx, ys, h1, h2, RepL.dropP hF hp hx l h3⟩
  | .dtt ks, _, h => h
theorem XOk.dropP {xs : List V} {c : Xc} {cls : Value} {dd : Option Addr} (hF : ∀ a, a ≠ p → F' a = F a) (hp : F' p = some (.lst xs)) (hx : xs.length = n) (l : lfreeL n c.ds = true) (h : XOk K F' c cls dd) : XOk K F c cls dd := by
  obtain ⟨x1, x2⟩ := h
  refine ⟨x1, ?_⟩
  rcases x2 with x2 | ⟨a, ys, y1, y2, y3, y4⟩
  · exact .inl x2
  · have ne : a ≠ p := by
      rintro rfl
      rw [hp] at y2
      cases y2
    exact .inr ⟨a, ys, y1, by rw [← hF a ne]; exact y2, y3, RepL.dropP hF hp hx l y4⟩
theorem get_set {j i : Nat} {s : Sl} {l : Bool} {z : Dt} (hj : ρ[j]? = some (.ow l z)) : (ρ.set j s)[i]? = if j = i then some s else ρ[i]? := by
  rw [List.getElem?_set]
  split
  · rename_i e
    rw [if_pos (List.getElem?_eq_some_iff.mp hj).1]
  · rfl
/-- the state while the list is lent -/
theorem Sym.lent {j : Nat} {l : Bool} {zs : List Dt} {q0 : Addr} {xs : List V} (s : Sym K F H σ ρ) (hj : ρ[j]? = some (.ow l (.lst zs))) (h1 : σ[j]? = some (some (.ref q0))) (h2 : F q0 = none) (h3 : H q0 = some (.lst xs)) (h4 : RepL K F zs xs) : Sym K (upd F q0 (.lst xs)) H σ (ρ.set j (.sh (.lst zs))) := by
  have m : Xe F (upd F q0 (.lst xs)) := Xe.new h2
  refine ⟨fun a o e => ?_, by rw [List.length_set]; exact s.len, fun i d h => ?_, fun i b d h => ?_, fun i k b c d e p a1 a2 a3 a4 => ?_, ?_⟩
  · by_cases c : a = q0
    · subst c
      rw [upd_same] at e
      cases e
      exact h3
    · rw [upd_ne c] at e
      exact s.ex a o e
  · rw [get_set hj] at h
    by_cases c : j = i
    · rw [if_pos c] at h
      cases h
      subst c
      refine ⟨.ref q0, h1, ?_⟩
      unfold Rep
      exact ⟨q0, xs, rfl, .inl (.inl upd_same), h4.mono m⟩
    · rw [if_neg c] at h
      obtain ⟨v, v1, v2⟩ := s.sh i d h
      exact ⟨v, v1, v2.mono m⟩
  · rw [get_set hj] at h
    by_cases c : j = i
    · rw [if_pos c] at h
      cases h
    · rw [if_neg c] at h
      obtain ⟨p, p1, p2, p3⟩ := s.ow i b d h
      have ne : p ≠ q0 := fun e => c (s.inj j i _ _ _ _ q0 hj h h1 (e ▸ p1))
      exact ⟨p, p1, by rw [upd_ne ne]; exact p2, Own.mono m rfl p3⟩
  · rw [get_set hj] at a1 a2
    by_cases c1 : j = i
    · rw [if_pos c1] at a1; cases a1
    by_cases c2 : j = k
    · rw [if_pos c2] at a2; cases a2
    rw [if_neg c1] at a1
    rw [if_neg c2] at a2
    exact s.inj i k b c d e p a1 a2 a3 a4
  · exact s.gh.mv m (gh_set hj) (fun b hb => ⟨by
      have ne : b ≠ q0 := fun z => s.gh.dj b hb ⟨j, l, _, hj, by rw [z]; exact h1⟩
      rw [upd_ne ne]
      exact (hb.out s.gh).1, rfl⟩) fun b hb ⟨i, m, e, e1, e2⟩ => by
      rw [get_set hj] at e1
      by_cases c : j = i
      · rw [if_pos c] at e1; cases e1
      · rw [if_neg c] at e1
        exact s.gh.dj b hb ⟨i, m, e, e1, e2⟩
/-- .. and back -/
theorem Step.back {j : Nat} {l : Bool} {zs : List Dt} {q0 : Addr} {xs : List V} (s : Sym K F H σ ρ) (hj : ρ[j]? = some (.ow l (.lst zs))) (h1 : σ[j]? = some (some (.ref q0))) (h2 : F q0 = none) (h3 : H q0 = some (.lst xs)) (h4 : RepL K F zs xs) (hn : xs.length = n)
    (hf : ∀ i s, i ≠ j → ρ[i]? = some s → lfreeS n s = true) (st : Step K σ (ρ.set j (.sh (.lst zs))) (upd F q0 (.lst xs)) H σ (ρ.set j (.sh (.lst zs))) F' H') :
    Step K σ ρ F H σ ρ (del1 F' q0) H' ∧ F' q0 = some (.lst xs) ∧ H' q0 = some (.lst xs) := by
  have f1 : F' q0 = some (.lst xs) := by
    rcases st.exF q0 _ upd_same with e | ⟨u, _, ob, kvs, e, _⟩
    · exact e
    · cases e
  have f2 : H' q0 = some (.lst xs) := st.sym.ex q0 _ f1
  have hd : ∀ a, a ≠ q0 → F' a = del1 F' q0 a := fun a c => by unfold del1; rw [if_neg c]
  have hF : ∀ a o, F a = some o → a ≠ q0 := fun a o e c => by subst c; rw [h2] at e; cases e
  have m : Xe F (del1 F' q0) := fun a o e => by
    have c := hF a o e
    have := st.exF a o (by rw [upd_ne c]; exact e)
    rw [hd a c] at this
    exact this
  have ng : ∀ (i : Nat) (d : Dt), ρ[i]? ≠ some (.gh d) := fun i d e => by
    by_cases c : i = j
    · subst c
      rw [hj] at e
      cases e
    · have := hf i _ c e
      unfold lfreeS at this
      cases this
  have ng2 : ∀ (i : Nat) (d : Dt), (ρ.set j (.sh (.lst zs)))[i]? ≠ some (.gh d) := fun i d e => ng i d (gh_set hj rfl (σ := σ) i _ rfl e).1
  have ow : ∀ {H1 H2 : Hp} (a : Addr), OwA σ (ρ.set j (.sh (.lst zs))) H1 a → OwA σ ρ H2 a := by
    intro H1 H2 a h
    rcases h with h | h
    case inr => exact absurd h (GhA.no ng2)
    obtain ⟨i, b, d, e1, e2⟩ := h
    rw [get_set hj] at e1
    by_cases c : j = i
    · rw [if_pos c] at e1; cases e1
    · rw [if_neg c] at e1
      exact .inl ⟨i, b, d, e1, e2⟩
  refine ⟨⟨⟨fun a o e => ?_, s.len, fun i d h => ?_, fun i b d h => ?_, s.inj, .no ng fun i d h => (s.gh.fx i d h).imp fun v z => ⟨z.1, z.2.mono m⟩⟩, m, fun a o e hn => ?_, fun a h => .inl (h.imp_right fun z => absurd z (GhA.no ng)), fun a h => ?_, st.all, fun i d h => ⟨d, h, rfl⟩, fun _ _ h => ⟨h, rfl⟩⟩, f1, f2⟩
  · unfold del1 at e
    by_cases c : a = q0
    · rw [if_pos c] at e; cases e
    · rw [if_neg c] at e
      exact st.sym.ex a o e
  · obtain ⟨v, v1, v2⟩ := s.sh i d h
    exact ⟨v, v1, v2.mono m⟩
  · by_cases c : j = i
    · subst c
      rw [hj] at h
      cases h
      exact ⟨q0, h1, if_pos rfl, xs, f2, h4.mono m⟩
    · obtain ⟨p, p1, p2, p3⟩ := st.sym.ow i b d (by rw [get_set hj, if_neg c]; exact h)
      refine ⟨p, p1, ?_, Own.dropP hd f1 hn (hf i _ (Ne.symm c) h) p3⟩
      unfold del1
      by_cases e : p = q0
      · rw [if_pos e]
      · rw [if_neg e]; exact p2
  · have ne : a ≠ q0 := fun c => hn (.inl ⟨j, l, .lst zs, hj, by rw [c]; exact h1⟩)
    rcases st.keep a o e fun c => hn (ow a c) with z | ⟨z1, z2⟩
    · exact .inl z
    · rw [upd_ne ne] at z1
      exact .inr ⟨z1, z2⟩
  · unfold del1 at h
    by_cases c : a = q0
    · rw [if_pos c] at h; exact absurd rfl h
    · rw [if_neg c] at h
      rcases st.new a h with z | z | z
      · rw [upd_ne c] at z
        exact .inl z
      · exact .inr (.inl z)
      · exact .inr (.inr (ow a z))
end
section
variable {K : Frag} {W : WX} {te : TE} {m : Mo Dt} {j : Nat}
end
end DL
set_option Elab.async false
set_option linter.all false
set_option maxRecDepth 100000
set_option autoImplicit false
set_option maxHeartbeats 4000000
/-! Reckoning with mirrors. -/
namespace DL
open PySem L2 Evl PyProof.Rows
/-! ### what follows an outcome -/
def kM {α β : Type} (r : Option (Rz α)) (f : α → Mo β) : Option (Rz β) := match r with
  | some (.ok a ρ) => f a ρ
  | some (.ex c ρ) => some (.ex c ρ)
  | none => none
theorem kM_ok {α β : Type} (a : α) (ρ : En) (f : α → Mo β) : kM (some (.ok a ρ)) f = f a ρ := rfl
theorem kM_ex {α β : Type} (c : Xc) (ρ : En) (f : α → Mo β) : kM (some (.ex c ρ) : Option (Rz α)) f = some (.ex c ρ) := rfl
theorem kM_no {α β : Type} (f : α → Mo β) : kM (none : Option (Rz α)) f = none := rfl
theorem kM_if {α β : Type} (b : Bool) (r s : Option (Rz α)) (f : α → Mo β) : kM (cond b r s) f = cond b (kM r f) (kM s f) := by cases b <;> rfl
def kS {α : Type} (r : Option (Rz α)) (f : α → SM) : Option So := match r with
  | some (.ok a ρ) => f a ρ
  | some (.ex c ρ) => some (.ex c ρ)
  | none => none
theorem kS_ok {α : Type} (a : α) (ρ : En) (f : α → SM) : kS (some (.ok a ρ)) f = f a ρ := rfl
theorem kS_ex {α : Type} (c : Xc) (ρ : En) (f : α → SM) : kS (some (.ex c ρ) : Option (Rz α)) f = some (.ex c ρ) := rfl
theorem kS_no {α : Type} (f : α → SM) : kS (none : Option (Rz α)) f = none := rfl
theorem kS_if {α : Type} (b : Bool) (r s : Option (Rz α)) (f : α → SM) : kS (cond b r s) f = cond b (kS r f) (kS s f) := by cases b <;> rfl
def kQ (r : Option So) (f : SM) : Option So := match r with
  | some (.nx ρ) => f ρ
  | r => r
theorem kQ_nx (ρ : En) (f : SM) : kQ (some (.nx ρ)) f = f ρ := rfl
theorem kQ_rt (d : Dt) (ρ : En) (f : SM) : kQ (some (.rt d ρ)) f = some (.rt d ρ) := rfl
theorem kQ_rn (d : Dt) (ρ : En) (f : SM) : kQ (some (.rn d ρ)) f = some (.rn d ρ) := rfl
theorem kQ_ex (c : Xc) (ρ : En) (f : SM) : kQ (some (.ex c ρ)) f = some (.ex c ρ) := rfl
theorem kQ_bk (ρ : En) (f : SM) : kQ (some (.bk ρ)) f = some (.bk ρ) := rfl
theorem kQ_ct (ρ : En) (f : SM) : kQ (some (.ct ρ)) f = some (.ct ρ) := rfl
theorem kQ_no (f : SM) : kQ none f = none := rfl
theorem kQ_if (b : Bool) (r s : Option So) (f : SM) : kQ (cond b r s) f = cond b (kQ r f) (kQ s f) := by cases b <;> rfl
def kF {α : Type} (r : Option α) (ρ : En) : Option (Rz α) := match r with
  | some a => some (.ok a ρ)
  | none => none
theorem kF_some {α : Type} (a : α) (ρ : En) : kF (some a) ρ = some (.ok a ρ) := rfl
theorem kF_no {α : Type} (ρ : En) : kF (none : Option α) ρ = none := rfl
def kV (i : Nat) (ρ : En) (s : Option Sl) : Option (Rz Dt) := match s with
  | some (.sh d) => some (.ok d ρ)
  | some (.fx d) => some (.ok d ρ)
  | some (.ow _ _) => some (.ok (.own i) ρ)
  | _ => none
theorem kV_sh (i : Nat) (ρ : En) (d : Dt) : kV i ρ (some (.sh d)) = some (.ok d ρ) := rfl
theorem kV_ow (i : Nat) (ρ : En) (l : Bool) (d : Dt) : kV i ρ (some (.ow l d)) = some (.ok (.own i) ρ) := rfl
def kVF (i : Nat) (ρ : En) (s : Option Sl) : Option (Rz Dt) := match s with
  | some (.sh d) => some (.ok d ρ)
  | some (.ow false d) => some (.ok d (ρ.set i (.sh d)))
  | _ => none
theorem kVF_sh (i : Nat) (ρ : En) (d : Dt) : kVF i ρ (some (.sh d)) = some (.ok d ρ) := rfl
theorem kVF_ow (i : Nat) (ρ : En) (d : Dt) : kVF i ρ (some (.ow false d)) = some (.ok d (ρ.set i (.sh d))) := rfl
def kB (d : Dt) (ρ : En) : Option (Rz Bool) := match d with
  | .bl b => some (.ok b ρ)
  | _ => none
theorem kB_bl (b : Bool) (ρ : En) : kB (.bl b) ρ = some (.ok b ρ) := rfl
def kD (r : Option So) : Option Fo := match r with
  | some (.nx _) => some (.val .non)
  | some (.rt d _) => some (.val d)
  | some (.ex c _) => some (.exc c)
  | _ => none
theorem kD_nx (ρ : En) : kD (some (.nx ρ)) = some (.val .non) := rfl
theorem kD_rt (d : Dt) (ρ : En) : kD (some (.rt d ρ)) = some (.val d) := rfl
theorem kD_ex (c : Xc) (ρ : En) : kD (some (.ex c ρ)) = some (.exc c) := rfl
theorem kD_if (b : Bool) (r s : Option So) : kD (cond b r s) = cond b (kD r) (kD s) := by cases b <;> rfl
def kN (r : Option So) : Option Fo := match r with
  | some (.rn d _) => some (.val d)
  | some (.ex c _) => some (.exc c)
  | _ => none
theorem kN_rn (d : Dt) (ρ : En) : kN (some (.rn d ρ)) = some (.val d) := rfl
theorem kN_ex (c : Xc) (ρ : En) : kN (some (.ex c ρ)) = some (.exc c) := rfl
theorem kN_if (b : Bool) (r s : Option So) : kN (cond b r s) = cond b (kN r) (kN s) := by cases b <;> rfl
def kO (r : Option So) : Option Oo := match r with
  | some (.nx ρ) => (own0 ρ).map fun o => .val .non o
  | some (.rt d ρ) => (own0 ρ).map fun o => .val d o
  | some (.ex c ρ) => (own0 ρ).map fun o => .exc c o
  | _ => none
theorem kO_nx (o : Dt) (ρ : En) : kO (some (.nx (.ow true o :: ρ))) = some (.val .non o) := rfl
theorem kO_rt (d o : Dt) (ρ : En) : kO (some (.rt d (.ow true o :: ρ))) = some (.val d o) := rfl
theorem kO_ex (c : Xc) (o : Dt) (ρ : En) : kO (some (.ex c (.ow true o :: ρ))) = some (.exc c o) := rfl
theorem kO_if (b : Bool) (r s : Option So) : kO (cond b r s) = cond b (kO r) (kO s) := by cases b <;> rfl
/-! ### the combinators at a state -/
section
variable {α β : Type} {ρ : En}
theorem v_bind (m : Mo α) (f : α → Mo β) : mBind m f ρ = kM (m ρ) f := rfl
theorem v_ret (a : α) : mRet a ρ = some (.ok a ρ) := rfl
theorem v_F (f : En → Option α) : mF f ρ = kF (f ρ) ρ := rfl
theorem v_var (i : Nat) : mVar i ρ = kV i ρ (ρ[i]?) := rfl
theorem v_varF (i : Nat) : mVarF i ρ = kVF i ρ (ρ[i]?) := rfl
theorem v_op (f : En → Dt → Dt → Option Dt) (a b : Mo Dt) : mOp f a b ρ = kM (a ρ) fun d ρ1 => kM (b ρ1) fun e ρ2 => kF (f ρ2 d e) ρ2 := rfl
theorem v_un (f : En → Dt → Option Dt) (a : Mo Dt) : mUn f a ρ = kM (a ρ) fun d ρ1 => kF (f ρ1 d) ρ1 := rfl
theorem v_cb (f : En → List Dt → Option Dt) (a : Mo (List Dt)) : mCB f a ρ = kM (a ρ) fun d ρ1 => kF (f ρ1 d) ρ1 := rfl
theorem v_nil : mNil ρ = some (.ok [] ρ) := rfl
theorem v_cons (a : Mo Dt) (b : Mo (List Dt)) : mCons a b ρ = kM (a ρ) fun d ρ1 => kM (b ρ1) fun ds ρ2 => some (.ok (d :: ds) ρ2) := rfl
theorem v_test (a : Mo Dt) : mTest a ρ = kM (a ρ) fun d ρ1 => kB d ρ1 := by
  show mBind a _ ρ = _
  rw [v_bind]
  congr 1
  funext d ρ1
  cases d <;> rfl
theorem v_tru (a : Mo Dt) : mTru a ρ = kM (a ρ) fun d ρ1 => kF (truD ρ1 d) ρ1 := rfl
theorem v_and (a b : Mo Bool) : mAnd a b ρ = kM (a ρ) fun x ρ1 => cond x (b ρ1) (some (.ok false ρ1)) := by
  show mBind a _ ρ = _
  rw [v_bind]
  congr 1
  funext d ρ1
  cases d <;> rfl
theorem v_or (a b : Mo Bool) : mOr a b ρ = kM (a ρ) fun x ρ1 => cond x (some (.ok true ρ1)) (b ρ1) := by
  show mBind a _ ρ = _
  rw [v_bind]
  congr 1
  funext d ρ1
  cases d <;> rfl
theorem v_not (a : Mo Bool) : mNot a ρ = kM (a ρ) fun x ρ1 => some (.ok (!x) ρ1) := rfl
theorem v_if (t : Mo Bool) (a b : Mo α) : mIf t a b ρ = kM (t ρ) fun x ρ1 => cond x (a ρ1) (b ρ1) := by
  show mBind t _ ρ = _
  rw [v_bind]
  congr 1
  funext d ρ1
  cases d <;> rfl
theorem v_andV (a b : Mo Dt) : mAndV a b ρ = kM (a ρ) fun d ρ1 => kM (kB d ρ1) fun x ρ2 => cond x (b ρ2) (some (.ok (.bl false) ρ2)) := by
  have e : mAndV a b ρ = kM (mTest a ρ) fun x ρ1 => cond x (b ρ1) (some (.ok (.bl false) ρ1)) := by
    show mBind (mTest a) _ ρ = _
    rw [v_bind]
    congr 1
    funext d ρ1
    cases d <;> rfl
  rw [e, v_test]
  cases a ρ with
  | none => rfl
  | some r => cases r <;> rfl
theorem v_orV (a b : Mo Dt) : mOrV a b ρ = kM (a ρ) fun d ρ1 => kM (kB d ρ1) fun x ρ2 => cond x (some (.ok (.bl true) ρ2)) (b ρ2) := by
  have e : mOrV a b ρ = kM (mTest a ρ) fun x ρ1 => cond x (some (.ok (.bl true) ρ1)) (b ρ1) := by
    show mBind (mTest a) _ ρ = _
    rw [v_bind]
    congr 1
    funext d ρ1
    cases d <;> rfl
  rw [e, v_test]
  cases a ρ with
  | none => rfl
  | some r => cases r <;> rfl
theorem v_notV (a : Mo Dt) : mNotV a ρ = kM (a ρ) fun d ρ1 => kM (kB d ρ1) fun x ρ2 => some (.ok (.bl (!x)) ρ2) := by
  have e : mNotV a ρ = kM (mTest a ρ) fun x ρ1 => some (.ok (.bl (!x)) ρ1) := rfl
  rw [e, v_test]
  cases a ρ with
  | none => rfl
  | some r => cases r <;> rfl
theorem v_chain (f g : En → Dt → Dt → Option Dt) (a b c : Mo Dt) : mChain f g a b c ρ = kM (a ρ) fun d ρ1 => kM (b ρ1) fun e ρ2 => kM (kF (f ρ2 d e) ρ2) fun z ρ3 => kM (kB z ρ3) fun x ρ4 => cond x (kM (c ρ4) fun k ρ5 => kF (g ρ5 e k) ρ5) (some (.ok (.bl false) ρ4)) := by
  show mBind a _ ρ = _
  rw [v_bind]
  congr 1
  funext d ρ1
  rw [v_bind]
  congr 1
  funext e ρ2
  rw [v_bind, v_test, v_F]
  cases f ρ2 d e with
  | none => rfl
  | some z =>
    cases z with
    | bl x => cases x <;> rfl
    | _ => rfl
theorem v_tup (a : Mo (List Dt)) : mTup a ρ = kM (a ρ) fun ds ρ1 => kF (if allReal ds = true ∧ ds.length ≤ 100000 then some (.tup ds) else none) ρ1 := rfl
theorem v_lst (a : Mo (List Dt)) : mLst a ρ = kM (a ρ) fun ds ρ1 => kF (if allReal ds = true ∧ ds.length ≤ 100000 then some (.lst ds) else none) ρ1 := rfl
theorem v_noPart : mNoPart ρ = some (.ok none ρ) := rfl
def kI (d : Dt) (ρ : En) : Option (Rz (Option Int)) := match d with
  | .int i => some (.ok (some i) ρ)
  | _ => none
theorem kI_int (i : Int) : kI (.int i) ρ = some (.ok (some i) ρ) := rfl
theorem v_part (a : Mo Dt) : mPart a ρ = kM (a ρ) fun d ρ1 => kI d ρ1 := by
  show mBind a _ ρ = _
  rw [v_bind]
  congr 1
  funext d ρ1
  cases d <;> rfl
theorem v_sl (f : En → Dt → Option Int → Option Int → Option Dt) (a : Mo Dt) (l h : Mo (Option Int)) : mSl f a l h ρ = kM (a ρ) fun d ρ1 => kM (l ρ1) fun lo ρ2 => kM (h ρ2) fun hi ρ3 => kF (f ρ3 d lo hi) ρ3 := rfl
def kStr {γ : Type} (d : Dt) (f : Str → Option γ) : Option γ := match d with
  | .str z => f z
  | _ => none
theorem kStr_str {γ : Type} (z : Str) (f : Str → Option γ) : kStr (.str z) f = f z := rfl
theorem v_mtS (f : Str → List Dt → Option Dt) (o : Mo Dt) (a : Mo (List Dt)) : mMtS f o a ρ = kM (o ρ) fun d ρ1 => kStr d fun z => kM (a ρ1) fun ds ρ2 => kF (f z ds) ρ2 := by
  show mBind o _ ρ = _
  rw [v_bind]
  congr 1
  funext d ρ1
  cases d <;> rfl
theorem v_iter (a : Mo Dt) : mIter a ρ = kM (a ρ) fun d ρ1 => kF (itemsF d) ρ1 := rfl
theorem v_items (a : Mo Dt) : mItems a ρ = kM (a ρ) fun d ρ1 => kF ((dicL d).map itemsD) ρ1 := rfl
theorem v_vals (a : Mo Dt) : mVals a ρ = kM (a ρ) fun d ρ1 => kF ((dicL d).map valsD) ρ1 := rfl
theorem v_itA (f : List Dt → Option (List Dt)) (a : Mo (List Dt)) : mItA f a ρ = kM (a ρ) fun d ρ1 => kF (f d) ρ1 := rfl
theorem v_itV (a : Mo Dt) : mItV a ρ = kM (a ρ) fun d ρ1 => kF (match dicL (look ρ1 d) with | some l => some (.lst (pairsD l)) | none => none) ρ1 := rfl
theorem v_rev (a : Mo Dt) : mRev a ρ = kM (a ρ) fun d ρ1 => kF (match look ρ1 d with | .lst ds => some (.lst ds.reverse) | _ => none) ρ1 := rfl
def kC {γ : Type} (r : Option (Dt × List Dt)) (f : Dt → List Dt → Option γ) : Option γ := match r with
  | some (z, ds) => f z ds
  | none => none
theorem kC_some {γ : Type} (z : Dt) (ds : List Dt) (f : Dt → List Dt → Option γ) : kC (some (z, ds)) f = f z ds := rfl
def kOL {γ : Type} (s : Option Sl) (f : Bool → List Dt → Option γ) : Option γ := match s with
  | some (.ow b (.lst ds)) => f b ds
  | _ => none
theorem kOL_ow {γ : Type} (b : Bool) (ds : List Dt) (f : Bool → List Dt → Option γ) : kOL (some (.ow b (.lst ds))) f = f b ds := rfl
theorem v_mtL (f : List Dt → List Dt → Option (Dt × List Dt)) (j : Nat) (a : Mo (List Dt)) : mMtL f j a ρ = kOL (ρ[j]?) fun _ _ => kM (a ρ) fun es ρ2 => kOL (ρ2[j]?) fun b ds => kC (f ds es) fun z ds' => some (.ok z (ρ2.set j (.ow b (.lst ds')))) := by
  unfold mMtL
  cases h : ρ[j]? with
  | none => rfl
  | some s => cases s with
    | ow b d => cases d with
      | lst ds =>
        dsimp only [kOL]
        rw [v_bind]
        congr 1
      | _ => rfl
    | _ => rfl
def kOw {γ : Type} (s : Option Sl) (f : Bool → Dt → Option γ) : Option γ := match s with
  | some (.ow b d) => f b d
  | _ => none
theorem kOw_ow {γ : Type} (b : Bool) (d : Dt) (f : Bool → Dt → Option γ) : kOw (some (.ow b d)) f = f b d := rfl
def kOo (r : Option Oo) (j : Nat) (l : Bool) (ρ : En) : Option (Rz Dt) := match r with
  | some (.val d o) => some (.ok d (ρ.set j (.ow l o)))
  | some (.exc c o) => some (.ex c (ρ.set j (.ow l o)))
  | none => none
theorem kOo_val (d o : Dt) (j : Nat) (l : Bool) : kOo (some (.val d o)) j l ρ = some (.ok d (ρ.set j (.ow l o))) := rfl
theorem kOo_exc (c : Xc) (o : Dt) (j : Nat) (l : Bool) : kOo (some (.exc c o)) j l ρ = some (.ex c (ρ.set j (.ow l o))) := rfl
theorem v_call (F : DF) (n : Nat) (a : Mo (List Dt)) : mCall F n a ρ = kM (a ρ) fun ds ρ1 => if ds.length = n ∧ allReal ds = true then out (F ds) ρ1 else none := rfl
theorem v_callD (F : DF) (n : Nat) (dds : List Dt) (a : Mo (List Dt)) : mCallD F n dds a ρ = kM (a ρ) fun ds ρ1 => if (ds ++ dds).length = n ∧ allReal ds = true then out (F (ds ++ dds)) ρ1 else none := rfl
theorem v_callO (F : OF) (n j : Nat) (a : Mo (List Dt)) : mCallO F n j a ρ = kOw (ρ[j]?) fun _ _ => kM (a ρ) fun es ρ1 => if es.length = n ∧ allReal es = true then kOw (ρ1[j]?) fun l o => kOo (F o es) j l ρ1 else none := by
  unfold mCallO
  cases h : ρ[j]? with
  | none => rfl
  | some s => cases s with
    | ow b d =>
      dsimp only [kOw]
      rw [v_bind]
      congr 1
    | _ => rfl
theorem out_val (d : Dt) : out (some (.val d)) ρ = some (.ok d ρ) := rfl
theorem out_exc (c : Xc) : out (some (.exc c)) ρ = some (.ex c ρ) := rfl
theorem out_if (b : Bool) (r s : Option Fo) : out (cond b r s) ρ = cond b (out r ρ) (out s ρ) := by cases b <;> rfl
def kFl (d : Dt) (C : Addr) (f : Str) : Option Dt := match d with
  | .ins C' fs ds => if C' = C then (fs.zip ds).lookup f else none
  | _ => none
theorem kFl_ins (C : Addr) (fs : List Str) (ds : List Dt) (f : Str) : kFl (.ins C fs ds) C f = (fs.zip ds).lookup f := if_pos rfl
theorem v_fld (C : Addr) (f : Str) (o : Mo Dt) : mFld C f o ρ = kM (o ρ) fun d ρ1 => kF (kFl (look ρ1 d) C f) ρ1 := by
  show mBind o _ ρ = _
  rw [v_bind]
  congr 1
def kMe {γ : Type} (d : Dt) (C : Addr) (m : Str) (k : Option γ) : Option γ := match d with
  | .ins C' fs _ => if C' = C ∧ fs.contains m = false then k else none
  | _ => none
theorem kMe_ins {γ : Type} (C : Addr) (fs : List Str) (ds : List Dt) (m : Str) (k : Option γ) (h : fs.contains m = false) : kMe (.ins C fs ds) C m k = k := if_pos ⟨rfl, h⟩
theorem v_meth (C : Addr) (m : Str) (F : DF) (n : Nat) (o : Mo Dt) (a : Mo (List Dt)) : mMeth C m F n o a ρ = kM (o ρ) fun d ρ1 => kMe d C m (kM (a ρ1) fun es ρ2 => if es.length + 1 = n ∧ allReal es = true then out (F (d :: es)) ρ2 else none) := by
  show mBind o _ ρ = _
  rw [v_bind]
  congr 1
  funext d ρ1
  cases d with
  | ins C' fs ds =>
    dsimp only [kMe]
    split
    · rfl
    · rfl
  | _ => rfl
def kVal (r : Option Fo) : Option Dt := match r with
  | some (.val z) => some z
  | _ => none
theorem kVal_val (z : Dt) : kVal (some (.val z)) = some z := rfl
def kPr (d : Dt) (C : Addr) (k : Option Dt) : Option Dt := match d with
  | .ins C' _ _ => if C' = C then k else none
  | _ => none
theorem kPr_ins (C : Addr) (fs : List Str) (ds : List Dt) (k : Option Dt) : kPr (.ins C fs ds) C k = k := if_pos rfl
theorem v_prop (C : Addr) (F : DF) (o : Mo Dt) : mProp C F o ρ = kM (o ρ) fun d ρ1 => kF (kPr d C (kVal (F [d]))) ρ1 := by
  show mBind o _ ρ = _
  rw [v_bind]
  congr 1
  funext d ρ1
  cases d <;> rfl
theorem v_make (C : Addr) (F : OF) (n : Nat) (dds : List Dt) (a : Mo (List Dt)) : mMake C F n dds a ρ = kM (a ρ) fun es ρ1 => if (es ++ dds).length = n ∧ allReal es = true then outO (F (.ins C [] []) (es ++ dds)) ρ1 else none := rfl
theorem v_makeN (C : Addr) (F : OF) (n k m : Nat) (gD : List Dt → List Dt → List Dt) (a b : Mo (List Dt)) : mMakeN C F n k m gD a b ρ = kM (a ρ) fun es ρ1 => kM (b ρ1) fun fs ρ2 => if es.length + 1 = n ∧ fs.length = m ∧ (gD es fs).length = k ∧ allReal es = true ∧ allReal fs = true then outO (F (.ins C [] []) (gD es fs)) ρ2 else none := rfl
theorem outO_val (o : Dt) : outO (some (.val .non o)) ρ = some (.ok o ρ) := rfl
theorem outO_exc (c : Xc) (o : Dt) : outO (some (.exc c o)) ρ = some (.ex c ρ) := rfl
def kLc (r : Option (List Dt × En)) : Option (Rz Dt) := match r with
  | some (ds, ρ') => if ds.length ≤ 100000 then some (.ok (.lst ds) ρ') else none
  | none => none
theorem kLc_some (ds : List Dt) (ρ' : En) : kLc (some (ds, ρ')) = if ds.length ≤ 100000 then some (.ok (.lst ds) ρ') else none := rfl
def kDc (r : Option (List (Key × Dt) × En)) : Option (Rz Dt) := match r with
  | some (ds, ρ') => if ds.length ≤ 100000 then some (.ok (dicD (mergeD [] ds)) ρ') else none
  | none => none
theorem kDc_some (ds : List (Key × Dt)) (ρ' : En) : kDc (some (ds, ρ')) = if ds.length ≤ 100000 then some (.ok (dicD (mergeD [] ds)) ρ') else none := rfl
theorem v_lc (it : Mo (List Dt)) (g : GF) (t : Mo Bool) (e : Mo Dt) (vs : List Nat) : mLc it g t e vs ρ = kM (it ρ) fun zs ρ1 => if noLent ρ1 vs = true then kLc (lcL g t e vs zs (wipeE ρ1 vs)) else none := rfl
theorem v_dc (it : Mo (List Dt)) (g : GF) (t : Mo Bool) (k e : Mo Dt) (vs : List Nat) : mDc it g t k e vs ρ = kM (it ρ) fun zs ρ1 => if noLent ρ1 vs = true then kDc (dcL g t k e vs zs (wipeE ρ1 vs)) else none := rfl
/-! statements -/
theorem w_E (m : Mo α) (f : α → SM) : sE m f ρ = kS (m ρ) f := rfl
theorem w_seq (a b : SM) : sSeq a b ρ = kQ (a ρ) b := rfl
theorem w_next : sNext ρ = some (.nx ρ) := rfl
theorem w_set (i : Nat) (m : Mo Dt) : sSet i m ρ = kS (m ρ) fun d ρ1 => if d.real = true ∧ lent ρ1 i = false then some (.nx (ρ1.set i (.sh d))) else none := rfl
theorem w_own (i : Nat) (m : Mo Dt) : sOwn i m ρ = kS (m ρ) fun d ρ1 => if lent ρ1 i = false then some (.nx (ρ1.set i (.ow false d))) else none := rfl
def kE (r : Option En) : Option So := match r with
  | some ρ => some (.nx ρ)
  | none => none
theorem kE_some : kE (some ρ) = some (.nx ρ) := rfl
theorem w_unp (g : GF) (m : Mo Dt) : sUnp g m ρ = kS (m ρ) fun d ρ1 => if d.real = true then kE (g d ρ1) else none := by
  show sE m _ ρ = _
  rw [w_E]
  congr 1
theorem w_drop (m : Mo Dt) : sDrop m ρ = kS (m ρ) fun _ ρ1 => some (.nx ρ1) := rfl
theorem w_ret (m : Mo Dt) : sRet m ρ = kS (m ρ) fun d ρ1 => if d.real = true then some (.rt d ρ1) else none := rfl
theorem w_retN : sRetN ρ = some (.rt .non ρ) := rfl
theorem w_retNew (m : Mo Dt) : sRetNew m ρ = kS (m ρ) fun d ρ1 => some (.rn d ρ1) := rfl
def kRO (ρ : En) (s : Option Sl) : Option So := match s with
  | some (.ow false d) => some (.rn d ρ)
  | _ => none
theorem kRO_ow (d : Dt) : kRO ρ (some (.ow false d)) = some (.rn d ρ) := rfl
theorem w_retOwn (i : Nat) : sRetOwn i ρ = kRO ρ (ρ[i]?) := rfl
theorem w_if (t : Mo Bool) (a b : SM) : sIf t a b ρ = kS (t ρ) fun x ρ1 => cond x (a ρ1) (b ρ1) := by
  show sE t _ ρ = _
  rw [w_E]
  congr 1
  funext d ρ1
  cases d <;> rfl
theorem w_put (f : En → Dt → Dt → Dt → Option En) (m o i : Mo Dt) : sPut f m o i ρ = kS (m ρ) fun d ρ1 => if d.real = true then kS (o ρ1) fun ov ρ2 => kS (i ρ2) fun iv ρ3 => kE (f ρ3 ov iv d) else none := by
  show sE m _ ρ = _
  rw [w_E]
  congr 1
theorem w_for (it : Mo (List Dt)) (g : GF) (b : SM) : sFor it g b ρ = kS (it ρ) fun zs ρ1 => forL g b zs ρ1 := rfl
theorem w_rai0 (C : Addr) : sRai0 C ρ = some (.ex ⟨C, [], []⟩ ρ) := rfl
theorem w_rai1 (C : Addr) (f : Str) (m : Mo Dt) : sRai1 C f m ρ = kS (m ρ) fun d ρ1 => if d.real = true then some (.ex ⟨C, [f], [d]⟩ ρ1) else none := rfl
def kOI {γ : Type} (s : Option Sl) (f : Bool → Addr → List Str → List Dt → Option γ) : Option γ := match s with
  | some (.ow l (.ins C fs ds)) => f l C fs ds
  | _ => none
theorem kOI_ow {γ : Type} (l : Bool) (C : Addr) (fs : List Str) (ds : List Dt) (f : Bool → Addr → List Str → List Dt → Option γ) : kOI (some (.ow l (.ins C fs ds))) f = f l C fs ds := rfl
def kJ {γ : Type} (d : Dt) (f : Nat → Option γ) : Option γ := match d with
  | .own j => f j
  | _ => none
theorem kJ_own {γ : Type} (j : Nat) (f : Nat → Option γ) : kJ (.own j) f = f j := rfl
theorem w_fld (C : Addr) (f : Str) (o m : Mo Dt) : sFld C f o m ρ = kS (m ρ) fun d ρ1 => if d.real = true then kS (o ρ1) fun ov ρ2 => kJ ov fun j => kOI (ρ2[j]?) fun l C' fs ds => if C' = C ∧ fs.contains f = false ∧ fs.length < 900 then some (.nx (ρ2.set j (.ow l (.ins C' (fs ++ [f]) (ds ++ [d]))))) else none else none := by
  show sE m _ ρ = _
  rw [w_E]
  congr 1
def kSh {γ : Type} (s : Option Sl) (f : Dt → Option γ) : Option γ := match s with
  | some (.sh d) => f d
  | _ => none
theorem kSh_sh {γ : Type} (d : Dt) (f : Dt → Option γ) : kSh (some (.sh d)) f = f d := rfl
def kZ (r : Option Dt) (i : Nat) (ρ : En) : Option So := match r with
  | some z => if z.real = true ∧ lent ρ i = false then some (.nx (ρ.set i (.sh z))) else none
  | none => none
theorem kZ_some (z : Dt) (i : Nat) : kZ (some z) i ρ = if z.real = true ∧ lent ρ i = false then some (.nx (ρ.set i (.sh z))) else none := rfl
theorem w_aug (i : Nat) (f : En → Dt → Dt → Option Dt) (m : Mo Dt) : sAugX i f m ρ = kSh (ρ[i]?) fun d => kS (m ρ) fun e ρ1 => kZ (f ρ1 d e) i ρ1 := by
  unfold sAugX
  cases ρ[i]? with
  | none => rfl
  | some s => cases s with
    | sh d =>
      dsimp only [kSh]
      rw [w_E]
      congr 1
    | _ => rfl
theorem r_D (b : SM) (n : Nat) (args : List Dt) : runD b n args = kD (b (st0 n args)) := by
  unfold runD kD
  cases b (st0 n args) with
  | none => rfl
  | some r => cases r <;> rfl
theorem r_N (b : SM) (n : Nat) (args : List Dt) : runN b n args = kN (b (st0 n args)) := by
  unfold runN kN
  cases b (st0 n args) with
  | none => rfl
  | some r => cases r <;> rfl
theorem r_O (b : SM) (n : Nat) (o : Dt) (args : List Dt) : runO b n o args = kO (b (st1 n o args)) := by
  unfold runO kO
  cases b (st1 n o args) with
  | none => rfl
  | some r => cases r <;> rfl
end
/-! ### two ways that come to one -/
theorem c_bl (b x y : Bool) : cond b (Dt.bl x) (Dt.bl y) = Dt.bl (cond b x y) := by cases b <;> rfl
theorem c_ff (b x : Bool) : cond b x false = (b && x) := by cases b <;> rfl
theorem c_tt (b x : Bool) : cond b true x = (b || x) := by cases b <;> rfl
theorem c_same {α : Type} (b : Bool) (x : α) : cond b x x = x := by cases b <;> rfl
end DL
set_option Elab.async false
set_option linter.all false
set_option maxRecDepth 100000
set_option autoImplicit false
set_option maxHeartbeats 4000000
/-! Loops of mirrors, operators at typed data. -/
namespace DL
open PySem L2 Evl PyProof.Rows
theorem c_val (b : Bool) (x y : Dt) : cond b (some (Fo.val x)) (some (Fo.val y)) = some (Fo.val (cond b x y)) := by cases b <;> rfl
theorem c_rt (b : Bool) (x y : Dt) (ρ : En) : cond b (some (So.rt x ρ)) (some (So.rt y ρ)) = some (So.rt (cond b x y) ρ) := by cases b <;> rfl
theorem c_okS {α : Type} (b : Bool) (x y : α) (ρ : En) : cond b (some (Rz.ok x ρ)) (some (Rz.ok y ρ)) = some (Rz.ok (cond b x y) ρ) := by cases b <;> rfl
theorem c_valO (b : Bool) (x y o : Dt) : cond b (some (Oo.val x o)) (some (Oo.val y o)) = some (Oo.val (cond b x y) o) := by cases b <;> rfl
theorem c_tf (b : Bool) : cond b true false = b := by cases b <;> rfl
theorem c_intD (b : Bool) (x y : Int) : cond b (Dt.int x) (Dt.int y) = Dt.int (cond b x y) := by cases b <;> rfl
theorem c_strD (b : Bool) (x y : Str) : cond b (Dt.str x) (Dt.str y) = Dt.str (cond b x y) := by cases b <;> rfl
/-! ### one turn -/
def stepL (g : GF) (b : SM) (z : Dt) (ρ : En) : Option So := match g z ρ with
  | some ρ2 => b ρ2
  | none => none
def kL (r : Option So) (f : SM) : Option So := match r with
  | some (.nx ρ) => f ρ
  | some (.ct ρ) => f ρ
  | some (.bk ρ) => some (.nx ρ)
  | r => r
theorem forL_cons (g : GF) (b : SM) (z : Dt) (zs : List Dt) (ρ : En) : forL g b (z :: zs) ρ = kL (stepL g b z ρ) (forL g b zs) := by
  show (match g z ρ with
    | none => none
    | some ρ2 => match b ρ2 with
      | some (.nx ρ3) => forL g b zs ρ3
      | some (.ct ρ3) => forL g b zs ρ3
      | some (.bk ρ3) => some (.nx ρ3)
      | r => r) = _
  unfold stepL
  cases g z ρ with
  | none => rfl
  | some ρ2 =>
    dsimp only
    unfold kL
    cases b ρ2 with
    | none => rfl
    | some r => cases r <;> rfl
/-- an invariant -/
theorem forL_inv {g : GF} {b : SM} {zs : List Dt} (I : Nat → En → Prop) {ρ : En} (h0 : I 0 ρ) (hs : ∀ k z ρ, zs[k]? = some z → I k ρ → ∃ ρ', stepL g b z ρ = some (.nx ρ') ∧ I (k + 1) ρ') : ∃ ρ', forL g b zs ρ = some (.nx ρ') ∧ I zs.length ρ' := by
  induction zs generalizing I ρ with
  | nil => exact ⟨ρ, rfl, h0⟩
  | cons z zs ih =>
    obtain ⟨ρ1, e1, h1⟩ := hs 0 z ρ rfl h0
    obtain ⟨ρ2, e2, h2⟩ := ih (fun k => I (k + 1)) h1 fun k y ρ hk hI => hs (k + 1) y ρ (by simpa using hk) hI
    exact ⟨ρ2, by rw [forL_cons, e1]; exact e2, h2⟩
/-! ### comprehensions -/
def stepC (g : GF) (t : Mo Bool) (e : Mo Dt) (vs : List Nat) (z : Dt) (ρ : En) : Option (Option Dt × En) := match g z ρ with
  | none => none
  | some ρ2 => match t ρ2 with
    | some (.ok true ρ3) => match e ρ3 with
      | some (.ok d ρ4) => if d.real = true ∧ noLent ρ4 vs = true then some (some d, wipeE ρ4 vs) else none
      | _ => none
    | some (.ok false ρ3) => if noLent ρ3 vs = true then some (none, wipeE ρ3 vs) else none
    | _ => none
theorem lcL_cons {g : GF} {t : Mo Bool} {e : Mo Dt} {vs : List Nat} {z : Dt} {zs : List Dt} {ρ ρ1 ρ2 : En} {o : Option Dt} {ds : List Dt} (h : stepC g t e vs z ρ = some (o, ρ1)) (h2 : lcL g t e vs zs ρ1 = some (ds, ρ2)) : lcL g t e vs (z :: zs) ρ = some (o.toList ++ ds, ρ2) := by
  unfold stepC at h
  unfold lcL
  cases h3 : g z ρ with
  | none => simp [h3] at h
  | some ρ3 =>
    cases h4 : t ρ3 with
    | none => simp [h3, h4] at h
    | some r =>
      cases r with
      | ex c ρ4 => simp [h3, h4] at h
      | ok b ρ4 =>
        cases b with
        | false =>
          have h : (if noLent ρ4 vs = true then some ((none : Option Dt), wipeE ρ4 vs) else none) = some (o, ρ1) := by simpa only [h3, h4] using h
          obtain ⟨c, e⟩ := ite_some h
          cases e
          simp only [h3, h4, if_pos c, h2]
          rfl
        | true =>
          cases h5 : e ρ4 with
          | none => simp [h3, h4, h5] at h
          | some r =>
            cases r with
            | ex c ρ5 => simp [h3, h4, h5] at h
            | ok d ρ5 =>
              have h : (if d.real = true ∧ noLent ρ5 vs = true then some (some d, wipeE ρ5 vs) else none) = some (o, ρ1) := by simpa only [h3, h4, h5] using h
              obtain ⟨c, e⟩ := ite_some h
              cases e
              simp only [h3, h4, h5, if_pos c, h2]
              rfl
/-- the state stays: a map and a filter -/
theorem lcL_map {ι : Type} {g : GF} {t : Mo Bool} {e : Mo Dt} {vs : List Nat} {ρ : En} (enc : ι → Dt) (f : ι → Option Dt) : ∀ (is : List ι), (∀ i ∈ is, stepC g t e vs (enc i) ρ = some (f i, ρ)) → lcL g t e vs (is.map enc) ρ = some (is.filterMap f, ρ)
  | [], _ => rfl
  | i :: is, h => by
    rw [List.map_cons, lcL_cons (h i List.mem_cons_self) (lcL_map enc f is fun j hj => h j (List.mem_cons_of_mem _ hj))]
    cases q : f i with
    | none => rw [List.filterMap_cons_none q]; rfl
    | some d => rw [List.filterMap_cons_some q]; rfl
theorem forL_ind {g : GF} {b : SM} {zs : List Dt} {ρ : En} {P : Option So → Prop} (I : Nat → En → Prop) (h0 : I 0 ρ) (hs : ∀ k z ρ, zs[k]? = some z → I k ρ → ∃ ρ', stepL g b z ρ = some (.nx ρ') ∧ I (k + 1) ρ') (he : ∀ ρ', I zs.length ρ' → P (some (.nx ρ'))) : P (forL g b zs ρ) := by
  obtain ⟨ρ', e, h⟩ := forL_inv I h0 hs
  rw [e]
  exact he ρ' h
/-! ### operators at data -/
section
variable {ρ : En}
theorem l_lst (xs : List Dt) : look ρ (.lst xs) = .lst xs := rfl
theorem l_tup (xs : List Dt) : look ρ (.tup xs) = .tup xs := rfl
theorem l_strD (z : Str) : look ρ (.str z) = .str z := rfl
theorem l_int (i : Int) : look ρ (.int i) = .int i := rfl
theorem l_bl (i : Bool) : look ρ (.bl i) = .bl i := rfl
theorem l_non : look ρ .non = .non := rfl
theorem l_dic (l : List (Key × Dt)) : look ρ (dicD l) = dicD l := rfl
theorem l_ins (C : Addr) (fs : List Str) (ds : List Dt) : look ρ (.ins C fs ds) = .ins C fs ds := rfl
def kLk (k : Nat) (s : Option Sl) : Dt := match s with
  | some (.ow _ d) => d
  | _ => .own k
theorem l_own (k : Nat) : look ρ (.own k) = kLk k (ρ[k]?) := rfl
theorem kLk_ow (k : Nat) (l : Bool) (d : Dt) : kLk k (some (.ow l d)) = d := rfl
theorem eq_int (i j : Int) : eqF ρ (.int i) (.int j) = some (.bl (decide (i = j))) := rfl
theorem eq_str (i j : Str) : eqF ρ (.str i) (.str j) = some (.bl (decide (i = j))) := rfl
theorem eq_bl (i j : Bool) : eqF ρ (.bl i) (.bl j) = some (.bl (decide (i = j))) := rfl
theorem ne_int (i j : Int) : neF ρ (.int i) (.int j) = some (.bl (!decide (i = j))) := rfl
theorem ne_str (i j : Str) : neF ρ (.str i) (.str j) = some (.bl (!decide (i = j))) := rfl
theorem ne_bl (i j : Bool) : neF ρ (.bl i) (.bl j) = some (.bl (!decide (i = j))) := rfl
theorem cmp_int (f : Int → Int → Bool) (g : List Nat → List Nat → Bool) (h : PyData → PyData → Bool) (i j : Int) : cmpF f g h ρ (.int i) (.int j) = some (.bl (f i j)) := rfl
theorem cmp_str (f : Int → Int → Bool) (g : List Nat → List Nat → Bool) (h : PyData → PyData → Bool) (i j : Str) : cmpF f g h ρ (.str i) (.str j) = some (.bl (g i.cps.toList j.cps.toList)) := rfl
theorem add_int (i j : Int) : addF ρ (.int i) (.int j) = some (.int (i + j)) := rfl
theorem add_lst (i j : List Dt) : addF ρ (.lst i) (.lst j) = if i.length + j.length ≤ 100000 then some (.lst (i ++ j)) else none := rfl
theorem sub_int (i j : Int) : subF ρ (.int i) (.int j) = some (.int (i - j)) := rfl
theorem neg_int (i : Int) : negF ρ (.int i) = some (.int (-i)) := rfl
theorem mul_int (i j : Int) : mulF ρ (.int i) (.int j) = if i.natAbs < 2 ^ 4000 ∧ j.natAbs < 2 ^ 4000 then some (.int (i * j)) else none := rfl
theorem fdiv_int (i j : Int) : fdivF ρ (.int i) (.int j) = if 0 < j ∧ j < 2 ^ 200 then some (.int (i / j)) else none := rfl
theorem mod_int (i j : Int) : modF ρ (.int i) (.int j) = if 0 < j then some (.int (i % j)) else none := rfl
theorem iadd_int (i j : Int) : iaddF ρ (.int i) (.int j) = some (.int (i + j)) := rfl
theorem len_lst (xs : List Dt) : lenF ρ [.lst xs] = some (.int xs.length) := rfl
theorem len_tup (xs : List Dt) : lenF ρ [.tup xs] = some (.int xs.length) := rfl
theorem len_dic (l : List (Key × Dt)) : lenF ρ [dicD l] = some (.int l.length) := by
  show (match dicL (dicD l) with | some l => some (Dt.int l.length) | none => none) = _
  rw [dicL_dicD]
theorem len_own (k : Nat) (l : Bool) (xs : List Dt) (h : ρ[k]? = some (.ow l (.lst xs))) : lenF ρ [.own k] = some (.int xs.length) := by
  unfold lenF
  dsimp only
  rw [l_own, h, kLk_ow]
theorem ix_lst (xs : List Dt) (i : Int) : ixF ρ (.lst xs) (.int i) = atI xs i := rfl
theorem ix_tup (xs : List Dt) (i : Int) : ixF ρ (.tup xs) (.int i) = atI xs i := rfl
theorem ix_dicS (l : List (Key × Dt)) (z : Str) : ixF ρ (dicD l) (.str z) = valD l (.inr z) := by
  show (match Dt.key (.str z), dicL (dicD l) with | some k, some l => valD l k | _, _ => none) = _
  rw [dicL_dicD]
  rfl
theorem in_dicS (neg : Bool) (l : List (Key × Dt)) (z : Str) : inF neg ρ (.str z) (dicD l) = some (.bl (neg != (valD l (.inr z)).isSome)) := by
  show Option.map _ (match Dt.key (.str z), dicL (dicD l) with | some k, some l => some (valD l k).isSome | _, _ => none) = _
  rw [dicL_dicD]
  rfl
theorem pdL_strs : ∀ (zs : List Str), pdL (strsD zs) = some (zs.map .str)
  | [] => rfl
  | z :: zs => by
    show pdL (.str z :: strsD zs) = _
    unfold pdL
    rw [pdL_strs zs]
    rfl
theorem any_strs (z : Str) : ∀ (zs : List Str), ((zs.map PyData.str).any fun y => PyData.eqv y (.str z)) = decide (z ∈ zs)
  | [] => by simp
  | y :: zs => by
    rw [List.map_cons, List.any_cons, any_strs z zs]
    have : PyData.eqv (.str y) (.str z) = decide (y = z) := by
      have e : PyData.eqv (.str y) (.str z) = (y == z) := by simp [PyData.eqv]
      rw [e, Bool.eq_iff_iff]
      simp
    rw [this]
    by_cases h : y = z
    · subst h; simp
    · simp [h, Ne.symm h]
theorem in_lstS (neg : Bool) (zs : List Str) (z : Str) : inF neg ρ (.str z) (.lst (strsD zs)) = some (.bl (neg != decide (z ∈ zs))) := by
  show Option.map _ (match Dt.pd (.str z), pdL (strsD zs) with | some p, some es => if p.depth ≤ 63 then some (es.any fun z => PyData.eqv z p) else none | _, _ => none) = _
  rw [pdL_strs]
  have : Dt.pd (.str z) = some (.str z) := rfl
  rw [this]
  dsimp only
  rw [any_strs, if_pos (by simp [PyData.depth])]
  rfl
theorem in_tupS (neg : Bool) (zs : List Str) (z : Str) : inF neg ρ (.str z) (.tup (strsD zs)) = some (.bl (neg != decide (z ∈ zs))) := by
  show Option.map _ (match Dt.pd (.str z), pdL (strsD zs) with | some p, some es => if p.depth ≤ 63 then some (es.any fun z => PyData.eqv z p) else none | _, _ => none) = _
  rw [pdL_strs]
  have : Dt.pd (.str z) = some (.str z) := rfl
  rw [this]
  dsimp only
  rw [any_strs, if_pos (by simp [PyData.depth])]
  rfl
theorem it_lst (xs : List Dt) : itemsF (.lst xs) = some xs := rfl
theorem it_tup (xs : List Dt) : itemsF (.tup xs) = some xs := rfl
theorem it_str (z : Str) : itemsF (.str z) = some (signsD z) := rfl
theorem it_dic (l : List (Key × Dt)) : itemsF (dicD l) = some (keysD l) := by
  show (match dicL (dicD l) with | some l => some (keysD l) | none => none) = _
  rw [dicL_dicD]
theorem list_lst (xs : List Dt) : listF ρ [.lst xs] = some (.lst xs) := rfl
theorem list_tup (xs : List Dt) : listF ρ [.tup xs] = some (.lst xs) := rfl
theorem list_dic (l : List (Key × Dt)) : listF ρ [dicD l] = some (.lst (keysD l)) := by
  show (match dicL (dicD l) with | some l => some (Dt.lst (keysD l)) | none => none) = _
  rw [dicL_dicD]
theorem tup_lst (xs : List Dt) : tupF ρ [.lst xs] = some (.tup xs) := rfl
theorem tup_tup (xs : List Dt) : tupF ρ [.tup xs] = some (.tup xs) := rfl
theorem dict_dic (l : List (Key × Dt)) : dictF ρ [dicD l] = some (dicD l) := by
  show (match dicL (dicD l) with | some l => some (dicD l) | none => none) = _
  rw [dicL_dicD]
theorem dict_prs (l : List (Key × Dt)) : dictF ρ [.lst (pairsD l)] = some (dicD (mergeD [] l)) := by
  show (if Dt.real (.lst (pairsD l)) = true then (match prsOf (pairsD l) with | some l => some (dicD (mergeD [] l)) | none => none) else none) = _
  rw [prsOf_pairs]
  rfl
theorem real_dic (l : List (Key × Dt)) : (dicD l).real = true := rfl
theorem isi_int_int (K : Frag) (cls : List Addr) (i : Int) : isiF K cls ρ [.int i, .ty "int"] = some (.bl true) := by
  show (kitB "int" "int").map Dt.bl = _
  rw [kb_int_int]
  rfl
theorem isi_int_bool (K : Frag) (cls : List Addr) (i : Int) : isiF K cls ρ [.int i, .ty "bool"] = some (.bl false) := by
  show (kitB "int" "bool").map Dt.bl = _
  rw [kb_int_bool]
  rfl
theorem isi_str_str (K : Frag) (cls : List Addr) (i : Str) : isiF K cls ρ [.str i, .ty "str"] = some (.bl true) := by
  show (kitB "str" "str").map Dt.bl = _
  rw [kb_str_str]
  rfl
theorem isi_tup_tup (K : Frag) (cls : List Addr) (i : List Dt) : isiF K cls ρ [.tup i, .ty "tuple"] = some (.bl true) := by
  show (kitB "tuple" "tuple").map Dt.bl = _
  rw [kb_tuple_tuple]
  rfl
theorem tru_bl (b : Bool) : truD ρ (.bl b) = some b := rfl
theorem tru_lst (xs : List Dt) : truD ρ (.lst xs) = some (!xs.isEmpty) := rfl
end
end DL
set_option Elab.async false
set_option linter.all false
set_option maxRecDepth 100000
set_option autoImplicit false
set_option maxHeartbeats 4000000
/-! Equality of data, walks, lists. -/
namespace DL
open PySem L2 Evl PyProof.Rows
mutual
theorem eqv_rfl : ∀ {p : PyData}, p.plain = true → PyData.eqv p p = true
  | .none, _ => by simp [PyData.eqv]
  | .bool b, _ => by simp [PyData.eqv]
  | .int i, _ => by simp [PyData.eqv]
  | .str x, _ => by simp [PyData.eqv]
  | .list xs, h => by
    have e : PyData.eqv (.list xs) (.list xs) = PyData.eqvAll xs xs := by simp [PyData.eqv]
    rw [e]
    exact eqvAll_rfl (by simpa [PyData.plain] using h)
  | .tuple xs, h => by
    have e : PyData.eqv (.tuple xs) (.tuple xs) = PyData.eqvAll xs xs := by simp [PyData.eqv]
    rw [e]
    exact eqvAll_rfl (by simpa [PyData.plain] using h)
  | .dict kvs, h => by simp [PyData.plain] at h
theorem eqvAll_rfl : ∀ {ps : List PyData}, PyData.plainAll ps = true → PyData.eqvAll ps ps = true
  | [], _ => by simp [PyData.eqvAll]
  | p :: ps, h => by
    have h : p.plain = true ∧ PyData.plainAll ps = true := by simpa [PyData.plainAll] using h
    have e : PyData.eqvAll (p :: ps) (p :: ps) = (PyData.eqv p p && PyData.eqvAll ps ps) := by simp [PyData.eqvAll]
    rw [e, eqv_rfl h.1, eqvAll_rfl h.2]
    rfl
end
section
variable {ρ : En}
theorem eq_same {d e x : Dt} {p : PyData} (hd : look ρ d = x) (he : look ρ e = x) (hp : x.pd = some p) (hz : p.depth ≤ 64) : eqB ρ d e = some true := by
  unfold eqB
  rw [hd, he]
  have hpl := Dt.pd_plain hp
  cases x with
  | int i => simp
  | str i => simp
  | bl i => simp
  | non => cases hp; dsimp only [Dt.pd]; rw [if_pos hz, eqv_rfl hpl]
  | lst ds => dsimp only; rw [hp]; dsimp only; rw [if_pos hz, eqv_rfl hpl]
  | tup ds => dsimp only; rw [hp]; dsimp only; rw [if_pos hz, eqv_rfl hpl]
  | _ => cases hp
theorem ne_sameF {d e x : Dt} {p : PyData} (hd : look ρ d = x) (he : look ρ e = x) (hp : x.pd = some p) (hz : p.depth ≤ 64) : neF ρ d e = some (.bl false) := by
  unfold neF
  rw [eq_same hd he hp hz]
  rfl
end
/-! ### None -/
theorem isNon_non : Dt.isNon .non = true := rfl
theorem isNon_bl (b : Bool) : Dt.isNon (.bl b) = false := rfl
theorem isNon_int (i : Int) : Dt.isNon (.int i) = false := rfl
theorem isNon_str (z : Str) : Dt.isNon (.str z) = false := rfl
theorem isNon_lst (ds : List Dt) : Dt.isNon (.lst ds) = false := rfl
theorem isNon_tup (ds : List Dt) : Dt.isNon (.tup ds) = false := rfl
theorem isNon_ins (C : Addr) (fs : List Str) (ds : List Dt) : Dt.isNon (.ins C fs ds) = false := rfl
theorem isNon_dic (l : List (Key × Dt)) : Dt.isNon (dicD l) = false := rfl
/-! ### real data -/
theorem real_non : Dt.real .non = true := rfl
theorem real_bl (b : Bool) : Dt.real (.bl b) = true := rfl
theorem real_int (i : Int) : Dt.real (.int i) = true := rfl
theorem real_str (z : Str) : Dt.real (.str z) = true := rfl
theorem real_lst (ds : List Dt) : Dt.real (.lst ds) = true := rfl
theorem real_tup (ds : List Dt) : Dt.real (.tup ds) = true := rfl
theorem real_ins (C : Addr) (fs : List Str) (ds : List Dt) : Dt.real (.ins C fs ds) = true := rfl
theorem real_ty (n : String) : Dt.real (.ty n) = true := rfl
theorem real_ref (a : Addr) : Dt.real (.ref a) = true := rfl
theorem real_own (k : Nat) : Dt.real (.own k) = false := rfl
theorem allReal_consE (d : Dt) (ds : List Dt) : allReal (d :: ds) = (d.real && allReal ds) := rfl
theorem allReal_nilE : allReal [] = true := rfl
theorem noLent_consE (ρ : En) (v : Nat) (vs : List Nat) : noLent ρ (v :: vs) = (!lent ρ v && noLent ρ vs) := rfl
theorem noLent_nilE (ρ : En) : noLent ρ [] = true := rfl
def kOpt {α β : Type} (r : Option α) (f : α → Option β) : Option β := match r with
  | some a => f a
  | none => none
theorem kOpt_some {α β : Type} (a : α) (f : α → Option β) : kOpt (some a) f = f a := rfl
theorem v_get2 {ρ : En} (a b c : Mo Dt) : mGet2 a b c ρ = kM (a ρ) fun d ρ1 => kOpt (dicL d) fun l => kM (b ρ1) fun e ρ2 => kOpt e.key fun k => kM (c ρ2) fun z ρ3 => kF (if z.real = true then some ((valD l k).getD z) else none) ρ3 := by
  show mBind a _ ρ = _
  rw [v_bind]
  congr 1
  funext d ρ1
  cases dicL d with
  | none => rfl
  | some l =>
    dsimp only [kOpt]
    rw [v_bind]
    congr 1
    funext e ρ2
    cases e.key <;> rfl
theorem key_str (z : Str) : Dt.key (.str z) = some (.inr z) := rfl
theorem key_int (z : Int) : Dt.key (.int z) = some (.inl z) := rfl
/-! ### while -/
def kW (r : Option (Rz Bool)) (f : SM) : Option So := match r with
  | some (.ok true ρ1) => f ρ1
  | some (.ok false ρ1) => some (.nx ρ1)
  | some (.ex c ρ1) => some (.ex c ρ1)
  | none => none
theorem kW_tt (ρ1 : En) (f : SM) : kW (some (.ok true ρ1)) f = f ρ1 := rfl
theorem kW_ff (ρ1 : En) (f : SM) : kW (some (.ok false ρ1)) f = some (.nx ρ1) := rfl
theorem kL_nx (ρ1 : En) (f : SM) : kL (some (.nx ρ1)) f = f ρ1 := rfl
/-! ### lent slots -/
def kLn (s : Option Sl) : Bool := match s with
  | some (.ow true _) => true
  | some (.gh _) => true
  | some (.fx _) => true
  | _ => false
theorem lent_ev (ρ : En) (i : Nat) : lent ρ i = kLn (ρ[i]?) := rfl
theorem kLn_sh (d : Dt) : kLn (some (.sh d)) = false := rfl
theorem kLn_no : kLn (some .no) = false := rfl
theorem kLn_ow (d : Dt) : kLn (some (.ow false d)) = false := rfl
theorem kLn_lent (d : Dt) : kLn (some (.ow true d)) = true := rfl
theorem kLn_slS (s : Option Dt) : kLn (some (slS s)) = false := by cases s <;> rfl
theorem kLn_none : kLn none = false := rfl
/-! ### walks -/
theorem rng_get {n k : Nat} {z : Dt} (h : (rngD 0 n)[k]? = some z) : k < n ∧ z = .int (k : Nat) := by
  have hk : k < n := by
    have := (List.getElem?_eq_some_iff.mp h).1
    rwa [rngD_len] at this
  rw [rngD_get hk] at h
  refine ⟨hk, ?_⟩
  cases h
  rw [Int.zero_add]
end DL
set_option Elab.async false
set_option linter.all false
set_option maxRecDepth 100000
set_option autoImplicit false
set_option maxHeartbeats 4000000
/-! == of nested data without truth values is equality of the data -/
namespace DL
open PySem L2 Evl PyProof.Rows
section
variable {ρ : En}
end
end DL
set_option Elab.async false
set_option linter.all false
set_option maxRecDepth 100000
set_option autoImplicit false
set_option maxHeartbeats 4000000
/-! x != y by object's __ne__, over an own __eq__ -/
namespace PySem.W
open PySem PyProof.Rows PySem.Calls PyProof.V PySem.Spec
section
variable {prog : Program} {w : World} {A A₀ : Around} {E : Value → Shared → Prop} {s : Shared} {K : Frag} {x C L f : Addr} {h₀ : Heap} {m : Str → Option Value} {ox : Obj} {od : Option Obj} {name : Str} {b tb : Value}
end
end PySem.W
namespace DL
open PySem L2 Evl PyProof.Rows
section
variable {X : Cx} {K : Frag} {k : Nat} {C g : Addr} {fd : FuncData} {ps : List Str} {sp : Sp}
end
section
variable {K : Frag} {W : WX} {σ σ1 : L2.St} {ρ ρ1 : En} {F F1 H H1 : Hp} {x : PX} {P : Dt → En → Prop} {C : Addr} {S : Fsp}
end
end DL
set_option Elab.async false
set_option linter.all false
set_option maxRecDepth 100000
set_option autoImplicit false
set_option maxHeartbeats 4000000
/-! == and != of dicts, among whose values are instances with an own __eq__ -/
namespace PySem.W
open Lean Elab Tactic Meta PySem PySem.Calls PyProof.Rows PyProof.V PySem.Spec
section
variable {prog : Program} {w : World} {K : Type} [DecidableEq K] {knd : KeyKind prog w K} {A : Around} {E : Value → Shared → Prop} {s : Shared}
inductive HitsG {K : Type} [DecidableEq K] (prog : Program) (w : World) (A : Around) (E : Value → Shared → Prop) (I : Shared → Prop) (kb : List (K × Value)) : List (K × Value) → Bool → Prop
  | nil : HitsG prog w A E I kb [] true
  | miss {k : K} {v : Value} {r : List (K × Value)} : valueAt kb k = none → HitsG prog w A E I kb ((k, v) :: r) false
  | hit {k : K} {v y : Value} {r : List (K × Value)} {e b : Bool} : valueAt kb k = some y → (∀ s', I s' → wpAny (model prog w) A (eqBool v y) (fun q s2 => q = e ∧ I s2) E s') → HitsG prog w A E I kb r b → HitsG prog w A E I kb ((k, v) :: r) (e && b)
end
end PySem.W
set_option Elab.async false
set_option linter.all false
set_option maxRecDepth 100000
set_option autoImplicit false
set_option maxHeartbeats 4000000
/-! == and != of dicts whose values are None or instances with an own __eq__: by data -/
namespace DL
open PySem L2 Evl PyProof.Rows
mutual
/-- data that a value shows whole -/
def canonD : Dt → Bool
  | .non => true
  | .bl _ => true
  | .int _ => true
  | .str _ => true
  | .tup ds => canonL ds
  | .ins _ _ ds => canonL ds
  | _ => false
def canonL : List Dt → Bool
  | [] => true
  | d :: ds => canonD d && canonL ds
end
section
variable {X : Cx} {pins : List (Addr × Obj)} {σ : L2.St} {F H : Hp} {s : Shared}
end
/-- two values, within a dict -/
def DVal (K : Frag) (C : Addr) (S : Fsp) : V → V → Bool → Hp → Prop := fun x y b H => (x = .non ∧ y = .non ∧ b = true) ∨
  (∃ (F : Hp) (d e : Dt) (t : Value) (i : S.I) (fs : List Str) (ds : List Dt), Ex F H ∧ Rep K F d x ∧ Rep K F e y ∧ d = .ins C fs ds ∧ TyD K e t ∧ PySem.W.notFirst K C t = true ∧ S.arg i = [d, e] ∧ S.pre i ∧ (∀ z, S.post i z → z = .bl b) ∧ (∀ c, ¬ S.exc i c) ∧ (b = true ∨ (canonD d = true ∧ canonD e = true ∧ d ≠ e))) ∨
  x = .non ∧ ∃ (F : Hp) (e : Dt) (i : S.I) (fs : List Str) (ds : List Dt), Ex F H ∧ Rep K F e y ∧ e = .ins C fs ds ∧ PySem.W.subIn K (.ref C) (.type "NoneType") = some false ∧ S.arg i = [e, .non] ∧ S.pre i ∧ (∀ z, S.post i z → z = .bl b) ∧ (∀ c, ¬ S.exc i c)
theorem DVal.mono {K : Frag} {C : Addr} {S : Fsp} {x y : V} {b : Bool} {H H' : Hp} (e : Ex H H') (h : DVal K C S x y b H) : DVal K C S x y b H' := by
  rcases h with h | ⟨F, d, e2, t, i, fs, ds, h1, h⟩ | ⟨h0, F, e2, i, fs, ds, h1, h⟩
  · exact .inl h
  · exact .inr (.inl ⟨F, d, e2, t, i, fs, ds, h1.trans e, h⟩)
  · exact .inr (.inr ⟨h0, F, e2, i, fs, ds, h1.trans e, h⟩)
section
variable {X : Cx} {C f : Addr} {fd : FuncData} {ps : List Str} {S : Fsp} {n : Nat}
end
end DL
set_option Elab.async false
set_option linter.all false
set_option maxRecDepth 100000
set_option autoImplicit false
set_option maxHeartbeats 4000000
/-! == and != of dicts whose values are None or instances with an own __eq__: the operator -/
namespace DL
open PySem L2 Evl PyProof.Rows
section
variable {X : Cx} {pins : List (Addr × Obj)} {σ : L2.St} {F H : Hp} {s : Shared}
end
inductive GoD (V : Dt → Dt → Bool → Prop) (m : List (Key × Dt)) : List (Key × Dt) → Bool → Prop
  | nil : GoD V m [] true
  | miss {k : Key} {v : Dt} {r : List (Key × Dt)} : valD m k = none → GoD V m ((k, v) :: r) false
  | hit {k : Key} {v y : Dt} {r : List (Key × Dt)} {e b : Bool} : valD m k = some y → V v y e → GoD V m r b → GoD V m ((k, v) :: r) (e && b)
section
variable {X : Cx} {C f : Addr} {fd : FuncData} {ps : List Str} {S : Fsp} {n : Nat}
end
/-! by data -/
end DL
set_option Elab.async false
set_option linter.all false
set_option maxRecDepth 100000
set_option autoImplicit false
set_option maxHeartbeats 4000000
/-! {**d, k: v}: the model's side -/
namespace L2
open PySem PySem.Calls PyProof.Rows PyProof.V PySem.Spec
section
variable {prog : Program} {w : World} {A : Around} {E : Value → Shared → Prop} {s : Shared}
end
end L2
set_option Elab.async false
set_option linter.all false
set_option maxRecDepth 100000
set_option autoImplicit false
set_option maxHeartbeats 4000000
/-! {**e, k: v} -/
namespace DL
open PySem L2 Evl PyProof.Rows
section
variable {K : Frag} {W : WX} {σ σ1 : L2.St} {ρ ρ1 : En} {F F1 H H1 : Hp} {x : PX} {P : Dt → En → Prop}
end
section
variable {K : Frag} {W : WX}
end
end DL
set_option Elab.async false
set_option linter.all false
set_option maxRecDepth 100000
set_option autoImplicit false
set_option maxHeartbeats 4000000
/-! one operator or another -/
namespace DL
open PySem L2 Evl PyProof.Rows
end DL
set_option Elab.async false
set_option linter.all false
set_option maxRecDepth 100000
set_option autoImplicit false
set_option maxHeartbeats 4000000
/-! sep.join(texts) -/
namespace DL
open PySem L2 Evl PyProof.Rows
section
variable {K : Frag} {W : WX} {ρ : En}
end
end DL
set_option Elab.async false
set_option linter.all false
set_option maxRecDepth 100000
set_option autoImplicit false
set_option maxHeartbeats 4000000
/-! o.m(..), where m changes o, which slot j owns -/
namespace DL
open PySem L2 Evl PyProof.Rows
section
variable {K : Frag} {W : WX}
end
end DL
set_option Elab.async false
set_option linter.all false
set_option maxRecDepth 100000
set_option autoImplicit false
set_option maxHeartbeats 4000000
/-! self.f = v and self.f += n where the field is there already -/
namespace DL
open PySem L2 Evl PyProof.Rows
section
variable {X : Cx} {o value : Expr} {f : Str} {pos tpos : Pos} {ta tv : TE} {C : Addr}
end
section
variable {K : Frag} {W : WX} {σ σ1 : L2.St} {ρ ρ1 : En} {F F1 H H1 : Hp} {x : PX} {C : Addr} {f : Str}
/-! mirrors -/
end
end DL
set_option Elab.async false
set_option linter.all false
set_option maxRecDepth 100000
set_option autoImplicit false
set_option maxHeartbeats 4000000
/-! f-strings; try .. except X: without a name -/
namespace DL
open PySem L2 Evl PyProof.Rows
section
variable {K : Frag} {W : WX} {ρ : En}
/-! ### try without a name -/
end
end DL
set_option Elab.async false
set_option linter.all false
set_option maxRecDepth 100000
set_option autoImplicit false
set_option maxHeartbeats 4000000
/-! calls of defs with arguments by name -/
namespace DL
open PySem L2 Evl PyProof.Rows
/-- n values by place, those named ks behind them; no defaults -/
theorem kbindsA {K : Frag} {x qual : Str} {params : Arguments} {body : List Stmt} {scope : Scope} {f : Addr} {fd : FuncData} {ps : List Str} (F : FunD K x qual params body scope [] [] f fd) (n : Nat) (ks : List Str) (g : {α : Type} → List α → List α → List α)
    (hrel : ∀ {vs zs : List V} {us ws : List Value}, Vals vs us → Vals zs ws → Vals (g vs zs) (g us ws))
    (h : ∀ (kV doc pm : Value) (an : Option Addr) (cdv ct : Value) (us ws : List Value), us.length = n → ws.length = ks.length → bindArgs (PySem.W.fnOf x qual params body scope .none kV doc pm an cdv ct) ⟨us, ks.zip ws⟩ = pure (ps.zip (g us ws))) :
    KBn K fd ps n ks (fun us ws => g us ws) (fun vs zs => g vs zs) := by
  obtain ⟨oc, od, dV, kV, doc, pm, an, cdv, ct, osl, rfl, lk, hcd, hD, hK⟩ := F.ex
  rcases hD with ⟨_, rfl⟩ | ⟨e, _⟩
  · exact ⟨fun s us ws X l1 l2 => .of_eq (h kV doc pm an cdv ct us ws l1 l2), fun r1 r2 => hrel r1 r2⟩
  · exact absurd rfl e
section
variable {X : Cx} {k n : Nat} {f : Addr} {fd : FuncData} {ps ks : List Str} {sp : Sp} {x : Str} {p pos : Pos} {e : Expr} {es : List Expr} {kws : List Keyword} {t tk : TA} {g : List Value → List Value → List Value} {gV : List V → List V → List V} {W : WX} {E : L2.St → XK} {CX : CXT}
end
section
variable {K : Frag} {W : WX} {ρ : En} {x : PX} {P : Dt → En → Prop}
end
end DL
set_option Elab.async false
set_option linter.all false
set_option maxRecDepth 100000
set_option autoImplicit false
set_option maxHeartbeats 4000000
/-! evaluation of the mirrors of D65 .. D69 -/
namespace DL
open PySem L2 Evl PyProof.Rows
section
variable {ρ : En} {K : Frag}
end
end DL
set_option Elab.async false
set_option linter.all false
set_option maxRecDepth 100000
set_option autoImplicit false
set_option maxHeartbeats 4000000
/-! an own instance lent while an expression is evaluated: the slot shows it as shared data meanwhile -/
namespace DL
open PySem L2 Evl PyProof.Rows
section
variable {K : Frag} {F F' : Hp} {p C : Addr} {dx : Addr}
end
section
variable {K : Frag} {F F' H H' : Hp} {σ : L2.St} {ρ : En} {p C dx : Addr} {fz : List Str}
end
section
variable {K : Frag} {W : WX} {te : TE} {m : Mo Dt} {j : Nat} {C : Addr}
end
end DL
set_option Elab.async false
set_option linter.all false
set_option maxRecDepth 100000
set_option autoImplicit false
set_option maxHeartbeats 4000000
/-! list(e.values()) -/
namespace DL
open PySem L2 Evl PyProof.Rows
section
variable {X : Cx} {K : Frag} {e : Expr} {te : TE} {p apos cpos pos : Pos}
end
section
variable {K : Frag} {W : WX} {σ σ1 : L2.St} {ρ ρ1 : En} {F F1 H H1 : Hp} {x : PX} {P : Dt → En → Prop}
end
end DL
set_option Elab.async false
set_option linter.all false
set_option maxRecDepth 100000
set_option autoImplicit false
set_option maxHeartbeats 4000000
/-! x.extend(a new list), x an own list -/
namespace DL
open PySem L2 Evl PyProof.Rows
section
variable {K : Frag} {W : WX} {σ σ1 : L2.St} {ρ ρ1 : En} {F F1 H H1 : Hp} {x : PX} {P : Dt → En → Prop}
end
section
variable {K : Frag} {W : WX}
end
end DL
set_option Elab.async false
set_option linter.all false
set_option maxRecDepth 100000
set_option autoImplicit false
set_option maxHeartbeats 4000000
/-! dicts with tuple keys whose values are all True: {}, d[t] = True, t in d, [.. for a, b in d ..] -/
namespace DL
open PySem L2 Evl PyProof.Rows
section
variable {K : Frag} {W : WX} {σ σ1 : L2.St} {ρ ρ1 : En} {F F1 H H1 : Hp} {x : PX} {P : Dt → En → Prop}
/-! ### the walk -/
end
section
variable {K : Frag} {W : WX} {σ σ1 : L2.St} {F F1 H H1 : Hp} {x : PX}
end
section
variable {ρ : En}
end
end DL
set_option Elab.async false
set_option linter.all false
set_option maxRecDepth 100000
set_option autoImplicit false
set_option maxHeartbeats 4000000
/-! a told pair (a new list, an int) that is then changed -/
namespace DL
open PySem L2 Evl PyProof.Rows
section
variable {K : Frag} {W : WX} {σ σ1 : L2.St} {ρ ρ1 : En} {F F1 H H1 : Hp} {x : PX} {P : Dt → En → Prop}
/-! data without lists -/
mutual
def nolD : Dt → Bool
  | .lst _ => false
  | .lpl _ => false
  | .tup ds => nolL ds
  | .dic _ ds => nolL ds
  | .ins _ _ ds => nolL ds
  | .exn _ _ _ _ ds => nolL ds
  | .exv _ _ ds => nolL ds
  | _ => true
def nolL : List Dt → Bool
  | [] => true
  | d :: ds => nolD d && nolL ds
end
/-- what is frozen, without the lists -/
def Fnl (F : Hp) : Hp := fun a => match F a with
  | some (.lst _) => none
  | some (.frz _ (.lst _)) => none
  | o => o
theorem fnl_lst {a : Addr} {xs : List V} (h : F a = some (.lst xs)) : Fnl F a = none := by unfold Fnl; rw [h]
theorem fnl_frz {a : Addr} {ob : Obj} {xs : List V} (h : F a = some (.frz ob (.lst xs))) : Fnl F a = none := by unfold Fnl; rw [h]
theorem fnl_none {a : Addr} (h : F a = none) : Fnl F a = none := by unfold Fnl; rw [h]
theorem fnl_keep {a : Addr} {o : HO} (h : F a = some o) (h1 : ∀ xs, o ≠ .lst xs) (h2 : ∀ ob xs, o ≠ .frz ob (.lst xs)) : Fnl F a = some o := by
  unfold Fnl
  rw [h]
  cases o with
  | lst xs => exact absurd rfl (h1 xs)
  | frz ob u => cases u with
    | lst xs => exact absurd rfl (h2 ob xs)
    | _ => rfl
  | _ => rfl
theorem fnl_sub {a : Addr} {o : HO} (h : Fnl F a = some o) : F a = some o ∧ (∀ xs, o ≠ .lst xs) ∧ ∀ ob xs, o ≠ .frz ob (.lst xs) := by
  cases q : F a with
  | none => rw [fnl_none q] at h; cases h
  | some u =>
    by_cases z1 : ∃ xs, u = .lst xs
    · obtain ⟨xs, rfl⟩ := z1
      rw [fnl_lst q] at h
      cases h
    · by_cases z2 : ∃ ob xs, u = .frz ob (.lst xs)
      · obtain ⟨ob, xs, rfl⟩ := z2
        rw [fnl_frz q] at h
        cases h
      · rw [fnl_keep q (fun xs e => z1 ⟨xs, e⟩) (fun ob xs e => z2 ⟨ob, xs, e⟩)] at h
        cases h
        exact ⟨rfl, fun xs e => z1 ⟨xs, e⟩, fun ob xs e => z2 ⟨ob, xs, e⟩⟩
theorem fnl_rd {a : Addr} {o : HO} (h : Rd F a o) (h1 : ∀ xs, o ≠ .lst xs) (h2 : ∀ ob xs, o ≠ .frz ob (.lst xs)) : Rd (Fnl F) a o := by
  rcases h with h | ⟨ob, h⟩
  · exact .inl (fnl_keep h h1 h2)
  · exact .inr ⟨ob, fnl_keep h (fun _ e => nomatch e) fun ob' xs e => by
      injection e with _ e
      exact h1 xs e⟩
mutual
theorem Rep.nl : ∀ {d : Dt} {v : V}, nolD d = true → Rep K F d v → Rep K (Fnl F) d v
  | .non, _, _, h => h
  | .bl _, _, _, h => h
  | .int _, _, _, h => h
  | .str _, _, _, h => h
  | .ty _, _, _, h => h
  | .ref _, _, _, h => h
  | .lst _, _, l, _ => nomatch l
  | .lpl _, _, l, _ => nomatch l
  | .tup ds, v, l, h => by
    unfold Rep at h ⊢
    obtain ⟨a, ys, h1, h2, h3⟩ := h
    refine ⟨a, ys, h1, ?_, RepL.nl l h3⟩
    rcases h2 with h2 | h2
    · exact .inl (fnl_rd h2 (fun _ e => nomatch e) fun _ _ e => nomatch e)
    · exact .inr h2
  | .any, v, l, h => by
    unfold Rep at h ⊢
    exact h
  | .utp, v, l, h => by
    unfold Rep at h ⊢
    obtain ⟨a, ys, h1, h2⟩ := h
    refine ⟨a, ys, h1, ?_⟩
    rcases h2 with h2 | h2
    · exact .inl (fnl_rd h2 (fun _ e => nomatch e) fun _ _ e => nomatch e)
    · exact .inr h2
  | .dic ks ds, v, l, h => by
    unfold Rep at h ⊢
    obtain ⟨a, ys, h1, h2, h3, h4⟩ := h
    exact ⟨a, ys, h1, fnl_rd h2 (fun _ e => nomatch e) (fun _ _ e => nomatch e), h3, RepL.nl l h4⟩
  | .ins C fs ds, v, l, h => by
    unfold Rep at h ⊢
    obtain ⟨a, dx, ys, h1, h2, h3, h4⟩ := h
    exact ⟨a, dx, ys, h1, fnl_keep h2 (fun _ e => nomatch e) (fun _ _ e => nomatch e), h3, RepL.nl l h4⟩
  | .exn a dd C fs ds, v, l, h => by
    unfold Rep at h ⊢
    obtain ⟨h1, h2⟩ := h
    refine ⟨h1, ?_⟩
    rcases h2 with h2 | ⟨b, ys, h3, h4, h5, h6⟩
    · exact .inl h2
    · exact .inr ⟨b, ys, h3, fnl_keep h4 (fun _ e => nomatch e) (fun _ _ e => nomatch e), h5, RepL.nl l h6⟩
  | .own _, _, _, h => by unfold Rep at h; exact h.elim
  | .dtt ks, v, l, h => by
    unfold Rep at h ⊢
    obtain ⟨a, h1, h2⟩ := h
    exact ⟨a, h1, fnl_keep h2 (fun _ e => nomatch e) fun _ _ e => nomatch e⟩
  | .ttp ks, v, l, h => by
    unfold Rep at h ⊢
    obtain ⟨a, h1, h2⟩ := h
    exact ⟨a, h1, fnl_keep h2 (fun _ e => nomatch e) fun _ _ e => nomatch e⟩
  | .exv C fs ds, v, l, h => by
    unfold Rep at h ⊢
    obtain ⟨a, dd, h1, h2, h3⟩ := h
    refine ⟨a, dd, h1, fnl_keep h2 (fun _ e => nomatch e) (fun _ _ e => nomatch e), ?_⟩
    rcases h3 with h3 | ⟨b, ys, h3, h4, h5, h6⟩
    · exact .inl h3
    · exact .inr ⟨b, ys, h3, fnl_keep h4 (fun _ e => nomatch e) (fun _ _ e => nomatch e), h5, RepL.nl l h6⟩
theorem RepL.nl : ∀ {ds : List Dt} {vs : List V}, nolL ds = true → RepL K F ds vs → RepL K (Fnl F) ds vs
  | [], _, _, h => by unfold RepL at h ⊢; exact h
  | d :: ds, _, l, h => by
    unfold nolL at l
    obtain ⟨l1, l2⟩ := Bool.and_eq_true_iff.mp l
    unfold RepL at h ⊢
    obtain ⟨v, r, h1, h2, h3⟩ := h
    exact ⟨v, r, h1, Rep.nl l1 h2, RepL.nl l2 h3⟩
end
end
section
variable {K : Frag} {W : WX} {σ : L2.St} {ρ : En} {F H : Hp}
def noNx : Option So → Option So
  | some (.nx _) => none
  | r => r
theorem Lk.noNx {D D' : Ends} {Z : Pd} (l : Lk K W D Z σ ρ F H) (e1 : D'.rt = D.rt) (e2 : D'.bk = D.bk) (e3 : D'.ct = D.ct) : Lk K W D' { Z with nx := fun _ => False } σ ρ F H :=
  ⟨fun _ _ _ _ p => p.elim, by rw [e1]; exact l.rt, by rw [e1]; exact l.rn, by rw [e2]; exact l.bk, by rw [e3]; exact l.ct, l.ex⟩
end
end DL
namespace DL
open PySem L2 Evl PyProof.Rows
section
variable {K : Frag} {W : WX}
end
end DL
namespace DL
open PySem L2 Evl PyProof.Rows
end DL
set_option Elab.async false
set_option linter.all false
set_option maxRecDepth 100000
set_option autoImplicit false
set_option maxHeartbeats 4000000
/-! a slot of an own dict of own lists: made, changed, frozen -/
namespace DL
open PySem L2 Evl PyProof.Rows
section
variable {K : Frag} {W : WX} {σ σ1 : L2.St} {ρ ρ1 : En} {F F1 H H1 : Hp} {x : PX}
/-! ### found[k].append((a, b)) -/
/-! ### found = {k: [] for k in ..} -/
theorem Aside.other {D b : Addr} {o u : HO} (a : Aside σ ρ F H b o) (nD : ¬ OwA σ ρ H D) (ne : b ≠ D) : Aside σ ρ F (L2.upd H D u) b o := ⟨fun z => a.ow (ow_aside nD (fun c hc => upd_ne hc) z), a.fr, by rw [upd_ne ne]; exact a.at_⟩
end
end DL
set_option Elab.async false
set_option linter.all false
set_option maxRecDepth 100000
set_option autoImplicit false
set_option maxHeartbeats 4000000
/-! defs that change their first argument and hand back a new object; `return e if t else None` -/
namespace DL
open PySem L2 Evl PyProof.Rows
section
variable {K : Frag} {F H : Hp} {p q : Addr}
end
section
variable {P : Program} {w : World} {K : Frag} {mg : Str → Option Value} {base : Heap} {x qual : Str} {params : Arguments} {body : List Stmt} {scope : Scope} {dvs : List V} {kws : List (Str × V)} {f : Addr} {fd : FuncData}
end
section
variable {K : Frag} {W : WX}
/-! ### return e if t else None -/
end
end DL
set_option Elab.async false
set_option linter.all false
set_option maxRecDepth 100000
set_option autoImplicit false
set_option maxHeartbeats 4000000
/-! sorted(xs), xs like data of any kind -/
namespace DL
open PySem L2 Evl PyProof.Rows
section
variable {X : Cx} {K : Frag}
end
section
variable {K : Frag}
end
end DL
set_option Elab.async false
set_option linter.all false
set_option maxRecDepth 100000
set_option autoImplicit false
set_option maxHeartbeats 4000000
/-! zip of a list with a tuple, of tuples of any lengths; great ints; evaluation of D76 .. D78 -/
namespace DL
open PySem PySem.Spec PyProof.Rows L2
end DL
namespace DL
open PySem L2 Evl PyProof.Rows
section
variable {K : Frag} {W : WX} {ρ : En} {x : PX} {F : Hp}
/-! ### great ints -/
end
/-! ### evaluation -/
end DL
set_option Elab.async false
set_option linter.all false
set_option maxRecDepth 100000
set_option autoImplicit false
set_option maxHeartbeats 4000000
/-! sorted(xs, reverse=True), xs like data of any kind -/
namespace DL
open PySem L2 Evl PyProof.Rows
section
variable {X : Cx} {K : Frag}
end
section
variable {K : Frag}
end
end DL
set_option Elab.async false
set_option linter.all false
set_option maxRecDepth 100000
set_option autoImplicit false
set_option maxHeartbeats 4000000
/-! for x in an own list that the loop does not change -/
namespace DL
open PySem L2 Evl PyProof.Rows
section
variable {K : Frag} {W : WX} {σ σ1 : L2.St} {ρ ρ1 : En} {F F1 H H1 : Hp} {x : PX}
theorem flag_get {j i : Nat} {l m : Bool} {d : Dt} {s : Sl} (hj : ρ[j]? = some (.ow m d)) (h : (ρ.set j (.ow l d))[i]? = some s) : ρ[i]? = some s ∨ (i = j ∧ s = .ow l d) := by
  rw [get_set hj] at h
  by_cases c : j = i
  · rw [if_pos c] at h
    exact .inr ⟨c.symm, (Option.some.inj h).symm⟩
  · rw [if_neg c] at h
    exact .inl h
theorem OwS.flag {j : Nat} {l m : Bool} {d : Dt} {a : Addr} (hj : ρ[j]? = some (.ow m d)) (h : OwS σ (ρ.set j (.ow l d)) a) : OwS σ ρ a := by
  obtain ⟨i, b, e, h1, h2⟩ := h
  rcases flag_get hj h1 with g | ⟨rfl, g⟩
  · exact ⟨i, b, e, g, h2⟩
  · cases g
    exact ⟨i, m, _, hj, h2⟩
theorem gh_flag {j : Nat} {l m : Bool} {d : Dt} (hj : ρ[j]? = some (.ow m d)) (i : Nat) (e : Sl) (he : spc e = true) (h : (ρ.set j (.ow l d))[i]? = some e) : ρ[i]? = some e ∧ σ[i]? = σ[i]? := by
  rcases flag_get hj h with h | ⟨_, h⟩
  · exact ⟨h, rfl⟩
  · rw [h] at he
    cases he
theorem OwA.flag {j : Nat} {l m : Bool} {d : Dt} {a : Addr} (hj : ρ[j]? = some (.ow m d)) (h : OwA σ (ρ.set j (.ow l d)) H a) : OwA σ ρ H a := by
  rcases h with h | h
  · exact .inl (h.flag hj)
  · exact .inr (h.back (gh_flag hj) fun _ _ => rfl)
theorem Sym.flag {j : Nat} {l m : Bool} {d : Dt} (s : Sym K F H σ ρ) (hj : ρ[j]? = some (.ow m d)) : Sym K F H σ (ρ.set j (.ow l d)) where
  ex := s.ex
  len := by rw [List.length_set]; exact s.len
  sh := fun i e h => by
    rcases flag_get hj h with h | ⟨_, h⟩
    · exact s.sh i e h
    · cases h
  ow := fun i b e h => by
    rcases flag_get hj h with g | ⟨rfl, g⟩
    · exact s.ow i b e g
    · cases g
      exact s.ow i m d hj
  inj := fun i k b c e f q h1 h2 h3 h4 => by
    have g : ∀ {i : Nat} {b : Bool} {e : Dt}, (ρ.set j (.ow l d))[i]? = some (.ow b e) → ∃ b', ρ[i]? = some (.ow b' e) := fun {i b e} h => by
      rcases flag_get hj h with g | ⟨rfl, g⟩
      · exact ⟨b, g⟩
      · cases g
        exact ⟨m, hj⟩
    obtain ⟨b', g1⟩ := g h1
    obtain ⟨c', g2⟩ := g h2
    exact s.inj i k b' c' e f q g1 g2 h3 h4
  gh := s.gh.mv (Xe.refl F) (gh_flag hj) (fun a ha => ⟨(ha.out s.gh).1, rfl⟩) fun a ha z => s.gh.dj a ha (z.flag hj)
/-- the slot is lent -/
theorem Step.on {j : Nat} {m : Bool} {d : Dt} (s : Sym K F H σ ρ) (hj : ρ[j]? = some (.ow m d)) : Step K σ ρ F H σ (ρ.set j (.ow true d)) F H where
  sym := s.flag hj
  exF := Xe.refl F
  keep := fun _ _ h _ => .inl h
  own := fun a h => .inl (h.flag hj)
  new := fun _ h => .inl h
  all := fun _ h => h
  stay := fun i e h => by
    rw [get_set hj]
    by_cases c : j = i
    · subst c
      rw [hj] at h
      cases h
      exact ⟨d, if_pos rfl, rfl⟩
    · exact ⟨e, by rw [if_neg c]; exact h, rfl⟩
  fxs := fun _ _ h => fx_set hj rfl h
end
end DL
set_option Elab.async false
set_option linter.all false
set_option maxRecDepth 100000
set_option autoImplicit false
set_option maxHeartbeats 4000000
/-! zip of two lists -/
namespace DL
open PySem L2 Evl PyProof.Rows
section
variable {K : Frag} {W : WX} {ρ : En} {x : PX} {F : Hp}
end
end DL
set_option Elab.async false
set_option linter.all false
set_option maxRecDepth 100000
set_option autoImplicit false
set_option maxHeartbeats 4000000
/-! an own list of texts lent to a def that tells a list of ints (of the same length, it may be) -/
namespace DL
open PySem L2 Evl PyProof.Rows
section
variable {K : Frag} {F F' F1 : Hp} {p : Addr}
end
section
variable {K : Frag} {W : WX} {F H : Hp} {σ : L2.St} {ρ : En} {x : PX} {P : Dt → En → Prop} {ds : List Dt}
end
end DL
set_option Elab.async false
set_option linter.all false
set_option maxRecDepth 100000
set_option autoImplicit false
set_option maxHeartbeats 4000000
/-! what a call told is changed: its lists were new, and nothing else in hand holds them -/
namespace DL
open PySem L2 Evl PyProof.Rows
section
variable {K : Frag} {W : WX} {σ σ1 σ2 : L2.St} {ρ ρ1 ρ2 : En} {F F1 F2 H H1 H2 H3 : Hp} {x : PX}
def nolI : Dt → Bool
  | .lst ds => nolL ds
  | .dic _ ds => nolL ds
  | .ins _ _ ds => nolL ds
  | .dtt _ => true
  | _ => false
theorem Own.nl {p : Addr} : ∀ {d : Dt}, nolI d = true → Own K F H p d → Own K (Fnl F) H p d
  | .lst ds, l, ⟨xs, a, b⟩ => ⟨xs, a, RepL.nl l b⟩
  | .dic ks ds, l, ⟨xs, a, b, c⟩ => ⟨xs, a, b, RepL.nl l c⟩
  | .ins C fs ds, l, ⟨dx, xs, a, b, c⟩ => ⟨dx, xs, a, b, RepL.nl l c⟩
  | .dtt ks, _, a => a
def refD : Dt → Bool
  | .lst _ => true
  | .tup _ => true
  | .dic _ _ => true
  | .ins _ _ _ => true
  | .lpl _ => true
  | _ => false
theorem rep_any {F' : Hp} {d : Dt} {v : V} (h : refD d = true) (r : Rep K F d v) : Rep K F' .any v := by
  unfold Rep
  cases d with
  | lst ds => unfold Rep at r; obtain ⟨a, _, e, _⟩ := r; exact ⟨a, e⟩
  | tup ds => unfold Rep at r; obtain ⟨a, _, e, _⟩ := r; exact ⟨a, e⟩
  | dic ks ds => unfold Rep at r; obtain ⟨a, _, e, _⟩ := r; exact ⟨a, e⟩
  | ins C fs ds => unfold Rep at r; obtain ⟨a, _, _, e, _⟩ := r; exact ⟨a, e⟩
  | lpl ds => unfold Rep at r; obtain ⟨a, _, e, _⟩ := r; exact ⟨a, e⟩
  | _ => cases h
theorem repL_any {F' : Hp} : ∀ {ds : List Dt} {vs : List V}, ds.all refD = true → RepL K F ds vs → RepL K F' (ds.map fun _ => .any) vs
  | [], _, _, h => by unfold RepL at h; subst h; exact repL_nil
  | d :: ds, _, l, h => by
    rw [List.all_cons, Bool.and_eq_true] at l
    unfold RepL at h
    obtain ⟨v, r, rfl, h2, h3⟩ := h
    exact repL_cons (rep_any l.1 h2) (repL_any l.2 h3)
/-- slot by slot -/
def mapE (f : Nat → Sl → Option Sl) : Nat → En → Option En
  | _, [] => some []
  | n, s :: r => match f n s with
    | some a => match mapE f (n + 1) r with
      | some b => some (a :: b)
      | none => none
    | none => none
theorem mapE_len {f : Nat → Sl → Option Sl} : ∀ {n : Nat} {ρ ρ' : En}, mapE f n ρ = some ρ' → ρ'.length = ρ.length
  | _, [], _, h => by cases h; rfl
  | n, s :: r, ρ', h => by
    unfold mapE at h
    cases e : f n s with
    | none => rw [e] at h; cases h
    | some a =>
      rw [e] at h
      dsimp only at h
      cases e2 : mapE f (n + 1) r with
      | none => rw [e2] at h; cases h
      | some b =>
        rw [e2] at h
        cases h
        rw [List.length_cons, List.length_cons, mapE_len e2]
theorem mapE_back {f : Nat → Sl → Option Sl} : ∀ {n : Nat} {ρ ρ' : En} {i : Nat} {s' : Sl}, mapE f n ρ = some ρ' → ρ'[i]? = some s' → ∃ s, ρ[i]? = some s ∧ f (n + i) s = some s'
  | _, [], _, i, s', h, g => by cases h; simp at g
  | n, s :: r, ρ', i, s', h, g => by
    unfold mapE at h
    cases e : f n s with
    | none => rw [e] at h; cases h
    | some a =>
      rw [e] at h
      dsimp only at h
      cases e2 : mapE f (n + 1) r with
      | none => rw [e2] at h; cases h
      | some b =>
        rw [e2] at h
        cases h
        cases i with
        | zero =>
          simp at g
          subst g
          exact ⟨s, rfl, e⟩
        | succ i =>
          obtain ⟨z, z1, z2⟩ := mapE_back (i := i) e2 (by simpa using g)
          exact ⟨z, by simpa using z1, by rw [← z2]; congr 1; omega⟩
theorem mapE_fwd {f : Nat → Sl → Option Sl} {ρ ρ' : En} {i : Nat} {s : Sl} (h : mapE f 0 ρ = some ρ') (g : ρ[i]? = some s) : ∃ s', ρ'[i]? = some s' ∧ f i s = some s' := by
  have hi : i < ρ'.length := by rw [mapE_len h]; exact (List.getElem?_eq_some_iff.mp g).1
  obtain ⟨z, z1, z2⟩ := mapE_back h (List.getElem?_eq_getElem hi)
  rw [g] at z1
  cases z1
  exact ⟨_, List.getElem?_eq_getElem hi, by rw [Nat.zero_add] at z2; exact z2⟩
/-- the calls: nothing in hand bears a list -/
def goodS : Sl → Bool
  | .no => true
  | .sh d => nolD d
  | .ow true d => nolI d
  | .fx d => nolD d
  | _ => false
def clA (ks : List Nat) (i : Nat) (s : Sl) : Option Sl :=
  if ks.contains i = true then (match s with
    | .sh d => if refD d = true then some (.fx .any) else none
    | _ => none)
  else if goodS s = true then some s else none
theorem clA_sh {ks : List Nat} {i : Nat} {s : Sl} {d : Dt} (h : clA ks i s = some (.sh d)) : s = .sh d ∧ nolD d = true := by
  unfold clA at h
  split at h
  · split at h
    · split at h <;> cases h
    · cases h
  · split at h
    · rename_i g
      cases h
      exact ⟨rfl, g⟩
    · cases h
theorem clA_ow {ks : List Nat} {i : Nat} {s : Sl} {l : Bool} {d : Dt} (h : clA ks i s = some (.ow l d)) : s = .ow l d ∧ l = true ∧ nolI d = true := by
  unfold clA at h
  split at h
  · split at h
    · split at h <;> cases h
    · cases h
  · split at h
    · rename_i g
      cases h
      cases l with
      | true => exact ⟨rfl, rfl, g⟩
      | false => cases g
    · cases h
theorem clA_gh {ks : List Nat} {i : Nat} {s : Sl} {d : Dt} (h : clA ks i s = some (.gh d)) : False := by
  unfold clA at h
  split at h
  · split at h
    · split at h <;> cases h
    · cases h
  · split at h
    · rename_i g
      cases h
      cases g
    · cases h
theorem clA_fx {ks : List Nat} {i : Nat} {s : Sl} {d : Dt} (h : clA ks i s = some (.fx d)) : (∃ d0, s = .sh d0 ∧ refD d0 = true ∧ d = .any ∧ ks.contains i = true) ∨ (s = .fx d ∧ nolD d = true ∧ ks.contains i = false) := by
  unfold clA at h
  split at h
  · rename_i hk
    split at h
    · rename_i d0
      split at h
      · rename_i g
        cases h
        exact .inl ⟨d0, rfl, g, rfl, hk⟩
      · cases h
    · cases h
  · rename_i hk
    split at h
    · rename_i g
      cases h
      exact .inr ⟨rfl, g, by simpa using hk⟩
    · cases h
theorem fnl_ex (h : Ex F H) : Ex (Fnl F) H := fun a o e => h a o (fnl_sub e).1
theorem Sym.small {ks : List Nat} {ρA : En} (s : Sym K F H σ ρ) (h : mapE (clA ks) 0 ρ = some ρA) : Sym K (Fnl F) H σ ρA where
  ex := fnl_ex s.ex
  len := by rw [mapE_len h]; exact s.len
  sh := fun i d e => by
    obtain ⟨z, z1, z2⟩ := mapE_back h e
    obtain ⟨rfl, g⟩ := clA_sh z2
    obtain ⟨v, v1, v2⟩ := s.sh i d z1
    exact ⟨v, v1, v2.nl g⟩
  ow := fun i l d e => by
    obtain ⟨z, z1, z2⟩ := mapE_back h e
    obtain ⟨rfl, _, g⟩ := clA_ow z2
    obtain ⟨p, p1, p2, p3⟩ := s.ow i l d z1
    exact ⟨p, p1, fnl_none p2, p3.nl g⟩
  inj := fun i j l m d e p h1 h2 => by
    obtain ⟨z, z1, z2⟩ := mapE_back h h1
    obtain ⟨y, y1, y2⟩ := mapE_back h h2
    obtain ⟨rfl, _, _⟩ := clA_ow z2
    obtain ⟨rfl, _, _⟩ := clA_ow y2
    exact s.inj i j l m d e p z1 y1
  gh := .no (fun i d e => by
    obtain ⟨z, z1, z2⟩ := mapE_back h e
    exact clA_gh z2) fun i d e => by
    obtain ⟨z, z1, z2⟩ := mapE_back h e
    rcases clA_fx z2 with ⟨d0, rfl, g, rfl, _⟩ | ⟨rfl, g, _⟩
    · obtain ⟨v, v1, v2⟩ := s.sh i d0 z1
      exact ⟨v, v1, rep_any g v2⟩
    · obtain ⟨v, v1, v2⟩ := s.gh.fx i d z1
      exact ⟨v, v1, v2.nl g⟩
theorem noGh_small {ks : List Nat} {ρA : En} (h : mapE (clA ks) 0 ρ = some ρA) (i : Nat) (d : Dt) : ρA[i]? ≠ some (.gh d) := fun e => by
  obtain ⟨z, z1, z2⟩ := mapE_back h e
  exact clA_gh z2
theorem ow_small {ks : List Nat} {ρA : En} (h : mapE (clA ks) 0 ρ = some ρA) {a : Addr} (g : OwA σ ρA H a) : ∃ (i : Nat) (d : Dt), ρ[i]? = some (.ow true d) ∧ ρA[i]? = some (.ow true d) ∧ σ[i]? = some (some (.ref a)) := by
  rcases g with ⟨i, l, d, g1, g2⟩ | g
  · obtain ⟨z, z1, z2⟩ := mapE_back h g1
    obtain ⟨rfl, rfl, _⟩ := clA_ow z2
    exact ⟨i, d, z1, g1, g2⟩
  · exact absurd g (GhA.no (noGh_small h))
/-- in what the calls froze all lists are new -/
theorem lists_new {ks : List Nat} {ρA : En} (h : mapE (clA ks) 0 ρ = some ρA) (st : Step K σ ρA (Fnl F) H σ1 ρ1 F1 H1) {q : Addr} {xs : List V} (e : F1 q = some (.lst xs)) : H q = none := by
  rcases st.new q (by rw [e]; exact fun z => nomatch z) with z | z | z
  · cases y : Fnl F q with
    | none => exact absurd y z
    | some o =>
      obtain ⟨y1, y2, y3⟩ := fnl_sub y
      rcases st.exF q o y with w | ⟨u, w, ob, kvs, w1, w2⟩
      · rw [e] at w
        cases w
        exact absurd rfl (y2 xs)
      · rw [e] at w
        cases w
        cases w2
  · exact z
  · obtain ⟨i, d, g1, g2, g3⟩ := ow_small h z
    obtain ⟨d', s1, s2⟩ := st.stay i d g2
    obtain ⟨p, p1, p2, p3⟩ := st.sym.ow i true d' s1
    rw [s2, g3] at p1
    cases p1
    rw [e] at p2
    cases p2
open Classical in
/-- what is frozen behind the calls: what was so ahead of them, and what they froze -/
noncomputable def bigF (F F1 H1 : Hp) : Hp := fun a => if F a = none then F1 a else H1 a
theorem big_new {a : Addr} (h : F a = none) : bigF F F1 H1 a = F1 a := if_pos h
theorem big_old {a : Addr} {o : HO} (h : F a = some o) : bigF F F1 H1 a = H1 a := if_neg (by rw [h]; exact fun z => nomatch z)
/-- the slots as they were -/
def rstS (ks : List Nat) (ρ : En) (i : Nat) (s : Sl) : Option Sl :=
  if ks.contains i = true then (match ρ[i]? with
    | some (.sh d) => some (.fx d)
    | _ => none)
  else (match s with
    | .gh _ => none
    | s => some s)
theorem rst_sh {ks : List Nat} {i : Nat} {s : Sl} {d : Dt} (h : rstS ks ρ i s = some (.sh d)) : s = .sh d := by
  unfold rstS at h
  split at h
  · split at h <;> cases h
  · split at h
    · cases h
    · cases h; rfl
theorem rst_ow {ks : List Nat} {i : Nat} {s : Sl} {l : Bool} {d : Dt} (h : rstS ks ρ i s = some (.ow l d)) : s = .ow l d := by
  unfold rstS at h
  split at h
  · split at h <;> cases h
  · split at h
    · cases h
    · cases h; rfl
theorem rst_gh {ks : List Nat} {i : Nat} {s : Sl} {d : Dt} (h : rstS ks ρ i s = some (.gh d)) : False := by
  unfold rstS at h
  split at h
  · split at h <;> cases h
  · split at h
    · cases h
    · rename_i ng
      cases h
      exact ng d rfl
theorem rst_fx {ks : List Nat} {i : Nat} {s : Sl} {d : Dt} (h : rstS ks ρ i s = some (.fx d)) : (ρ[i]? = some (.sh d) ∧ ks.contains i = true) ∨ (s = .fx d ∧ ks.contains i = false) := by
  unfold rstS at h
  split at h
  · rename_i hk
    split at h
    · rename_i d0 e
      cases h
      exact .inl ⟨e, hk⟩
    · cases h
  · rename_i hk
    split at h
    · cases h
    · cases h
      exact .inr ⟨rfl, by simpa using hk⟩
theorem Step.restore {ks : List Nat} {ρA ρB : En} (s : Sym K F H σ ρ) (h : mapE (clA ks) 0 ρ = some ρA) (st : Step K σ ρA (Fnl F) H σ1 ρ1 F1 H1) (hb : mapE (rstS ks ρ) 0 ρ1 = some ρB) : Step K σ ρ F H σ1 ρB (bigF F F1 H1) H1 := by
  have owA : ∀ a, OwA σ ρA H a → OwA σ ρ H a := fun a g => by
    obtain ⟨i, d, g1, g2, g3⟩ := ow_small h g
    exact .inl ⟨i, true, d, g1, g3⟩
  have nowF : ∀ a, OwA σ ρA H a → F a = none := fun a g => by
    obtain ⟨i, d, g1, g2, g3⟩ := ow_small h g
    obtain ⟨p, p1, p2, p3⟩ := s.ow i true d g1
    rw [g3] at p1
    cases p1
    exact p2
  have kp : ∀ a o, F a = some o → H1 a = some o ∨ ∃ u, H1 a = some u ∧ Lok o u := fun a o e => by
    rcases st.keep a o (s.ex a o e) (fun z => by rw [nowF a z] at e; cases e) with z | ⟨_, z⟩
    · exact .inl z
    · exact .inr z
  have xF : Xe F (bigF F F1 H1) := fun a o e => by
    rw [big_old e]
    exact kp a o e
  have x1 : Ex F1 (bigF F F1 H1) := fun a o e => by
    cases q : F a with
    | none => rw [big_new q]; exact e
    | some u => rw [big_old q]; exact st.sym.ex a o e
  have exB : Ex (bigF F F1 H1) H1 := fun a o e => by
    cases q : F a with
    | none => rw [big_new q] at e; exact st.sym.ex a o e
    | some u => rw [big_old q] at e; exact e
  have ng : ∀ (i : Nat) (d : Dt), ρB[i]? ≠ some (.gh d) := fun i d e => by
    obtain ⟨z, z1, z2⟩ := mapE_back hb e
    exact rst_gh z2
  have ows : ∀ a, OwA σ1 ρB H1 a → OwA σ1 ρ1 H1 a := fun a g => by
    rcases g with ⟨i, l, d, g1, g2⟩ | g
    · obtain ⟨z, z1, z2⟩ := mapE_back hb g1
      rw [Nat.zero_add] at z2
      have e := rst_ow z2
      subst e
      exact .inl ⟨i, l, d, z1, g2⟩
    · exact absurd g (GhA.no ng)
  have own1 : ∀ a, OwA σ1 ρ1 H1 a → OwA σ ρA H a ∨ H a = none := st.own
  exact {
    sym := {
      ex := exB
      len := by rw [mapE_len hb]; exact st.sym.len
      sh := fun i d e => by
        obtain ⟨z, z1, z2⟩ := mapE_back hb e
        rw [Nat.zero_add] at z2
        have e := rst_sh z2
        subst e
        obtain ⟨v, v1, v2⟩ := st.sym.sh i d z1
        exact ⟨v, v1, v2.mono (Xe.of x1)⟩
      ow := fun i l d e => by
        obtain ⟨z, z1, z2⟩ := mapE_back hb e
        rw [Nat.zero_add] at z2
        have e := rst_ow z2
        subst e
        obtain ⟨p, p1, p2, p3⟩ := st.sym.ow i l d z1
        refine ⟨p, p1, ?_, p3.mono (Xe.of x1) rfl⟩
        rw [big_new ?_]
        · exact p2
        · rcases own1 p (.inl ⟨i, l, d, z1, p1⟩) with w | w
          · exact nowF p w
          · exact ex_free s.ex w
      inj := fun i j l m d e p h1 h2 => by
        obtain ⟨z, z1, z2⟩ := mapE_back hb h1
        obtain ⟨y, y1, y2⟩ := mapE_back hb h2
        rw [Nat.zero_add] at z2 y2
        have e1 := rst_ow z2
        have e2 := rst_ow y2
        subst e1 e2
        exact st.sym.inj i j l m d e p z1 y1
      gh := .no ng fun i d e => by
        obtain ⟨z, z1, z2⟩ := mapE_back hb e
        rw [Nat.zero_add] at z2
        rcases rst_fx z2 with ⟨g, hk⟩ | ⟨rfl, hk⟩
        · obtain ⟨v, v1, v2⟩ := s.sh i d g
          obtain ⟨sA, a1, a2⟩ := mapE_fwd h g
          unfold clA at a2
          rw [if_pos hk] at a2
          dsimp only at a2
          split at a2
          · cases a2
            obtain ⟨_, b2⟩ := st.fxs i _ a1
            exact ⟨v, by rw [b2]; exact v1, v2.mono xF⟩
          · cases a2
        · obtain ⟨v, v1, v2⟩ := st.sym.gh.fx i d z1
          exact ⟨v, v1, v2.mono (Xe.of x1)⟩ }
    exF := xF
    keep := fun a o e n => by
      rcases st.keep a o e (fun z => n (owA a z)) with z | ⟨z, y⟩
      · exact .inl z
      · refine .inr ⟨fun q => z (fnl_none q), y⟩
    own := fun a g => by
      rcases own1 a (ows a g) with z | z
      · exact .inl (owA a z)
      · exact .inr z
    new := fun a g => by
      cases q : F a with
      | some u => exact .inl fun z => nomatch z
      | none =>
        rw [big_new q] at g
        rcases st.new a g with z | z | z
        · exact absurd (fnl_none q) z
        · exact .inr (.inl z)
        · exact .inr (.inr (owA a z))
    all := st.all
    stay := fun i d e => by
      obtain ⟨sA, a1, a2⟩ := mapE_fwd h e
      have hk : ks.contains i = false := by
        cases c : ks.contains i with
        | false => rfl
        | true => unfold clA at a2; rw [if_pos c] at a2; cases a2
      unfold clA at a2
      rw [if_neg (by rw [hk]; exact fun z => nomatch z)] at a2
      split at a2
      · cases a2
        obtain ⟨d', s1, s2⟩ := st.stay i d a1
        obtain ⟨sB, b1, b2⟩ := mapE_fwd hb s1
        unfold rstS at b2
        rw [if_neg (by rw [hk]; exact fun z => nomatch z)] at b2
        cases b2
        exact ⟨d', b1, s2⟩
      · cases a2
    fxs := fun i d e => by
      obtain ⟨sA, a1, a2⟩ := mapE_fwd h e
      have hk : ks.contains i = false := by
        cases c : ks.contains i with
        | false => rfl
        | true => unfold clA at a2; rw [if_pos c] at a2; cases a2
      unfold clA at a2
      rw [if_neg (by rw [hk]; exact fun z => nomatch z)] at a2
      split at a2
      · cases a2
        obtain ⟨s1, s2⟩ := st.fxs i d a1
        obtain ⟨sB, b1, b2⟩ := mapE_fwd hb s1
        unfold rstS at b2
        rw [if_neg (by rw [hk]; exact fun z => nomatch z)] at b2
        cases b2
        exact ⟨b1, s2⟩
      · cases a2 }
/-- only lists of F1 and new addresses are changed -/
structure Chg (F1 H H' : Hp) : Prop where
  at_ : ∀ a, H' a = H a ∨ (∃ xs, F1 a = some (.lst xs)) ∨ H a = none
  all : ∀ a, H a ≠ none → H' a ≠ none
def goodT : Sl → Bool
  | .no => true
  | .sh d => nolD d
  | .ow _ d => nolI d
  | .fx d => nolD d
  | .gh _ => false
def clT (ks js dr bl : List Nat) (i : Nat) (s : Sl) : Option Sl :=
  if ks.contains i = true then (match s with
    | .fx d => some (.sh d)
    | _ => none)
  else if js.contains i = true then (match s with
    | .fx _ => some .no
    | _ => none)
  else if dr.contains i = true then (match s with
    | .no => some .no
    | .sh _ => some .no
    | .ow false _ => some .no
    | _ => none)
  else if bl.contains i = true then (match s with
    | .ow l (.lst ds) => if ds.all refD = true then some (.ow l (.lst (ds.map fun _ => .any))) else none
    | _ => none)
  else if goodT s = true then some s else none
theorem clT_sh {ks js dr bl : List Nat} {i : Nat} {s : Sl} {d : Dt} (h : clT ks js dr bl i s = some (.sh d)) : (s = .fx d ∧ ks.contains i = true) ∨ (s = .sh d ∧ nolD d = true) := by
  unfold clT at h
  split at h
  · rename_i hk
    split at h
    · cases h; exact .inl ⟨rfl, hk⟩
    · cases h
  · split at h
    · split at h <;> cases h
    · split at h
      · split at h <;> cases h
      · split at h
        · split at h
          · split at h <;> cases h
          · cases h
        · split at h
          · rename_i g
            cases h
            exact .inr ⟨rfl, g⟩
          · cases h
theorem clT_ow {ks js dr bl : List Nat} {i : Nat} {s : Sl} {l : Bool} {d : Dt} (h : clT ks js dr bl i s = some (.ow l d)) : (s = .ow l d ∧ nolI d = true) ∨ ∃ ds, s = .ow l (.lst ds) ∧ ds.all refD = true ∧ d = .lst (ds.map fun _ => .any) := by
  unfold clT at h
  split at h
  · split at h <;> cases h
  · split at h
    · split at h <;> cases h
    · split at h
      · split at h <;> cases h
      · split at h
        · split at h
          · rename_i l0 ds
            split at h
            · rename_i g
              cases h
              exact .inr ⟨ds, rfl, g, rfl⟩
            · cases h
          · cases h
        · split at h
          · rename_i g
            cases h
            exact .inl ⟨rfl, g⟩
          · cases h
theorem clT_gh {ks js dr bl : List Nat} {i : Nat} {s : Sl} {d : Dt} (h : clT ks js dr bl i s = some (.gh d)) : False := by
  unfold clT at h
  split at h
  · split at h <;> cases h
  · split at h
    · split at h <;> cases h
    · split at h
      · split at h <;> cases h
      · split at h
        · split at h
          · split at h <;> cases h
          · cases h
        · split at h
          · rename_i g
            cases h
            cases g
          · cases h
theorem clT_fx {ks js dr bl : List Nat} {i : Nat} {s : Sl} {d : Dt} (h : clT ks js dr bl i s = some (.fx d)) : s = .fx d ∧ nolD d = true := by
  unfold clT at h
  split at h
  · split at h <;> cases h
  · split at h
    · split at h <;> cases h
    · split at h
      · split at h <;> cases h
      · split at h
        · split at h
          · split at h <;> cases h
          · cases h
        · split at h
          · rename_i g
            cases h
            exact ⟨rfl, g⟩
          · cases h
theorem clT_lent {ks js dr bl : List Nat} {i : Nat} {d : Dt} {s' : Sl} (h : clT ks js dr bl i (.ow true d) = some s') : ∃ d', s' = .ow true d' := by
  unfold clT at h
  split at h
  · cases h
  · split at h
    · cases h
    · split at h
      · cases h
      · split at h
        · split at h
          · rename_i l0 ds e
            cases e
            split at h
            · cases h; exact ⟨_, rfl⟩
            · cases h
          · cases h
        · split at h
          · cases h; exact ⟨_, rfl⟩
          · cases h
theorem clT_stay {ks js dr bl : List Nat} {i : Nat} {d : Dt} {s' : Sl} (hk : ks.contains i = false) (hj : js.contains i = false) (h : clT ks js dr bl i (.fx d) = some s') : s' = .fx d := by
  unfold clT at h
  rw [if_neg (by rw [hk]; exact fun z => nomatch z), if_neg (by rw [hj]; exact fun z => nomatch z)] at h
  split at h
  · cases h
  · split at h
    · cases h
    · split at h
      · cases h; rfl
      · cases h
/-- what is frozen, without the lists of F1 -/
def thawF (F1 F : Hp) : Hp := fun a => match F1 a with
  | some (.lst _) => none
  | _ => F a
theorem thaw_of {a : Addr} (h : ∀ xs, F1 a ≠ some (.lst xs)) : thawF F1 F a = F a := by
  unfold thawF
  split
  · rename_i xs e
    exact absurd e (h xs)
  · rfl
theorem thaw_un {a : Addr} {o : HO} (h : thawF F1 F a = some o) : F a = some o ∧ ∀ xs, F1 a ≠ some (.lst xs) := by
  unfold thawF at h
  split at h
  · cases h
  · rename_i ne
    exact ⟨h, ne⟩
theorem thaw_none {a : Addr} (h : F a = none) : thawF F1 F a = none := by
  unfold thawF
  split
  · rfl
  · exact h
theorem Step.thaw {ks js dr bl : List Nat} {ρE : En} (st : Step K σ ρ F H σ2 ρ2 F2 H2) (s : Ex F H) (hn : ∀ q xs, F1 q = some (.lst xs) → H q = none) (hl : ∀ q xs, F1 q = some (.lst xs) → F2 q = some (.lst xs))
    (hk : ∀ i d, ks.contains i = true → ρ2[i]? = some (.fx d) → ∃ v, σ2[i]? = some (some v) ∧ Rep K F d v) (hx : ∀ i d, ρ[i]? = some (.fx d) → ks.contains i = false ∧ js.contains i = false) (h : mapE (clT ks js dr bl) 0 ρ2 = some ρE) (c : Chg F1 H2 H3) :
    Step K σ ρ F H σ2 ρE (thawF F1 F2) H3 := by
  have xF : Xe F (thawF F1 F2) := fun a o e => by
    have ne : ∀ xs, F1 a ≠ some (.lst xs) := fun xs z => by
      have := hn a xs z
      rw [s a o e] at this
      cases this
    rw [thaw_of ne]
    exact st.exF a o e
  have xN : Xe (Fnl F2) (thawF F1 F2) := Xe.of fun a o e => by
    obtain ⟨e1, e2, _⟩ := fnl_sub e
    rw [thaw_of (fun xs z => by rw [hl a xs z] at e1; cases e1; exact e2 xs rfl)]
    exact e1
  have eqH : ∀ a, (∀ xs, F1 a ≠ some (.lst xs)) → H2 a ≠ none → H3 a = H2 a := fun a h1 h2 => by
    rcases c.at_ a with z | ⟨xs, z⟩ | z
    · exact z
    · exact absurd z (h1 xs)
    · exact absurd z h2
  have nl1 : ∀ p, F2 p = none → ∀ xs, F1 p ≠ some (.lst xs) := fun p e xs z => by
    rw [hl p xs z] at e
    cases e
  have ng : ∀ (i : Nat) (d : Dt), ρE[i]? ≠ some (.gh d) := fun i d e => by
    obtain ⟨z, z1, z2⟩ := mapE_back h e
    exact clT_gh z2
  have back : ∀ (i : Nat) (l : Bool) (d : Dt), ρE[i]? = some (.ow l d) → ∃ d', ρ2[i]? = some (.ow l d') := fun i l d e => by
    obtain ⟨z, z1, z2⟩ := mapE_back h e
    rcases clT_ow z2 with ⟨rfl, _⟩ | ⟨ds, rfl, _⟩
    · exact ⟨d, z1⟩
    · exact ⟨_, z1⟩
  exact {
    sym := {
      ex := fun a o e => by
        obtain ⟨e1, e2⟩ := thaw_un e
        have e3 := st.sym.ex a o e1
        rw [eqH a e2 (by rw [e3]; exact fun z => nomatch z)]
        exact e3
      len := by rw [mapE_len h]; exact st.sym.len
      sh := fun i d e => by
        obtain ⟨z, z1, z2⟩ := mapE_back h e
        rw [Nat.zero_add] at z2
        rcases clT_sh z2 with ⟨rfl, g⟩ | ⟨rfl, g⟩
        · obtain ⟨v, v1, v2⟩ := hk i d g z1
          exact ⟨v, v1, v2.mono xF⟩
        · obtain ⟨v, v1, v2⟩ := st.sym.sh i d z1
          exact ⟨v, v1, (v2.nl g).mono xN⟩
      ow := fun i l d e => by
        obtain ⟨z, z1, z2⟩ := mapE_back h e
        rcases clT_ow z2 with ⟨rfl, g⟩ | ⟨ds, rfl, g, rfl⟩
        · obtain ⟨p, p1, p2, p3⟩ := st.sym.ow i l d z1
          exact ⟨p, p1, thaw_none p2, (p3.nl g).mono xN (eqH p (nl1 p p2) p3.there)⟩
        · obtain ⟨p, p1, p2, p3⟩ := st.sym.ow i l _ z1
          have p4 := p3.there
          obtain ⟨xs, x1, x2⟩ := p3
          exact ⟨p, p1, thaw_none p2, xs, by rw [eqH p (nl1 p p2) p4]; exact x1, repL_any g x2⟩
      inj := fun i j l m d e p h1 h2 => by
        obtain ⟨d', g1⟩ := back i l d h1
        obtain ⟨e', g2⟩ := back j m e h2
        exact st.sym.inj i j l m d' e' p g1 g2
      gh := .no ng fun i d e => by
        obtain ⟨z, z1, z2⟩ := mapE_back h e
        obtain ⟨rfl, g⟩ := clT_fx z2
        obtain ⟨v, v1, v2⟩ := st.sym.gh.fx i d z1
        exact ⟨v, v1, (v2.nl g).mono xN⟩ }
    exF := xF
    keep := fun a o e n => by
      have ne : ∀ xs, F1 a ≠ some (.lst xs) := fun xs z => by
        have := hn a xs z
        rw [e] at this
        cases this
      rw [eqH a ne (st.all a (by rw [e]; exact fun z => nomatch z))]
      exact st.keep a o e n
    own := fun a g => by
      rcases g with ⟨i, l, d, g1, g2⟩ | g
      · obtain ⟨d', g3⟩ := back i l d g1
        exact st.own a (.inl ⟨i, l, d', g3, g2⟩)
      · exact absurd g (GhA.no ng)
    new := fun a g => by
      refine st.new a fun z => g (thaw_none z)
    all := fun a g => c.all a (st.all a g)
    stay := fun i d e => by
      obtain ⟨d', g1, g2⟩ := st.stay i d e
      obtain ⟨s', s1, s2⟩ := mapE_fwd h g1
      obtain ⟨d2, rfl⟩ := clT_lent s2
      exact ⟨d2, s1, g2⟩
    fxs := fun i d e => by
      obtain ⟨h1, h2⟩ := hx i d e
      obtain ⟨g1, g2⟩ := st.fxs i d e
      obtain ⟨s', s1, s2⟩ := mapE_fwd h g1
      rw [clT_stay h1 h2 s2] at s1
      exact ⟨s1, g2⟩ }
/-! ### what the calls told is held fast -/
mutual
def wkT : Dt → Dt
  | .lst ds => .lst (wkTL ds)
  | .tup ds => .tup (wkTL ds)
  | .lpl ds => .lst (wkTL ds)
  | d => d
def wkTL : List Dt → List Dt
  | [] => []
  | d :: ds => wkT d :: wkTL ds
end
mutual
theorem rep_wkT : ∀ {d : Dt} {v : V}, Rep K F d v → Rep K F (wkT d) v
  | .lst ds, v, h => by
    unfold wkT
    unfold Rep at h ⊢
    obtain ⟨a, xs, h1, h2, h3⟩ := h
    exact ⟨a, xs, h1, h2, repL_wkT h3⟩
  | .tup ds, v, h => by
    unfold wkT
    unfold Rep at h ⊢
    obtain ⟨a, xs, h1, h2, h3⟩ := h
    exact ⟨a, xs, h1, h2, repL_wkT h3⟩
  | .lpl ds, v, h => by
    unfold wkT
    unfold Rep at h ⊢
    obtain ⟨a, xs, h1, h2, h3⟩ := h
    exact ⟨a, xs, h1, .inl (.inl h2), repL_wkT h3⟩
  | .non, _, h => h
  | .bl _, _, h => h
  | .int _, _, h => h
  | .str _, _, h => h
  | .ty _, _, h => h
  | .ref _, _, h => h
  | .dic _ _, _, h => h
  | .ins _ _ _, _, h => h
  | .exn _ _ _ _ _, _, h => h
  | .own _, _, h => h
  | .dtt _, _, h => h
  | .ttp _, _, h => h
  | .utp, _, h => h
  | .any, _, h => h
  | .exv _ _ _, _, h => h
theorem repL_wkT : ∀ {ds : List Dt} {vs : List V}, RepL K F ds vs → RepL K F (wkTL ds) vs
  | [], _, h => h
  | d :: ds, _, h => by
    unfold wkTL
    unfold RepL at h ⊢
    obtain ⟨v, r, h1, h2, h3⟩ := h
    exact ⟨v, r, h1, rep_wkT h2, repL_wkT h3⟩
end
theorem Step.fix {j : Nat} {d d' : Dt} (s : Sym K F H σ ρ) (hj : ρ[j]? = some (.sh d)) (hw : ∀ v, Rep K F d v → Rep K F d' v) : Step K σ ρ F H σ (ρ.set j (.fx d')) F H := by
  have hjl : j < ρ.length := (List.getElem?_eq_some_iff.mp hj).1
  have back : ∀ {i : Nat} {z : Sl}, (ρ.set j (.fx d'))[i]? = some z → (∀ e, z ≠ .fx e) → j ≠ i ∧ ρ[i]? = some z := fun {i z} h hz => by
    by_cases e : j = i
    · subst e
      rw [List.getElem?_set_self hjl] at h
      exact absurd (Option.some.inj h).symm (hz d')
    · rw [List.getElem?_set_ne e] at h
      exact ⟨e, h⟩
  have ows : ∀ a, OwS σ (ρ.set j (.fx d')) a → OwS σ ρ a := by
    rintro a ⟨i, l, e, h1, h2⟩
    exact ⟨i, l, e, (back h1 fun _ z => nomatch z).2, h2⟩
  have gha : ∀ a, GhA σ (ρ.set j (.fx d')) H a → GhA σ ρ H a := by
    rintro a ⟨i, e, p, h1, h2, h3⟩
    exact ⟨i, e, p, (back h1 fun _ z => nomatch z).2, h2, h3⟩
  exact {
    sym := {
      ex := s.ex
      len := by rw [List.length_set]; exact s.len
      sh := fun i e h => s.sh i e (back h fun _ z => nomatch z).2
      ow := fun i l e h => s.ow i l e (back h fun _ z => nomatch z).2
      inj := fun i k l n e f q h1 h2 h3 h4 => s.inj i k l n e f q (back h1 fun _ z => nomatch z).2 (back h2 fun _ z => nomatch z).2 h3 h4
      gh := {
        at_ := fun i e h => s.gh.at_ i e (back h fun _ z => nomatch z).2
        dj := fun a h z => s.gh.dj a (gha a h) (ows a z)
        one := fun i k e f h1 h2 => s.gh.one i k e f (back h1 fun _ z => nomatch z).2 (back h2 fun _ z => nomatch z).2
        fx := fun i e h => by
          by_cases c : j = i
          · subst c
            rw [List.getElem?_set_self hjl] at h
            cases h
            obtain ⟨v, v1, v2⟩ := s.sh j d hj
            exact ⟨v, v1, hw v v2⟩
          · rw [List.getElem?_set_ne c] at h
            exact s.gh.fx i e h } }
    exF := Xe.refl F
    keep := fun _ _ h _ => .inl h
    own := fun a h => .inl (h.imp (ows a) (gha a))
    new := fun _ h => .inl h
    all := fun _ h => h
    stay := fun i e h => by
      have ne : j ≠ i := fun z => by
        subst z
        rw [hj] at h
        cases h
      exact ⟨e, by rw [List.getElem?_set_ne ne]; exact h, rfl⟩
    fxs := fun _ _ h => fx_set hj rfl h }
/-- a slot's own list is frozen, plain -/
theorem Step.freezeP {j : Nat} {zs : List Dt} (s : Sym K F H σ ρ) (hj : ρ[j]? = some (.ow false (.lst zs))) : ∃ F', Step K σ ρ F H σ (ρ.set j (.sh (.lst zs))) F' H ∧ ∃ v, σ[j]? = some (some v) ∧ Rep K F' (.lpl zs) v := by
  obtain ⟨q0, h1, h2, xs, h3, h4⟩ := s.ow j false _ hj
  have m : Xe F (upd F q0 (.lst xs)) := Xe.new h2
  have hjl : j < ρ.length := (List.getElem?_eq_some_iff.mp hj).1
  have ows : ∀ a, OwS σ (ρ.set j (.sh (.lst zs))) a → OwS σ ρ a := by
    rintro a ⟨i, l, e, g1, g2⟩
    by_cases c : j = i
    · subst c
      rw [List.getElem?_set_self hjl] at g1
      cases g1
    · rw [List.getElem?_set_ne c] at g1
      exact ⟨i, l, e, g1, g2⟩
  refine ⟨upd F q0 (.lst xs), {
    sym := s.lent hj h1 h2 h3 h4
    exF := m
    keep := fun _ _ h _ => .inl h
    own := fun a h => .inl (h.imp (ows a) fun z => z.back (gh_set hj) fun _ _ => rfl)
    new := fun a h => by
      by_cases c : a = q0
      · rw [c]
        exact .inr (.inr (.inl ⟨j, false, _, hj, h1⟩))
      · rw [upd_ne c] at h
        exact .inl h
    all := fun _ h => h
    stay := fun i e h => by
      have ne : j ≠ i := fun z => by
        subst z
        rw [hj] at h
        cases h
      exact ⟨e, by rw [List.getElem?_set_ne ne]; exact h, rfl⟩
    fxs := fun _ _ h => fx_set hj rfl h }, .ref q0, h1, ?_⟩
  unfold Rep
  exact ⟨q0, xs, rfl, upd_same, h4.mono m⟩
def fixJ : List Nat → En → Option (En × List Dt)
  | [], ρ => some (ρ, [])
  | j :: js, ρ => match ρ[j]? with
    | some (.sh d) => match fixJ js (ρ.set j (.fx (wkT d))) with
      | some (ρ', ds) => some (ρ', d :: ds)
      | none => none
    | some (.ow false (.lst zs)) => match fixJ js (ρ.set j (.fx (wkT (.lst zs)))) with
      | some (ρ', ds) => some (ρ', .lpl zs :: ds)
      | none => none
    | _ => none
def RepJ (K : Frag) (F : Hp) (σ : L2.St) : List Nat → List Dt → Prop
  | [], [] => True
  | j :: js, d :: ds => (∃ v, σ[j]? = some (some v) ∧ Rep K F d v) ∧ RepJ K F σ js ds
  | _, _ => False
theorem RepJ.mono (x : Xe F F1) : ∀ {js : List Nat} {ds : List Dt}, RepJ K F σ js ds → RepJ K F1 σ js ds
  | [], [], _ => trivial
  | j :: js, d :: ds, ⟨⟨v, v1, v2⟩, h⟩ => ⟨⟨v, v1, v2.mono x⟩, RepJ.mono x h⟩
  | [], _ :: _, h => h.elim
  | _ :: _, [], h => h.elim
theorem RepJ.re : ∀ {js : List Nat} {ds : List Dt}, (∀ j ∈ js, σ1[j]? = σ[j]?) → RepJ K F σ js ds → RepJ K F σ1 js ds
  | [], [], _, _ => trivial
  | j :: js, d :: ds, e, ⟨⟨v, v1, v2⟩, h⟩ => ⟨⟨v, by rw [e j List.mem_cons_self]; exact v1, v2⟩, RepJ.re (fun i hi => e i (List.mem_cons_of_mem _ hi)) h⟩
  | [], _ :: _, _, h => h.elim
  | _ :: _, [], _, h => h.elim
theorem Step.fixJ : ∀ {js : List Nat} {σ0 : L2.St} {ρ0 : En} {F0 H0 : Hp} {ρ1 ρ2 : En} {F1 : Hp} {ds : List Dt}, Step K σ0 ρ0 F0 H0 σ ρ1 F1 H → fixJ js ρ1 = some (ρ2, ds) →
    ∃ F2, Step K σ0 ρ0 F0 H0 σ ρ2 F2 H ∧ Xe F1 F2 ∧ RepJ K F2 σ js ds ∧ (∀ j ∈ js, ∃ d, ρ2[j]? = some (.fx d)) ∧ (∀ i d, ρ1[i]? = some (.fx d) → ρ2[i]? = some (.fx d) ∧ i ∉ js)
  | [], σ0, ρ0, F0, H0, ρ1, ρ2, F1, ds, st, h => by
    cases h
    exact ⟨F1, st, Xe.refl _, trivial, (fun j hj => nomatch hj), fun i d h => ⟨h, fun z => nomatch z⟩⟩
  | j :: js, σ0, ρ0, F0, H0, ρ1, ρ2, F1, ds, st, h => by
    unfold DL.fixJ at h
    split at h
    · rename_i d hj
      split at h
      · rename_i ρ' ds' e
        cases h
        have s1 := Step.fix (d' := wkT d) st.sym hj fun v => rep_wkT
        obtain ⟨F2, t1, t2, t3, t4, t5⟩ := Step.fixJ (st.trans s1) e
        obtain ⟨v, v1, v2⟩ := st.sym.sh j d hj
        have hjl : j < ρ1.length := (List.getElem?_eq_some_iff.mp hj).1
        refine ⟨F2, t1, t2, ⟨⟨v, v1, v2.mono t2⟩, t3⟩, fun i hi => ?_, fun i d hi => ?_⟩
        · rcases List.mem_cons.mp hi with rfl | hi
          · exact ⟨_, (t5 _ _ (List.getElem?_set_self hjl)).1⟩
          · exact t4 i hi
        · have ne : j ≠ i := fun z => by
            subst z
            rw [hj] at hi
            cases hi
          obtain ⟨g1, g2⟩ := t5 i d (by rw [List.getElem?_set_ne ne]; exact hi)
          exact ⟨g1, fun z => by
            rcases List.mem_cons.mp z with z | z
            · exact ne z.symm
            · exact g2 z⟩
      · cases h
    · rename_i zs hj
      split at h
      · rename_i ρ' ds' e
        cases h
        have hjl : j < ρ1.length := (List.getElem?_eq_some_iff.mp hj).1
        obtain ⟨F2, s1, v, v1, v2⟩ := Step.freezeP st.sym hj
        have s2 := Step.fix (d' := wkT (.lst zs)) (j := j) s1.sym (List.getElem?_set_self hjl) fun v => rep_wkT
        rw [List.set_set] at s2
        obtain ⟨F3, t1, t2, t3, t4, t5⟩ := Step.fixJ ((st.trans s1).trans s2) e
        refine ⟨F3, t1, s1.exF.trans t2, ⟨⟨v, v1, v2.mono t2⟩, t3⟩, fun i hi => ?_, fun i d hi => ?_⟩
        · rcases List.mem_cons.mp hi with rfl | hi
          · exact ⟨_, (t5 _ _ (List.getElem?_set_self hjl)).1⟩
          · exact t4 i hi
        · have ne : j ≠ i := fun z => by
            subst z
            rw [hj] at hi
            cases hi
          obtain ⟨g1, g2⟩ := t5 i d (by rw [List.getElem?_set_ne ne]; exact hi)
          exact ⟨g1, fun z => by
            rcases List.mem_cons.mp z with z | z
            · exact ne z.symm
            · exact g2 z⟩
      · cases h
    · cases h
/-- the change: it changes what the calls told alone -/
def CgOk (K : Frag) (js : List Nat) (ck : List Dt → Bool) (tg : TS) : Prop := ∀ (ds : List Dt) (σ : L2.St) (F1 H2 : Hp) (D : Ends), ck ds = true → RepJ K F1 σ js ds → Xe F1 H2 → (∀ q xs, F1 q = some (.lst xs) → H2 q = some (.lst xs)) → (∀ H3, Chg F1 H2 H3 → D.nx σ H3) → tg D σ H2
def sScp (ks js dr bl : List Nat) (bc bm : SM) (ck : List Dt → Bool) (br : SM) : SM := fun ρ => if ks.all (fun i => decide (i < ρ.length)) = true then match mapE (clA ks) 0 ρ with
  | some ρA => match bc ρA with
    | some (.nx ρB) => match fixJ js ρB with
      | some (ρ1, ds) => match mapE (rstS ks ρ) 0 ρ1 with
        | some ρC => match bm ρC with
          | some (.nx ρD) => if ck ds = true then match mapE (clT ks js dr bl) 0 ρD with
            | some ρE => br ρE
            | none => none
            else none
          | r => r
        | none => none
      | none => none
    | _ => none
  | none => none
  else none
theorem contains_of {js : List Nat} {i : Nat} (h : i ∉ js) : js.contains i = false := by
  cases c : js.contains i with
  | false => rfl
  | true => exact absurd (List.contains_iff_mem.mp c) h
theorem sm_scp {ks js dr bl : List Nat} {tc tm tg tr : TS} {bc bm br : SM} {ck : List Dt → Bool} (hc : StM K W tc bc) (hm : StM K W tm bm) (hg : CgOk K js ck tg) (hr : StM K W tr br) : StM K W (tSeq tc (tSeq tm (tSeq tg tr))) (sScp ks js dr bl bc bm ck br) := fun ρ Z h σ F H D s lk => by
  unfold sScp at h
  by_cases eK : ks.all (fun i => decide (i < ρ.length)) = true
  case neg => rw [if_neg eK] at h; exact h.elim
  rw [if_pos eK] at h
  cases eA : mapE (clA ks) 0 ρ with
  | none => rw [eA] at h; exact h.elim
  | some ρA =>
    rw [eA] at h
    dsimp only at h
    cases eB : bc ρA with
    | none => rw [eB] at h; exact h.elim
    | some rB =>
      rw [eB] at h
      cases rB with
      | nx ρB =>
        dsimp only at h
        cases eF : fixJ js ρB with
        | none => rw [eF] at h; exact h.elim
        | some y =>
          obtain ⟨ρ1, ds⟩ := y
          rw [eF] at h
          dsimp only at h
          cases eC : mapE (rstS ks ρ) 0 ρ1 with
          | none => rw [eC] at h; exact h.elim
          | some ρC =>
            rw [eC] at h
            dsimp only at h
            have sA := s.small eA
            refine hc ρA { nx := fun r => r = ρB, rt := fun _ _ => False } (by rw [eB]; rfl) σ (Fnl F) H _ sA ⟨fun ρ' σ1 FB H1 p st => ?_, fun _ _ _ _ _ _ p => p.elim, fun _ _ _ _ _ _ p => p.elim, fun _ _ _ _ p => p.elim, fun _ _ _ _ p => p.elim, fun _ _ _ _ _ _ _ p => p.elim⟩
            subst p
            obtain ⟨F1, t1, t2, t3, t4, t5⟩ := Step.fixJ st eF
            have st1 := Step.restore s eA t1 eC
            have hn : ∀ q xs, F1 q = some (.lst xs) → H q = none := fun q xs e => lists_new eA t1 e
            have x1 : Ex F1 (bigF F F1 H1) := fun a o e => by
              cases q : F a with
              | none => rw [big_new q]; exact e
              | some u => rw [big_old q]; exact t1.sym.ex a o e
            show tm _ σ1 H1
            cases eM : bm ρC with
            | none => rw [eM] at h; exact h.elim
            | some rM =>
              rw [eM] at h
              cases rM with
              | nx ρD =>
                dsimp only at h
                by_cases cd : ck ds = true
                · rw [if_pos cd] at h
                  cases eE : mapE (clT ks js dr bl) 0 ρD with
                  | none => rw [eE] at h; exact h.elim
                  | some ρE =>
                    rw [eE] at h
                    dsimp only at h
                    refine hm ρC { nx := fun r => r = ρD, rt := fun _ _ => False } (by rw [eM]; rfl) σ1 _ H1 _ st1.sym ⟨fun ρ' σ2 F2 H2 p st2 => ?_, fun _ _ _ _ _ _ p => p.elim, fun _ _ _ _ _ _ p => p.elim, fun _ _ _ _ p => p.elim, fun _ _ _ _ p => p.elim, fun _ _ _ _ _ _ _ p => p.elim⟩
                    subst p
                    have st12 := st1.trans st2
                    have hl : ∀ q xs, F1 q = some (.lst xs) → F2 q = some (.lst xs) := fun q xs e => by
                      rcases st2.exF q _ (x1 q _ e) with w | ⟨u, w, ob, kvs, w1, w2⟩
                      · exact w
                      · cases w1
                    have xj : ∀ j ∈ js, σ2[j]? = σ1[j]? := fun j hj => by
                      obtain ⟨d, e⟩ := t4 j hj
                      obtain ⟨z, z1, z2⟩ := mapE_fwd eC e
                      have : ∃ d', z = .fx d' := by
                        unfold rstS at z2
                        split at z2
                        · split at z2
                          · cases z2; exact ⟨_, rfl⟩
                          · cases z2
                        · cases z2; exact ⟨_, rfl⟩
                      obtain ⟨d', rfl⟩ := this
                      exact (st2.fxs j d' z1).2
                    have hk : ∀ i d, ks.contains i = true → ρ'[i]? = some (.fx d) → ∃ v, σ2[i]? = some (some v) ∧ Rep K F d v := fun i d hki e => by
                      have hi : i < ρ.length := by
                        have := List.all_eq_true.mp eK i (List.contains_iff_mem.mp hki)
                        exact of_decide_eq_true this
                      obtain ⟨s0, hs0⟩ : ∃ s0, ρ[i]? = some s0 := ⟨_, List.getElem?_eq_getElem hi⟩
                      obtain ⟨sA', a1, a2⟩ := mapE_fwd eA hs0
                      unfold clA at a2
                      rw [if_pos hki] at a2
                      split at a2
                      · rename_i d0
                        split at a2
                        · cases a2
                          obtain ⟨b1, b2⟩ := t1.fxs i _ a1
                          obtain ⟨zC, c1, c2⟩ := mapE_fwd eC b1
                          unfold rstS at c2
                          rw [if_pos hki, hs0] at c2
                          cases c2
                          obtain ⟨d1, d2⟩ := st2.fxs i _ c1
                          rw [e] at d1
                          cases d1
                          obtain ⟨v, v1, v2⟩ := s.sh i d hs0
                          exact ⟨v, by rw [d2, b2]; exact v1, v2⟩
                        · cases a2
                      · cases a2
                    have hx : ∀ i d, ρ[i]? = some (.fx d) → ks.contains i = false ∧ js.contains i = false := fun i d e => by
                      obtain ⟨sA', a1, a2⟩ := mapE_fwd eA e
                      have hki : ks.contains i = false := by
                        cases c : ks.contains i with
                        | false => rfl
                        | true => unfold clA at a2; rw [if_pos c] at a2; cases a2
                      unfold clA at a2
                      rw [if_neg (by rw [hki]; exact fun z => nomatch z)] at a2
                      split at a2
                      · cases a2
                        obtain ⟨b1, b2⟩ := st.fxs i d a1
                        exact ⟨hki, contains_of (t5 i d b1).2⟩
                      · cases a2
                    show tg _ σ2 H2
                    refine hg ds σ2 F1 H2 _ cd (RepJ.re xj t3) (fun a o e => ?_) (fun q xs e => st2.sym.ex q _ (hl q xs e)) fun H3 c => ?_
                    · rcases st2.exF a o (x1 a o e) with w | ⟨u, w, l⟩
                      · exact .inl (st2.sym.ex a o w)
                      · exact .inr ⟨u, st2.sym.ex a u w, l⟩
                    · have th := Step.thaw st12 s.ex hn hl hk hx eE c
                      exact hr ρE Z h σ2 _ H3 D th.sym (lk.later th)
                · rw [if_neg cd] at h; exact h.elim
              | _ => exact hm ρC { Z with nx := fun _ => False } (by rw [eM]; exact h) σ1 _ H1 _ st1.sym ((lk.later st1).noNx rfl rfl rfl)
      | _ => exact h.elim
end
end DL
set_option Elab.async false
set_option linter.all false
set_option maxRecDepth 100000
set_option autoImplicit false
set_option maxHeartbeats 4000000
/-! changes of what a call told (for sm_scp) -/
namespace DL
open PySem L2 Evl PyProof.Rows
section
variable {K : Frag} {W : WX} {σ : L2.St} {F1 H H1 H2 : Hp}
/-- a list of at most so many items -/
def LsH (H : Hp) (q : Addr) (n : Nat) : Prop := ∃ xs, H q = some (.lst xs) ∧ xs.length ≤ n
theorem LsH.upd {q a : Addr} {n : Nat} {ys : List V} (h : LsH H q n) (hy : ys.length ≤ n) : LsH (upd H a (.lst ys)) q n := by
  by_cases e : q = a
  · subst e
    exact ⟨ys, upd_same, hy⟩
  · obtain ⟨xs, h1, h2⟩ := h
    exact ⟨xs, by rw [upd_ne e]; exact h1, h2⟩
theorem LsH.new {q a : Addr} {n : Nat} {o : HO} (h : LsH H q n) (ha : H a = none) : LsH (L2.upd H a o) q n := by
  obtain ⟨xs, h1, h2⟩ := h
  exact ⟨xs, by rw [upd_ne (fun e => by rw [e, ha] at h1; cases h1)]; exact h1, h2⟩
theorem LsH.ty {q : Addr} {n : Nat} (h : LsH H q n) : tyV K "list" (.ref q) H := by
  obtain ⟨xs, h1, _⟩ := h
  exact .inl ⟨rfl, xs, .inl (.inl h1)⟩
theorem at0 {α : Type} (v : α) (l : List α) : atI (v :: l) 0 = some v := by
  unfold atI ixN
  simp
end
end DL
set_option Elab.async false
set_option linter.all false
set_option maxRecDepth 100000
set_option autoImplicit false
set_option maxHeartbeats 4000000
/-! C(.., k = v): an exception of one's own class, made with keywords -/
namespace PySem
namespace HandSPX
open PySem.W PySem.Calls PyProof.Rows
section
variable {M : Model} {A : Around} {E : Value → Shared → Prop} {h : Heap} {g : Array GenState} {d : Drawn} {t : Nat} {os : OsState}
variable {nm q : Str} {C N : Addr} {bs bm bmB : List Value} {hdct : Bool} {sn : List Str} {sub : List Value} {ab : Bool} {col : Option Bool} {dd : Option Addr} {k0 k1 k2 k3 k5 : Option Value} {B newId initId : String}
theorem check_new_ownK (F : ExcBaseFacts B newId initId bmB) (hT : ∀ X : String, bm.contains (.type X) = bmB.contains (.type X)) {rest : List Value} {kw : List (Str × Value)} {Q : Unit → Shared → Prop}
    (hC : h.get? C = some (excClassObj nm q C N bs bm hdct sn sub ab col dd k0 k1 k2 k3 k5 newId)) (hq : Q () ⟨h, g, d, t, os⟩) : wpAny M A (checkBuiltinCall newId ⟨.ref C :: rest, kw⟩) Q E ⟨h, g, d, t, os⟩ := by
  have hcont : (Value.ref C :: bm).contains (.type B) = true := by rw [List.contains_cons, hT, F.hasB, Bool.or_true]
  have hstar := F.noStar
  simp only [checkBuiltinCall, F.newKind, F.newSplit, F.newRow]
  repeat (first | refine wpAny_loadPart_at hC ?_ | (refine wpAny_isSubtype_exc hC ?_; rw [hcont]) | refine wpAny_staticBase_exc hC ?_ | refine wpAny_madeBy_exc hC ?_ | simp only [bne_self_eq_false, Bool.false_eq_true, if_false] | wp_step)
  exact hq
end
section
variable {prog : Program} {w : World} {A : Around} {E : Value → Shared → Prop} {R : Result → Shared → Prop} {h : Heap} {g : Array GenState} {d : Drawn} {t : Nat} {os : OsState}
variable {nm q : Str} {C N : Addr} {bs bm bmB : List Value} {hdct : Bool} {sn : List Str} {sub : List Value} {ab : Bool} {col : Option Bool} {dd : Option Addr} {k0 k1 k2 k3 k5 : Option Value} {B newId initId : String}
theorem new_ownK (F : ExcBaseFacts B newId initId bmB) (hT : ∀ X : String, bm.contains (.type X) = bmB.contains (.type X)) {rest : List Value} {kw : List (Str × Value)}
    (hC : h.get? C = some (excClassObj nm q C N bs bm hdct sn sub ab col dd k0 k1 k2 k3 k5 newId))
    (hq : R (.ok (.ret (.ref (h.objs.size + 1)))) ⟨(h.push { cls := .type "tuple", data := .seq rest.toArray }).push
      { cls := .ref C, data := .fields #[.ref h.objs.size, .none, .none, .none, .bool false, .none] }, g, d, t, os⟩) (hrest : rest.length ≤ sizeLine) :
    codeAny (model prog w) A (.builtin newId ⟨.ref C :: rest, kw⟩) R ⟨h, g, d, t, os⟩ := by
  have hends := F.ends
  have hcB : (Value.ref C :: bm).contains (.type B) = true := by rw [List.contains_cons, hT, F.hasB, Bool.or_true]
  have hcA : (Value.ref C :: bm).contains (.type "AttributeError") = false := by rw [List.contains_cons, hT, F.noAttr]; rfl
  have hcN : (Value.ref C :: bm).contains (.type "NameError") = false := by rw [List.contains_cons, hT, F.noName]; rfl
  refine codeAny_builtinAt F.entry ?_
  unfold Builtin.«BaseException.__new__»
  refine wpAt_bind ?_
  show wpAt _ _ _ (stack >>= _) _ _ _
  refine wpAt_bind (wpAt_stack fun p below => wpAt_of_wpAny ?_)
  wp_walk
  refine wpAt_of_wpAny ?_
  rw [F.owner]
  repeat (first | with_reducible refine wpAny_madeHere_exc F.canon hC ?_ | with_reducible refine wpAny_loadPart_at hC ?_ | (with_reducible refine wpAny_isSubtype_exc hC ?_; first | rw [hcB] | rw [hcA] | rw [hcN]) | wp_step)
  show R _ _
  rw [Heap.size_push]
  exact hq
theorem type_call_ownK (F : ExcBaseFacts B newId initId bmB) (hT : ∀ X : String, bm.contains (.type X) = bmB.contains (.type X)) {rest : List Value} {kw : List (Str × Value)} {fI : Addr} {Q : Fin → Shared → Prop}
    (hC : h.get? C = some (excClassObj nm q C N bs bm hdct sn sub ab col dd k0 k1 k2 k3 k5 newId))
    (hi : W.Looks (model prog w) h (typeLookup (.ref C) "__init__") (some (.ref fI))) (hb : ∀ self, W.Looks (model prog w) h (bindSpecial (.ref fI) self) (.ref fI, [self])) (hrest : rest.length ≤ sizeLine)
    (hq : codeAny (model prog w) A (.call (.ref fI) ⟨.ref (h.objs.size + 1) :: rest, kw⟩)
      (fun r s' => match r with | .ok (.ret v) => v = .none ∧ Q (.done (.ret (.ref (h.objs.size + 1)))) s' | .ok _ => False | .error e => E e s')
      ⟨(h.push (W.kdv_tup rest)).push (excO C h.objs.size), g, d, t, os⟩) :
    wpAny (model prog w) A (Builtin.«type.__call__» ⟨.ref C :: rest, kw⟩) Q E ⟨h, g, d, t, os⟩ := by
  repeat (first | with_reducible refine wpAny_loadPart_at hC ?_ | with_reducible refine wpAny_madeBy_exc hC ?_ | wp_step)
  refine codeAny_call_builtin_code (Code.quiet_builtin _ F.quiet) (check_new_ownK F hT hC ?_)
  refine new_ownK F hT hC ?_ hrest
  show wpAny _ _ _ _ _ _
  have k : ∀ b o, h.get? b = some o → ((h.push (W.kdv_tup rest)).push (excO C h.objs.size)).get? b = some o := fun b o e => Heap.get?_push_of_some _ (Heap.get?_push_of_some _ e)
  have hC₁ := k _ _ hC
  have hget : ((h.push (W.kdv_tup rest)).push (excO C h.objs.size)).get? (h.objs.size + 1) = some (excO C h.objs.size) := by heap_get
  have hcC : (Value.ref C :: bm).contains (.ref C) = true := by simp
  have i1 := hi.keeps k
  have b1 := (hb (.ref (h.objs.size + 1))).keeps k
  unfold isInstance
  repeat (first | with_reducible refine wpAny_loadPart_at hget ?_ | (with_reducible refine wpAny_isSubtype_exc hC₁ ?_; rw [hcC]) | wp_step)
  show wpAny _ _ (typeLookup (.ref C) _) _ _ _
  refine i1.at ?_
  refine wpAny_holding (wpAny_bind (b1.at ?_))
  refine wpAny_bind (wpAny_call (codeAny_mono hq fun r s' z => ?_))
  rcases r with e | (v | _ | _ | _) <;> first | exact z | exact z.elim | skip
  obtain ⟨rfl, z⟩ := z
  first
    | exact wpAny_pure (wpAny_pure z)
    | (wp_walk; exact z)
theorem call_ownK (F : ExcBaseFacts B newId initId bmB) (hT : ∀ X : String, bm.contains (.type X) = bmB.contains (.type X)) {rest : List Value} {kw : List (Str × Value)} {fI : Addr}
    (hC : h.get? C = some (excClassObj nm q C N bs bm hdct sn sub ab col dd k0 k1 k2 k3 k5 newId))
    (hi : W.Looks (model prog w) h (typeLookup (.ref C) "__init__") (some (.ref fI))) (hb : ∀ self, W.Looks (model prog w) h (bindSpecial (.ref fI) self) (.ref fI, [self])) (hrest : rest.length ≤ sizeLine)
    (hq : codeAny (model prog w) (A.under (.builtin "type.__call__" ⟨.ref C :: rest, kw⟩)) (.call (.ref fI) ⟨.ref (h.objs.size + 1) :: rest, kw⟩) (W.InitBack (h.objs.size + 1) R)
      ⟨(h.push (W.kdv_tup rest)).push (excO C h.objs.size), g, d, t, os⟩) :
    codeAny (model prog w) A (.call (.ref C) ⟨rest, kw⟩) R ⟨h, g, d, t, os⟩ := by
  have f1 := tc_lookup
  have f2 := tc_bind (.ref C)
  have hTy : (⟨h, g, d, t, os⟩ : Shared).TypeIs (.ref C) "type" := ⟨_, hC, rfl⟩
  refine codeAny_of_tree ?_
  show wpAny _ _ (callAny (.ref C) _) _ _ _
  repeat (any_goals (first | assumption | with_reducible refine wpAny_loadPart_at hC ?_ | wp_step))
  refine ⟨rfl, ?_⟩
  refine codeAny_call_builtin_at (Code.quiet_builtin _ (by decide +kernel)) entry_typeCall (wpAny_check_type_call_sub hC (type_call_ownK F hT hC hi hb hrest ?_))
  refine codeAny_mono hq fun r s' z => ?_
  rcases r with e | (v | _ | _ | _) <;> exact z
end
end HandSPX
end PySem
/-! an exception of one's own class as a value -/
namespace DL
open PySem L2 Evl PyProof.Rows
/-- C(e, ..) as a value, C's own __init__ keeping sp -/
def tMkV (C : Addr) (sp : Sp) (ta : TA) : TE := fun σ H Q => ta σ H fun vs H1 => vs.length ≤ 1000 ∧ ∀ a, H1 a = none → sp (.ref a :: vs) (upd H1 a (exo a C none)) (fun v H2 => v = .non ∧ Q (.ref a) H2) (fun _ _ _ => False)
def tMkV0 (C : Addr) : TE := fun _ H Q => ∀ a, H a = none → Q (.ref a) (upd H a (exo a C none))
def XGK (P : Program) (w : World) (K : Frag) (mg : Str → Option Value) (base : Heap) (x : Str) (C : Addr) (ps : List Str) (sp : Sp) (ks : List Str) (gV : List V → List V → List V) : Prop :=
  mg x = some (.ref C) ∧ XcC K C ∧ ∃ (fI : Addr) (fd : FuncData) (g : List Value → List Value → List Value), PySem.W.findIn K (.ref C) "__init__" = some (some (.ref fI)) ∧ PySem.W.typeIn K (.ref fI) = some (.type "function") ∧ FnOk P w K mg base (L2.CX P w) 1 fI fd ps sp ∧ KBn K fd ps 1 ks g gV
/-- C(k = v, ..) -/
def tMkVK (C : Addr) (m : Nat) (sp : Sp) (gV : List V → List V → List V) (tk : TA) : TE := fun σ H Q => tk σ H fun zs H1 => zs.length = m ∧ ∀ a, H1 a = none → sp (gV [.ref a] zs) (upd H1 a (exo a C none)) (fun v H2 => v = .non ∧ Q (.ref a) H2) (fun _ _ _ => False)
section
variable {X : Cx} {x : Str} {C : Addr} {e : Expr} {es : List Expr} {kws : List Keyword} {ta tk : TA} {p pos : Pos} {ps ks : List Str} {sp : Sp} {gV : List V → List V → List V}
theorem pe_mkV (G : XG X.prog X.w X.K X.mg X.base x C ps sp) (hr : Room 2 X.A) (hg : Gl X x) (ha : PA X (e :: es) ta) (hdb : (x == ("__debug__" : Str)) = false := by decide)
    (he : starEach (e :: es) X.env = (false, eval e X.env) :: starEach es X.env := by rfl) (hpl : (backTo pos (starEach es X.env)).any (·.1) = false := by rfl) : PE X (.Call (.Name x p) (e :: es) [] pos) (tMkV C sp ta) := by
  obtain ⟨hm, T, fI, fd, iC, tI, F1, hb⟩ := G
  refine ⟨fun pins s σ H Q I h => ?_⟩
  obtain ⟨nm, q, N, bs, bm, sn, sub, ab, col, dd, k0, k1, k2, k3, k5, hC, hbm⟩ := T.oex.cls
  refine wpAny_Call_Name_kw (ld_glob I hg hm ?_ hdb)
  refine PySem.W.callWith_K (h₀ := X.base) I.ok.mod.kin T.oex.kC (thn (ha.run pos pins s σ H _ I h) fun us s1 ⟨vs, H1, I1, r1, hz, q1⟩ => ⟨I1.kIn, ?_⟩) he hpl
  show wpAny _ _ (call (.ref C) us) _ _ _
  obtain ⟨hp, g, dr, tk, os⟩ := s1
  have hsz : hp.objs.size ≤ hp.objs.size + 1 := Nat.le_succ _
  have hn : H1 (hp.objs.size + 1) = none := I1.hok.fresh hsz
  have hq := q1 (hp.objs.size + 1) hn
  have kk : ∀ b o, hp.get? b = some o → ((hp.push (PySem.W.kdv_tup us)).push (PySem.HandSPX.excO C hp.objs.size)).get? b = some o := fun b o e => Heap.get?_push_of_some _ (Heap.get?_push_of_some _ e)
  have hget : ((hp.push (PySem.W.kdv_tup us)).push (PySem.HandSPX.excO C hp.objs.size)).get? (hp.objs.size + 1) = some (PySem.HandSPX.excO C hp.objs.size) := by heap_get
  have I2 : L2.Inv X pins σ (upd H1 (hp.objs.size + 1) (exo (hp.objs.size + 1) C none)) ⟨(hp.push (PySem.W.kdv_tup us)).push (PySem.HandSPX.excO C hp.objs.size), g, dr, tk, os⟩ :=
    I1.laid (t' := tk) (a := hp.objs.size + 1) (o := exo (hp.objs.size + 1) C none) (h' := (hp.push (PySem.W.kdv_tup us)).push (PySem.HandSPX.excO C hp.objs.size)) kk hsz (exo_ok hget)
  have r2 : Vals (V.ref (hp.objs.size + 1) :: vs) (Value.ref (hp.objs.size + 1) :: us) := .cons rfl r1
  have hl : (Value.ref (hp.objs.size + 1) :: us).length = ps.length := by
    have e := r2.length
    rw [F1.len _ _ _ _ hq] at e
    exact e.symm
  have hus : us.length ≤ sizeLine := by
    rw [← Paired.length r1, sizeLine_eq]
    omega
  refine wpAny_call (PySem.HandSPX.call_own F.excBase_ValueError (fun Y => PySem.HandSPX.refsVE_contains Y bm hbm) (I1.kIn _ _ hC) (PySem.W.looks_findIn I1.kIn iC) (fun self => PySem.W.bind_fn I1.kIn self tI) hus
    (codeAny_mono (F1.run _ X.stack _ _ ⟨Value.ref (hp.objs.size + 1) :: us, []⟩ (Value.ref (hp.objs.size + 1) :: us) _ _ (fun _ _ _ => False) (hr.make C us []) (I2.env0.make C us []) (by have z := hb _ (Value.ref (hp.objs.size + 1) :: us) I2.kIn (by rw [List.append_nil]; exact hl); rw [List.append_nil] at z; exact z) r2 hq) fun r s' hq' => ?_))
  cases r with
  | error er => exact passL pins σ _ _ er s' I2 hq'
  | ok fl =>
    cases fl with
    | ret u =>
      obtain ⟨v, H', J2, rv, ev, q⟩ := I2.after hq'
      subst ev
      exact ⟨rv, V.ref (hp.objs.size + 1), H', J2, rfl, q⟩
    | next => exact False.elim hq'
    | brk => exact False.elim hq'
    | cont => exact False.elim hq'
theorem pe_mkVK (G : XGK X.prog X.w X.K X.mg X.base x C ps sp ks gV) (hr : Room 2 X.A) (hg : Gl X x) (hkw : PK X kws tk)
    (hall : (backToKw pos (keywordEach kws X.env)).all (·.1.isSome) = true := by rfl) (hks : (backToKw pos (keywordEach kws X.env)).filterMap (·.1) = ks := by rfl)
    (hdb : (x == ("__debug__" : Str)) = false := by decide)
    (hpl : ((backTo pos (starEach [] X.env)).any (·.1) || (backToKw pos (keywordEach kws X.env)).any (·.1.isNone)) = false := by rfl) : PE X (.Call (.Name x p) [] kws pos) (tMkVK C ks.length sp gV tk) := by
  obtain ⟨hm, T, fI, fd, gg, iC, tI, F1, hb⟩ := G
  refine ⟨fun pins s σ H Q I h => ?_⟩
  obtain ⟨nm, q, N, bs, bm, sn, sub, ab, col, dd, k0, k1, k2, k3, k5, hC, hbm⟩ := T.oex.cls
  refine wpAny_Call_Name_kw (ld_glob I hg hm ?_ hdb)
  refine PySem.W.callWith_KW0 (h₀ := X.base) I.ok.mod.kin T.oex.kC hall (thn (hkw.run pos pins s σ H _ I h) fun ws s1 ⟨zs, H1, I1, r1, l2, q1⟩ => ⟨I1.kIn, ?_⟩) hpl
  rw [hks]
  show wpAny _ _ (call (.ref C) [] (ks.zip ws)) _ _ _
  obtain ⟨hp, g, dr, tk, os⟩ := s1
  have hsz : hp.objs.size ≤ hp.objs.size + 1 := Nat.le_succ _
  have hn : H1 (hp.objs.size + 1) = none := I1.hok.fresh hsz
  have hq := q1 (hp.objs.size + 1) hn
  have kk : ∀ b o, hp.get? b = some o → ((hp.push (PySem.W.kdv_tup [])).push (PySem.HandSPX.excO C hp.objs.size)).get? b = some o := fun b o e => Heap.get?_push_of_some _ (Heap.get?_push_of_some _ e)
  have hget : ((hp.push (PySem.W.kdv_tup [])).push (PySem.HandSPX.excO C hp.objs.size)).get? (hp.objs.size + 1) = some (PySem.HandSPX.excO C hp.objs.size) := by heap_get
  have I2 : L2.Inv X pins σ (upd H1 (hp.objs.size + 1) (exo (hp.objs.size + 1) C none)) ⟨(hp.push (PySem.W.kdv_tup [])).push (PySem.HandSPX.excO C hp.objs.size), g, dr, tk, os⟩ :=
    I1.laid (t' := tk) (a := hp.objs.size + 1) (o := exo (hp.objs.size + 1) C none) (h' := (hp.push (PySem.W.kdv_tup [])).push (PySem.HandSPX.excO C hp.objs.size)) kk hsz (exo_ok hget)
  have r2 : Vals (gV [V.ref (hp.objs.size + 1)] zs) (gg [Value.ref (hp.objs.size + 1)] ws) := hb.rel (.cons rfl .nil) r1
  have l3 : ws.length = ks.length := r1.length.symm.trans l2
  refine wpAny_call (PySem.HandSPX.call_ownK F.excBase_ValueError (fun Y => PySem.HandSPX.refsVE_contains Y bm hbm) (I1.kIn _ _ hC) (PySem.W.looks_findIn I1.kIn iC) (fun self => PySem.W.bind_fn I1.kIn self tI) (Nat.zero_le _)
    (codeAny_mono (F1.run _ X.stack _ _ ⟨[Value.ref (hp.objs.size + 1)], ks.zip ws⟩ (gg [Value.ref (hp.objs.size + 1)] ws) _ _ (fun _ _ _ => False) (hr.make C [] (ks.zip ws)) (I2.env0.make C [] (ks.zip ws)) (hb.to _ [Value.ref (hp.objs.size + 1)] ws I2.kIn rfl l3) r2 hq) fun r s' hq' => ?_))
  cases r with
  | error er => exact passL pins σ _ _ er s' I2 hq'
  | ok fl =>
    cases fl with
    | ret u =>
      obtain ⟨v, H', J2, rv, ev, q⟩ := I2.after hq'
      subst ev
      exact ⟨rv, V.ref (hp.objs.size + 1), H', J2, rfl, q⟩
    | next => exact False.elim hq'
    | brk => exact False.elim hq'
    | cont => exact False.elim hq'
theorem pe_mkV0 (G : XN X.K X.mg x C) (hg : Gl X x) (hdb : (x == ("__debug__" : Str)) = false := by decide) : PE X (.Call (.Name x p) [] [] pos) (tMkV0 C) := by
  obtain ⟨gC, T, q⟩ := G
  refine ⟨fun pins s σ H Q I h => ?_⟩
  refine wpAny_Call_Name_kw (ld_glob I hg gC ?_ hdb)
  refine PySem.W.callWith_K0 I.kIn T.oex.kC ?_
  show wpAny _ _ (call (.ref C) []) _ _ _
  obtain ⟨bm, N, nm, qn, bs, hdct, sn, sub, ab, col, dd, k0, k1, k2, k3, k5, mN, hC, hN, hni, O⟩ := exc_obj I.kIn q
  refine wpAny_call_exc_subT PySem.F.excBase_ValueError O hC hN hni (fun h' a hm => ?_) (Nat.zero_le _)
  have hn : H a = none := I.hok.gone hm.new
  obtain ⟨t, ht, _, _⟩ := hm.there
  exact ⟨.ref a, upd H a (exo a C none), I.laidN hm.keeps hm.new hn (exo_ok ht), rfl, h a hn⟩
/-- e.f, e an exception -/
def tXfV (C : Addr) (f : Str) (te : TE) : TE := fun σ H Q => te σ H fun x H1 => ∃ (a d : Addr) (fs : List (Str × V)) (v : V), x = .ref a ∧ H1 a = some (exo a C (some d)) ∧ H1 d = some (exd d fs) ∧ fs.lookup f = some v ∧ Q v H1
theorem pe_xfV {te : TE} {f : Str} (T : XcC X.K C) (hno : PySem.W.findIn X.K (.ref C) f = some none) (he : PE X e te) (hb : attributeBase e f X.env (eval e X.env) = eval e X.env := by rfl) : PE X (.Attribute e f pos) (tXfV C f te) := by
  refine ⟨fun pins s σ H Q I h => ?_⟩
  refine attr_of hb (thn (he.run pins s σ H _ I h) fun u s1 hh => ?_)
  obtain ⟨x, H1, I1, rx, a, d, fs, v, ex, ea, ed, l, q⟩ := hh
  subst ex
  obtain rfl : u = Value.ref a := rx
  obtain ⟨t1, ho⟩ := exo_at I1.hok ea
  obtain ⟨mA, hns, hr⟩ := exd_at I1.hok ed
  obtain ⟨od, hod, hl⟩ := lookIn_ns hns
  obtain ⟨u, hu, ru⟩ := RelO.some_of (v := v) (o := mA f) (by rw [← l]; exact hr f)
  have J : PySem.W.InstAt s1.heap a { cls := .ref C, dict := some d, data := .fields #[.ref t1, .none, .none, .none, .bool false, .none] } C (some od) := ⟨ho, rfl, rfl, hod⟩
  exact HandSPX.exc_get I1.kIn J T.xf.ga T.xf.gg T.xf.exC (PySem.W.findObj_own T.xf.hdC hno rfl (by rw [hl, hu])) (handed_of ru) ⟨v, H1, I1.tok _, ru, q⟩
/-- isinstance(e, T), e an exception -/
def rIsV (K : Frag) : List V → Hp → VK → Prop := fun xs H Q => ∃ (a : Addr) (d : Option Addr) (c : V) (cv : Value) (D : Addr) (b : Bool), xs = [.ref a, c] ∧ ClsV c cv ∧ XcC K D ∧ H a = some (exo a D d) ∧ (d = none ∨ ∃ dd fs, d = some dd ∧ H dd = some (exd dd fs)) ∧ PySem.W.kitOne K (.ref D) cv = some b ∧ Q (.bl b) H
theorem call_isV {K : Frag} (hK : X.K = K) : CallR X (.builtin "isinstance") (rIsV K) := by
  subst hK
  intro pins s σ H xs us Q I r h
  obtain ⟨a, d, c, cv, D, b, rfl, hcv, T, ha, hd, e, q⟩ := h
  obtain ⟨u1, u2, rfl, r1, r2⟩ := vals2 r
  cases (show u1 = Value.ref a from r1)
  have ec := hcv.eq r2
  subst ec
  obtain ⟨t1, ho⟩ := exo_at I.hok ha
  obtain ⟨od, J⟩ : ∃ od, PySem.W.InstAt s.heap a { cls := .ref D, dict := d, data := .fields #[.ref t1, .none, .none, .none, .bool false, .none] } D od := by
    rcases hd with rfl | ⟨dd, fs, rfl, hx⟩
    · exact ⟨none, ho, rfl, rfl, trivial⟩
    · obtain ⟨mA, ⟨od, es, ep, ho2, _⟩, _⟩ := exd_at I.hok hx
      exact ⟨some od, ho, rfl, rfl, ho2⟩
  exact PySem.W.kia_one (PySem.W.kitx_exc T.cl T.xf.ga T.xf.gg T.xf.exC T.ha T.hn T.ht T.hm) I.kIn J e (fun z => nomatch z) fun tk => ⟨.bl b, H, I.kept (t' := tk) fun _ _ z => z, rfl, q⟩
def rIsiV (K : Frag) : List V → Hp → VK → Prop := fun xs H Q => rIsi K xs H Q ∨ rIsV K xs H Q
theorem call_isiV {K : Frag} (hK : X.K = K) : CallR X (.builtin "isinstance") (rIsiV K) := (call_isiK hK).or (call_isV hK)
end
end DL
set_option Elab.async false
set_option linter.all false
set_option maxRecDepth 100000
set_option autoImplicit false
set_option maxHeartbeats 4000000
/-! exceptions as values, by data -/
namespace DL
open PySem L2 Evl PyProof.Rows
section
variable {K : Frag} {W : WX} {ρ : En} {x : PX} {C : Addr} {f g : Str} {P : Dt → En → Prop}
theorem x_heapV {H : Hp} {a dx : Addr} {o o1 o2 : HO} (hd : dx ≠ a) : upd (upd (upd H a o) dx o1) a o2 = upd (upd H dx o1) a o2 := by
  funext b
  by_cases e : b = a
  · subst e
    rw [upd_same, upd_same]
  · rw [upd_ne e, upd_ne e]
    by_cases e2 : b = dx
    · subst e2
      rw [upd_same, upd_same]
    · rw [upd_ne e2, upd_ne e2, upd_ne e]
theorem x_heapV2 {H : Hp} {a dx : Addr} {o o1 o2 o3 : HO} (hd : dx ≠ a) : upd (upd (upd (upd H a o) dx o1) a o2) dx o3 = upd (upd H dx o3) a o2 := by
  funext b
  by_cases e : b = dx
  · subst e
    rw [upd_same, upd_ne hd, upd_same]
  · rw [upd_ne e]
    by_cases e2 : b = a
    · subst e2
      rw [upd_same, upd_same]
    · rw [upd_ne e2, upd_ne e, upd_ne e2, upd_ne e2, upd_ne e]
theorem rep_exv {F H : Hp} {a dx : Addr} {fs : List Str} {ds : List Dt} {xs : List V} (s : Ex F H) (ha : H a = none) (hd : H dx = none) (hne : dx ≠ a) (hl : fs.length = ds.length) (r : RepL K F ds xs) :
    Rep K (Fz F H (upd (upd H dx (exd dx (fs.zip xs))) a (exo a C (some dx)))) (.exv C fs ds) (.ref a) ∧ Ex H (upd (upd H dx (exd dx (fs.zip xs))) a (exo a C (some dx))) := by
  have h2 : upd H dx (exd dx (fs.zip xs)) a = none := by rw [upd_ne (Ne.symm hne)]; exact ha
  have ex : Ex H (upd (upd H dx (exd dx (fs.zip xs))) a (exo a C (some dx))) := fun b o e => Ex.new h2 b o (Ex.new hd b o e)
  refine ⟨?_, ex⟩
  unfold Rep
  refine ⟨a, some dx, rfl, ?_, .inr ⟨dx, xs, rfl, ?_, hl, r.mono (fz_ex s ex)⟩⟩
  · rw [fz_new ha, upd_same]
  · rw [fz_new hd, upd_ne hne, upd_same]
theorem rep_exv0 {F H : Hp} {a : Addr} (ha : H a = none) : Rep K (Fz F H (upd H a (exo a C none))) (.exv C [] []) (.ref a) := by
  unfold Rep
  exact ⟨a, none, rfl, by rw [fz_new ha, upd_same], .inl ⟨rfl, rfl, rfl⟩⟩
theorem e_mkV1 {ta : TA} (h : ArD K W ta ρ x fun ds ρ1 => ∃ d, ds = [d] ∧ d.real = true ∧ P (.exv C [f] [d]) ρ1) : EvD K W (tMkV C (spX1 C f) ta) ρ x P := fun σ F H Q s q w =>
  h σ F H _ s (fun ds ρ1 vs F1 H1 p s1 r => by
    obtain ⟨d, rfl, hr, p⟩ := p
    have rl : RepL K F1 [d] vs := r.real (by unfold allReal; simp [hr])
    unfold RepL at rl
    obtain ⟨v, r0, rfl, rv, rn⟩ := rl
    unfold RepL at rn
    subst rn
    refine ⟨by show 1 ≤ 1000; decide, fun a ha => ⟨a, v, rfl, upd_same, fun dx hd hne => ⟨rfl, ?_⟩⟩⟩
    rw [upd_ne hne] at hd
    rw [x_heapV hne]
    obtain ⟨k1, k2⟩ := rep_exv (C := C) (fs := [f]) s1.sym.ex ha hd hne rfl (repL_cons rv repL_nil)
    exact q _ ρ1 _ _ _ p (s1.trans (Step.grow s1.sym k2)) k1.toV) w
theorem e_mkV2 {ta : TA} (h : ArD K W ta ρ x fun ds ρ1 => ∃ d e, ds = [d, e] ∧ d.real = true ∧ e.real = true ∧ P (.exv C [g, f] [e, d]) ρ1) : EvD K W (tMkV C (spX2 C f g) ta) ρ x P := fun σ F H Q s q w =>
  h σ F H _ s (fun ds ρ1 vs F1 H1 p s1 r => by
    obtain ⟨d, e, rfl, hr, hr2, p⟩ := p
    have rl : RepL K F1 [d, e] vs := r.real (by unfold allReal; simp [hr, hr2])
    unfold RepL at rl
    obtain ⟨v, r0, rfl, rv, rn⟩ := rl
    unfold RepL at rn
    obtain ⟨u, r0, rfl, ru, rn⟩ := rn
    unfold RepL at rn
    subst rn
    refine ⟨by show 2 ≤ 1000; decide, fun a ha => ⟨a, v, u, rfl, upd_same, fun dx hd hne => ⟨rfl, ?_⟩⟩⟩
    rw [upd_ne hne] at hd
    rw [x_heapV2 hne]
    obtain ⟨k1, k2⟩ := rep_exv (C := C) (fs := [g, f]) s1.sym.ex ha hd hne rfl (repL_cons ru (repL_cons rv repL_nil))
    exact q _ ρ1 _ _ _ p (s1.trans (Step.grow s1.sym k2)) k1.toV) w
theorem e_mkV0 (p : P (.exv C [] []) ρ) : EvD K W (tMkV0 C) ρ x P := fun σ F H Q s q w a ha => q _ ρ _ _ _ p (Step.grow s (Ex.new ha)) (rep_exv0 ha).toV
theorem e_mkVK1 {tk : TA} (h : ArD K W tk ρ x fun ds ρ1 => ∃ d, ds = [d] ∧ d.real = true ∧ P (.exv C [f] [d]) ρ1) : EvD K W (tMkVK C 1 (spX1 C f) (fun us zs => us ++ zs) tk) ρ x P := fun σ F H Q s q w =>
  h σ F H _ s (fun ds ρ1 vs F1 H1 p s1 r => by
    obtain ⟨d, rfl, hr, p⟩ := p
    have rl : RepL K F1 [d] vs := r.real (by unfold allReal; simp [hr])
    unfold RepL at rl
    obtain ⟨v, r0, rfl, rv, rn⟩ := rl
    unfold RepL at rn
    subst rn
    refine ⟨rfl, fun a ha => ⟨a, v, rfl, upd_same, fun dx hd hne => ⟨rfl, ?_⟩⟩⟩
    rw [upd_ne hne] at hd
    rw [x_heapV hne]
    obtain ⟨k1, k2⟩ := rep_exv (C := C) (fs := [f]) s1.sym.ex ha hd hne rfl (repL_cons rv repL_nil)
    exact q _ ρ1 _ _ _ p (s1.trans (Step.grow s1.sym k2)) k1.toV) w
/-- both fields, the second one first -/
theorem e_mkVK2 {tk : TA} (h : ArD K W tk ρ x fun ds ρ1 => ∃ d e, ds = [e, d] ∧ d.real = true ∧ e.real = true ∧ P (.exv C [g, f] [e, d]) ρ1) : EvD K W (tMkVK C 2 (spX2 C f g) (fun us zs => us ++ zs.reverse) tk) ρ x P := fun σ F H Q s q w =>
  h σ F H _ s (fun ds ρ1 vs F1 H1 p s1 r => by
    obtain ⟨d, e, rfl, hr, hr2, p⟩ := p
    have rl : RepL K F1 [e, d] vs := r.real (by unfold allReal; simp [hr, hr2])
    unfold RepL at rl
    obtain ⟨u, r0, rfl, ru, rn⟩ := rl
    unfold RepL at rn
    obtain ⟨v, r0, rfl, rv, rn⟩ := rn
    unfold RepL at rn
    subst rn
    refine ⟨rfl, fun a ha => ⟨a, v, u, rfl, upd_same, fun dx hd hne => ⟨rfl, ?_⟩⟩⟩
    rw [upd_ne hne] at hd
    rw [x_heapV2 hne]
    obtain ⟨k1, k2⟩ := rep_exv (C := C) (fs := [g, f]) s1.sym.ex ha hd hne rfl (repL_cons ru (repL_cons rv repL_nil))
    exact q _ ρ1 _ _ _ p (s1.trans (Step.grow s1.sym k2)) k1.toV) w
def exvF (C : Addr) (fs : List Str) (ds : List Dt) : Option Dt := if allReal ds = true ∧ ds.length = fs.length then some (.exv C fs.reverse ds.reverse) else none
def mMkV (C : Addr) (fs : List Str) (a : Mo (List Dt)) : Mo Dt := mBind a fun ds => mF fun _ => exvF C fs ds
theorem exvF1 {ds : List Dt} {z : Dt} (h : exvF C [f] ds = some z) : ∃ d, ds = [d] ∧ d.real = true ∧ z = .exv C [f] [d] := by
  unfold exvF at h
  split at h
  · rename_i c
    obtain ⟨c1, c2⟩ := c
    match ds, c2 with
    | [d], _ =>
      cases h
      refine ⟨d, rfl, ?_, rfl⟩
      unfold allReal at c1
      simpa using c1
  · cases h
theorem exvF2 {ds : List Dt} {z : Dt} (h : exvF C [f, g] ds = some z) : ∃ d e, ds = [d, e] ∧ d.real = true ∧ e.real = true ∧ z = .exv C [g, f] [e, d] := by
  unfold exvF at h
  split at h
  · rename_i c
    obtain ⟨c1, c2⟩ := c
    match ds, c2 with
    | [d, e], _ =>
      cases h
      unfold allReal at c1
      simp at c1
      exact ⟨d, e, rfl, c1.1, c1.2, rfl⟩
  · cases h
theorem em_mkV1 {ta : TA} {a : Mo (List Dt)} (ha : ArM K W ta a) : EvM K W (tMkV C (spX1 C f) ta) (mMkV C [f] a) := fun ρ x P h => e_mkV1 (ha ρ x _ (wpm_mono (wpm_bind h) fun ds ρ1 h1 => by
  obtain ⟨z, h2, h3⟩ := wpm_F h1
  obtain ⟨d, e1, e2, rfl⟩ := exvF1 h2
  exact ⟨d, e1, e2, h3⟩))
theorem em_mkV2 {ta : TA} {a : Mo (List Dt)} (ha : ArM K W ta a) : EvM K W (tMkV C (spX2 C f g) ta) (mMkV C [f, g] a) := fun ρ x P h => e_mkV2 (ha ρ x _ (wpm_mono (wpm_bind h) fun ds ρ1 h1 => by
  obtain ⟨z, h2, h3⟩ := wpm_F h1
  obtain ⟨d, e, e1, e2, e3, rfl⟩ := exvF2 h2
  exact ⟨d, e, e1, e2, e3, h3⟩))
theorem em_mkV0 : EvM K W (tMkV0 C) (mRet (.exv C [] [])) := fun ρ x P h => e_mkV0 h
theorem em_mkVK1 {ta : TA} {a : Mo (List Dt)} (ha : ArM K W ta a) : EvM K W (tMkVK C 1 (spX1 C f) (fun us zs => us ++ zs) ta) (mMkV C [f] a) := fun ρ x P h => e_mkVK1 (ha ρ x _ (wpm_mono (wpm_bind h) fun ds ρ1 h1 => by
  obtain ⟨z, h2, h3⟩ := wpm_F h1
  obtain ⟨d, e1, e2, rfl⟩ := exvF1 h2
  exact ⟨d, e1, e2, h3⟩))
def mRevV (a : Mo (List Dt)) : Mo (List Dt) := mBind a fun ds => mRet ds.reverse
theorem em_mkVK2 {ta : TA} {a : Mo (List Dt)} (ha : ArM K W ta a) : EvM K W (tMkVK C 2 (spX2 C f g) (fun us zs => us ++ zs.reverse) ta) (mMkV C [f, g] (mRevV a)) := fun ρ x P h => e_mkVK2 (ha ρ x _ (wpm_mono (wpm_bind (wpm_bind h)) fun ds ρ1 h1 => by
  obtain ⟨z, h2, h3⟩ := wpm_F h1
  obtain ⟨d, e, e1, e2, e3, rfl⟩ := exvF2 h2
  refine ⟨d, e, ?_, e2, e3, h3⟩
  have : ds.reverse.reverse = [d, e].reverse := by rw [e1]
  simpa using this))
/-- e.f, e an exception -/
theorem e_xfV {te : TE} (h : EvD K W te ρ x fun d ρ1 => ∃ fs ds v, d = .exv C fs ds ∧ (fs.zip ds).lookup f = some v ∧ P v ρ1) : EvD K W (tXfV C f te) ρ x P := fun σ F H Q s q w =>
  h σ F H _ s (fun d ρ1 v F1 H1 p s1 r => by
    obtain ⟨fs, ds, z, rfl, hl, p⟩ := p
    have e : Rep K F1 (.exv C fs ds) v := r
    unfold Rep at e
    obtain ⟨a, dd, rfl, e1, e2⟩ := e
    rcases e2 with ⟨e3, _, _⟩ | ⟨b, xs, rfl, e4, e5, e6⟩
    · subst e3
      cases hl
    · obtain ⟨y, hy1, hy2⟩ : ∃ y, (fs.zip xs).lookup f = some y ∧ Rep K F1 z y := by
        clear e1 e4 e5 h q r p
        induction fs generalizing ds xs with
        | nil => cases hl
        | cons g fs ih =>
          cases ds with
          | nil => cases hl
          | cons d ds =>
            unfold RepL at e6
            obtain ⟨y, ys, rfl, r1, r2⟩ := e6
            have hl2 : (match f == g with | true => some d | false => (fs.zip ds).lookup f) = some z := hl
            show ∃ y', (match f == g with | true => some y | false => (fs.zip ys).lookup f) = some y' ∧ Rep K F1 z y'
            cases hfg : f == g with
            | true =>
              rw [hfg] at hl2
              cases hl2
              exact ⟨y, rfl, r1⟩
            | false =>
              rw [hfg] at hl2
              exact ih _ hl2 _ r2
      exact ⟨a, b, _, y, rfl, s1.sym.ex _ _ e1, s1.sym.ex _ _ e4, hy1, q z ρ1 y F1 H1 p s1 hy2.toV⟩) w
def mXfV (C : Addr) (f : Str) (m : Mo Dt) : Mo Dt := mBind m fun d => mF fun _ => match d with
  | .exv C' fs ds => if C' = C then (fs.zip ds).lookup f else none
  | _ => none
theorem em_xfV {te : TE} {m : Mo Dt} (hm : EvM K W te m) : EvM K W (tXfV C f te) (mXfV C f m) := fun ρ x P h => e_xfV (hm ρ x _ (wpm_mono (wpm_bind h) fun d ρ1 h1 => by
  obtain ⟨z, h2, h3⟩ := wpm_F h1
  split at h2
  · rename_i C' fs ds
    split at h2
    · rename_i c
      subst c
      exact ⟨fs, ds, z, rfl, h2, h3⟩
    · cases h2
  · cases h2))
/-- isinstance -/
theorem c_isV {fs : List Str} {ds : List Dt} {c : Dt} {cv : V} {cw : Value} {b : Bool} (T : XcC K C) (hc : ∀ (F : Hp) (v : V), Rep K F c v → v = cv) (hr : c.real = true) (hv : ClsV cv cw) (hk : PySem.W.kitOne K (.ref C) cw = some b) (p : P (.bl b) ρ) : CaD K (rIsiV K) [.exv C fs ds, c] ρ P := fun σ F H Q us s r q => by
  obtain ⟨v, _, rfl, rv, y, _, rfl, ry, rfl⟩ := r
  have e : Rep K F (.exv C fs ds) v := rv
  unfold Rep at e
  obtain ⟨a, dd, rfl, e1, e2⟩ := e
  have e3 : y = cv := hc F y (ry.real hr)
  subst e3
  refine .inr ⟨a, dd, y, cw, C, b, rfl, hv, T, s.ex _ _ e1, ?_, hk, q _ _ _ F H p (Step.refl s) rfl⟩
  rcases e2 with ⟨_, _, e4⟩ | ⟨z, xs, e4, e5, _⟩
  · exact .inl e4
  · exact .inr ⟨z, _, e4, s.ex _ _ e5⟩
def isiVF (K : Frag) (cls xcl : List Addr) (ρ : En) (ds : List Dt) : Option Dt := match ds with
  | [.exv C _ _, .ref D] => if C ∈ xcl then (PySem.W.kitOne K (.ref C) (.ref D)).map .bl else none
  | [.exv C _ _, .ty n] => if C ∈ xcl then (PySem.W.kitOne K (.ref C) (.type n)).map .bl else none
  | _ => isiF K cls ρ ds
theorem isiVF_ok {cls xcl : List Addr} (hc : ∀ C ∈ cls, ClC K C) (hx : ∀ C ∈ xcl, XcC K C) : CaF K (rIsiV K) (isiVF K cls xcl) := fun ρ ds z P h p => by
  unfold isiVF at h
  split at h
  · rename_i C fs vs D
    split at h
    · rename_i c
      obtain ⟨b, e, rfl⟩ := Option.map_eq_some_iff.mp h
      exact c_isV (hx _ c) (fun F v r => by unfold Rep at r; exact r) rfl (.own D) e p
    · cases h
  · rename_i C fs vs n
    split at h
    · rename_i c
      obtain ⟨b, e, rfl⟩ := Option.map_eq_some_iff.mp h
      exact c_isV (hx _ c) (fun F v r => by unfold Rep at r; exact r) rfl (.ty n) e p
    · cases h
  · exact fun σ F H Q us s r q => .inl (isiF_ok hc ρ _ z P h p σ F H Q us s r q)
end
theorem vals_rev : ∀ {a : List V} {b : List Value}, Vals a b → Vals a.reverse b.reverse
  | _, _, .nil => .nil
  | _, _, .cons h r => by
    rw [List.reverse_cons, List.reverse_cons]
    exact vals_app (vals_rev r) (.cons h .nil)
theorem gx1_rel {vs zs : List V} {us ws : List Value} (r1 : Vals vs us) (r2 : Vals zs ws) : Vals (vs ++ zs) (us ++ ws) := vals_app r1 r2
theorem gx2_rel {vs zs : List V} {us ws : List Value} (r1 : Vals vs us) (r2 : Vals zs ws) : Vals (vs ++ zs.reverse) (us ++ ws.reverse) := vals_app r1 (vals_rev r2)
end DL
set_option Elab.async false
set_option linter.all false
set_option maxRecDepth 100000
set_option autoImplicit false
set_option maxHeartbeats 4000000
/-! figures and words: the plain law -/
namespace M12
open PySem
open TL (tl)
/-- figures -/
def dig (n : Nat) : List Nat := if h : n < 10 then [48 + n] else dig (n / 10) ++ [48 + n % 10]
termination_by n
decreasing_by omega
/-- words -/
def wrd (n : Nat) : List Nat := if h : n = 0 then [] else wrd ((n - 1) / 26) ++ [97 + (n - 1) % 26]
termination_by n
decreasing_by omega
theorem dig_lt {n : Nat} (h : n < 10) : dig n = [48 + n] := by rw [dig, dif_pos h]
theorem dig_ge {n : Nat} (h : ¬ n < 10) : dig n = dig (n / 10) ++ [48 + n % 10] := by rw [dig, dif_neg h]
theorem wrd_0 : wrd 0 = [] := by rw [wrd, dif_pos rfl]
theorem wrd_s {n : Nat} (h : n ≠ 0) : wrd n = wrd ((n - 1) / 26) ++ [97 + (n - 1) % 26] := by rw [wrd, dif_neg h]
def tx (l : List Nat) : Str := ⟨l.toArray⟩
theorem tl_tx (l : List Nat) : tl (tx l) = l := by
  show l.toArray.toList = l
  simp
theorem tx_len (l : List Nat) : (tx l).length = l.length := by rw [← DL.tl_len, tl_tx]
theorem tx_app (l m : List Nat) : tx l ++ tx m = tx (l ++ m) := TL.ext_tl (by rw [TL.tl_append, tl_tx, tl_tx, tl_tx])
/-! str(n) -/
theorem toDigits_dig : ∀ n : Nat, (Nat.toDigits 10 n).map Char.toNat = dig n := by
  intro n
  induction n using Nat.strongRecOn with
  | _ n ih =>
    by_cases h : n < 10
    · rw [dig_lt h, Nat.toDigits_of_lt_base h]
      have : ∀ k, k < 10 → [Nat.digitChar k].map Char.toNat = [48 + k] := by decide
      exact this n h
    · rw [dig_ge h, Nat.toDigits_of_base_le (by omega) (by omega), List.map_append, ih (n / 10) (by omega)]
      have : ∀ k, k < 10 → [Nat.digitChar k].map Char.toNat = [48 + k] := by decide
      rw [this (n % 10) (by omega)]
theorem str_int {n : Nat} : (Str.ofString (toString (n : Int)) : Str) = tx (dig n) := by
  rw [Str.ofString_eq_toList]
  show (⟨((toString (n : Int)).toList.map Char.toNat).toArray⟩ : Str) = ⟨(dig n).toArray⟩
  have : (toString (n : Int)).toList = Nat.toDigits 10 n := by
    show (Nat.repr n).toList = _
    unfold Nat.repr
    simp
  rw [this, toDigits_dig]
/-! signs -/
theorem dig_len : ∀ (k n : Nat), n < 2 ^ k → (dig n).length ≤ k + 1 := by
  intro k
  induction k with
  | zero =>
    intro n h
    rw [dig_lt (by omega)]
    simp
  | succ k ih =>
    intro n h
    by_cases h1 : n < 10
    · rw [dig_lt h1]; simp
    · rw [dig_ge h1, List.length_append]
      have := ih (n / 10) (by rw [Nat.pow_succ] at h; omega)
      simp
      omega
theorem wrd_len : ∀ (k n : Nat), n < 2 ^ k → (wrd n).length ≤ k := by
  intro k
  induction k with
  | zero =>
    intro n h
    have : n = 0 := by omega
    subst this
    rw [wrd_0]
    simp
  | succ k ih =>
    intro n h
    by_cases h1 : n = 0
    · subst h1
      rw [wrd_0]
      simp
    · rw [wrd_s h1, List.length_append]
      have := ih ((n - 1) / 26) (by rw [Nat.pow_succ] at h; omega)
      simp
      omega
/-! reading -/
def val (b o k : Nat) (l : List Nat) : Nat := l.foldl (fun a c => a * b + (c - o) + k) 0
/-! words in order -/
end M12
set_option Elab.async false
set_option linter.all false
set_option maxRecDepth 100000
set_option autoImplicit false
set_option maxHeartbeats 4000000
namespace T
open PySem L2 PyProof.Rows DL
section
variable {P : Program} {w : World} {K : DL.Frag} {mg : Str → Option Value} {base : Heap}
theorem G_BadText (T : Tx w K mg) : XN K mg "BadText" (He.ga K "BadText") := ⟨T.g_BadText, T.x_BadText, T.v_BadText⟩
theorem G_BadLine (T : Tx w K mg) : XG P w K mg base "BadLine" (He.ga K "BadLine") ["self", "line"] (spX1 (He.ga K "BadLine") "line") := by
  obtain ⟨fd, F⟩ := T.F_BadLine
  exact ⟨T.g_BadLine, T.x_BadLine, _, fd, T.i_BadLine, T.t_BadLine, ok_x1 F sc_BadLineu_initu rfl T.x_BadLine T.no_BadLine_line (.inl rfl) (.inl rfl) (by decide) (by decide), F.bindsN fun _ _ _ _ _ _ us hl => match us, hl with | [_, _], _ => rfl⟩
theorem GK_BadLine (T : Tx w K mg) : XGK P w K mg base "BadLine" (He.ga K "BadLine") ["self", "line"] (spX1 (He.ga K "BadLine") "line") ["line"] (fun us zs => us ++ zs) := by
  obtain ⟨fd, F⟩ := T.F_BadLine
  exact ⟨T.g_BadLine, T.x_BadLine, _, fd, _, T.i_BadLine, T.t_BadLine, ok_x1 F sc_BadLineu_initu rfl T.x_BadLine T.no_BadLine_line (.inl rfl) (.inl rfl) (by decide) (by decide), kbindsA F 1 ["line"] (fun us zs => us ++ zs) (fun r1 r2 => gx1_rel r1 r2) (fun kV doc pm an cdv ct us ws l1 l2 => match us, ws, l1, l2 with | [_], [_], _, _ => rfl)⟩
theorem G_BadName (T : Tx w K mg) : XG P w K mg base "BadName" (He.ga K "BadName") ["self", "name"] (spX1 (He.ga K "BadName") "name") := by
  obtain ⟨fd, F⟩ := T.F_BadName
  exact ⟨T.g_BadName, T.x_BadName, _, fd, T.i_BadName, T.t_BadName, ok_x1 F sc_BadNameu_initu rfl T.x_BadName T.no_BadName_name (.inl rfl) (.inl rfl) (by decide) (by decide), F.bindsN fun _ _ _ _ _ _ us hl => match us, hl with | [_, _], _ => rfl⟩
theorem GK_BadName (T : Tx w K mg) : XGK P w K mg base "BadName" (He.ga K "BadName") ["self", "name"] (spX1 (He.ga K "BadName") "name") ["name"] (fun us zs => us ++ zs) := by
  obtain ⟨fd, F⟩ := T.F_BadName
  exact ⟨T.g_BadName, T.x_BadName, _, fd, _, T.i_BadName, T.t_BadName, ok_x1 F sc_BadNameu_initu rfl T.x_BadName T.no_BadName_name (.inl rfl) (.inl rfl) (by decide) (by decide), kbindsA F 1 ["name"] (fun us zs => us ++ zs) (fun r1 r2 => gx1_rel r1 r2) (fun kV doc pm an cdv ct us ws l1 l2 => match us, ws, l1, l2 with | [_], [_], _, _ => rfl)⟩
theorem G_UnknownName (T : Tx w K mg) : XG P w K mg base "UnknownName" (He.ga K "UnknownName") ["self", "name"] (spX1 (He.ga K "UnknownName") "name") := by
  obtain ⟨fd, F⟩ := T.F_UnknownName
  exact ⟨T.g_UnknownName, T.x_UnknownName, _, fd, T.i_UnknownName, T.t_UnknownName, ok_x1 F sc_UnknownNameu_initu rfl T.x_UnknownName T.no_UnknownName_name (.inl rfl) (.inl rfl) (by decide) (by decide), F.bindsN fun _ _ _ _ _ _ us hl => match us, hl with | [_, _], _ => rfl⟩
theorem GK_UnknownName (T : Tx w K mg) : XGK P w K mg base "UnknownName" (He.ga K "UnknownName") ["self", "name"] (spX1 (He.ga K "UnknownName") "name") ["name"] (fun us zs => us ++ zs) := by
  obtain ⟨fd, F⟩ := T.F_UnknownName
  exact ⟨T.g_UnknownName, T.x_UnknownName, _, fd, _, T.i_UnknownName, T.t_UnknownName, ok_x1 F sc_UnknownNameu_initu rfl T.x_UnknownName T.no_UnknownName_name (.inl rfl) (.inl rfl) (by decide) (by decide), kbindsA F 1 ["name"] (fun us zs => us ++ zs) (fun r1 r2 => gx1_rel r1 r2) (fun kV doc pm an cdv ct us ws l1 l2 => match us, ws, l1, l2 with | [_], [_], _, _ => rfl)⟩
theorem G_BadNumber (T : Tx w K mg) : XG P w K mg base "BadNumber" (He.ga K "BadNumber") ["self", "number"] (spX1 (He.ga K "BadNumber") "number") := by
  obtain ⟨fd, F⟩ := T.F_BadNumber
  exact ⟨T.g_BadNumber, T.x_BadNumber, _, fd, T.i_BadNumber, T.t_BadNumber, ok_x1 F sc_BadNumberu_initu rfl T.x_BadNumber T.no_BadNumber_number (.inl rfl) (.inl rfl) (by decide) (by decide), F.bindsN fun _ _ _ _ _ _ us hl => match us, hl with | [_, _], _ => rfl⟩
theorem GK_BadNumber (T : Tx w K mg) : XGK P w K mg base "BadNumber" (He.ga K "BadNumber") ["self", "number"] (spX1 (He.ga K "BadNumber") "number") ["number"] (fun us zs => us ++ zs) := by
  obtain ⟨fd, F⟩ := T.F_BadNumber
  exact ⟨T.g_BadNumber, T.x_BadNumber, _, fd, _, T.i_BadNumber, T.t_BadNumber, ok_x1 F sc_BadNumberu_initu rfl T.x_BadNumber T.no_BadNumber_number (.inl rfl) (.inl rfl) (by decide) (by decide), kbindsA F 1 ["number"] (fun us zs => us ++ zs) (fun r1 r2 => gx1_rel r1 r2) (fun kV doc pm an cdv ct us ws l1 l2 => match us, ws, l1, l2 with | [_], [_], _, _ => rfl)⟩
theorem G_BadCount (T : Tx w K mg) : XG P w K mg base "BadCount" (He.ga K "BadCount") ["self", "count"] (spX1 (He.ga K "BadCount") "count") := by
  obtain ⟨fd, F⟩ := T.F_BadCount
  exact ⟨T.g_BadCount, T.x_BadCount, _, fd, T.i_BadCount, T.t_BadCount, ok_x1 F sc_BadCountu_initu rfl T.x_BadCount T.no_BadCount_count (.inl rfl) (.inl rfl) (by decide) (by decide), F.bindsN fun _ _ _ _ _ _ us hl => match us, hl with | [_, _], _ => rfl⟩
theorem GK_BadCount (T : Tx w K mg) : XGK P w K mg base "BadCount" (He.ga K "BadCount") ["self", "count"] (spX1 (He.ga K "BadCount") "count") ["count"] (fun us zs => us ++ zs) := by
  obtain ⟨fd, F⟩ := T.F_BadCount
  exact ⟨T.g_BadCount, T.x_BadCount, _, fd, _, T.i_BadCount, T.t_BadCount, ok_x1 F sc_BadCountu_initu rfl T.x_BadCount T.no_BadCount_count (.inl rfl) (.inl rfl) (by decide) (by decide), kbindsA F 1 ["count"] (fun us zs => us ++ zs) (fun r1 r2 => gx1_rel r1 r2) (fun kV doc pm an cdv ct us ws l1 l2 => match us, ws, l1, l2 with | [_], [_], _, _ => rfl)⟩
theorem G_BadDeed (T : Tx w K mg) : XG P w K mg base "BadDeed" (He.ga K "BadDeed") ["self", "deed"] (spX1 (He.ga K "BadDeed") "deed") := by
  obtain ⟨fd, F⟩ := T.F_BadDeed
  exact ⟨T.g_BadDeed, T.x_BadDeed, _, fd, T.i_BadDeed, T.t_BadDeed, ok_x1 F sc_BadDeedu_initu rfl T.x_BadDeed T.no_BadDeed_deed (.inl rfl) (.inl rfl) (by decide) (by decide), F.bindsN fun _ _ _ _ _ _ us hl => match us, hl with | [_, _], _ => rfl⟩
theorem GK_BadDeed (T : Tx w K mg) : XGK P w K mg base "BadDeed" (He.ga K "BadDeed") ["self", "deed"] (spX1 (He.ga K "BadDeed") "deed") ["deed"] (fun us zs => us ++ zs) := by
  obtain ⟨fd, F⟩ := T.F_BadDeed
  exact ⟨T.g_BadDeed, T.x_BadDeed, _, fd, _, T.i_BadDeed, T.t_BadDeed, ok_x1 F sc_BadDeedu_initu rfl T.x_BadDeed T.no_BadDeed_deed (.inl rfl) (.inl rfl) (by decide) (by decide), kbindsA F 1 ["deed"] (fun us zs => us ++ zs) (fun r1 r2 => gx1_rel r1 r2) (fun kV doc pm an cdv ct us ws l1 l2 => match us, ws, l1, l2 with | [_], [_], _, _ => rfl)⟩
theorem G_BadLabel (T : Tx w K mg) : XN K mg "BadLabel" (He.ga K "BadLabel") := ⟨T.g_BadLabel, T.x_BadLabel, T.v_BadLabel⟩
theorem G_BadRow (T : Tx w K mg) : XN K mg "BadRow" (He.ga K "BadRow") := ⟨T.g_BadRow, T.x_BadRow, T.v_BadRow⟩
theorem G_BadHead (T : Tx w K mg) : XG P w K mg base "BadHead" (He.ga K "BadHead") ["self", "value"] (spX1 (He.ga K "BadHead") "value") := by
  obtain ⟨fd, F⟩ := T.F_BadHead
  exact ⟨T.g_BadHead, T.x_BadHead, _, fd, T.i_BadHead, T.t_BadHead, ok_x1 F sc_BadHeadu_initu rfl T.x_BadHead T.no_BadHead_value (.inl rfl) (.inl rfl) (by decide) (by decide), F.bindsN fun _ _ _ _ _ _ us hl => match us, hl with | [_, _], _ => rfl⟩
theorem GK_BadHead (T : Tx w K mg) : XGK P w K mg base "BadHead" (He.ga K "BadHead") ["self", "value"] (spX1 (He.ga K "BadHead") "value") ["value"] (fun us zs => us ++ zs) := by
  obtain ⟨fd, F⟩ := T.F_BadHead
  exact ⟨T.g_BadHead, T.x_BadHead, _, fd, _, T.i_BadHead, T.t_BadHead, ok_x1 F sc_BadHeadu_initu rfl T.x_BadHead T.no_BadHead_value (.inl rfl) (.inl rfl) (by decide) (by decide), kbindsA F 1 ["value"] (fun us zs => us ++ zs) (fun r1 r2 => gx1_rel r1 r2) (fun kV doc pm an cdv ct us ws l1 l2 => match us, ws, l1, l2 with | [_], [_], _, _ => rfl)⟩
theorem G_BadShown (T : Tx w K mg) : XG P w K mg base "BadShown" (He.ga K "BadShown") ["self", "index"] (spX1 (He.ga K "BadShown") "index") := by
  obtain ⟨fd, F⟩ := T.F_BadShown
  exact ⟨T.g_BadShown, T.x_BadShown, _, fd, T.i_BadShown, T.t_BadShown, ok_x1 F sc_BadShownu_initu rfl T.x_BadShown T.no_BadShown_index (.inl rfl) (.inl rfl) (by decide) (by decide), F.bindsN fun _ _ _ _ _ _ us hl => match us, hl with | [_, _], _ => rfl⟩
theorem GK_BadShown (T : Tx w K mg) : XGK P w K mg base "BadShown" (He.ga K "BadShown") ["self", "index"] (spX1 (He.ga K "BadShown") "index") ["index"] (fun us zs => us ++ zs) := by
  obtain ⟨fd, F⟩ := T.F_BadShown
  exact ⟨T.g_BadShown, T.x_BadShown, _, fd, _, T.i_BadShown, T.t_BadShown, ok_x1 F sc_BadShownu_initu rfl T.x_BadShown T.no_BadShown_index (.inl rfl) (.inl rfl) (by decide) (by decide), kbindsA F 1 ["index"] (fun us zs => us ++ zs) (fun r1 r2 => gx1_rel r1 r2) (fun kV doc pm an cdv ct us ws l1 l2 => match us, ws, l1, l2 with | [_], [_], _, _ => rfl)⟩
theorem G_BadJoints (T : Tx w K mg) : XN K mg "BadJoints" (He.ga K "BadJoints") := ⟨T.g_BadJoints, T.x_BadJoints, T.v_BadJoints⟩
theorem G_BadChange (T : Tx w K mg) : XG P w K mg base "BadChange" (He.ga K "BadChange") ["self", "counter"] (spX1 (He.ga K "BadChange") "counter") := by
  obtain ⟨fd, F⟩ := T.F_BadChange
  exact ⟨T.g_BadChange, T.x_BadChange, _, fd, T.i_BadChange, T.t_BadChange, ok_x1 F sc_BadChangeu_initu rfl T.x_BadChange T.no_BadChange_counter (.inl rfl) (.inl rfl) (by decide) (by decide), F.bindsN fun _ _ _ _ _ _ us hl => match us, hl with | [_, _], _ => rfl⟩
theorem GK_BadChange (T : Tx w K mg) : XGK P w K mg base "BadChange" (He.ga K "BadChange") ["self", "counter"] (spX1 (He.ga K "BadChange") "counter") ["counter"] (fun us zs => us ++ zs) := by
  obtain ⟨fd, F⟩ := T.F_BadChange
  exact ⟨T.g_BadChange, T.x_BadChange, _, fd, _, T.i_BadChange, T.t_BadChange, ok_x1 F sc_BadChangeu_initu rfl T.x_BadChange T.no_BadChange_counter (.inl rfl) (.inl rfl) (by decide) (by decide), kbindsA F 1 ["counter"] (fun us zs => us ++ zs) (fun r1 r2 => gx1_rel r1 r2) (fun kV doc pm an cdv ct us ws l1 l2 => match us, ws, l1, l2 with | [_], [_], _, _ => rfl)⟩
theorem G_BadTimes (T : Tx w K mg) : XG P w K mg base "BadTimes" (He.ga K "BadTimes") ["self", "times"] (spX1 (He.ga K "BadTimes") "times") := by
  obtain ⟨fd, F⟩ := T.F_BadTimes
  exact ⟨T.g_BadTimes, T.x_BadTimes, _, fd, T.i_BadTimes, T.t_BadTimes, ok_x1 F sc_BadTimesu_initu rfl T.x_BadTimes T.no_BadTimes_times (.inl rfl) (.inl rfl) (by decide) (by decide), F.bindsN fun _ _ _ _ _ _ us hl => match us, hl with | [_, _], _ => rfl⟩
theorem GK_BadTimes (T : Tx w K mg) : XGK P w K mg base "BadTimes" (He.ga K "BadTimes") ["self", "times"] (spX1 (He.ga K "BadTimes") "times") ["times"] (fun us zs => us ++ zs) := by
  obtain ⟨fd, F⟩ := T.F_BadTimes
  exact ⟨T.g_BadTimes, T.x_BadTimes, _, fd, _, T.i_BadTimes, T.t_BadTimes, ok_x1 F sc_BadTimesu_initu rfl T.x_BadTimes T.no_BadTimes_times (.inl rfl) (.inl rfl) (by decide) (by decide), kbindsA F 1 ["times"] (fun us zs => us ++ zs) (fun r1 r2 => gx1_rel r1 r2) (fun kV doc pm an cdv ct us ws l1 l2 => match us, ws, l1, l2 with | [_], [_], _, _ => rfl)⟩
theorem G_BadWeight (T : Tx w K mg) : XG P w K mg base "BadWeight" (He.ga K "BadWeight") ["self", "counter"] (spX1 (He.ga K "BadWeight") "counter") := by
  obtain ⟨fd, F⟩ := T.F_BadWeight
  exact ⟨T.g_BadWeight, T.x_BadWeight, _, fd, T.i_BadWeight, T.t_BadWeight, ok_x1 F sc_BadWeightu_initu rfl T.x_BadWeight T.no_BadWeight_counter (.inl rfl) (.inl rfl) (by decide) (by decide), F.bindsN fun _ _ _ _ _ _ us hl => match us, hl with | [_, _], _ => rfl⟩
theorem GK_BadWeight (T : Tx w K mg) : XGK P w K mg base "BadWeight" (He.ga K "BadWeight") ["self", "counter"] (spX1 (He.ga K "BadWeight") "counter") ["counter"] (fun us zs => us ++ zs) := by
  obtain ⟨fd, F⟩ := T.F_BadWeight
  exact ⟨T.g_BadWeight, T.x_BadWeight, _, fd, _, T.i_BadWeight, T.t_BadWeight, ok_x1 F sc_BadWeightu_initu rfl T.x_BadWeight T.no_BadWeight_counter (.inl rfl) (.inl rfl) (by decide) (by decide), kbindsA F 1 ["counter"] (fun us zs => us ++ zs) (fun r1 r2 => gx1_rel r1 r2) (fun kV doc pm an cdv ct us ws l1 l2 => match us, ws, l1, l2 with | [_], [_], _, _ => rfl)⟩
theorem G_NotDocument (T : Tx w K mg) : XG P w K mg base "NotDocument" (He.ga K "NotDocument") ["self", "index"] (spX1 (He.ga K "NotDocument") "index") := by
  obtain ⟨fd, F⟩ := T.F_NotDocument
  exact ⟨T.g_NotDocument, T.x_NotDocument, _, fd, T.i_NotDocument, T.t_NotDocument, ok_x1 F sc_NotDocumentu_initu rfl T.x_NotDocument T.no_NotDocument_index (.inl rfl) (.inl rfl) (by decide) (by decide), F.bindsN fun _ _ _ _ _ _ us hl => match us, hl with | [_, _], _ => rfl⟩
theorem GK_NotDocument (T : Tx w K mg) : XGK P w K mg base "NotDocument" (He.ga K "NotDocument") ["self", "index"] (spX1 (He.ga K "NotDocument") "index") ["index"] (fun us zs => us ++ zs) := by
  obtain ⟨fd, F⟩ := T.F_NotDocument
  exact ⟨T.g_NotDocument, T.x_NotDocument, _, fd, _, T.i_NotDocument, T.t_NotDocument, ok_x1 F sc_NotDocumentu_initu rfl T.x_NotDocument T.no_NotDocument_index (.inl rfl) (.inl rfl) (by decide) (by decide), kbindsA F 1 ["index"] (fun us zs => us ++ zs) (fun r1 r2 => gx1_rel r1 r2) (fun kV doc pm an cdv ct us ws l1 l2 => match us, ws, l1, l2 with | [_], [_], _, _ => rfl)⟩
theorem G_NoDocument (T : Tx w K mg) : XG P w K mg base "NoDocument" (He.ga K "NoDocument") ["self", "kind"] (spX1 (He.ga K "NoDocument") "kind") := by
  obtain ⟨fd, F⟩ := T.F_NoDocument
  exact ⟨T.g_NoDocument, T.x_NoDocument, _, fd, T.i_NoDocument, T.t_NoDocument, ok_x1 F sc_NoDocumentu_initu rfl T.x_NoDocument T.no_NoDocument_kind (.inl rfl) (.inl rfl) (by decide) (by decide), F.bindsN fun _ _ _ _ _ _ us hl => match us, hl with | [_, _], _ => rfl⟩
theorem GK_NoDocument (T : Tx w K mg) : XGK P w K mg base "NoDocument" (He.ga K "NoDocument") ["self", "kind"] (spX1 (He.ga K "NoDocument") "kind") ["kind"] (fun us zs => us ++ zs) := by
  obtain ⟨fd, F⟩ := T.F_NoDocument
  exact ⟨T.g_NoDocument, T.x_NoDocument, _, fd, _, T.i_NoDocument, T.t_NoDocument, ok_x1 F sc_NoDocumentu_initu rfl T.x_NoDocument T.no_NoDocument_kind (.inl rfl) (.inl rfl) (by decide) (by decide), kbindsA F 1 ["kind"] (fun us zs => us ++ zs) (fun r1 r2 => gx1_rel r1 r2) (fun kV doc pm an cdv ct us ws l1 l2 => match us, ws, l1, l2 with | [_], [_], _, _ => rfl)⟩
theorem G_NoLabel (T : Tx w K mg) : XG P w K mg base "NoLabel" (He.ga K "NoLabel") ["self", "kind"] (spX1 (He.ga K "NoLabel") "kind") := by
  obtain ⟨fd, F⟩ := T.F_NoLabel
  exact ⟨T.g_NoLabel, T.x_NoLabel, _, fd, T.i_NoLabel, T.t_NoLabel, ok_x1 F sc_NoLabelu_initu rfl T.x_NoLabel T.no_NoLabel_kind (.inl rfl) (.inl rfl) (by decide) (by decide), F.bindsN fun _ _ _ _ _ _ us hl => match us, hl with | [_, _], _ => rfl⟩
theorem GK_NoLabel (T : Tx w K mg) : XGK P w K mg base "NoLabel" (He.ga K "NoLabel") ["self", "kind"] (spX1 (He.ga K "NoLabel") "kind") ["kind"] (fun us zs => us ++ zs) := by
  obtain ⟨fd, F⟩ := T.F_NoLabel
  exact ⟨T.g_NoLabel, T.x_NoLabel, _, fd, _, T.i_NoLabel, T.t_NoLabel, ok_x1 F sc_NoLabelu_initu rfl T.x_NoLabel T.no_NoLabel_kind (.inl rfl) (.inl rfl) (by decide) (by decide), kbindsA F 1 ["kind"] (fun us zs => us ++ zs) (fun r1 r2 => gx1_rel r1 r2) (fun kV doc pm an cdv ct us ws l1 l2 => match us, ws, l1, l2 with | [_], [_], _, _ => rfl)⟩
theorem G_UnlikeSchemes (T : Tx w K mg) : XN K mg "UnlikeSchemes" (He.ga K "UnlikeSchemes") := ⟨T.g_UnlikeSchemes, T.x_UnlikeSchemes, T.v_UnlikeSchemes⟩
theorem G_BadKey (T : Tx w K mg) : XG P w K mg base "BadKey" (He.ga K "BadKey") ["self", "key"] (spX1 (He.ga K "BadKey") "key") := by
  obtain ⟨fd, F⟩ := T.F_BadKey
  exact ⟨T.g_BadKey, T.x_BadKey, _, fd, T.i_BadKey, T.t_BadKey, ok_x1 F sc_BadKeyu_initu rfl T.x_BadKey T.no_BadKey_key (.inl rfl) (.inl rfl) (by decide) (by decide), F.bindsN fun _ _ _ _ _ _ us hl => match us, hl with | [_, _], _ => rfl⟩
theorem GK_BadKey (T : Tx w K mg) : XGK P w K mg base "BadKey" (He.ga K "BadKey") ["self", "key"] (spX1 (He.ga K "BadKey") "key") ["key"] (fun us zs => us ++ zs) := by
  obtain ⟨fd, F⟩ := T.F_BadKey
  exact ⟨T.g_BadKey, T.x_BadKey, _, fd, _, T.i_BadKey, T.t_BadKey, ok_x1 F sc_BadKeyu_initu rfl T.x_BadKey T.no_BadKey_key (.inl rfl) (.inl rfl) (by decide) (by decide), kbindsA F 1 ["key"] (fun us zs => us ++ zs) (fun r1 r2 => gx1_rel r1 r2) (fun kV doc pm an cdv ct us ws l1 l2 => match us, ws, l1, l2 with | [_], [_], _, _ => rfl)⟩
theorem G_KeyTaken (T : Tx w K mg) : XG P w K mg base "KeyTaken" (He.ga K "KeyTaken") ["self", "key"] (spX1 (He.ga K "KeyTaken") "key") := by
  obtain ⟨fd, F⟩ := T.F_KeyTaken
  exact ⟨T.g_KeyTaken, T.x_KeyTaken, _, fd, T.i_KeyTaken, T.t_KeyTaken, ok_x1 F sc_KeyTakenu_initu rfl T.x_KeyTaken T.no_KeyTaken_key (.inl rfl) (.inl rfl) (by decide) (by decide), F.bindsN fun _ _ _ _ _ _ us hl => match us, hl with | [_, _], _ => rfl⟩
theorem GK_KeyTaken (T : Tx w K mg) : XGK P w K mg base "KeyTaken" (He.ga K "KeyTaken") ["self", "key"] (spX1 (He.ga K "KeyTaken") "key") ["key"] (fun us zs => us ++ zs) := by
  obtain ⟨fd, F⟩ := T.F_KeyTaken
  exact ⟨T.g_KeyTaken, T.x_KeyTaken, _, fd, _, T.i_KeyTaken, T.t_KeyTaken, ok_x1 F sc_KeyTakenu_initu rfl T.x_KeyTaken T.no_KeyTaken_key (.inl rfl) (.inl rfl) (by decide) (by decide), kbindsA F 1 ["key"] (fun us zs => us ++ zs) (fun r1 r2 => gx1_rel r1 r2) (fun kV doc pm an cdv ct us ws l1 l2 => match us, ws, l1, l2 with | [_], [_], _, _ => rfl)⟩
theorem G_UnknownKey (T : Tx w K mg) : XG P w K mg base "UnknownKey" (He.ga K "UnknownKey") ["self", "key"] (spX1 (He.ga K "UnknownKey") "key") := by
  obtain ⟨fd, F⟩ := T.F_UnknownKey
  exact ⟨T.g_UnknownKey, T.x_UnknownKey, _, fd, T.i_UnknownKey, T.t_UnknownKey, ok_x1 F sc_UnknownKeyu_initu rfl T.x_UnknownKey T.no_UnknownKey_key (.inl rfl) (.inl rfl) (by decide) (by decide), F.bindsN fun _ _ _ _ _ _ us hl => match us, hl with | [_, _], _ => rfl⟩
theorem GK_UnknownKey (T : Tx w K mg) : XGK P w K mg base "UnknownKey" (He.ga K "UnknownKey") ["self", "key"] (spX1 (He.ga K "UnknownKey") "key") ["key"] (fun us zs => us ++ zs) := by
  obtain ⟨fd, F⟩ := T.F_UnknownKey
  exact ⟨T.g_UnknownKey, T.x_UnknownKey, _, fd, _, T.i_UnknownKey, T.t_UnknownKey, ok_x1 F sc_UnknownKeyu_initu rfl T.x_UnknownKey T.no_UnknownKey_key (.inl rfl) (.inl rfl) (by decide) (by decide), kbindsA F 1 ["key"] (fun us zs => us ++ zs) (fun r1 r2 => gx1_rel r1 r2) (fun kV doc pm an cdv ct us ws l1 l2 => match us, ws, l1, l2 with | [_], [_], _, _ => rfl)⟩
theorem G_NotLet (T : Tx w K mg) : XG P w K mg base "NotLet" (He.ga K "NotLet") ["self", "kind", "other"] (spX2 (He.ga K "NotLet") "kind" "other") := by
  obtain ⟨fd, F⟩ := T.F_NotLet
  exact ⟨T.g_NotLet, T.x_NotLet, _, fd, T.i_NotLet, T.t_NotLet, ok_x2 F sc_NotLetu_initu rfl T.x_NotLet T.no_NotLet_kind T.no_NotLet_other (.inl rfl) (.inl rfl) (.inl rfl) (by decide) (by decide) (by decide) (by decide), F.bindsN fun _ _ _ _ _ _ us hl => match us, hl with | [_, _, _], _ => rfl⟩
theorem GK_NotLet (T : Tx w K mg) : XGK P w K mg base "NotLet" (He.ga K "NotLet") ["self", "kind", "other"] (spX2 (He.ga K "NotLet") "kind" "other") ["other", "kind"] (fun us zs => us ++ zs.reverse) := by
  obtain ⟨fd, F⟩ := T.F_NotLet
  exact ⟨T.g_NotLet, T.x_NotLet, _, fd, _, T.i_NotLet, T.t_NotLet, ok_x2 F sc_NotLetu_initu rfl T.x_NotLet T.no_NotLet_kind T.no_NotLet_other (.inl rfl) (.inl rfl) (.inl rfl) (by decide) (by decide) (by decide) (by decide), kbindsA F 1 ["other", "kind"] (fun us zs => us ++ zs.reverse) (fun r1 r2 => gx2_rel r1 r2) (fun kV doc pm an cdv ct us ws l1 l2 => match us, ws, l1, l2 with | [_], [_, _], _, _ => rfl)⟩
theorem G_NothingToUndo (T : Tx w K mg) : XN K mg "NothingToUndo" (He.ga K "NothingToUndo") := ⟨T.g_NothingToUndo, T.x_NothingToUndo, T.v_NothingToUndo⟩
end
section
variable {P : Program} {w : World} {K : DL.Frag} {mg : Str → Option Value} {base : Heap}
/-! _law_kinds -/
noncomputable def b_law_kinds (K : DL.Frag) : SM := (sSeq (sSet 1 (mLst (mCons (mCB (isiVF K (clsL K) (xclL K)) (mCons (mVar 0) (mCons (mRet (.ref (He.ga K "BadLine"))) mNil))) (mCons (mCB (isiVF K (clsL K) (xclL K)) (mCons (mVar 0) (mCons (mRet (.ref (He.ga K "BadName"))) mNil))) (mCons (mCB (isiVF K (clsL K) (xclL K)) (mCons (mVar 0) (mCons (mRet (.ref (He.ga K "UnknownName"))) mNil))) mNil)))))
  (sSeq (sSet 1 (mOp addF (mVar 1) (mLst (mCons (mCB (isiVF K (clsL K) (xclL K)) (mCons (mVar 0) (mCons (mRet (.ref (He.ga K "BadNumber"))) mNil))) (mCons (mCB (isiVF K (clsL K) (xclL K)) (mCons (mVar 0) (mCons (mRet (.ref (He.ga K "BadCount"))) mNil))) (mCons (mCB (isiVF K (clsL K) (xclL K)) (mCons (mVar 0) (mCons (mRet (.ref (He.ga K "BadDeed"))) mNil))) (mCons (mCB (isiVF K (clsL K) (xclL K)) (mCons (mVar 0) (mCons (mRet (.ref (He.ga K "BadHead"))) mNil))) mNil)))))))
  (sSeq (sSet 1 (mOp addF (mVar 1) (mLst (mCons (mCB (isiVF K (clsL K) (xclL K)) (mCons (mVar 0) (mCons (mRet (.ref (He.ga K "BadShown"))) mNil))) (mCons (mCB (isiVF K (clsL K) (xclL K)) (mCons (mVar 0) (mCons (mRet (.ref (He.ga K "BadChange"))) mNil))) (mCons (mCB (isiVF K (clsL K) (xclL K)) (mCons (mVar 0) (mCons (mRet (.ref (He.ga K "BadTimes"))) mNil))) mNil))))))
  (sSeq (sSet 1 (mOp addF (mVar 1) (mLst (mCons (mCB (isiVF K (clsL K) (xclL K)) (mCons (mVar 0) (mCons (mRet (.ref (He.ga K "BadWeight"))) mNil))) (mCons (mCB (isiVF K (clsL K) (xclL K)) (mCons (mVar 0) (mCons (mRet (.ref (He.ga K "NotDocument"))) mNil))) (mCons (mCB (isiVF K (clsL K) (xclL K)) (mCons (mVar 0) (mCons (mRet (.ref (He.ga K "NoDocument"))) mNil))) mNil))))))
  (sSeq (sSet 1 (mOp addF (mVar 1) (mLst (mCons (mCB (isiVF K (clsL K) (xclL K)) (mCons (mVar 0) (mCons (mRet (.ref (He.ga K "NoLabel"))) mNil))) (mCons (mCB (isiVF K (clsL K) (xclL K)) (mCons (mVar 0) (mCons (mRet (.ref (He.ga K "BadKey"))) mNil))) (mCons (mCB (isiVF K (clsL K) (xclL K)) (mCons (mVar 0) (mCons (mRet (.ref (He.ga K "KeyTaken"))) mNil))) (mCons (mCB (isiVF K (clsL K) (xclL K)) (mCons (mVar 0) (mCons (mRet (.ref (He.ga K "UnknownKey"))) mNil))) mNil)))))))
  (sSeq (sSet 1 (mOp addF (mVar 1) (mLst (mCons (mCB (isiVF K (clsL K) (xclL K)) (mCons (mVar 0) (mCons (mRet (.ref (He.ga K "BadText"))) mNil))) (mCons (mCB (isiVF K (clsL K) (xclL K)) (mCons (mVar 0) (mCons (mRet (.ref (He.ga K "BadLabel"))) mNil))) (mCons (mCB (isiVF K (clsL K) (xclL K)) (mCons (mVar 0) (mCons (mRet (.ref (He.ga K "BadRow"))) mNil))) (mCons (mCB (isiVF K (clsL K) (xclL K)) (mCons (mVar 0) (mCons (mRet (.ref (He.ga K "BadJoints"))) mNil))) mNil)))))))
  (sRet (mOp addF (mVar 1) (mLst (mCons (mCB (isiVF K (clsL K) (xclL K)) (mCons (mVar 0) (mCons (mRet (.ref (He.ga K "UnlikeSchemes"))) mNil))) (mCons (mCB (isiVF K (clsL K) (xclL K)) (mCons (mVar 0) (mCons (mRet (.ref (He.ga K "NothingToUndo"))) mNil))) (mCons (mCB (isiVF K (clsL K) (xclL K)) (mCons (mVar 0) (mCons (mRet (.ref (He.ga K "NotLet"))) mNil))) mNil))))))))))))
noncomputable def F_law_kinds (K : DL.Frag) : DF := runD (b_law_kinds K) 2
theorem ok_law_kinds (T : Tx w K mg) : FnG P w K mg base 1 "_law_kinds" ["_law_e"] (DSp K (spF (F_law_kinds K) 1)) := by
  obtain ⟨fd, F⟩ := T.F_law_kinds
  refine ⟨_, fd, T.g_law_kinds, F.kp, fn_body F sc_law_kinds (fun i => i.2) (fun cdv A outer s H E hr tk po => ?_), F.bindsN fun _ _ _ _ _ _ us hl => match us, hl with | [_], _ => rfl⟩
  refine ⟨_, (pss_cons (ps_set (i := 1) sc_law_kinds.nd rfl (Or.inl rfl) (pe_lst (pa_cons (pe_callB (call_isiV (K := K) rfl) (by rfl) T.n_isinstance (by decide +kernel) (pa_cons (pv 0) (pa_cons (pe_glob (v := .ref (He.ga K "BadLine")) rfl T.g_BadLine rfl) pa_nil))) (pa_cons (pe_callB (call_isiV (K := K) rfl) (by rfl) T.n_isinstance (by decide +kernel) (pa_cons (pv 0) (pa_cons (pe_glob (v := .ref (He.ga K "BadName")) rfl T.g_BadName rfl) pa_nil))) (pa_cons (pe_callB (call_isiV (K := K) rfl) (by rfl) T.n_isinstance (by decide +kernel) (pa_cons (pv 0) (pa_cons (pe_glob (v := .ref (He.ga K "UnknownName")) rfl T.g_UnknownName rfl) pa_nil))) pa_nil)))))
  (pss_cons (ps_set (i := 1) sc_law_kinds.nd rfl (Or.inl rfl) (pe_op (op_addV (K := K) rfl) (pv 1) (pe_lst (pa_cons (pe_callB (call_isiV (K := K) rfl) (by rfl) T.n_isinstance (by decide +kernel) (pa_cons (pv 0) (pa_cons (pe_glob (v := .ref (He.ga K "BadNumber")) rfl T.g_BadNumber rfl) pa_nil))) (pa_cons (pe_callB (call_isiV (K := K) rfl) (by rfl) T.n_isinstance (by decide +kernel) (pa_cons (pv 0) (pa_cons (pe_glob (v := .ref (He.ga K "BadCount")) rfl T.g_BadCount rfl) pa_nil))) (pa_cons (pe_callB (call_isiV (K := K) rfl) (by rfl) T.n_isinstance (by decide +kernel) (pa_cons (pv 0) (pa_cons (pe_glob (v := .ref (He.ga K "BadDeed")) rfl T.g_BadDeed rfl) pa_nil))) (pa_cons (pe_callB (call_isiV (K := K) rfl) (by rfl) T.n_isinstance (by decide +kernel) (pa_cons (pv 0) (pa_cons (pe_glob (v := .ref (He.ga K "BadHead")) rfl T.g_BadHead rfl) pa_nil))) pa_nil)))))))
  (pss_cons (ps_set (i := 1) sc_law_kinds.nd rfl (Or.inl rfl) (pe_op (op_addV (K := K) rfl) (pv 1) (pe_lst (pa_cons (pe_callB (call_isiV (K := K) rfl) (by rfl) T.n_isinstance (by decide +kernel) (pa_cons (pv 0) (pa_cons (pe_glob (v := .ref (He.ga K "BadShown")) rfl T.g_BadShown rfl) pa_nil))) (pa_cons (pe_callB (call_isiV (K := K) rfl) (by rfl) T.n_isinstance (by decide +kernel) (pa_cons (pv 0) (pa_cons (pe_glob (v := .ref (He.ga K "BadChange")) rfl T.g_BadChange rfl) pa_nil))) (pa_cons (pe_callB (call_isiV (K := K) rfl) (by rfl) T.n_isinstance (by decide +kernel) (pa_cons (pv 0) (pa_cons (pe_glob (v := .ref (He.ga K "BadTimes")) rfl T.g_BadTimes rfl) pa_nil))) pa_nil))))))
  (pss_cons (ps_set (i := 1) sc_law_kinds.nd rfl (Or.inl rfl) (pe_op (op_addV (K := K) rfl) (pv 1) (pe_lst (pa_cons (pe_callB (call_isiV (K := K) rfl) (by rfl) T.n_isinstance (by decide +kernel) (pa_cons (pv 0) (pa_cons (pe_glob (v := .ref (He.ga K "BadWeight")) rfl T.g_BadWeight rfl) pa_nil))) (pa_cons (pe_callB (call_isiV (K := K) rfl) (by rfl) T.n_isinstance (by decide +kernel) (pa_cons (pv 0) (pa_cons (pe_glob (v := .ref (He.ga K "NotDocument")) rfl T.g_NotDocument rfl) pa_nil))) (pa_cons (pe_callB (call_isiV (K := K) rfl) (by rfl) T.n_isinstance (by decide +kernel) (pa_cons (pv 0) (pa_cons (pe_glob (v := .ref (He.ga K "NoDocument")) rfl T.g_NoDocument rfl) pa_nil))) pa_nil))))))
  (pss_cons (ps_set (i := 1) sc_law_kinds.nd rfl (Or.inl rfl) (pe_op (op_addV (K := K) rfl) (pv 1) (pe_lst (pa_cons (pe_callB (call_isiV (K := K) rfl) (by rfl) T.n_isinstance (by decide +kernel) (pa_cons (pv 0) (pa_cons (pe_glob (v := .ref (He.ga K "NoLabel")) rfl T.g_NoLabel rfl) pa_nil))) (pa_cons (pe_callB (call_isiV (K := K) rfl) (by rfl) T.n_isinstance (by decide +kernel) (pa_cons (pv 0) (pa_cons (pe_glob (v := .ref (He.ga K "BadKey")) rfl T.g_BadKey rfl) pa_nil))) (pa_cons (pe_callB (call_isiV (K := K) rfl) (by rfl) T.n_isinstance (by decide +kernel) (pa_cons (pv 0) (pa_cons (pe_glob (v := .ref (He.ga K "KeyTaken")) rfl T.g_KeyTaken rfl) pa_nil))) (pa_cons (pe_callB (call_isiV (K := K) rfl) (by rfl) T.n_isinstance (by decide +kernel) (pa_cons (pv 0) (pa_cons (pe_glob (v := .ref (He.ga K "UnknownKey")) rfl T.g_UnknownKey rfl) pa_nil))) pa_nil)))))))
  (pss_cons (ps_set (i := 1) sc_law_kinds.nd rfl (Or.inl rfl) (pe_op (op_addV (K := K) rfl) (pv 1) (pe_lst (pa_cons (pe_callB (call_isiV (K := K) rfl) (by rfl) T.n_isinstance (by decide +kernel) (pa_cons (pv 0) (pa_cons (pe_glob (v := .ref (He.ga K "BadText")) rfl T.g_BadText rfl) pa_nil))) (pa_cons (pe_callB (call_isiV (K := K) rfl) (by rfl) T.n_isinstance (by decide +kernel) (pa_cons (pv 0) (pa_cons (pe_glob (v := .ref (He.ga K "BadLabel")) rfl T.g_BadLabel rfl) pa_nil))) (pa_cons (pe_callB (call_isiV (K := K) rfl) (by rfl) T.n_isinstance (by decide +kernel) (pa_cons (pv 0) (pa_cons (pe_glob (v := .ref (He.ga K "BadRow")) rfl T.g_BadRow rfl) pa_nil))) (pa_cons (pe_callB (call_isiV (K := K) rfl) (by rfl) T.n_isinstance (by decide +kernel) (pa_cons (pv 0) (pa_cons (pe_glob (v := .ref (He.ga K "BadJoints")) rfl T.g_BadJoints rfl) pa_nil))) pa_nil)))))))
  (pss_one (ps_ret (pe_op (op_addV (K := K) rfl) (pv 1) (pe_lst (pa_cons (pe_callB (call_isiV (K := K) rfl) (by rfl) T.n_isinstance (by decide +kernel) (pa_cons (pv 0) (pa_cons (pe_glob (v := .ref (He.ga K "UnlikeSchemes")) rfl T.g_UnlikeSchemes rfl) pa_nil))) (pa_cons (pe_callB (call_isiV (K := K) rfl) (by rfl) T.n_isinstance (by decide +kernel) (pa_cons (pv 0) (pa_cons (pe_glob (v := .ref (He.ga K "NothingToUndo")) rfl T.g_NothingToUndo rfl) pa_nil))) (pa_cons (pe_callB (call_isiV (K := K) rfl) (by rfl) T.n_isinstance (by decide +kernel) (pa_cons (pv 0) (pa_cons (pe_glob (v := .ref (He.ga K "NotLet")) rfl T.g_NotLet rfl) pa_nil))) pa_nil))))))))))))), fun i hp Z h1 h2 h3 => body_D ?_ i hp Z h1 h2 h3⟩
  exact (sm_seq (sm_set (em_new (en_lst (am_cons (em_cb (isiVF_ok T.cls T.xcl) (am_cons em_var (am_cons em_ref am_nil))) (am_cons (em_cb (isiVF_ok T.cls T.xcl) (am_cons em_var (am_cons em_ref am_nil))) (am_cons (em_cb (isiVF_ok T.cls T.xcl) (am_cons em_var (am_cons em_ref am_nil))) am_nil))))))
  (sm_seq (sm_set (em_op addF_ok em_var (em_new (en_lst (am_cons (em_cb (isiVF_ok T.cls T.xcl) (am_cons em_var (am_cons em_ref am_nil))) (am_cons (em_cb (isiVF_ok T.cls T.xcl) (am_cons em_var (am_cons em_ref am_nil))) (am_cons (em_cb (isiVF_ok T.cls T.xcl) (am_cons em_var (am_cons em_ref am_nil))) (am_cons (em_cb (isiVF_ok T.cls T.xcl) (am_cons em_var (am_cons em_ref am_nil))) am_nil))))))))
  (sm_seq (sm_set (em_op addF_ok em_var (em_new (en_lst (am_cons (em_cb (isiVF_ok T.cls T.xcl) (am_cons em_var (am_cons em_ref am_nil))) (am_cons (em_cb (isiVF_ok T.cls T.xcl) (am_cons em_var (am_cons em_ref am_nil))) (am_cons (em_cb (isiVF_ok T.cls T.xcl) (am_cons em_var (am_cons em_ref am_nil))) am_nil)))))))
  (sm_seq (sm_set (em_op addF_ok em_var (em_new (en_lst (am_cons (em_cb (isiVF_ok T.cls T.xcl) (am_cons em_var (am_cons em_ref am_nil))) (am_cons (em_cb (isiVF_ok T.cls T.xcl) (am_cons em_var (am_cons em_ref am_nil))) (am_cons (em_cb (isiVF_ok T.cls T.xcl) (am_cons em_var (am_cons em_ref am_nil))) am_nil)))))))
  (sm_seq (sm_set (em_op addF_ok em_var (em_new (en_lst (am_cons (em_cb (isiVF_ok T.cls T.xcl) (am_cons em_var (am_cons em_ref am_nil))) (am_cons (em_cb (isiVF_ok T.cls T.xcl) (am_cons em_var (am_cons em_ref am_nil))) (am_cons (em_cb (isiVF_ok T.cls T.xcl) (am_cons em_var (am_cons em_ref am_nil))) (am_cons (em_cb (isiVF_ok T.cls T.xcl) (am_cons em_var (am_cons em_ref am_nil))) am_nil))))))))
  (sm_seq (sm_set (em_op addF_ok em_var (em_new (en_lst (am_cons (em_cb (isiVF_ok T.cls T.xcl) (am_cons em_var (am_cons em_ref am_nil))) (am_cons (em_cb (isiVF_ok T.cls T.xcl) (am_cons em_var (am_cons em_ref am_nil))) (am_cons (em_cb (isiVF_ok T.cls T.xcl) (am_cons em_var (am_cons em_ref am_nil))) (am_cons (em_cb (isiVF_ok T.cls T.xcl) (am_cons em_var (am_cons em_ref am_nil))) am_nil))))))))
  (sm_ret (em_op addF_ok em_var (em_new (en_lst (am_cons (em_cb (isiVF_ok T.cls T.xcl) (am_cons em_var (am_cons em_ref am_nil))) (am_cons (em_cb (isiVF_ok T.cls T.xcl) (am_cons em_var (am_cons em_ref am_nil))) (am_cons (em_cb (isiVF_ok T.cls T.xcl) (am_cons em_var (am_cons em_ref am_nil))) am_nil)))))))))))))
/-! _law_named -/
noncomputable def b_law_named (K : DL.Frag) : SM := (sSeq (sSet 1 (mLst (mCons (mXfV (He.ga K "BadLine") "line" (mMkV (He.ga K "BadLine") ["line"] (mCons (mVar 0) mNil))) (mCons (mXfV (He.ga K "BadName") "name" (mMkV (He.ga K "BadName") ["name"] (mCons (mVar 0) mNil))) (mCons (mXfV (He.ga K "UnknownName") "name" (mMkV (He.ga K "UnknownName") ["name"] (mCons (mVar 0) mNil))) mNil)))))
  (sSeq (sSet 1 (mOp addF (mVar 1) (mLst (mCons (mXfV (He.ga K "BadNumber") "number" (mMkV (He.ga K "BadNumber") ["number"] (mCons (mVar 0) mNil))) (mCons (mXfV (He.ga K "BadCount") "count" (mMkV (He.ga K "BadCount") ["count"] (mCons (mVar 0) mNil))) (mCons (mXfV (He.ga K "BadDeed") "deed" (mMkV (He.ga K "BadDeed") ["deed"] (mCons (mVar 0) mNil))) (mCons (mXfV (He.ga K "BadHead") "value" (mMkV (He.ga K "BadHead") ["value"] (mCons (mVar 0) mNil))) mNil)))))))
  (sSeq (sSet 1 (mOp addF (mVar 1) (mLst (mCons (mXfV (He.ga K "BadShown") "index" (mMkV (He.ga K "BadShown") ["index"] (mCons (mVar 0) mNil))) (mCons (mXfV (He.ga K "BadChange") "counter" (mMkV (He.ga K "BadChange") ["counter"] (mCons (mVar 0) mNil))) (mCons (mXfV (He.ga K "BadTimes") "times" (mMkV (He.ga K "BadTimes") ["times"] (mCons (mVar 0) mNil))) mNil))))))
  (sSeq (sSet 1 (mOp addF (mVar 1) (mLst (mCons (mXfV (He.ga K "BadWeight") "counter" (mMkV (He.ga K "BadWeight") ["counter"] (mCons (mVar 0) mNil))) (mCons (mXfV (He.ga K "NotDocument") "index" (mMkV (He.ga K "NotDocument") ["index"] (mCons (mVar 0) mNil))) (mCons (mXfV (He.ga K "NoDocument") "kind" (mMkV (He.ga K "NoDocument") ["kind"] (mCons (mVar 0) mNil))) mNil))))))
  (sRet (mOp addF (mVar 1) (mLst (mCons (mXfV (He.ga K "NoLabel") "kind" (mMkV (He.ga K "NoLabel") ["kind"] (mCons (mVar 0) mNil))) (mCons (mXfV (He.ga K "BadKey") "key" (mMkV (He.ga K "BadKey") ["key"] (mCons (mVar 0) mNil))) (mCons (mXfV (He.ga K "KeyTaken") "key" (mMkV (He.ga K "KeyTaken") ["key"] (mCons (mVar 0) mNil))) (mCons (mXfV (He.ga K "UnknownKey") "key" (mMkV (He.ga K "UnknownKey") ["key"] (mCons (mVar 0) mNil))) mNil)))))))))))
noncomputable def F_law_named (K : DL.Frag) : DF := runD (b_law_named K) 2
theorem ok_law_named (T : Tx w K mg) : FnG P w K mg base 3 "_law_named" ["_law_a"] (DSp K (spF (F_law_named K) 1)) := by
  have G_BadChange := G_BadChange (P := P) (w := w) (base := base) T
  have G_BadCount := G_BadCount (P := P) (w := w) (base := base) T
  have G_BadDeed := G_BadDeed (P := P) (w := w) (base := base) T
  have G_BadHead := G_BadHead (P := P) (w := w) (base := base) T
  have G_BadKey := G_BadKey (P := P) (w := w) (base := base) T
  have G_BadLine := G_BadLine (P := P) (w := w) (base := base) T
  have G_BadName := G_BadName (P := P) (w := w) (base := base) T
  have G_BadNumber := G_BadNumber (P := P) (w := w) (base := base) T
  have G_BadShown := G_BadShown (P := P) (w := w) (base := base) T
  have G_BadTimes := G_BadTimes (P := P) (w := w) (base := base) T
  have G_BadWeight := G_BadWeight (P := P) (w := w) (base := base) T
  have G_KeyTaken := G_KeyTaken (P := P) (w := w) (base := base) T
  have G_NoDocument := G_NoDocument (P := P) (w := w) (base := base) T
  have G_NoLabel := G_NoLabel (P := P) (w := w) (base := base) T
  have G_NotDocument := G_NotDocument (P := P) (w := w) (base := base) T
  have G_UnknownKey := G_UnknownKey (P := P) (w := w) (base := base) T
  have G_UnknownName := G_UnknownName (P := P) (w := w) (base := base) T
  have G_K_BadChange := GK_BadChange (P := P) (w := w) (base := base) T
  have G_K_BadCount := GK_BadCount (P := P) (w := w) (base := base) T
  have G_K_BadDeed := GK_BadDeed (P := P) (w := w) (base := base) T
  have G_K_BadHead := GK_BadHead (P := P) (w := w) (base := base) T
  have G_K_BadKey := GK_BadKey (P := P) (w := w) (base := base) T
  have G_K_BadLine := GK_BadLine (P := P) (w := w) (base := base) T
  have G_K_BadName := GK_BadName (P := P) (w := w) (base := base) T
  have G_K_BadNumber := GK_BadNumber (P := P) (w := w) (base := base) T
  have G_K_BadShown := GK_BadShown (P := P) (w := w) (base := base) T
  have G_K_BadTimes := GK_BadTimes (P := P) (w := w) (base := base) T
  have G_K_BadWeight := GK_BadWeight (P := P) (w := w) (base := base) T
  have G_K_KeyTaken := GK_KeyTaken (P := P) (w := w) (base := base) T
  have G_K_NoDocument := GK_NoDocument (P := P) (w := w) (base := base) T
  have G_K_NoLabel := GK_NoLabel (P := P) (w := w) (base := base) T
  have G_K_NotDocument := GK_NotDocument (P := P) (w := w) (base := base) T
  have G_K_UnknownKey := GK_UnknownKey (P := P) (w := w) (base := base) T
  have G_K_UnknownName := GK_UnknownName (P := P) (w := w) (base := base) T
  obtain ⟨fd, F⟩ := T.F_law_named
  refine ⟨_, fd, T.g_law_named, F.kp, fn_body F sc_law_named (fun i => i.2) (fun cdv A outer s H E hr tk po => ?_), F.bindsN fun _ _ _ _ _ _ us hl => match us, hl with | [_], _ => rfl⟩
  refine ⟨_, (pss_cons (ps_set (i := 1) sc_law_named.nd rfl (Or.inl rfl) (pe_lst (pa_cons (pe_xfV T.x_BadLine T.no_BadLine_line (pe_mkVK G_K_BadLine (hr.mono (by decide)) rfl (pk_cons (pv 0) pk_nil))) (pa_cons (pe_xfV T.x_BadName T.no_BadName_name (pe_mkVK G_K_BadName (hr.mono (by decide)) rfl (pk_cons (pv 0) pk_nil))) (pa_cons (pe_xfV T.x_UnknownName T.no_UnknownName_name (pe_mkVK G_K_UnknownName (hr.mono (by decide)) rfl (pk_cons (pv 0) pk_nil))) pa_nil)))))
  (pss_cons (ps_set (i := 1) sc_law_named.nd rfl (Or.inl rfl) (pe_op (op_addV (K := K) rfl) (pv 1) (pe_lst (pa_cons (pe_xfV T.x_BadNumber T.no_BadNumber_number (pe_mkVK G_K_BadNumber (hr.mono (by decide)) rfl (pk_cons (pv 0) pk_nil))) (pa_cons (pe_xfV T.x_BadCount T.no_BadCount_count (pe_mkVK G_K_BadCount (hr.mono (by decide)) rfl (pk_cons (pv 0) pk_nil))) (pa_cons (pe_xfV T.x_BadDeed T.no_BadDeed_deed (pe_mkVK G_K_BadDeed (hr.mono (by decide)) rfl (pk_cons (pv 0) pk_nil))) (pa_cons (pe_xfV T.x_BadHead T.no_BadHead_value (pe_mkVK G_K_BadHead (hr.mono (by decide)) rfl (pk_cons (pv 0) pk_nil))) pa_nil)))))))
  (pss_cons (ps_set (i := 1) sc_law_named.nd rfl (Or.inl rfl) (pe_op (op_addV (K := K) rfl) (pv 1) (pe_lst (pa_cons (pe_xfV T.x_BadShown T.no_BadShown_index (pe_mkVK G_K_BadShown (hr.mono (by decide)) rfl (pk_cons (pv 0) pk_nil))) (pa_cons (pe_xfV T.x_BadChange T.no_BadChange_counter (pe_mkVK G_K_BadChange (hr.mono (by decide)) rfl (pk_cons (pv 0) pk_nil))) (pa_cons (pe_xfV T.x_BadTimes T.no_BadTimes_times (pe_mkVK G_K_BadTimes (hr.mono (by decide)) rfl (pk_cons (pv 0) pk_nil))) pa_nil))))))
  (pss_cons (ps_set (i := 1) sc_law_named.nd rfl (Or.inl rfl) (pe_op (op_addV (K := K) rfl) (pv 1) (pe_lst (pa_cons (pe_xfV T.x_BadWeight T.no_BadWeight_counter (pe_mkVK G_K_BadWeight (hr.mono (by decide)) rfl (pk_cons (pv 0) pk_nil))) (pa_cons (pe_xfV T.x_NotDocument T.no_NotDocument_index (pe_mkVK G_K_NotDocument (hr.mono (by decide)) rfl (pk_cons (pv 0) pk_nil))) (pa_cons (pe_xfV T.x_NoDocument T.no_NoDocument_kind (pe_mkVK G_K_NoDocument (hr.mono (by decide)) rfl (pk_cons (pv 0) pk_nil))) pa_nil))))))
  (pss_one (ps_ret (pe_op (op_addV (K := K) rfl) (pv 1) (pe_lst (pa_cons (pe_xfV T.x_NoLabel T.no_NoLabel_kind (pe_mkVK G_K_NoLabel (hr.mono (by decide)) rfl (pk_cons (pv 0) pk_nil))) (pa_cons (pe_xfV T.x_BadKey T.no_BadKey_key (pe_mkVK G_K_BadKey (hr.mono (by decide)) rfl (pk_cons (pv 0) pk_nil))) (pa_cons (pe_xfV T.x_KeyTaken T.no_KeyTaken_key (pe_mkVK G_K_KeyTaken (hr.mono (by decide)) rfl (pk_cons (pv 0) pk_nil))) (pa_cons (pe_xfV T.x_UnknownKey T.no_UnknownKey_key (pe_mkVK G_K_UnknownKey (hr.mono (by decide)) rfl (pk_cons (pv 0) pk_nil))) pa_nil)))))))))))), fun i hp Z h1 h2 h3 => body_D ?_ i hp Z h1 h2 h3⟩
  exact (sm_seq (sm_set (em_new (en_lst (am_cons (em_xfV (em_mkVK1 (am_cons em_var am_nil))) (am_cons (em_xfV (em_mkVK1 (am_cons em_var am_nil))) (am_cons (em_xfV (em_mkVK1 (am_cons em_var am_nil))) am_nil))))))
  (sm_seq (sm_set (em_op addF_ok em_var (em_new (en_lst (am_cons (em_xfV (em_mkVK1 (am_cons em_var am_nil))) (am_cons (em_xfV (em_mkVK1 (am_cons em_var am_nil))) (am_cons (em_xfV (em_mkVK1 (am_cons em_var am_nil))) (am_cons (em_xfV (em_mkVK1 (am_cons em_var am_nil))) am_nil))))))))
  (sm_seq (sm_set (em_op addF_ok em_var (em_new (en_lst (am_cons (em_xfV (em_mkVK1 (am_cons em_var am_nil))) (am_cons (em_xfV (em_mkVK1 (am_cons em_var am_nil))) (am_cons (em_xfV (em_mkVK1 (am_cons em_var am_nil))) am_nil)))))))
  (sm_seq (sm_set (em_op addF_ok em_var (em_new (en_lst (am_cons (em_xfV (em_mkVK1 (am_cons em_var am_nil))) (am_cons (em_xfV (em_mkVK1 (am_cons em_var am_nil))) (am_cons (em_xfV (em_mkVK1 (am_cons em_var am_nil))) am_nil)))))))
  (sm_ret (em_op addF_ok em_var (em_new (en_lst (am_cons (em_xfV (em_mkVK1 (am_cons em_var am_nil))) (am_cons (em_xfV (em_mkVK1 (am_cons em_var am_nil))) (am_cons (em_xfV (em_mkVK1 (am_cons em_var am_nil))) (am_cons (em_xfV (em_mkVK1 (am_cons em_var am_nil))) am_nil))))))))))))
/-! _law_tape -/
noncomputable def b_law_tape (K : DL.Frag) : SM := (sSeq (sSet 2 (mIf (mTest (mOp ltF (mVar 1) (mCB lenF (mCons (mVar 0) mNil)))) (mOp ixF (mVar 0) (mVar 1)) (mRet (.int 0))))
  (sRetNew (mLst (mCons (mCB absF (mCons (mVar 2) mNil)) (mCons (mOp addF (mOp mulF (mRet (.int 7919)) (mVar 1)) (mRet (.int 104729))) mNil)))))
noncomputable def F_law_tape (K : DL.Frag) : DF := runN (b_law_tape K) 3
theorem ok_law_tape (T : Tx w K mg) : FnG P w K mg base 1 "_law_tape" ["_law_script", "_law_k"] (NSp K (spF (F_law_tape K) 2)) := by
  obtain ⟨fd, F⟩ := T.F_law_tape
  refine ⟨_, fd, T.g_law_tape, F.kp, fn_bodyN F sc_law_tape (fun i => i.2) (fun cdv A outer s H E hr tk po => ?_), F.bindsN fun _ _ _ _ _ _ us hl => match us, hl with | [_, _], _ => rfl⟩
  refine ⟨_, (pss_cons (ps_set (i := 2) sc_law_tape.nd rfl (Or.inl rfl) (pe_ifExp (pt_cmpR (op_ltK (K := K) rfl hr.units) (pv 1) (pe_callB (call_lenV (K := K) rfl) (by rfl) T.n_len (by decide +kernel) (pa_cons (pv 0) pa_nil)) (nomark _)) (pe_ix (ix_V (K := K) rfl hr.units) (pv 0) (pv 1) (fun _ _ => rfl)) pe_int))
  (pss_one (ps_ret (pe_lst (pa_cons (pe_callB call_abs (by rfl) T.n_abs (by decide +kernel) (pa_cons (pv 2) pa_nil)) (pa_cons (pe_op (op_addV (K := K) rfl) (pe_op op_mulU pe_int (pv 1)) pe_int) pa_nil)))))), fun i hp Z h2 h3 => body_N ?_ i hp Z h2 h3⟩
  exact (sm_seq (sm_set (em_if (tm_test (em_op cmpF_ok em_var (em_cb lenF_ok (am_cons em_var am_nil)))) (em_op ixF_ok em_var em_var) em_int))
  (sm_retNew (en_lst (am_cons (em_cb absF_ok (am_cons em_var am_nil)) (am_cons (em_op addF_ok (em_op mulF_ok em_int em_var) em_int) am_nil)))))
/-! _law_pick -/
noncomputable def b_law_pick (K : DL.Frag) : SM := (sSeq (sIf (mTest (mOp geF (mOp ixF (mVar 0) (mRet (.int 0))) (mOp powF (mRet (.int 10)) (mRet (.int 18))))) (sSeq (sSet 2 (mOp modF (mCB intF (mCons (mOp ixF (mVar 0) (mRet (.int 0))) mNil)) (mVar 1)))
  (sSeq (sPut setF (mOp fdivF (mOp ixF (mVar 0) (mRet (.int 0))) (mVar 1)) (mVar 0) (mRet (.int 0)))
  (sRet (mVar 2)))) sNext)
  (sSeq (sPut setF (mOp modF (mCB intF (mCons (mOp addF (mOp addF (mOp mulF (mOp ixF (mVar 0) (mRet (.int 1))) (mRet (.int 48271))) (mOp mulF (mOp ixF (mVar 0) (mRet (.int 0))) (mRet (.int 69621)))) (mRet (.int 11))) mNil)) (mRet (.int 2147483647))) (mVar 0) (mRet (.int 1)))
  (sSeq (sSet 3 (mOp modF (mCB intF (mCons (mOp addF (mOp addF (mOp mulF (mOp ixF (mVar 0) (mRet (.int 1))) (mOp ixF (mVar 0) (mRet (.int 1)))) (mOp mulF (mOp ixF (mVar 0) (mRet (.int 1))) (mRet (.int 40692)))) (mRet (.int 7))) mNil)) (mRet (.int 2147483399))))
  (sRet (mOp modF (mCB intF (mCons (mOp fdivF (mVar 3) (mRet (.int 64))) mNil)) (mVar 1))))))
noncomputable def F_law_pick (K : DL.Frag) : OF := runO (b_law_pick K) 4
theorem ok_law_pick (T : Tx w K mg) : FnG P w K mg base 1 "_law_pick" ["_law_tape_here", "_law_many"] (OSp K (spO (F_law_pick K) 1)) := by
  obtain ⟨fd, F⟩ := T.F_law_pick
  refine ⟨_, fd, T.g_law_pick, F.kp, fn_bodyO F sc_law_pick (fun i => congrArg (· + 1) i.2.2) (fun cdv A outer s H E hr tk po => ?_), F.bindsN fun _ _ _ _ _ _ us hl => match us, hl with | [_, _], _ => rfl⟩
  refine ⟨_, (pss_cons (ps_if (pt_cmpR (op_geK (K := K) rfl hr.units) (pe_ix (ix_V (K := K) rfl hr.units) (pv 0) pe_int (fun _ _ => rfl)) (pe_op op_pow pe_int pe_int) (nomark _)) (pss_cons (ps_set (i := 2) sc_law_pick.nd rfl (Or.inl rfl) (pe_op op_mod (pe_callTy call_intU (by rfl) T.n_int (by decide +kernel) (pa_cons (pe_ix (ix_V (K := K) rfl hr.units) (pv 0) pe_int (fun _ _ => rfl)) pa_nil)) (pv 1)))
  (pss_cons (ps_asg (pe_op op_fdivW (pe_ix (ix_V (K := K) rfl hr.units) (pv 0) pe_int (fun _ _ => rfl)) (pv 1)) (pg_sub (pv 0) pe_int (set_V hr.units)))
  (pss_one (ps_ret (pv 2))))) pss_nil)
  (pss_cons (ps_asg (pe_op op_mod (pe_callTy call_intU (by rfl) T.n_int (by decide +kernel) (pa_cons (pe_op (op_addV (K := K) rfl) (pe_op (op_addV (K := K) rfl) (pe_op op_mulU (pe_ix (ix_V (K := K) rfl hr.units) (pv 0) pe_int (fun _ _ => rfl)) pe_int) (pe_op op_mulU (pe_ix (ix_V (K := K) rfl hr.units) (pv 0) pe_int (fun _ _ => rfl)) pe_int)) pe_int) pa_nil)) pe_int) (pg_sub (pv 0) pe_int (set_V hr.units)))
  (pss_cons (ps_set (i := 3) sc_law_pick.nd rfl (Or.inl rfl) (pe_op op_mod (pe_callTy call_intU (by rfl) T.n_int (by decide +kernel) (pa_cons (pe_op (op_addV (K := K) rfl) (pe_op (op_addV (K := K) rfl) (pe_op op_mulU (pe_ix (ix_V (K := K) rfl hr.units) (pv 0) pe_int (fun _ _ => rfl)) (pe_ix (ix_V (K := K) rfl hr.units) (pv 0) pe_int (fun _ _ => rfl))) (pe_op op_mulU (pe_ix (ix_V (K := K) rfl hr.units) (pv 0) pe_int (fun _ _ => rfl)) pe_int)) pe_int) pa_nil)) pe_int))
  (pss_one (ps_ret (pe_op op_mod (pe_callTy call_intU (by rfl) T.n_int (by decide +kernel) (pa_cons (pe_op op_fdivW (pv 3) pe_int) pa_nil)) (pv 1))))))), fun i hp Z h1 h2 h3 => body_O ?_ i hp Z h1 h2 h3⟩
  exact (sm_seq (sm_if (tm_test (em_op cmpF_ok (em_op ixF_ok em_var em_int) (em_op powF_ok em_int em_int))) (sm_seq (sm_set (em_op modF_ok (em_cb intF_ok (am_cons (em_op ixF_ok em_var em_int) am_nil)) em_var))
  (sm_seq (sm_put setF_ok (em_op fdivF_ok (em_op ixF_ok em_var em_int) em_var) em_var em_int)
  (sm_ret em_var))) sm_next)
  (sm_seq (sm_put setF_ok (em_op modF_ok (em_cb intF_ok (am_cons (em_op addF_ok (em_op addF_ok (em_op mulF_ok (em_op ixF_ok em_var em_int) em_int) (em_op mulF_ok (em_op ixF_ok em_var em_int) em_int)) em_int) am_nil)) em_int) em_var em_int)
  (sm_seq (sm_set (em_op modF_ok (em_cb intF_ok (am_cons (em_op addF_ok (em_op addF_ok (em_op mulF_ok (em_op ixF_ok em_var em_int) (em_op ixF_ok em_var em_int)) (em_op mulF_ok (em_op ixF_ok em_var em_int) em_int)) em_int) am_nil)) em_int))
  (sm_ret (em_op modF_ok (em_cb intF_ok (am_cons (em_op fdivF_ok em_var em_int) am_nil)) em_var)))))
/-! _law_thing -/
noncomputable def b_law_thing (K : DL.Frag) : SM := (sRet (mOp ixF (mLst (mCons (mRet (.int 0)) (mCons (mUn negF (mRet (.int 1))) (mCons (mOp powF (mRet (.int 10)) (mRet (.int 20))) (mCons (mRet (.str "")) (mCons (mRet (.str "x")) (mCons (mRet .non) (mCons (mLst (mCons (mRet (.int 1)) (mCons (mRet (.int 2)) mNil))) (mCons (mRet (.bl true)) mNil))))))))) (mCallO (F_law_pick K) 1 0 (mCons (mRet (.int 8)) mNil))))
noncomputable def F_law_thing (K : DL.Frag) : OF := runO (b_law_thing K) 1
theorem ok_law_thing (T : Tx w K mg) : FnG P w K mg base 2 "_law_thing" ["_law_tape_here"] (OSp K (spO (F_law_thing K) 0)) := by
  have G_law_pick := ok_law_pick (P := P) (w := w) (base := base) T
  obtain ⟨fd, F⟩ := T.F_law_thing
  refine ⟨_, fd, T.g_law_thing, F.kp, fn_bodyO F sc_law_thing (fun i => congrArg (· + 1) i.2.2) (fun cdv A outer s H E hr tk po => ?_), F.bindsN fun _ _ _ _ _ _ us hl => match us, hl with | [_], _ => rfl⟩
  refine ⟨_, (pss_one (ps_ret (pe_ix (ix_V (K := K) rfl hr.units) (pe_lst (pa_cons pe_int (pa_cons (pe_un un_neg pe_int) (pa_cons (pe_op op_pow pe_int pe_int) (pa_cons pe_str (pa_cons pe_str (pa_cons pe_non (pa_cons (pe_lst (pa_cons pe_int (pa_cons pe_int pa_nil))) (pa_cons pe_bl pa_nil))))))))) (pe_fn G_law_pick (hr.mono (by decide)) tk rfl (pa_cons (pv 0) (pa_cons pe_int pa_nil))) (fun _ _ => rfl)))), fun i hp Z h1 h2 h3 => body_O ?_ i hp Z h1 h2 h3⟩
  exact (sm_ret (em_op ixF_ok (em_new (en_lst (am_cons em_int (am_cons (em_un negF_ok em_int) (am_cons (em_op powF_ok em_int em_int) (am_cons em_str (am_cons em_str (am_cons em_non (am_cons (em_new (en_lst (am_cons em_int (am_cons em_int am_nil)))) (am_cons em_bl am_nil)))))))))) (em_callO (am_cons em_int am_nil))))
/-! _law_told -/
noncomputable def b_law_told (K : DL.Frag) : SM := (sSeq (sSet 1 (mLst (mCons (mXfV (He.ga K "BadLine") "line" (mMkV (He.ga K "BadLine") ["line"] (mCons (mVar 0) mNil))) (mCons (mXfV (He.ga K "BadName") "name" (mMkV (He.ga K "BadName") ["name"] (mCons (mVar 0) mNil))) (mCons (mXfV (He.ga K "UnknownName") "name" (mMkV (He.ga K "UnknownName") ["name"] (mCons (mVar 0) mNil))) (mCons (mXfV (He.ga K "BadNumber") "number" (mMkV (He.ga K "BadNumber") ["number"] (mCons (mVar 0) mNil))) mNil))))))
  (sSeq (sSet 1 (mOp addF (mVar 1) (mLst (mCons (mXfV (He.ga K "BadCount") "count" (mMkV (He.ga K "BadCount") ["count"] (mCons (mVar 0) mNil))) (mCons (mXfV (He.ga K "BadDeed") "deed" (mMkV (He.ga K "BadDeed") ["deed"] (mCons (mVar 0) mNil))) (mCons (mXfV (He.ga K "BadHead") "value" (mMkV (He.ga K "BadHead") ["value"] (mCons (mVar 0) mNil))) (mCons (mXfV (He.ga K "BadShown") "index" (mMkV (He.ga K "BadShown") ["index"] (mCons (mVar 0) mNil))) (mCons (mXfV (He.ga K "BadChange") "counter" (mMkV (He.ga K "BadChange") ["counter"] (mCons (mVar 0) mNil))) mNil))))))))
  (sSeq (sSet 1 (mOp addF (mVar 1) (mLst (mCons (mXfV (He.ga K "BadTimes") "times" (mMkV (He.ga K "BadTimes") ["times"] (mCons (mVar 0) mNil))) (mCons (mXfV (He.ga K "BadWeight") "counter" (mMkV (He.ga K "BadWeight") ["counter"] (mCons (mVar 0) mNil))) (mCons (mXfV (He.ga K "NotDocument") "index" (mMkV (He.ga K "NotDocument") ["index"] (mCons (mVar 0) mNil))) (mCons (mXfV (He.ga K "NoDocument") "kind" (mMkV (He.ga K "NoDocument") ["kind"] (mCons (mVar 0) mNil))) (mCons (mXfV (He.ga K "NoLabel") "kind" (mMkV (He.ga K "NoLabel") ["kind"] (mCons (mVar 0) mNil))) mNil))))))))
  (sRet (mOp addF (mVar 1) (mLst (mCons (mXfV (He.ga K "BadKey") "key" (mMkV (He.ga K "BadKey") ["key"] (mCons (mVar 0) mNil))) (mCons (mXfV (He.ga K "KeyTaken") "key" (mMkV (He.ga K "KeyTaken") ["key"] (mCons (mVar 0) mNil))) (mCons (mXfV (He.ga K "UnknownKey") "key" (mMkV (He.ga K "UnknownKey") ["key"] (mCons (mVar 0) mNil))) mNil)))))))))
noncomputable def F_law_told (K : DL.Frag) : DF := runD (b_law_told K) 2
theorem ok_law_told (T : Tx w K mg) : FnG P w K mg base 3 "_law_told" ["_law_a"] (DSp K (spF (F_law_told K) 1)) := by
  have G_BadChange := G_BadChange (P := P) (w := w) (base := base) T
  have G_BadCount := G_BadCount (P := P) (w := w) (base := base) T
  have G_BadDeed := G_BadDeed (P := P) (w := w) (base := base) T
  have G_BadHead := G_BadHead (P := P) (w := w) (base := base) T
  have G_BadKey := G_BadKey (P := P) (w := w) (base := base) T
  have G_BadLine := G_BadLine (P := P) (w := w) (base := base) T
  have G_BadName := G_BadName (P := P) (w := w) (base := base) T
  have G_BadNumber := G_BadNumber (P := P) (w := w) (base := base) T
  have G_BadShown := G_BadShown (P := P) (w := w) (base := base) T
  have G_BadTimes := G_BadTimes (P := P) (w := w) (base := base) T
  have G_BadWeight := G_BadWeight (P := P) (w := w) (base := base) T
  have G_KeyTaken := G_KeyTaken (P := P) (w := w) (base := base) T
  have G_NoDocument := G_NoDocument (P := P) (w := w) (base := base) T
  have G_NoLabel := G_NoLabel (P := P) (w := w) (base := base) T
  have G_NotDocument := G_NotDocument (P := P) (w := w) (base := base) T
  have G_UnknownKey := G_UnknownKey (P := P) (w := w) (base := base) T
  have G_UnknownName := G_UnknownName (P := P) (w := w) (base := base) T
  obtain ⟨fd, F⟩ := T.F_law_told
  refine ⟨_, fd, T.g_law_told, F.kp, fn_body F sc_law_told (fun i => i.2) (fun cdv A outer s H E hr tk po => ?_), F.bindsN fun _ _ _ _ _ _ us hl => match us, hl with | [_], _ => rfl⟩
  refine ⟨_, (pss_cons (ps_set (i := 1) sc_law_told.nd rfl (Or.inl rfl) (pe_lst (pa_cons (pe_xfV T.x_BadLine T.no_BadLine_line (pe_mkV G_BadLine (hr.mono (by decide)) rfl (pa_cons (pv 0) pa_nil))) (pa_cons (pe_xfV T.x_BadName T.no_BadName_name (pe_mkV G_BadName (hr.mono (by decide)) rfl (pa_cons (pv 0) pa_nil))) (pa_cons (pe_xfV T.x_UnknownName T.no_UnknownName_name (pe_mkV G_UnknownName (hr.mono (by decide)) rfl (pa_cons (pv 0) pa_nil))) (pa_cons (pe_xfV T.x_BadNumber T.no_BadNumber_number (pe_mkV G_BadNumber (hr.mono (by decide)) rfl (pa_cons (pv 0) pa_nil))) pa_nil))))))
  (pss_cons (ps_set (i := 1) sc_law_told.nd rfl (Or.inl rfl) (pe_op (op_addV (K := K) rfl) (pv 1) (pe_lst (pa_cons (pe_xfV T.x_BadCount T.no_BadCount_count (pe_mkV G_BadCount (hr.mono (by decide)) rfl (pa_cons (pv 0) pa_nil))) (pa_cons (pe_xfV T.x_BadDeed T.no_BadDeed_deed (pe_mkV G_BadDeed (hr.mono (by decide)) rfl (pa_cons (pv 0) pa_nil))) (pa_cons (pe_xfV T.x_BadHead T.no_BadHead_value (pe_mkV G_BadHead (hr.mono (by decide)) rfl (pa_cons (pv 0) pa_nil))) (pa_cons (pe_xfV T.x_BadShown T.no_BadShown_index (pe_mkV G_BadShown (hr.mono (by decide)) rfl (pa_cons (pv 0) pa_nil))) (pa_cons (pe_xfV T.x_BadChange T.no_BadChange_counter (pe_mkV G_BadChange (hr.mono (by decide)) rfl (pa_cons (pv 0) pa_nil))) pa_nil))))))))
  (pss_cons (ps_set (i := 1) sc_law_told.nd rfl (Or.inl rfl) (pe_op (op_addV (K := K) rfl) (pv 1) (pe_lst (pa_cons (pe_xfV T.x_BadTimes T.no_BadTimes_times (pe_mkV G_BadTimes (hr.mono (by decide)) rfl (pa_cons (pv 0) pa_nil))) (pa_cons (pe_xfV T.x_BadWeight T.no_BadWeight_counter (pe_mkV G_BadWeight (hr.mono (by decide)) rfl (pa_cons (pv 0) pa_nil))) (pa_cons (pe_xfV T.x_NotDocument T.no_NotDocument_index (pe_mkV G_NotDocument (hr.mono (by decide)) rfl (pa_cons (pv 0) pa_nil))) (pa_cons (pe_xfV T.x_NoDocument T.no_NoDocument_kind (pe_mkV G_NoDocument (hr.mono (by decide)) rfl (pa_cons (pv 0) pa_nil))) (pa_cons (pe_xfV T.x_NoLabel T.no_NoLabel_kind (pe_mkV G_NoLabel (hr.mono (by decide)) rfl (pa_cons (pv 0) pa_nil))) pa_nil))))))))
  (pss_one (ps_ret (pe_op (op_addV (K := K) rfl) (pv 1) (pe_lst (pa_cons (pe_xfV T.x_BadKey T.no_BadKey_key (pe_mkV G_BadKey (hr.mono (by decide)) rfl (pa_cons (pv 0) pa_nil))) (pa_cons (pe_xfV T.x_KeyTaken T.no_KeyTaken_key (pe_mkV G_KeyTaken (hr.mono (by decide)) rfl (pa_cons (pv 0) pa_nil))) (pa_cons (pe_xfV T.x_UnknownKey T.no_UnknownKey_key (pe_mkV G_UnknownKey (hr.mono (by decide)) rfl (pa_cons (pv 0) pa_nil))) pa_nil)))))))))), fun i hp Z h1 h2 h3 => body_D ?_ i hp Z h1 h2 h3⟩
  exact (sm_seq (sm_set (em_new (en_lst (am_cons (em_xfV (em_mkV1 (am_cons em_var am_nil))) (am_cons (em_xfV (em_mkV1 (am_cons em_var am_nil))) (am_cons (em_xfV (em_mkV1 (am_cons em_var am_nil))) (am_cons (em_xfV (em_mkV1 (am_cons em_var am_nil))) am_nil)))))))
  (sm_seq (sm_set (em_op addF_ok em_var (em_new (en_lst (am_cons (em_xfV (em_mkV1 (am_cons em_var am_nil))) (am_cons (em_xfV (em_mkV1 (am_cons em_var am_nil))) (am_cons (em_xfV (em_mkV1 (am_cons em_var am_nil))) (am_cons (em_xfV (em_mkV1 (am_cons em_var am_nil))) (am_cons (em_xfV (em_mkV1 (am_cons em_var am_nil))) am_nil)))))))))
  (sm_seq (sm_set (em_op addF_ok em_var (em_new (en_lst (am_cons (em_xfV (em_mkV1 (am_cons em_var am_nil))) (am_cons (em_xfV (em_mkV1 (am_cons em_var am_nil))) (am_cons (em_xfV (em_mkV1 (am_cons em_var am_nil))) (am_cons (em_xfV (em_mkV1 (am_cons em_var am_nil))) (am_cons (em_xfV (em_mkV1 (am_cons em_var am_nil))) am_nil)))))))))
  (sm_ret (em_op addF_ok em_var (em_new (en_lst (am_cons (em_xfV (em_mkV1 (am_cons em_var am_nil))) (am_cons (em_xfV (em_mkV1 (am_cons em_var am_nil))) (am_cons (em_xfV (em_mkV1 (am_cons em_var am_nil))) am_nil))))))))))
/-! law -/
noncomputable def b_law (K : DL.Frag) : SM := (sSeq (sOwn 1 (mCall (F_law_tape K) 2 (mCons (mVar 0) (mCons (mRet (.int 0)) mNil))))
  (sSeq (sSet 2 (mCallO (F_law_thing K) 0 1 mNil))
  (sSeq (sSet 3 (mCallO (F_law_thing K) 0 1 mNil))
  (sSeq (sIf (mOr (mTest (mOp neF (mCall (F_law_told K) 1 (mCons (mVar 2) mNil)) (mLc (mItA rng1F (mCons (mRet (.int 17)) mNil)) (gfName 4) (mRet true) (mVar 2) [4]))) (mTest (mOp neF (mCall (F_law_named K) 1 (mCons (mVar 2) mNil)) (mLc (mItA rng1F (mCons (mRet (.int 17)) mNil)) (gfName 4) (mRet true) (mVar 2) [4])))) (sRet (mRet (.bl false))) sNext)
  (sSeq (sSet 5 (mLst (mCons (mMkV (He.ga K "NotLet") ["kind", "other"] (mCons (mVar 2) (mCons (mVar 3) mNil))) (mCons (mMkV (He.ga K "NotLet") ["kind", "other"] (mRevV (mCons (mVar 3) (mCons (mVar 2) mNil)))) mNil))))
  (sSeq (sIf (mOr (mTest (mOp neF (mLc (mIter (mVar 5)) (gfName 7) (mRet true) (mXfV (He.ga K "NotLet") "kind" (mVar 7)) [7]) (mLst (mCons (mVar 2) (mCons (mVar 2) mNil))))) (mTest (mOp neF (mLc (mIter (mVar 5)) (gfName 7) (mRet true) (mXfV (He.ga K "NotLet") "other" (mVar 7)) [7]) (mLst (mCons (mVar 3) (mCons (mVar 3) mNil)))))) (sRet (mRet (.bl false))) sNext)
  (sSeq (sSet 6 (mLst (mCons (mMkV (He.ga K "BadLine") ["line"] (mCons (mVar 2) mNil)) (mCons (mMkV (He.ga K "BadName") ["name"] (mCons (mVar 2) mNil)) (mCons (mMkV (He.ga K "UnknownName") ["name"] (mCons (mVar 2) mNil)) (mCons (mMkV (He.ga K "BadNumber") ["number"] (mCons (mVar 2) mNil)) (mCons (mMkV (He.ga K "BadCount") ["count"] (mCons (mVar 2) mNil)) (mCons (mMkV (He.ga K "BadDeed") ["deed"] (mCons (mVar 2) mNil)) mNil))))))))
  (sSeq (sSet 6 (mOp addF (mVar 6) (mLst (mCons (mMkV (He.ga K "BadHead") ["value"] (mCons (mVar 2) mNil)) (mCons (mMkV (He.ga K "BadShown") ["index"] (mCons (mVar 2) mNil)) (mCons (mMkV (He.ga K "BadChange") ["counter"] (mCons (mVar 2) mNil)) (mCons (mMkV (He.ga K "BadTimes") ["times"] (mCons (mVar 2) mNil)) (mCons (mMkV (He.ga K "BadWeight") ["counter"] (mCons (mVar 2) mNil)) (mCons (mMkV (He.ga K "NotDocument") ["index"] (mCons (mVar 2) mNil)) mNil)))))))))
  (sSeq (sSet 6 (mOp addF (mVar 6) (mLst (mCons (mMkV (He.ga K "NoDocument") ["kind"] (mCons (mVar 2) mNil)) (mCons (mMkV (He.ga K "NoLabel") ["kind"] (mCons (mVar 2) mNil)) mNil)))))
  (sSeq (sSet 6 (mOp addF (mVar 6) (mLst (mCons (mMkV (He.ga K "BadKey") ["key"] (mCons (mVar 2) mNil)) (mCons (mMkV (He.ga K "KeyTaken") ["key"] (mCons (mVar 2) mNil)) (mCons (mMkV (He.ga K "UnknownKey") ["key"] (mCons (mVar 2) mNil)) (mCons (mRet (.exv (He.ga K "BadText") [] [])) (mCons (mRet (.exv (He.ga K "BadLabel") [] [])) (mCons (mRet (.exv (He.ga K "BadRow") [] [])) (mCons (mRet (.exv (He.ga K "BadJoints") [] [])) mNil))))))))))
  (sSeq (sSet 6 (mOp addF (mVar 6) (mLst (mCons (mRet (.exv (He.ga K "UnlikeSchemes") [] [])) (mCons (mRet (.exv (He.ga K "NothingToUndo") [] [])) (mCons (mMkV (He.ga K "NotLet") ["kind", "other"] (mCons (mVar 2) (mCons (mVar 3) mNil))) mNil))))))
  (sSeq (sFor (mItA rng1F (mCons (mCB lenF (mCons (mVar 6) mNil)) mNil)) (gfName 4) (sSeq (sIf (mOr (mNot (mTru (mCB (isiVF K (clsL K) (xclL K)) (mCons (mOp ixF (mVar 6) (mVar 4)) (mCons (mRet (.ref (He.ga K "PartError"))) mNil))))) (mNot (mTru (mCB (isiVF K (clsL K) (xclL K)) (mCons (mOp ixF (mVar 6) (mVar 4)) (mCons (mRet (.ty "ValueError")) mNil)))))) (sRet (mRet (.bl false))) sNext)
  (sIf (mTest (mOp neF (mCall (F_law_kinds K) 1 (mCons (mOp ixF (mVar 6) (mVar 4)) mNil)) (mLc (mItA rng1F (mCons (mCB lenF (mCons (mVar 6) mNil)) mNil)) (gfName 8) (mRet true) (mOp eqF (mVar 4) (mVar 8)) [8]))) (sRet (mRet (.bl false))) sNext)))
  (sRet (mRet (.bl true)))))))))))))))
noncomputable def F_law (K : DL.Frag) : DF := runD (b_law K) 9
end
end T
set_option Elab.async false
set_option linter.all false
set_option maxRecDepth 100000
set_option autoImplicit false
set_option maxHeartbeats 4000000
namespace T
open PySem L2 PyProof.Rows DL
section
variable {P : Program} {w : World} {K : DL.Frag} {mg : Str → Option Value} {base : Heap}
def sp_law : Fsp where
  I := List Int
  arg ns := [.lst (ns.map .int)]
  pre ns := ns.length ≤ 63
  post _ d := d = .bl true
theorem ok_law_of (T : Tx w K mg) (hL : ∀ ns : List Int, F_law K [.lst (ns.map .int)] = some (.val (.bl true))) {fd : FuncData} (F : FunD K "law" "law" (defArgs s_law) (defBody s_law) (defScope s_law) [] [] (He.ga K "law") fd) : FnOk P w K mg base (L2.CX P w) 4 (He.ga K "law") fd ["_law_script"] (DSp K sp_law) := by
  have G_law_kinds := ok_law_kinds (P := P) (w := w) (base := base) T
  have G_law_named := ok_law_named (P := P) (w := w) (base := base) T
  have G_law_tape := ok_law_tape (P := P) (w := w) (base := base) T
  have G_law_thing := ok_law_thing (P := P) (w := w) (base := base) T
  have G_law_told := ok_law_told (P := P) (w := w) (base := base) T
  have G_BadChange := G_BadChange (P := P) (w := w) (base := base) T
  have G_BadCount := G_BadCount (P := P) (w := w) (base := base) T
  have G_BadDeed := G_BadDeed (P := P) (w := w) (base := base) T
  have G_BadHead := G_BadHead (P := P) (w := w) (base := base) T
  have G_BadJoints := G_BadJoints T
  have G_BadKey := G_BadKey (P := P) (w := w) (base := base) T
  have G_BadLabel := G_BadLabel T
  have G_BadLine := G_BadLine (P := P) (w := w) (base := base) T
  have G_BadName := G_BadName (P := P) (w := w) (base := base) T
  have G_BadNumber := G_BadNumber (P := P) (w := w) (base := base) T
  have G_BadRow := G_BadRow T
  have G_BadShown := G_BadShown (P := P) (w := w) (base := base) T
  have G_BadText := G_BadText T
  have G_BadTimes := G_BadTimes (P := P) (w := w) (base := base) T
  have G_BadWeight := G_BadWeight (P := P) (w := w) (base := base) T
  have G_KeyTaken := G_KeyTaken (P := P) (w := w) (base := base) T
  have G_NoDocument := G_NoDocument (P := P) (w := w) (base := base) T
  have G_NoLabel := G_NoLabel (P := P) (w := w) (base := base) T
  have G_NotDocument := G_NotDocument (P := P) (w := w) (base := base) T
  have G_NotLet := G_NotLet (P := P) (w := w) (base := base) T
  have G_NothingToUndo := G_NothingToUndo T
  have G_UnknownKey := G_UnknownKey (P := P) (w := w) (base := base) T
  have G_UnknownName := G_UnknownName (P := P) (w := w) (base := base) T
  have G_UnlikeSchemes := G_UnlikeSchemes T
  have G_K_NotLet := GK_NotLet (P := P) (w := w) (base := base) T
  refine fn_body F sc_law (fun _ => rfl) (fun cdv A outer s H E hr tk po => ?_)
  refine ⟨_, (pss_cons (ps_set (i := 1) sc_law.nd rfl (Or.inl rfl) (pe_fn G_law_tape (hr.mono (by decide)) tk rfl (pa_cons (pv 0) (pa_cons pe_int pa_nil))))
  (pss_cons (ps_set (i := 2) sc_law.nd rfl (Or.inr rfl) (pe_fn G_law_thing (hr.mono (by decide)) tk rfl (pa_cons (pv 1) pa_nil)))
  (pss_cons (ps_set (i := 3) sc_law.nd rfl (Or.inl rfl) (pe_fn G_law_thing (hr.mono (by decide)) tk rfl (pa_cons (pv 1) pa_nil)))
  (pss_cons (ps_if (PW.pt (pw_or (pt_cmpR (op_neV2 (K := K) rfl hr.units) (pe_fn G_law_told (hr.mono (by decide)) tk rfl (pa_cons (pv 2) pa_nil)) (pe_lc (own := [("_law_k", 4)]) rfl sc_law.nd (pi_range1 rfl T.n_range (pa_cons pe_int pa_nil)) (blkOk_by (N := ["_law_script", "_law_tape_here", "_law_a", "_law_b", "_law_k", "_law_both", "_law_errors", "_law_e", "_law_j"]) (sc := defScope s_law) (by decide +kernel)) (fun _ _ _ _ _ => (pg_name (i := 4) sc_law.nd rfl (Or.inl rfl) (Or.inr rfl))) (fun _ _ _ _ _ => pts_nil) (fun _ _ _ _ _ => (pv 2))) (nomark _)) (pw_or1 (pt_cmpR (op_neV2 (K := K) rfl hr.units) (pe_fn G_law_named (hr.mono (by decide)) tk rfl (pa_cons (pv 2) pa_nil)) (pe_lc (own := [("_law_k", 4)]) rfl sc_law.nd (pi_range1 rfl T.n_range (pa_cons pe_int pa_nil)) (blkOk_by (N := ["_law_script", "_law_tape_here", "_law_a", "_law_b", "_law_k", "_law_both", "_law_errors", "_law_e", "_law_j"]) (sc := defScope s_law) (by decide +kernel)) (fun _ _ _ _ _ => (pg_name (i := 4) sc_law.nd rfl (Or.inl rfl) (Or.inr rfl))) (fun _ _ _ _ _ => pts_nil) (fun _ _ _ _ _ => (pv 2))) (nomark _))))) (pss_one (ps_ret pe_bl)) pss_nil)
  (pss_cons (ps_set (i := 5) sc_law.nd rfl (Or.inl rfl) (pe_lst (pa_cons (pe_mkV G_NotLet (hr.mono (by decide)) rfl (pa_cons (pv 2) (pa_cons (pv 3) pa_nil))) (pa_cons (pe_mkVK G_K_NotLet (hr.mono (by decide)) rfl (pk_cons (pv 3) (pk_cons (pv 2) pk_nil))) pa_nil))))
  (pss_cons (ps_if (PW.pt (pw_or (pt_cmpR (op_neV2 (K := K) rfl hr.units) (pe_lc (own := [("_law_e", 7)]) rfl sc_law.nd (pi_any (K := K) rfl (pv 5)) (blkOk_by (N := ["_law_script", "_law_tape_here", "_law_a", "_law_b", "_law_k", "_law_both", "_law_errors", "_law_e", "_law_j"]) (sc := defScope s_law) (by decide +kernel)) (fun _ _ _ _ _ => (pg_name (i := 7) sc_law.nd rfl (Or.inl rfl) (Or.inr rfl))) (fun _ _ _ _ _ => pts_nil) (fun _ _ _ _ _ => (pe_xfV T.x_NotLet T.no_NotLet_kind (pv 7)))) (pe_lst (pa_cons (pv 2) (pa_cons (pv 2) pa_nil))) (nomark _)) (pw_or1 (pt_cmpR (op_neV2 (K := K) rfl hr.units) (pe_lc (own := [("_law_e", 7)]) rfl sc_law.nd (pi_any (K := K) rfl (pv 5)) (blkOk_by (N := ["_law_script", "_law_tape_here", "_law_a", "_law_b", "_law_k", "_law_both", "_law_errors", "_law_e", "_law_j"]) (sc := defScope s_law) (by decide +kernel)) (fun _ _ _ _ _ => (pg_name (i := 7) sc_law.nd rfl (Or.inl rfl) (Or.inr rfl))) (fun _ _ _ _ _ => pts_nil) (fun _ _ _ _ _ => (pe_xfV T.x_NotLet T.no_NotLet_other (pv 7)))) (pe_lst (pa_cons (pv 3) (pa_cons (pv 3) pa_nil))) (nomark _))))) (pss_one (ps_ret pe_bl)) pss_nil)
  (pss_cons (ps_set (i := 6) sc_law.nd rfl (Or.inl rfl) (pe_lst (pa_cons (pe_mkV G_BadLine (hr.mono (by decide)) rfl (pa_cons (pv 2) pa_nil)) (pa_cons (pe_mkV G_BadName (hr.mono (by decide)) rfl (pa_cons (pv 2) pa_nil)) (pa_cons (pe_mkV G_UnknownName (hr.mono (by decide)) rfl (pa_cons (pv 2) pa_nil)) (pa_cons (pe_mkV G_BadNumber (hr.mono (by decide)) rfl (pa_cons (pv 2) pa_nil)) (pa_cons (pe_mkV G_BadCount (hr.mono (by decide)) rfl (pa_cons (pv 2) pa_nil)) (pa_cons (pe_mkV G_BadDeed (hr.mono (by decide)) rfl (pa_cons (pv 2) pa_nil)) pa_nil))))))))
  (pss_cons (ps_set (i := 6) sc_law.nd rfl (Or.inl rfl) (pe_op (op_addV (K := K) rfl) (pv 6) (pe_lst (pa_cons (pe_mkV G_BadHead (hr.mono (by decide)) rfl (pa_cons (pv 2) pa_nil)) (pa_cons (pe_mkV G_BadShown (hr.mono (by decide)) rfl (pa_cons (pv 2) pa_nil)) (pa_cons (pe_mkV G_BadChange (hr.mono (by decide)) rfl (pa_cons (pv 2) pa_nil)) (pa_cons (pe_mkV G_BadTimes (hr.mono (by decide)) rfl (pa_cons (pv 2) pa_nil)) (pa_cons (pe_mkV G_BadWeight (hr.mono (by decide)) rfl (pa_cons (pv 2) pa_nil)) (pa_cons (pe_mkV G_NotDocument (hr.mono (by decide)) rfl (pa_cons (pv 2) pa_nil)) pa_nil)))))))))
  (pss_cons (ps_set (i := 6) sc_law.nd rfl (Or.inl rfl) (pe_op (op_addV (K := K) rfl) (pv 6) (pe_lst (pa_cons (pe_mkV G_NoDocument (hr.mono (by decide)) rfl (pa_cons (pv 2) pa_nil)) (pa_cons (pe_mkV G_NoLabel (hr.mono (by decide)) rfl (pa_cons (pv 2) pa_nil)) pa_nil)))))
  (pss_cons (ps_set (i := 6) sc_law.nd rfl (Or.inl rfl) (pe_op (op_addV (K := K) rfl) (pv 6) (pe_lst (pa_cons (pe_mkV G_BadKey (hr.mono (by decide)) rfl (pa_cons (pv 2) pa_nil)) (pa_cons (pe_mkV G_KeyTaken (hr.mono (by decide)) rfl (pa_cons (pv 2) pa_nil)) (pa_cons (pe_mkV G_UnknownKey (hr.mono (by decide)) rfl (pa_cons (pv 2) pa_nil)) (pa_cons (pe_mkV0 G_BadText rfl) (pa_cons (pe_mkV0 G_BadLabel rfl) (pa_cons (pe_mkV0 G_BadRow rfl) (pa_cons (pe_mkV0 G_BadJoints rfl) pa_nil))))))))))
  (pss_cons (ps_set (i := 6) sc_law.nd rfl (Or.inl rfl) (pe_op (op_addV (K := K) rfl) (pv 6) (pe_lst (pa_cons (pe_mkV0 G_UnlikeSchemes rfl) (pa_cons (pe_mkV0 G_NothingToUndo rfl) (pa_cons (pe_mkV G_NotLet (hr.mono (by decide)) rfl (pa_cons (pv 2) (pa_cons (pv 3) pa_nil))) pa_nil))))))
  (pss_cons (ps_for po rfl (pi_range1 rfl T.n_range (pa_cons (pe_callB (call_lenV (K := K) rfl) (by rfl) T.n_len (by decide +kernel) (pa_cons (pv 6) pa_nil)) pa_nil)) (pg_name (i := 4) sc_law.nd rfl (Or.inr rfl) (Or.inl rfl)) (pss_cons (ps_if (PW.pt (pw_or (pt_not (pt_truK (K := K) rfl (pe_callB (call_isiV (K := K) rfl) (by rfl) T.n_isinstance (by decide +kernel) (pa_cons (pe_ix (ix_V (K := K) rfl hr.units) (pv 6) (pv 4) (fun _ _ => rfl)) (pa_cons (pe_glob (v := .ref (He.ga K "PartError")) rfl T.g_PartError rfl) pa_nil))))) (pw_or1 (pt_not (pt_truK (K := K) rfl (pe_callB (call_isiV (K := K) rfl) (by rfl) T.n_isinstance (by decide +kernel) (pa_cons (pe_ix (ix_V (K := K) rfl hr.units) (pv 6) (pv 4) (fun _ _ => rfl)) (pa_cons (pe_bltn (v := .ty "ValueError") (u := .type "ValueError") (by rfl) T.n_ValueError (by decide +kernel) rfl) pa_nil)))))))) (pss_one (ps_ret pe_bl)) pss_nil)
  (pss_one (ps_if (pt_cmpR (op_neV2 (K := K) rfl hr.units) (pe_fn G_law_kinds (hr.mono (by decide)) tk rfl (pa_cons (pe_ix (ix_V (K := K) rfl hr.units) (pv 6) (pv 4) (fun _ _ => rfl)) pa_nil)) (pe_lc (own := [("_law_j", 8)]) rfl sc_law.nd (pi_range1 rfl T.n_range (pa_cons (pe_callB (call_lenV (K := K) rfl) (by rfl) T.n_len (by decide +kernel) (pa_cons (pv 6) pa_nil)) pa_nil)) (blkOk_by (N := ["_law_script", "_law_tape_here", "_law_a", "_law_b", "_law_k", "_law_both", "_law_errors", "_law_e", "_law_j"]) (sc := defScope s_law) (by decide +kernel)) (fun _ _ _ _ _ => (pg_name (i := 8) sc_law.nd rfl (Or.inl rfl) (Or.inr rfl))) (fun _ _ _ _ _ => pts_nil) (fun _ _ _ _ _ => (pe_cmpR (op_eqV2 (K := K) rfl hr.units) (pv 4) (pv 8) (nomark _)))) (nomark _)) (pss_one (ps_ret pe_bl)) pss_nil))))
  (pss_one (ps_ret pe_bl)))))))))))))), fun (ns : List Int) (hp : ns.length ≤ 63) Z hn hq hx => ?_⟩
  have e := hL ns
  unfold F_law at e
  refine body_D (b := b_law K) (n := 9) (k := 1) ?_ ⟨[.lst (ns.map .int)], rfl⟩ (fun z => ?_) Z (fun ρ z => ?_) (fun d ρ z => ?_) (fun c ρ z => ?_)
  · exact (sm_seq (sm_own (en_call (am_cons em_var (am_cons em_int am_nil))))
  (sm_seq (sm_set (em_callO am_nil))
  (sm_seq (sm_set (em_callO am_nil))
  (sm_seq (sm_if (tm_or (tm_test (em_op neF_ok (em_call (am_cons em_var am_nil)) (em_new (en_lc (im_rng1 (am_cons em_int am_nil)) (gm_name rfl) tm_yes em_var)))) (tm_test (em_op neF_ok (em_call (am_cons em_var am_nil)) (em_new (en_lc (im_rng1 (am_cons em_int am_nil)) (gm_name rfl) tm_yes em_var))))) (sm_ret em_bl) sm_next)
  (sm_seq (sm_set (em_new (en_lst (am_cons (em_mkV2 (am_cons em_var (am_cons em_var am_nil))) (am_cons (em_mkVK2 (am_cons em_var (am_cons em_var am_nil))) am_nil)))))
  (sm_seq (sm_if (tm_or (tm_test (em_op neF_ok (em_new (en_lc (im_any em_var) (gm_name rfl) tm_yes (em_xfV em_var))) (em_new (en_lst (am_cons em_var (am_cons em_var am_nil)))))) (tm_test (em_op neF_ok (em_new (en_lc (im_any em_var) (gm_name rfl) tm_yes (em_xfV em_var))) (em_new (en_lst (am_cons em_var (am_cons em_var am_nil))))))) (sm_ret em_bl) sm_next)
  (sm_seq (sm_set (em_new (en_lst (am_cons (em_mkV1 (am_cons em_var am_nil)) (am_cons (em_mkV1 (am_cons em_var am_nil)) (am_cons (em_mkV1 (am_cons em_var am_nil)) (am_cons (em_mkV1 (am_cons em_var am_nil)) (am_cons (em_mkV1 (am_cons em_var am_nil)) (am_cons (em_mkV1 (am_cons em_var am_nil)) am_nil)))))))))
  (sm_seq (sm_set (em_op addF_ok em_var (em_new (en_lst (am_cons (em_mkV1 (am_cons em_var am_nil)) (am_cons (em_mkV1 (am_cons em_var am_nil)) (am_cons (em_mkV1 (am_cons em_var am_nil)) (am_cons (em_mkV1 (am_cons em_var am_nil)) (am_cons (em_mkV1 (am_cons em_var am_nil)) (am_cons (em_mkV1 (am_cons em_var am_nil)) am_nil))))))))))
  (sm_seq (sm_set (em_op addF_ok em_var (em_new (en_lst (am_cons (em_mkV1 (am_cons em_var am_nil)) (am_cons (em_mkV1 (am_cons em_var am_nil)) am_nil))))))
  (sm_seq (sm_set (em_op addF_ok em_var (em_new (en_lst (am_cons (em_mkV1 (am_cons em_var am_nil)) (am_cons (em_mkV1 (am_cons em_var am_nil)) (am_cons (em_mkV1 (am_cons em_var am_nil)) (am_cons em_mkV0 (am_cons em_mkV0 (am_cons em_mkV0 (am_cons em_mkV0 am_nil)))))))))))
  (sm_seq (sm_set (em_op addF_ok em_var (em_new (en_lst (am_cons em_mkV0 (am_cons em_mkV0 (am_cons (em_mkV2 (am_cons em_var (am_cons em_var am_nil))) am_nil)))))))
  (sm_seq (sm_for (im_rng1 (am_cons (em_cb lenF_ok (am_cons em_var am_nil)) am_nil)) (gm_name rfl) (sm_seq (sm_if (tm_or (tm_not (tm_tru (em_cb (isiVF_ok T.cls T.xcl) (am_cons (em_op ixF_ok em_var em_var) (am_cons em_ref am_nil))))) (tm_not (tm_tru (em_cb (isiVF_ok T.cls T.xcl) (am_cons (em_op ixF_ok em_var em_var) (am_cons em_ty am_nil)))))) (sm_ret em_bl) sm_next)
  (sm_if (tm_test (em_op neF_ok (em_call (am_cons (em_op ixF_ok em_var em_var) am_nil)) (em_new (en_lc (im_rng1 (am_cons (em_cb lenF_ok (am_cons em_var am_nil)) am_nil)) (gm_name rfl) tm_yes (em_op eqF_ok em_var em_var))))) (sm_ret em_bl) sm_next)))
  (sm_ret em_bl)))))))))))))
  · exact nomatch (e.symm.trans z)
  · exact nomatch (e.symm.trans z)
  · cases (e.symm.trans z)
    exact hq _ _ rfl
  · exact nomatch (e.symm.trans z)
end
def spL (K : DL.Frag) : Sp := DSp K sp_law
theorem spL_of {K : DL.Frag} {H : Hp} {a : Addr} {ns : List Int} (hl : ns.length ≤ 63) (hS : SqL K H a (ns.map V.int)) : spL K [.ref a] H (fun v _ => v = .bl true) fun _ _ _ => False := by
  refine ⟨H, ns, Evl.Ex.refl H, repL_cons ?_ repL_nil, hl, fun d hd v H' _ r => ?_, fun c z => z.elim⟩
  · unfold Rep
    exact ⟨a, _, rfl, hS, repL_ints ns⟩
  · cases (show d = _ from hd)
    unfold Rep at r
    exact r

end T
set_option Elab.async false
set_option linter.all false
set_option maxRecDepth 100000
set_option autoImplicit false
set_option maxHeartbeats 4000000
namespace T
open PySem L2 DL
variable {K : DL.Frag}
local macro_rules | `(tactic| walk_at "ev") => `(tactic| simp only [r_D, r_N, r_O, st0, st1, List.map_cons, List.map_nil, List.length_cons, List.length_nil, List.cons_append, List.nil_append, Nat.reduceAdd, Nat.reduceSub, Nat.add_one_sub_one, List.replicate_succ, List.replicate_zero, List.getElem?_cons_zero, List.getElem?_cons_succ, List.set_cons_zero, List.set_cons_succ, DL.v_bind (ρ := _ :: _), DL.v_ret (ρ := _ :: _), DL.v_F (ρ := _ :: _), DL.v_var (ρ := _ :: _), DL.v_varF (ρ := _ :: _), DL.v_op (ρ := _ :: _), DL.v_un (ρ := _ :: _), DL.v_cb (ρ := _ :: _), DL.v_nil (ρ := _ :: _), DL.v_cons (ρ := _ :: _), DL.v_test (ρ := _ :: _), DL.v_tru (ρ := _ :: _), DL.v_and (ρ := _ :: _), DL.v_or (ρ := _ :: _), DL.v_not (ρ := _ :: _), DL.v_if (ρ := _ :: _), DL.v_andV (ρ := _ :: _), DL.v_orV (ρ := _ :: _), DL.v_notV (ρ := _ :: _), DL.v_chain (ρ := _ :: _), DL.v_tup (ρ := _ :: _), DL.v_lst (ρ := _ :: _), DL.v_noPart (ρ := _ :: _), DL.v_part (ρ := _ :: _), DL.v_sl (ρ := _ :: _), DL.v_mtS (ρ := _ :: _), DL.v_iter (ρ := _ :: _), DL.v_items (ρ := _ :: _), DL.v_vals (ρ := _ :: _), DL.v_itA (ρ := _ :: _), DL.v_itV (ρ := _ :: _), DL.v_rev (ρ := _ :: _), DL.v_mtL (ρ := _ :: _), DL.v_call (ρ := _ :: _), DL.v_callD (ρ := _ :: _), DL.v_callO (ρ := _ :: _), DL.v_fld (ρ := _ :: _), DL.v_meth (ρ := _ :: _), DL.v_prop (ρ := _ :: _), DL.v_make (ρ := _ :: _), DL.v_makeN (ρ := _ :: _), DL.v_lc (ρ := _ :: _), DL.v_dc (ρ := _ :: _), DL.v_get2 (ρ := _ :: _), DL.w_E (ρ := _ :: _), DL.w_seq (ρ := _ :: _), DL.w_next (ρ := _ :: _), DL.w_set (ρ := _ :: _), DL.w_own (ρ := _ :: _), DL.w_unp (ρ := _ :: _), DL.w_drop (ρ := _ :: _), DL.w_ret (ρ := _ :: _), DL.w_retN (ρ := _ :: _), DL.w_retNew (ρ := _ :: _), DL.w_retOwn (ρ := _ :: _), DL.w_if (ρ := _ :: _), DL.w_put (ρ := _ :: _), DL.w_for (ρ := _ :: _), DL.w_rai0 (ρ := _ :: _), DL.w_rai1 (ρ := _ :: _), DL.w_fld (ρ := _ :: _), DL.w_aug (ρ := _ :: _), kM_ok, kM_ex, kM_no, kM_if, kS_ok, kS_ex, kS_no, kS_if, kQ_nx, kQ_rt, kQ_rn, kQ_ex, kQ_bk, kQ_ct, kQ_no, kQ_if, kF_some, kF_no, DL.kV_sh, DL.kV_ow, kVF_sh, kVF_ow, kB_bl, kD_nx, kD_rt, kD_ex, kD_if, kN_rn, kN_ex, kN_if, kO_nx, kO_rt, kO_ex, kO_if, kI_int, kStr_str, kC_some, kOL_ow, kOw_ow, kOo_val, kOo_exc, kFl_ins, kPr_ins, kVal_val, kE_some, kRO_ow, kOI_ow, kJ_own, kSh_sh, kZ_some, kW_tt, kW_ff, kOpt_some, key_str, key_int, dicL_dicD, kLc_some, kDc_some, out_val, out_exc, out_if, outO_val, outO_exc, c_tf, c_val, c_rt, c_okS, c_valO, c_intD, c_strD, c_bl, c_ff, c_tt, c_same, lent_ev, kLn_sh, kLn_no, kLn_ow, kLn_lent, kLn_slS, kLn_none, real_non, real_bl, real_int, real_str, real_lst, real_tup, real_ins, real_ty, real_ref, real_own, allReal_consE, allReal_nilE, real_dic, Bool.and_self, Bool.and_true, Bool.true_and, Bool.and_false, Bool.false_and, Bool.or_true, Bool.true_or, Bool.or_false, Bool.false_or, and_self, and_true, true_and, if_true, reduceIte, cond_true, cond_false, Bool.not_true, Bool.not_false, Nat.reduceLeDiff, Nat.zero_le, Bool.not_not, l_lst, l_tup, l_strD, l_int, l_bl, l_non, l_dic, l_ins, l_own, kLk_ow, eq_int, eq_str, eq_bl, ne_int, ne_str, ne_bl, cmp_int, cmp_str, DL.add_int, DL.sub_int, DL.neg_int, DL.iadd_int, len_lst, len_tup, len_dic, DL.ix_lst, DL.ix_tup, ix_dicS, in_dicS, in_lstS, in_tupS, it_lst, it_tup, it_str, it_dic, list_lst, list_tup, list_dic, tup_lst, tup_tup, dict_dic, dict_prs, isi_int_int, isi_int_bool, isi_str_str, isi_tup_tup, tru_bl, tru_lst, isNon_non, isNon_bl, isNon_int, isNon_str, isNon_lst, isNon_tup, isNon_ins, isNon_dic, gfName, gfTup, gfCons, gfNil, List.contains_nil, noLent_consE, noLent_nilE, wipeE, stepL, kL_nx, absF, intF, decide_true, decide_false, Int.cast_ofNat_Int, Int.reduceLE, Nat.reduceLT, Int.reduceLT, Int.reduceEq, Int.reduceNeg, Bool.false_bne, Bool.true_bne])

/-! ### names, integers -/
def isN (z : Str) : Bool := decide (1 ≤ (z.length : Int)) && decide ((z.length : Int) ≤ 8) && decide (Txt.stripChars z "abcdefghijklmnopqrstuvwxyz" = "")
/-! ### deeds -/
structure Deed where
  set : Bool
  c : Str
  n : Int
def wdS (b : Bool) : Str := if b then "set" else "add"
def deedD (d : Deed) : Dt := .tup [.str (wdS d.set), .str d.c, .int d.n]
/-! ### known names -/
/-! ### labels -/
end T
set_option Elab.async false
set_option linter.all false
set_option maxRecDepth 100000
set_option autoImplicit false
set_option maxHeartbeats 4000000
namespace T
open PySem L2 DL
variable {K : DL.Frag}
local macro_rules | `(tactic| walk_at "ev") => `(tactic| simp only [r_D, r_N, r_O, st0, st1, List.map_cons, List.map_nil, List.length_cons, List.length_nil, List.cons_append, List.nil_append, Nat.reduceAdd, Nat.reduceSub, Nat.add_one_sub_one, List.replicate_succ, List.replicate_zero, List.getElem?_cons_zero, List.getElem?_cons_succ, List.set_cons_zero, List.set_cons_succ, DL.v_bind (ρ := _ :: _), DL.v_ret (ρ := _ :: _), DL.v_F (ρ := _ :: _), DL.v_var (ρ := _ :: _), DL.v_varF (ρ := _ :: _), DL.v_op (ρ := _ :: _), DL.v_un (ρ := _ :: _), DL.v_cb (ρ := _ :: _), DL.v_nil (ρ := _ :: _), DL.v_cons (ρ := _ :: _), DL.v_test (ρ := _ :: _), DL.v_tru (ρ := _ :: _), DL.v_and (ρ := _ :: _), DL.v_or (ρ := _ :: _), DL.v_not (ρ := _ :: _), DL.v_if (ρ := _ :: _), DL.v_andV (ρ := _ :: _), DL.v_orV (ρ := _ :: _), DL.v_notV (ρ := _ :: _), DL.v_chain (ρ := _ :: _), DL.v_tup (ρ := _ :: _), DL.v_lst (ρ := _ :: _), DL.v_noPart (ρ := _ :: _), DL.v_part (ρ := _ :: _), DL.v_sl (ρ := _ :: _), DL.v_mtS (ρ := _ :: _), DL.v_iter (ρ := _ :: _), DL.v_items (ρ := _ :: _), DL.v_vals (ρ := _ :: _), DL.v_itA (ρ := _ :: _), DL.v_itV (ρ := _ :: _), DL.v_rev (ρ := _ :: _), DL.v_mtL (ρ := _ :: _), DL.v_call (ρ := _ :: _), DL.v_callD (ρ := _ :: _), DL.v_callO (ρ := _ :: _), DL.v_fld (ρ := _ :: _), DL.v_meth (ρ := _ :: _), DL.v_prop (ρ := _ :: _), DL.v_make (ρ := _ :: _), DL.v_makeN (ρ := _ :: _), DL.v_lc (ρ := _ :: _), DL.v_dc (ρ := _ :: _), DL.v_get2 (ρ := _ :: _), DL.w_E (ρ := _ :: _), DL.w_seq (ρ := _ :: _), DL.w_next (ρ := _ :: _), DL.w_set (ρ := _ :: _), DL.w_own (ρ := _ :: _), DL.w_unp (ρ := _ :: _), DL.w_drop (ρ := _ :: _), DL.w_ret (ρ := _ :: _), DL.w_retN (ρ := _ :: _), DL.w_retNew (ρ := _ :: _), DL.w_retOwn (ρ := _ :: _), DL.w_if (ρ := _ :: _), DL.w_put (ρ := _ :: _), DL.w_for (ρ := _ :: _), DL.w_rai0 (ρ := _ :: _), DL.w_rai1 (ρ := _ :: _), DL.w_fld (ρ := _ :: _), DL.w_aug (ρ := _ :: _), kM_ok, kM_ex, kM_no, kM_if, kS_ok, kS_ex, kS_no, kS_if, kQ_nx, kQ_rt, kQ_rn, kQ_ex, kQ_bk, kQ_ct, kQ_no, kQ_if, kF_some, kF_no, DL.kV_sh, DL.kV_ow, kVF_sh, kVF_ow, kB_bl, kD_nx, kD_rt, kD_ex, kD_if, kN_rn, kN_ex, kN_if, kO_nx, kO_rt, kO_ex, kO_if, kI_int, kStr_str, kC_some, kOL_ow, kOw_ow, kOo_val, kOo_exc, kFl_ins, kPr_ins, kVal_val, kE_some, kRO_ow, kOI_ow, kJ_own, kSh_sh, kZ_some, kW_tt, kW_ff, kOpt_some, key_str, key_int, dicL_dicD, kLc_some, kDc_some, out_val, out_exc, out_if, outO_val, outO_exc, c_tf, c_val, c_rt, c_okS, c_valO, c_intD, c_strD, c_bl, c_ff, c_tt, c_same, lent_ev, kLn_sh, kLn_no, kLn_ow, kLn_lent, kLn_slS, kLn_none, real_non, real_bl, real_int, real_str, real_lst, real_tup, real_ins, real_ty, real_ref, real_own, allReal_consE, allReal_nilE, real_dic, Bool.and_self, Bool.and_true, Bool.true_and, Bool.and_false, Bool.false_and, Bool.or_true, Bool.true_or, Bool.or_false, Bool.false_or, and_self, and_true, true_and, if_true, reduceIte, cond_true, cond_false, Bool.not_true, Bool.not_false, Nat.reduceLeDiff, Nat.zero_le, Bool.not_not, l_lst, l_tup, l_strD, l_int, l_bl, l_non, l_dic, l_ins, l_own, kLk_ow, eq_int, eq_str, eq_bl, ne_int, ne_str, ne_bl, cmp_int, cmp_str, DL.add_int, DL.sub_int, DL.neg_int, DL.iadd_int, len_lst, len_tup, len_dic, DL.ix_lst, DL.ix_tup, ix_dicS, in_dicS, in_lstS, in_tupS, it_lst, it_tup, it_str, it_dic, list_lst, list_tup, list_dic, tup_lst, tup_tup, dict_dic, dict_prs, isi_int_int, isi_int_bool, isi_str_str, isi_tup_tup, tru_bl, tru_lst, isNon_non, isNon_bl, isNon_int, isNon_str, isNon_lst, isNon_tup, isNon_ins, isNon_dic, gfName, gfTup, gfCons, gfNil, List.contains_nil, noLent_consE, noLent_nilE, wipeE, stepL, kL_nx, absF, intF, decide_true, decide_false, Int.cast_ofNat_Int, Int.reduceLE, Nat.reduceLT, Int.reduceLT, Int.reduceEq, Int.reduceNeg, Bool.false_bne, Bool.true_bne])

/-! ### labels -/
structure Tmpl where
  head : Str
  shown : List (Str × Bool)
  joints : List Str
def formS (b : Bool) : Str := if b then "letters" else "figures"
def slotD (p : Str × Bool) : Dt := .tup [.str p.1, .str (formS p.2)]
def labelD (K : DL.Frag) (t : Tmpl) : Dt := .ins (He.ga K "Label") ["first", "slots", "signs"] [.str t.head, .tup (t.shown.map slotD), .tup (strsD t.joints)]
theorem real_deed (d : Deed) : (deedD d).real = true := rfl
theorem real_label (t : Tmpl) : (labelD K t).real = true := rfl
abbrev headsL : List Str := ["", "Figure ", "No item ", "a "]
structure TmplOk (names : List Str) (t : Tmpl) : Prop where
  head : t.head ∈ headsL
  some : 1 ≤ t.shown.length
  most : t.shown.length ≤ 4
  nd : (t.shown.map (·.1)).Nodup
  nm : ∀ p ∈ t.shown, isN p.1 = true ∧ p.1 ∈ names
  len : t.joints.length + 1 = t.shown.length
  js : ∀ j ∈ t.joints, j ∈ ([".", ":", "/"] : List Str)
def labOf (K : DL.Frag) : Option Tmpl → Dt
  | none => .non
  | some t => labelD K t
theorem real_lab (o : Option Tmpl) : (labOf K o).real = true := by cases o <;> rfl
end T
set_option Elab.async false
set_option linter.all false
set_option maxRecDepth 100000
set_option autoImplicit false
set_option maxHeartbeats 4000000
namespace T
open PySem L2 DL
variable {K : DL.Frag}
local macro_rules | `(tactic| walk_at "ev") => `(tactic| simp only [r_D, r_N, r_O, st0, st1, List.map_cons, List.map_nil, List.length_cons, List.length_nil, List.cons_append, List.nil_append, Nat.reduceAdd, Nat.reduceSub, Nat.add_one_sub_one, List.replicate_succ, List.replicate_zero, List.getElem?_cons_zero, List.getElem?_cons_succ, List.set_cons_zero, List.set_cons_succ, DL.v_bind (ρ := _ :: _), DL.v_ret (ρ := _ :: _), DL.v_F (ρ := _ :: _), DL.v_var (ρ := _ :: _), DL.v_varF (ρ := _ :: _), DL.v_op (ρ := _ :: _), DL.v_un (ρ := _ :: _), DL.v_cb (ρ := _ :: _), DL.v_nil (ρ := _ :: _), DL.v_cons (ρ := _ :: _), DL.v_test (ρ := _ :: _), DL.v_tru (ρ := _ :: _), DL.v_and (ρ := _ :: _), DL.v_or (ρ := _ :: _), DL.v_not (ρ := _ :: _), DL.v_if (ρ := _ :: _), DL.v_andV (ρ := _ :: _), DL.v_orV (ρ := _ :: _), DL.v_notV (ρ := _ :: _), DL.v_chain (ρ := _ :: _), DL.v_tup (ρ := _ :: _), DL.v_lst (ρ := _ :: _), DL.v_noPart (ρ := _ :: _), DL.v_part (ρ := _ :: _), DL.v_sl (ρ := _ :: _), DL.v_mtS (ρ := _ :: _), DL.v_iter (ρ := _ :: _), DL.v_items (ρ := _ :: _), DL.v_vals (ρ := _ :: _), DL.v_itA (ρ := _ :: _), DL.v_itV (ρ := _ :: _), DL.v_rev (ρ := _ :: _), DL.v_mtL (ρ := _ :: _), DL.v_call (ρ := _ :: _), DL.v_callD (ρ := _ :: _), DL.v_callO (ρ := _ :: _), DL.v_fld (ρ := _ :: _), DL.v_meth (ρ := _ :: _), DL.v_prop (ρ := _ :: _), DL.v_make (ρ := _ :: _), DL.v_makeN (ρ := _ :: _), DL.v_lc (ρ := _ :: _), DL.v_dc (ρ := _ :: _), DL.v_get2 (ρ := _ :: _), DL.w_E (ρ := _ :: _), DL.w_seq (ρ := _ :: _), DL.w_next (ρ := _ :: _), DL.w_set (ρ := _ :: _), DL.w_own (ρ := _ :: _), DL.w_unp (ρ := _ :: _), DL.w_drop (ρ := _ :: _), DL.w_ret (ρ := _ :: _), DL.w_retN (ρ := _ :: _), DL.w_retNew (ρ := _ :: _), DL.w_retOwn (ρ := _ :: _), DL.w_if (ρ := _ :: _), DL.w_put (ρ := _ :: _), DL.w_for (ρ := _ :: _), DL.w_rai0 (ρ := _ :: _), DL.w_rai1 (ρ := _ :: _), DL.w_fld (ρ := _ :: _), DL.w_aug (ρ := _ :: _), kM_ok, kM_ex, kM_no, kM_if, kS_ok, kS_ex, kS_no, kS_if, kQ_nx, kQ_rt, kQ_rn, kQ_ex, kQ_bk, kQ_ct, kQ_no, kQ_if, kF_some, kF_no, DL.kV_sh, DL.kV_ow, kVF_sh, kVF_ow, kB_bl, kD_nx, kD_rt, kD_ex, kD_if, kN_rn, kN_ex, kN_if, kO_nx, kO_rt, kO_ex, kO_if, kI_int, kStr_str, kC_some, kOL_ow, kOw_ow, kOo_val, kOo_exc, kFl_ins, kPr_ins, kVal_val, kE_some, kRO_ow, kOI_ow, kJ_own, kSh_sh, kZ_some, kW_tt, kW_ff, kOpt_some, key_str, key_int, dicL_dicD, kLc_some, kDc_some, out_val, out_exc, out_if, outO_val, outO_exc, c_tf, c_val, c_rt, c_okS, c_valO, c_intD, c_strD, c_bl, c_ff, c_tt, c_same, lent_ev, kLn_sh, kLn_no, kLn_ow, kLn_lent, kLn_slS, kLn_none, real_non, real_bl, real_int, real_str, real_lst, real_tup, real_ins, real_ty, real_ref, real_own, allReal_consE, allReal_nilE, real_dic, Bool.and_self, Bool.and_true, Bool.true_and, Bool.and_false, Bool.false_and, Bool.or_true, Bool.true_or, Bool.or_false, Bool.false_or, and_self, and_true, true_and, if_true, reduceIte, cond_true, cond_false, Bool.not_true, Bool.not_false, Nat.reduceLeDiff, Nat.zero_le, Bool.not_not, l_lst, l_tup, l_strD, l_int, l_bl, l_non, l_dic, l_ins, l_own, kLk_ow, eq_int, eq_str, eq_bl, ne_int, ne_str, ne_bl, cmp_int, cmp_str, DL.add_int, DL.sub_int, DL.neg_int, DL.iadd_int, len_lst, len_tup, len_dic, DL.ix_lst, DL.ix_tup, ix_dicS, in_dicS, in_lstS, in_tupS, it_lst, it_tup, it_str, it_dic, list_lst, list_tup, list_dic, tup_lst, tup_tup, dict_dic, dict_prs, isi_int_int, isi_int_bool, isi_str_str, isi_tup_tup, tru_bl, tru_lst, isNon_non, isNon_bl, isNon_int, isNon_str, isNon_lst, isNon_tup, isNon_ins, isNon_dic, gfName, gfTup, gfCons, gfNil, List.contains_nil, noLent_consE, noLent_nilE, wipeE, stepL, kL_nx, absF, intF, decide_true, decide_false, Int.cast_ofNat_Int, Int.reduceLE, Nat.reduceLT, Int.reduceLT, Int.reduceEq, Int.reduceNeg, Bool.false_bne, Bool.true_bne, real_deed, real_lab, real_label])

/-! ### kinds -/
end T
set_option Elab.async false
set_option linter.all false
set_option maxRecDepth 100000
set_option autoImplicit false
set_option maxHeartbeats 4000000
namespace T
open PySem L2 DL
variable {K : DL.Frag}
local macro_rules | `(tactic| walk_at "ev") => `(tactic| simp only [r_D, r_N, r_O, st0, st1, List.map_cons, List.map_nil, List.length_cons, List.length_nil, List.cons_append, List.nil_append, Nat.reduceAdd, Nat.reduceSub, Nat.add_one_sub_one, List.replicate_succ, List.replicate_zero, List.getElem?_cons_zero, List.getElem?_cons_succ, List.set_cons_zero, List.set_cons_succ, DL.v_bind (ρ := _ :: _), DL.v_ret (ρ := _ :: _), DL.v_F (ρ := _ :: _), DL.v_var (ρ := _ :: _), DL.v_varF (ρ := _ :: _), DL.v_op (ρ := _ :: _), DL.v_un (ρ := _ :: _), DL.v_cb (ρ := _ :: _), DL.v_nil (ρ := _ :: _), DL.v_cons (ρ := _ :: _), DL.v_test (ρ := _ :: _), DL.v_tru (ρ := _ :: _), DL.v_and (ρ := _ :: _), DL.v_or (ρ := _ :: _), DL.v_not (ρ := _ :: _), DL.v_if (ρ := _ :: _), DL.v_andV (ρ := _ :: _), DL.v_orV (ρ := _ :: _), DL.v_notV (ρ := _ :: _), DL.v_chain (ρ := _ :: _), DL.v_tup (ρ := _ :: _), DL.v_lst (ρ := _ :: _), DL.v_noPart (ρ := _ :: _), DL.v_part (ρ := _ :: _), DL.v_sl (ρ := _ :: _), DL.v_mtS (ρ := _ :: _), DL.v_iter (ρ := _ :: _), DL.v_items (ρ := _ :: _), DL.v_vals (ρ := _ :: _), DL.v_itA (ρ := _ :: _), DL.v_itV (ρ := _ :: _), DL.v_rev (ρ := _ :: _), DL.v_mtL (ρ := _ :: _), DL.v_call (ρ := _ :: _), DL.v_callD (ρ := _ :: _), DL.v_callO (ρ := _ :: _), DL.v_fld (ρ := _ :: _), DL.v_meth (ρ := _ :: _), DL.v_prop (ρ := _ :: _), DL.v_make (ρ := _ :: _), DL.v_makeN (ρ := _ :: _), DL.v_lc (ρ := _ :: _), DL.v_dc (ρ := _ :: _), DL.v_get2 (ρ := _ :: _), DL.w_E (ρ := _ :: _), DL.w_seq (ρ := _ :: _), DL.w_next (ρ := _ :: _), DL.w_set (ρ := _ :: _), DL.w_own (ρ := _ :: _), DL.w_unp (ρ := _ :: _), DL.w_drop (ρ := _ :: _), DL.w_ret (ρ := _ :: _), DL.w_retN (ρ := _ :: _), DL.w_retNew (ρ := _ :: _), DL.w_retOwn (ρ := _ :: _), DL.w_if (ρ := _ :: _), DL.w_put (ρ := _ :: _), DL.w_for (ρ := _ :: _), DL.w_rai0 (ρ := _ :: _), DL.w_rai1 (ρ := _ :: _), DL.w_fld (ρ := _ :: _), DL.w_aug (ρ := _ :: _), kM_ok, kM_ex, kM_no, kM_if, kS_ok, kS_ex, kS_no, kS_if, kQ_nx, kQ_rt, kQ_rn, kQ_ex, kQ_bk, kQ_ct, kQ_no, kQ_if, kF_some, kF_no, DL.kV_sh, DL.kV_ow, kVF_sh, kVF_ow, kB_bl, kD_nx, kD_rt, kD_ex, kD_if, kN_rn, kN_ex, kN_if, kO_nx, kO_rt, kO_ex, kO_if, kI_int, kStr_str, kC_some, kOL_ow, kOw_ow, kOo_val, kOo_exc, kFl_ins, kPr_ins, kVal_val, kE_some, kRO_ow, kOI_ow, kJ_own, kSh_sh, kZ_some, kW_tt, kW_ff, kOpt_some, key_str, key_int, dicL_dicD, kLc_some, kDc_some, out_val, out_exc, out_if, outO_val, outO_exc, c_tf, c_val, c_rt, c_okS, c_valO, c_intD, c_strD, c_bl, c_ff, c_tt, c_same, lent_ev, kLn_sh, kLn_no, kLn_ow, kLn_lent, kLn_slS, kLn_none, real_non, real_bl, real_int, real_str, real_lst, real_tup, real_ins, real_ty, real_ref, real_own, allReal_consE, allReal_nilE, real_dic, Bool.and_self, Bool.and_true, Bool.true_and, Bool.and_false, Bool.false_and, Bool.or_true, Bool.true_or, Bool.or_false, Bool.false_or, and_self, and_true, true_and, if_true, reduceIte, cond_true, cond_false, Bool.not_true, Bool.not_false, Nat.reduceLeDiff, Nat.zero_le, Bool.not_not, l_lst, l_tup, l_strD, l_int, l_bl, l_non, l_dic, l_ins, l_own, kLk_ow, eq_int, eq_str, eq_bl, ne_int, ne_str, ne_bl, cmp_int, cmp_str, DL.add_int, DL.sub_int, DL.neg_int, DL.iadd_int, len_lst, len_tup, len_dic, DL.ix_lst, DL.ix_tup, ix_dicS, in_dicS, in_lstS, in_tupS, it_lst, it_tup, it_str, it_dic, list_lst, list_tup, list_dic, tup_lst, tup_tup, dict_dic, dict_prs, isi_int_int, isi_int_bool, isi_str_str, isi_tup_tup, tru_bl, tru_lst, isNon_non, isNon_bl, isNon_int, isNon_str, isNon_lst, isNon_tup, isNon_ins, isNon_dic, gfName, gfTup, gfCons, gfNil, List.contains_nil, noLent_consE, noLent_nilE, wipeE, stepL, kL_nx, absF, intF, decide_true, decide_false, Int.cast_ofNat_Int, Int.reduceLE, Nat.reduceLT, Int.reduceLT, Int.reduceEq, Int.reduceNeg, Bool.false_bne, Bool.true_bne, real_deed, real_lab, real_label, real_seq, real_deeds, real_starts, real_kinds, real_fol, real_beg, real_map])

/-! ### schemes -/
def getS {α : Type} (l : List (Str × α)) (z : Str) : Option α := (l.find? fun p => decide (p.1 = z)).map (·.2)
/-- a dict with texts as keys -/
def mapD {α : Type} (f : α → Dt) (l : List (Str × α)) : Dt := dicD (kvL (l.map fun p => (p.1, f p.2)))
theorem real_map {α : Type} (f : α → Dt) (l : List (Str × α)) : (mapD f l).real = true := rfl
structure Kd where
  tp : Bool
  deeds : List Deed
  lab : Option Tmpl
structure SIn where
  starts : List (Str × Int)
  kinds : List (Str × Kd)
  fol : Option (List (Str × (Bool × List Str)))
  beg : Option (Bool × List Str)
def seqD (b : Bool) (zs : List Str) : Dt := if b then .tup (strsD zs) else .lst (strsD zs)
def deedsD (k : Kd) : Dt := if k.tp then .tup (k.deeds.map deedD) else .lst (k.deeds.map deedD)
def kindD (K : DL.Frag) (k : Kd) : Dt := .tup [deedsD k, labOf K k.lab]
theorem real_seq (b : Bool) (zs : List Str) : (seqD b zs).real = true := by cases b <;> rfl
theorem real_deeds (k : Kd) : (deedsD k).real = true := by
  unfold deedsD
  cases k.tp <;> rfl
def startsD (s : SIn) : Dt := mapD .int s.starts
def kindsD (K : DL.Frag) (s : SIn) : Dt := mapD (kindD K) s.kinds
def folD (s : SIn) : Dt := match s.fol with
  | none => .non
  | some f => mapD (fun p => seqD p.1 p.2) f
def begD (s : SIn) : Dt := match s.beg with
  | none => .non
  | some b => seqD b.1 b.2
theorem real_starts (s : SIn) : (startsD s).real = true := rfl
theorem real_kinds (s : SIn) : (kindsD K s).real = true := rfl
theorem real_fol (s : SIn) : (folD s).real = true := by
  unfold folD
  cases s.fol <;> rfl
theorem real_beg (s : SIn) : (begD s).real = true := by
  unfold begD
  cases s.beg with
  | none => rfl
  | some b => exact real_seq _ _
def SIn.names (s : SIn) : List Str := s.starts.map (·.1)
def SIn.sorts (s : SIn) : List Str := s.kinds.map (·.1)
/-- the kinds that may follow -/
def SIn.next (s : SIn) (k : Str) : List Str := match s.fol with
  | none => s.sorts
  | some f => match getS f k with
    | some p => p.2
    | none => []
def SIn.first (s : SIn) : List Str := match s.beg with
  | none => s.sorts
  | some b => b.2
def SIn.startOf (s : SIn) (n : Str) : Int := (getS s.starts n).getD 0
def SIn.kindOf (s : SIn) (k : Str) : Kd := (getS s.kinds k).getD ⟨false, [], none⟩
structure SOk (s : SIn) : Prop where
  n1 : 1 ≤ s.starts.length
  n4 : s.starts.length ≤ 4
  nn : s.names.Nodup
  ni : ∀ n ∈ s.names, isN n = true
  st : ∀ p ∈ s.starts, 0 ≤ p.2 ∧ p.2 ≤ 99
  k1 : 1 ≤ s.kinds.length
  k6 : s.kinds.length ≤ 6
  kn : s.sorts.Nodup
  ki : ∀ n ∈ s.sorts, isN n = true
  d6 : ∀ p ∈ s.kinds, p.2.deeds.length ≤ 6
  de : ∀ p ∈ s.kinds, ∀ d ∈ p.2.deeds, d.c ∈ s.names ∧ (if d.set then (0 : Int) else 1) ≤ d.n ∧ d.n ≤ 99
  la : ∀ p ∈ s.kinds, ∀ t, p.2.lab = some t → TmplOk s.names t
  f6 : ∀ f, s.fol = some f → f.length < 64
  fk : ∀ f, s.fol = some f → ∀ p ∈ f, p.1 ∈ s.sorts ∧ ∀ z ∈ p.2.2, z ∈ s.sorts
  bk : ∀ b, s.beg = some b → ∀ z ∈ b.2, z ∈ s.sorts
def fv (s : SIn) : Dt := mapD (fun n => .int (s.startOf n)) ((sortS s.names).map fun n => (n, n))
def ad (s : SIn) : Dt := mapD (fun k => .tup ((s.kindOf k).deeds.map deedD)) ((sortS s.sorts).map fun n => (n, n))
def al (K : DL.Frag) (s : SIn) : Dt := mapD (fun k => labOf K (s.kindOf k).lab) ((sortS s.sorts).map fun n => (n, n))
def nk (s : SIn) : Dt := mapD (fun k => .tup (strsD ((sortS s.sorts).filter fun o => decide (o ∈ s.next k)))) ((sortS s.sorts).map fun n => (n, n))
def fk (s : SIn) : Dt := .tup (strsD ((sortS s.sorts).filter fun o => decide (o ∈ s.first)))
def schemeD (K : DL.Frag) (s : SIn) : Dt := .ins (He.ga K "Scheme") ["first_values", "all_deeds", "all_labels", "next_kinds", "first_kinds"] [fv s, ad s, al K s, nk s, fk s]
end T
set_option Elab.async false
set_option linter.all false
set_option maxRecDepth 100000
set_option autoImplicit false
set_option maxHeartbeats 4000000
namespace T
open PySem L2 DL
variable {K : DL.Frag}
local macro_rules | `(tactic| walk_at "ev") => `(tactic| simp only [r_D, r_N, r_O, st0, st1, List.map_cons, List.map_nil, List.length_cons, List.length_nil, List.cons_append, List.nil_append, Nat.reduceAdd, Nat.reduceSub, Nat.add_one_sub_one, List.replicate_succ, List.replicate_zero, List.getElem?_cons_zero, List.getElem?_cons_succ, List.set_cons_zero, List.set_cons_succ, DL.v_bind (ρ := _ :: _), DL.v_ret (ρ := _ :: _), DL.v_F (ρ := _ :: _), DL.v_var (ρ := _ :: _), DL.v_varF (ρ := _ :: _), DL.v_op (ρ := _ :: _), DL.v_un (ρ := _ :: _), DL.v_cb (ρ := _ :: _), DL.v_nil (ρ := _ :: _), DL.v_cons (ρ := _ :: _), DL.v_test (ρ := _ :: _), DL.v_tru (ρ := _ :: _), DL.v_and (ρ := _ :: _), DL.v_or (ρ := _ :: _), DL.v_not (ρ := _ :: _), DL.v_if (ρ := _ :: _), DL.v_andV (ρ := _ :: _), DL.v_orV (ρ := _ :: _), DL.v_notV (ρ := _ :: _), DL.v_chain (ρ := _ :: _), DL.v_tup (ρ := _ :: _), DL.v_lst (ρ := _ :: _), DL.v_noPart (ρ := _ :: _), DL.v_part (ρ := _ :: _), DL.v_sl (ρ := _ :: _), DL.v_mtS (ρ := _ :: _), DL.v_iter (ρ := _ :: _), DL.v_items (ρ := _ :: _), DL.v_vals (ρ := _ :: _), DL.v_itA (ρ := _ :: _), DL.v_itV (ρ := _ :: _), DL.v_rev (ρ := _ :: _), DL.v_mtL (ρ := _ :: _), DL.v_call (ρ := _ :: _), DL.v_callD (ρ := _ :: _), DL.v_callO (ρ := _ :: _), DL.v_fld (ρ := _ :: _), DL.v_meth (ρ := _ :: _), DL.v_prop (ρ := _ :: _), DL.v_make (ρ := _ :: _), DL.v_makeN (ρ := _ :: _), DL.v_lc (ρ := _ :: _), DL.v_dc (ρ := _ :: _), DL.v_get2 (ρ := _ :: _), DL.w_E (ρ := _ :: _), DL.w_seq (ρ := _ :: _), DL.w_next (ρ := _ :: _), DL.w_set (ρ := _ :: _), DL.w_own (ρ := _ :: _), DL.w_unp (ρ := _ :: _), DL.w_drop (ρ := _ :: _), DL.w_ret (ρ := _ :: _), DL.w_retN (ρ := _ :: _), DL.w_retNew (ρ := _ :: _), DL.w_retOwn (ρ := _ :: _), DL.w_if (ρ := _ :: _), DL.w_put (ρ := _ :: _), DL.w_for (ρ := _ :: _), DL.w_rai0 (ρ := _ :: _), DL.w_rai1 (ρ := _ :: _), DL.w_fld (ρ := _ :: _), DL.w_aug (ρ := _ :: _), kM_ok, kM_ex, kM_no, kM_if, kS_ok, kS_ex, kS_no, kS_if, kQ_nx, kQ_rt, kQ_rn, kQ_ex, kQ_bk, kQ_ct, kQ_no, kQ_if, kF_some, kF_no, DL.kV_sh, DL.kV_ow, kVF_sh, kVF_ow, kB_bl, kD_nx, kD_rt, kD_ex, kD_if, kN_rn, kN_ex, kN_if, kO_nx, kO_rt, kO_ex, kO_if, kI_int, kStr_str, kC_some, kOL_ow, kOw_ow, kOo_val, kOo_exc, kFl_ins, kPr_ins, kVal_val, kE_some, kRO_ow, kOI_ow, kJ_own, kSh_sh, kZ_some, kW_tt, kW_ff, kOpt_some, key_str, key_int, dicL_dicD, kLc_some, kDc_some, out_val, out_exc, out_if, outO_val, outO_exc, c_tf, c_val, c_rt, c_okS, c_valO, c_intD, c_strD, c_bl, c_ff, c_tt, c_same, lent_ev, kLn_sh, kLn_no, kLn_ow, kLn_lent, kLn_slS, kLn_none, real_non, real_bl, real_int, real_str, real_lst, real_tup, real_ins, real_ty, real_ref, real_own, allReal_consE, allReal_nilE, real_dic, Bool.and_self, Bool.and_true, Bool.true_and, Bool.and_false, Bool.false_and, Bool.or_true, Bool.true_or, Bool.or_false, Bool.false_or, and_self, and_true, true_and, if_true, reduceIte, cond_true, cond_false, Bool.not_true, Bool.not_false, Nat.reduceLeDiff, Nat.zero_le, Bool.not_not, l_lst, l_tup, l_strD, l_int, l_bl, l_non, l_dic, l_ins, l_own, kLk_ow, eq_int, eq_str, eq_bl, ne_int, ne_str, ne_bl, cmp_int, cmp_str, DL.add_int, DL.sub_int, DL.neg_int, DL.iadd_int, len_lst, len_tup, len_dic, DL.ix_lst, DL.ix_tup, ix_dicS, in_dicS, in_lstS, in_tupS, it_lst, it_tup, it_str, it_dic, list_lst, list_tup, list_dic, tup_lst, tup_tup, dict_dic, dict_prs, isi_int_int, isi_int_bool, isi_str_str, isi_tup_tup, tru_bl, tru_lst, isNon_non, isNon_bl, isNon_int, isNon_str, isNon_lst, isNon_tup, isNon_ins, isNon_dic, gfName, gfTup, gfCons, gfNil, List.contains_nil, noLent_consE, noLent_nilE, wipeE, stepL, kL_nx, absF, intF, decide_true, decide_false, Int.cast_ofNat_Int, Int.reduceLE, Nat.reduceLT, Int.reduceLT, Int.reduceEq, Int.reduceNeg, Bool.false_bne, Bool.true_bne, real_deed, real_lab, real_label, real_seq, real_deeds, real_starts, real_kinds, real_fol, real_beg, real_map])

end T
set_option Elab.async false
set_option linter.all false
set_option maxRecDepth 100000
set_option autoImplicit false
set_option maxHeartbeats 4000000
namespace T
open PySem L2 DL
variable {K : DL.Frag}
local macro_rules | `(tactic| walk_at "ev") => `(tactic| simp only [r_D, r_N, r_O, st0, st1, List.map_cons, List.map_nil, List.length_cons, List.length_nil, List.cons_append, List.nil_append, Nat.reduceAdd, Nat.reduceSub, Nat.add_one_sub_one, List.replicate_succ, List.replicate_zero, List.getElem?_cons_zero, List.getElem?_cons_succ, List.set_cons_zero, List.set_cons_succ, DL.v_bind (ρ := _ :: _), DL.v_ret (ρ := _ :: _), DL.v_F (ρ := _ :: _), DL.v_var (ρ := _ :: _), DL.v_varF (ρ := _ :: _), DL.v_op (ρ := _ :: _), DL.v_un (ρ := _ :: _), DL.v_cb (ρ := _ :: _), DL.v_nil (ρ := _ :: _), DL.v_cons (ρ := _ :: _), DL.v_test (ρ := _ :: _), DL.v_tru (ρ := _ :: _), DL.v_and (ρ := _ :: _), DL.v_or (ρ := _ :: _), DL.v_not (ρ := _ :: _), DL.v_if (ρ := _ :: _), DL.v_andV (ρ := _ :: _), DL.v_orV (ρ := _ :: _), DL.v_notV (ρ := _ :: _), DL.v_chain (ρ := _ :: _), DL.v_tup (ρ := _ :: _), DL.v_lst (ρ := _ :: _), DL.v_noPart (ρ := _ :: _), DL.v_part (ρ := _ :: _), DL.v_sl (ρ := _ :: _), DL.v_mtS (ρ := _ :: _), DL.v_iter (ρ := _ :: _), DL.v_items (ρ := _ :: _), DL.v_vals (ρ := _ :: _), DL.v_itA (ρ := _ :: _), DL.v_itV (ρ := _ :: _), DL.v_rev (ρ := _ :: _), DL.v_mtL (ρ := _ :: _), DL.v_call (ρ := _ :: _), DL.v_callD (ρ := _ :: _), DL.v_callO (ρ := _ :: _), DL.v_fld (ρ := _ :: _), DL.v_meth (ρ := _ :: _), DL.v_prop (ρ := _ :: _), DL.v_make (ρ := _ :: _), DL.v_makeN (ρ := _ :: _), DL.v_lc (ρ := _ :: _), DL.v_dc (ρ := _ :: _), DL.v_get2 (ρ := _ :: _), DL.w_E (ρ := _ :: _), DL.w_seq (ρ := _ :: _), DL.w_next (ρ := _ :: _), DL.w_set (ρ := _ :: _), DL.w_own (ρ := _ :: _), DL.w_unp (ρ := _ :: _), DL.w_drop (ρ := _ :: _), DL.w_ret (ρ := _ :: _), DL.w_retN (ρ := _ :: _), DL.w_retNew (ρ := _ :: _), DL.w_retOwn (ρ := _ :: _), DL.w_if (ρ := _ :: _), DL.w_put (ρ := _ :: _), DL.w_for (ρ := _ :: _), DL.w_rai0 (ρ := _ :: _), DL.w_rai1 (ρ := _ :: _), DL.w_fld (ρ := _ :: _), DL.w_aug (ρ := _ :: _), kM_ok, kM_ex, kM_no, kM_if, kS_ok, kS_ex, kS_no, kS_if, kQ_nx, kQ_rt, kQ_rn, kQ_ex, kQ_bk, kQ_ct, kQ_no, kQ_if, kF_some, kF_no, DL.kV_sh, DL.kV_ow, kVF_sh, kVF_ow, kB_bl, kD_nx, kD_rt, kD_ex, kD_if, kN_rn, kN_ex, kN_if, kO_nx, kO_rt, kO_ex, kO_if, kI_int, kStr_str, kC_some, kOL_ow, kOw_ow, kOo_val, kOo_exc, kFl_ins, kPr_ins, kVal_val, kE_some, kRO_ow, kOI_ow, kJ_own, kSh_sh, kZ_some, kW_tt, kW_ff, kOpt_some, key_str, key_int, dicL_dicD, kLc_some, kDc_some, out_val, out_exc, out_if, outO_val, outO_exc, c_tf, c_val, c_rt, c_okS, c_valO, c_intD, c_strD, c_bl, c_ff, c_tt, c_same, lent_ev, kLn_sh, kLn_no, kLn_ow, kLn_lent, kLn_slS, kLn_none, real_non, real_bl, real_int, real_str, real_lst, real_tup, real_ins, real_ty, real_ref, real_own, allReal_consE, allReal_nilE, real_dic, Bool.and_self, Bool.and_true, Bool.true_and, Bool.and_false, Bool.false_and, Bool.or_true, Bool.true_or, Bool.or_false, Bool.false_or, and_self, and_true, true_and, if_true, reduceIte, cond_true, cond_false, Bool.not_true, Bool.not_false, Nat.reduceLeDiff, Nat.zero_le, Bool.not_not, l_lst, l_tup, l_strD, l_int, l_bl, l_non, l_dic, l_ins, l_own, kLk_ow, eq_int, eq_str, eq_bl, ne_int, ne_str, ne_bl, cmp_int, cmp_str, DL.add_int, DL.sub_int, DL.neg_int, DL.iadd_int, len_lst, len_tup, len_dic, DL.ix_lst, DL.ix_tup, ix_dicS, in_dicS, in_lstS, in_tupS, it_lst, it_tup, it_str, it_dic, list_lst, list_tup, list_dic, tup_lst, tup_tup, dict_dic, dict_prs, isi_int_int, isi_int_bool, isi_str_str, isi_tup_tup, tru_bl, tru_lst, isNon_non, isNon_bl, isNon_int, isNon_str, isNon_lst, isNon_tup, isNon_ins, isNon_dic, gfName, gfTup, gfCons, gfNil, List.contains_nil, noLent_consE, noLent_nilE, wipeE, stepL, kL_nx, absF, intF, decide_true, decide_false, Int.cast_ofNat_Int, Int.reduceLE, Nat.reduceLT, Int.reduceLT, Int.reduceEq, Int.reduceNeg, Bool.false_bne, Bool.true_bne])

/-! ### texts of numbers -/
open M12 (dig wrd tx dig_lt dig_ge wrd_0 wrd_s tx_app tx_len str_int dig_len wrd_len)
/-! ### texts of labels -/
end T
set_option Elab.async false
set_option linter.all false
set_option maxRecDepth 100000
set_option autoImplicit false
set_option maxHeartbeats 4000000
namespace T
open PySem L2 DL
variable {K : DL.Frag}

/-! ### values of counters -/
open M12 (dig wrd tx tx_app tx_len dig_len wrd_len)
def vD (ks : List Str) (f : Str → Nat) : Dt := mapD (fun n => .int (f n : Nat)) (ks.map fun n => (n, n))
theorem real_vD (ks : List Str) (f : Str → Nat) : (vD ks f).real = true := rfl
theorem look_vD (ks : List Str) (f : Str → Nat) (ρ : En) : look ρ (vD ks f) = vD ks f := rfl
theorem look_map {α : Type} (f : α → Dt) (l : List (Str × α)) (ρ : En) : look ρ (mapD f l) = mapD f l := rfl
theorem real_scheme (s : SIn) : (schemeD K s).real = true := rfl
theorem look_scheme (s : SIn) (ρ : En) : look ρ (schemeD K s) = schemeD K s := rfl
theorem look_label (t : Tmpl) (ρ : En) : look ρ (labelD K t) = labelD K t := rfl
/-! ### asking schemes -/
theorem fl_fv (s : SIn) : kFl (schemeD K s) (He.ga K "Scheme") "first_values" = some (fv s) := by unfold schemeD; rw [kFl_ins]; rfl
theorem fl_ad (s : SIn) : kFl (schemeD K s) (He.ga K "Scheme") "all_deeds" = some (ad s) := by unfold schemeD; rw [kFl_ins]; rfl
theorem fl_al (s : SIn) : kFl (schemeD K s) (He.ga K "Scheme") "all_labels" = some (al K s) := by unfold schemeD; rw [kFl_ins]; rfl
theorem fl_nk (s : SIn) : kFl (schemeD K s) (He.ga K "Scheme") "next_kinds" = some (nk s) := by unfold schemeD; rw [kFl_ins]; rfl
theorem fl_fk (s : SIn) : kFl (schemeD K s) (He.ga K "Scheme") "first_kinds" = some (fk s) := by unfold schemeD; rw [kFl_ins]; rfl
theorem me_s (s : SIn) (m : Str) (k : Option (Rz Dt)) (h : (["first_values", "all_deeds", "all_labels", "next_kinds", "first_kinds"] : List Str).contains m = false) : kMe (schemeD K s) (He.ga K "Scheme") m k = k := kMe_ins _ _ _ _ _ h
theorem real_fv (s : SIn) : (fv s).real = true := rfl
theorem real_ad (s : SIn) : (ad s).real = true := rfl
theorem lb_first (t : Tmpl) : kFl (labelD K t) (He.ga K "Label") "first" = some (.str t.head) := by unfold labelD; rw [kFl_ins]; rfl
theorem lb_slots (t : Tmpl) : kFl (labelD K t) (He.ga K "Label") "slots" = some (.tup (t.shown.map slotD)) := by unfold labelD; rw [kFl_ins]; rfl
theorem lb_signs (t : Tmpl) : kFl (labelD K t) (He.ga K "Label") "signs" = some (.tup (strsD t.joints)) := by unfold labelD; rw [kFl_ins]; rfl
theorem me_joined (t : Tmpl) (k : Option (Rz Dt)) : kMe (labelD K t) (He.ga K "Label") "joined" k = k := kMe_ins _ _ _ _ _ rfl
theorem me_of (t : Tmpl) (k : Option (Rz Dt)) : kMe (labelD K t) (He.ga K "Label") "of" k = k := kMe_ins _ _ _ _ _ rfl
theorem me_counters (s : SIn) (k : Option (Rz Dt)) : kMe (schemeD K s) (He.ga K "Scheme") "counters" k = k := me_s _ _ _ rfl
theorem me_kinds (s : SIn) (k : Option (Rz Dt)) : kMe (schemeD K s) (He.ga K "Scheme") "kinds" k = k := me_s _ _ _ rfl
theorem me_start (s : SIn) (k : Option (Rz Dt)) : kMe (schemeD K s) (He.ga K "Scheme") "start" k = k := me_s _ _ _ rfl
theorem me_deeds (s : SIn) (k : Option (Rz Dt)) : kMe (schemeD K s) (He.ga K "Scheme") "deeds" k = k := me_s _ _ _ rfl
theorem me_label (s : SIn) (k : Option (Rz Dt)) : kMe (schemeD K s) (He.ga K "Scheme") "label" k = k := me_s _ _ _ rfl
theorem me_may_begin (s : SIn) (k : Option (Rz Dt)) : kMe (schemeD K s) (He.ga K "Scheme") "may_begin" k = k := me_s _ _ _ rfl
theorem me_may_follow (s : SIn) (k : Option (Rz Dt)) : kMe (schemeD K s) (He.ga K "Scheme") "may_follow" k = k := me_s _ _ _ rfl
theorem me_followers (s : SIn) (k : Option (Rz Dt)) : kMe (schemeD K s) (He.ga K "Scheme") "followers" k = k := me_s _ _ _ rfl
theorem me_beginners (s : SIn) (k : Option (Rz Dt)) : kMe (schemeD K s) (He.ga K "Scheme") "beginners" k = k := me_s _ _ _ rfl
local macro_rules | `(tactic| walk_at "ev") => `(tactic| simp only [r_D, r_N, r_O, st0, st1, List.map_cons, List.map_nil, List.length_cons, List.length_nil, List.cons_append, List.nil_append, Nat.reduceAdd, Nat.reduceSub, Nat.add_one_sub_one, List.replicate_succ, List.replicate_zero, List.getElem?_cons_zero, List.getElem?_cons_succ, List.set_cons_zero, List.set_cons_succ, DL.v_bind (ρ := _ :: _), DL.v_ret (ρ := _ :: _), DL.v_F (ρ := _ :: _), DL.v_var (ρ := _ :: _), DL.v_varF (ρ := _ :: _), DL.v_op (ρ := _ :: _), DL.v_un (ρ := _ :: _), DL.v_cb (ρ := _ :: _), DL.v_nil (ρ := _ :: _), DL.v_cons (ρ := _ :: _), DL.v_test (ρ := _ :: _), DL.v_tru (ρ := _ :: _), DL.v_and (ρ := _ :: _), DL.v_or (ρ := _ :: _), DL.v_not (ρ := _ :: _), DL.v_if (ρ := _ :: _), DL.v_andV (ρ := _ :: _), DL.v_orV (ρ := _ :: _), DL.v_notV (ρ := _ :: _), DL.v_chain (ρ := _ :: _), DL.v_tup (ρ := _ :: _), DL.v_lst (ρ := _ :: _), DL.v_noPart (ρ := _ :: _), DL.v_part (ρ := _ :: _), DL.v_sl (ρ := _ :: _), DL.v_mtS (ρ := _ :: _), DL.v_iter (ρ := _ :: _), DL.v_items (ρ := _ :: _), DL.v_vals (ρ := _ :: _), DL.v_itA (ρ := _ :: _), DL.v_itV (ρ := _ :: _), DL.v_rev (ρ := _ :: _), DL.v_mtL (ρ := _ :: _), DL.v_call (ρ := _ :: _), DL.v_callD (ρ := _ :: _), DL.v_callO (ρ := _ :: _), DL.v_fld (ρ := _ :: _), DL.v_meth (ρ := _ :: _), DL.v_prop (ρ := _ :: _), DL.v_make (ρ := _ :: _), DL.v_makeN (ρ := _ :: _), DL.v_lc (ρ := _ :: _), DL.v_dc (ρ := _ :: _), DL.v_get2 (ρ := _ :: _), DL.w_E (ρ := _ :: _), DL.w_seq (ρ := _ :: _), DL.w_next (ρ := _ :: _), DL.w_set (ρ := _ :: _), DL.w_own (ρ := _ :: _), DL.w_unp (ρ := _ :: _), DL.w_drop (ρ := _ :: _), DL.w_ret (ρ := _ :: _), DL.w_retN (ρ := _ :: _), DL.w_retNew (ρ := _ :: _), DL.w_retOwn (ρ := _ :: _), DL.w_if (ρ := _ :: _), DL.w_put (ρ := _ :: _), DL.w_for (ρ := _ :: _), DL.w_rai0 (ρ := _ :: _), DL.w_rai1 (ρ := _ :: _), DL.w_fld (ρ := _ :: _), DL.w_aug (ρ := _ :: _), kM_ok, kM_ex, kM_no, kM_if, kS_ok, kS_ex, kS_no, kS_if, kQ_nx, kQ_rt, kQ_rn, kQ_ex, kQ_bk, kQ_ct, kQ_no, kQ_if, kF_some, kF_no, DL.kV_sh, DL.kV_ow, kVF_sh, kVF_ow, kB_bl, kD_nx, kD_rt, kD_ex, kD_if, kN_rn, kN_ex, kN_if, kO_nx, kO_rt, kO_ex, kO_if, kI_int, kStr_str, kC_some, kOL_ow, kOw_ow, kOo_val, kOo_exc, kFl_ins, kPr_ins, kVal_val, kE_some, kRO_ow, kOI_ow, kJ_own, kSh_sh, kZ_some, kW_tt, kW_ff, kOpt_some, key_str, key_int, dicL_dicD, kLc_some, kDc_some, out_val, out_exc, out_if, outO_val, outO_exc, c_tf, c_val, c_rt, c_okS, c_valO, c_intD, c_strD, c_bl, c_ff, c_tt, c_same, lent_ev, kLn_sh, kLn_no, kLn_ow, kLn_lent, kLn_slS, kLn_none, real_non, real_bl, real_int, real_str, real_lst, real_tup, real_ins, real_ty, real_ref, real_own, allReal_consE, allReal_nilE, real_dic, Bool.and_self, Bool.and_true, Bool.true_and, Bool.and_false, Bool.false_and, Bool.or_true, Bool.true_or, Bool.or_false, Bool.false_or, and_self, and_true, true_and, if_true, reduceIte, cond_true, cond_false, Bool.not_true, Bool.not_false, Nat.reduceLeDiff, Nat.zero_le, Bool.not_not, l_lst, l_tup, l_strD, l_int, l_bl, l_non, l_dic, l_ins, l_own, kLk_ow, eq_int, eq_str, eq_bl, ne_int, ne_str, ne_bl, cmp_int, cmp_str, DL.add_int, DL.sub_int, DL.neg_int, DL.iadd_int, len_lst, len_tup, len_dic, DL.ix_lst, DL.ix_tup, ix_dicS, in_dicS, in_lstS, in_tupS, it_lst, it_tup, it_str, it_dic, list_lst, list_tup, list_dic, tup_lst, tup_tup, dict_dic, dict_prs, isi_int_int, isi_int_bool, isi_str_str, isi_tup_tup, tru_bl, tru_lst, isNon_non, isNon_bl, isNon_int, isNon_str, isNon_lst, isNon_tup, isNon_ins, isNon_dic, gfName, gfTup, gfCons, gfNil, List.contains_nil, noLent_consE, noLent_nilE, wipeE, stepL, kL_nx, absF, intF, decide_true, decide_false, Int.cast_ofNat_Int, Int.reduceLE, Nat.reduceLT, Int.reduceLT, Int.reduceEq, Int.reduceNeg, Bool.false_bne, Bool.true_bne, real_deed, real_lab, real_label, real_seq, real_deeds, real_starts, real_kinds, real_fol, real_beg, real_map, real_vD, real_scheme, look_vD, look_map, look_scheme, look_label, fl_fv, fl_ad, fl_al, fl_nk, fl_fk, real_fv, real_ad, lb_first, lb_slots, lb_signs, me_joined, me_of, me_counters, me_kinds, me_start, me_deeds, me_label, me_may_begin, me_may_follow, me_followers, me_beginners])
end T
set_option Elab.async false
set_option linter.all false
set_option maxRecDepth 100000
set_option autoImplicit false
set_option maxHeartbeats 4000000
namespace T
open PySem L2 DL
variable {K : DL.Frag}

/-! ### documents -/
open M12 (dig wrd tx)
def befD : Option Str → Dt
  | none => .non
  | some q => .str q
theorem real_bef (b : Option Str) : (befD b).real = true := by cases b <;> rfl
local macro_rules | `(tactic| walk_at "ev") => `(tactic| simp only [r_D, r_N, r_O, st0, st1, List.map_cons, List.map_nil, List.length_cons, List.length_nil, List.cons_append, List.nil_append, Nat.reduceAdd, Nat.reduceSub, Nat.add_one_sub_one, List.replicate_succ, List.replicate_zero, List.getElem?_cons_zero, List.getElem?_cons_succ, List.set_cons_zero, List.set_cons_succ, DL.v_bind (ρ := _ :: _), DL.v_ret (ρ := _ :: _), DL.v_F (ρ := _ :: _), DL.v_var (ρ := _ :: _), DL.v_varF (ρ := _ :: _), DL.v_op (ρ := _ :: _), DL.v_un (ρ := _ :: _), DL.v_cb (ρ := _ :: _), DL.v_nil (ρ := _ :: _), DL.v_cons (ρ := _ :: _), DL.v_test (ρ := _ :: _), DL.v_tru (ρ := _ :: _), DL.v_and (ρ := _ :: _), DL.v_or (ρ := _ :: _), DL.v_not (ρ := _ :: _), DL.v_if (ρ := _ :: _), DL.v_andV (ρ := _ :: _), DL.v_orV (ρ := _ :: _), DL.v_notV (ρ := _ :: _), DL.v_chain (ρ := _ :: _), DL.v_tup (ρ := _ :: _), DL.v_lst (ρ := _ :: _), DL.v_noPart (ρ := _ :: _), DL.v_part (ρ := _ :: _), DL.v_sl (ρ := _ :: _), DL.v_mtS (ρ := _ :: _), DL.v_iter (ρ := _ :: _), DL.v_items (ρ := _ :: _), DL.v_vals (ρ := _ :: _), DL.v_itA (ρ := _ :: _), DL.v_itV (ρ := _ :: _), DL.v_rev (ρ := _ :: _), DL.v_mtL (ρ := _ :: _), DL.v_call (ρ := _ :: _), DL.v_callD (ρ := _ :: _), DL.v_callO (ρ := _ :: _), DL.v_fld (ρ := _ :: _), DL.v_meth (ρ := _ :: _), DL.v_prop (ρ := _ :: _), DL.v_make (ρ := _ :: _), DL.v_makeN (ρ := _ :: _), DL.v_lc (ρ := _ :: _), DL.v_dc (ρ := _ :: _), DL.v_get2 (ρ := _ :: _), DL.w_E (ρ := _ :: _), DL.w_seq (ρ := _ :: _), DL.w_next (ρ := _ :: _), DL.w_set (ρ := _ :: _), DL.w_own (ρ := _ :: _), DL.w_unp (ρ := _ :: _), DL.w_drop (ρ := _ :: _), DL.w_ret (ρ := _ :: _), DL.w_retN (ρ := _ :: _), DL.w_retNew (ρ := _ :: _), DL.w_retOwn (ρ := _ :: _), DL.w_if (ρ := _ :: _), DL.w_put (ρ := _ :: _), DL.w_for (ρ := _ :: _), DL.w_rai0 (ρ := _ :: _), DL.w_rai1 (ρ := _ :: _), DL.w_fld (ρ := _ :: _), DL.w_aug (ρ := _ :: _), kM_ok, kM_ex, kM_no, kM_if, kS_ok, kS_ex, kS_no, kS_if, kQ_nx, kQ_rt, kQ_rn, kQ_ex, kQ_bk, kQ_ct, kQ_no, kQ_if, kF_some, kF_no, DL.kV_sh, DL.kV_ow, kVF_sh, kVF_ow, kB_bl, kD_nx, kD_rt, kD_ex, kD_if, kN_rn, kN_ex, kN_if, kO_nx, kO_rt, kO_ex, kO_if, kI_int, kStr_str, kC_some, kOL_ow, kOw_ow, kOo_val, kOo_exc, kFl_ins, kPr_ins, kVal_val, kE_some, kRO_ow, kOI_ow, kJ_own, kSh_sh, kZ_some, kW_tt, kW_ff, kOpt_some, key_str, key_int, dicL_dicD, kLc_some, kDc_some, out_val, out_exc, out_if, outO_val, outO_exc, c_tf, c_val, c_rt, c_okS, c_valO, c_intD, c_strD, c_bl, c_ff, c_tt, c_same, lent_ev, kLn_sh, kLn_no, kLn_ow, kLn_lent, kLn_slS, kLn_none, real_non, real_bl, real_int, real_str, real_lst, real_tup, real_ins, real_ty, real_ref, real_own, allReal_consE, allReal_nilE, real_dic, Bool.and_self, Bool.and_true, Bool.true_and, Bool.and_false, Bool.false_and, Bool.or_true, Bool.true_or, Bool.or_false, Bool.false_or, and_self, and_true, true_and, if_true, reduceIte, cond_true, cond_false, Bool.not_true, Bool.not_false, Nat.reduceLeDiff, Nat.zero_le, Bool.not_not, l_lst, l_tup, l_strD, l_int, l_bl, l_non, l_dic, l_ins, l_own, kLk_ow, eq_int, eq_str, eq_bl, ne_int, ne_str, ne_bl, cmp_int, cmp_str, DL.add_int, DL.sub_int, DL.neg_int, DL.iadd_int, len_lst, len_tup, len_dic, DL.ix_lst, DL.ix_tup, ix_dicS, in_dicS, in_lstS, in_tupS, it_lst, it_tup, it_str, it_dic, list_lst, list_tup, list_dic, tup_lst, tup_tup, dict_dic, dict_prs, isi_int_int, isi_int_bool, isi_str_str, isi_tup_tup, tru_bl, tru_lst, isNon_non, isNon_bl, isNon_int, isNon_str, isNon_lst, isNon_tup, isNon_ins, isNon_dic, gfName, gfTup, gfCons, gfNil, List.contains_nil, noLent_consE, noLent_nilE, wipeE, stepL, kL_nx, absF, intF, decide_true, decide_false, Int.cast_ofNat_Int, Int.reduceLE, Nat.reduceLT, Int.reduceLT, Int.reduceEq, Int.reduceNeg, Bool.false_bne, Bool.true_bne, real_deed, real_lab, real_label, real_seq, real_deeds, real_starts, real_kinds, real_fol, real_beg, real_map, real_vD, real_scheme, look_vD, look_map, look_scheme, look_label, fl_fv, fl_ad, fl_al, fl_nk, fl_fk, real_fv, real_ad, lb_first, lb_slots, lb_signs, me_joined, me_of, me_counters, me_kinds, me_start, me_deeds, me_label, me_may_begin, me_may_follow, me_followers, me_beginners, real_bef])
/-! ### values -/
end T
set_option Elab.async false
set_option linter.all false
set_option maxRecDepth 100000
set_option autoImplicit false
set_option maxHeartbeats 4000000
namespace T
open PySem L2 DL
variable {K : DL.Frag}

/-! ### values and labels of documents -/
open M12 (dig wrd tx)
theorem small {B : Nat} (h : B ≤ 2 ^ 100) {x : Nat} (hx : x ≤ B) : x < 2 ^ 200 := Nat.lt_of_le_of_lt (Nat.le_trans hx h) (by decide)
local macro_rules | `(tactic| walk_at "ev") => `(tactic| simp only [r_D, r_N, r_O, st0, st1, List.map_cons, List.map_nil, List.length_cons, List.length_nil, List.cons_append, List.nil_append, Nat.reduceAdd, Nat.reduceSub, Nat.add_one_sub_one, List.replicate_succ, List.replicate_zero, List.getElem?_cons_zero, List.getElem?_cons_succ, List.set_cons_zero, List.set_cons_succ, DL.v_bind (ρ := _ :: _), DL.v_ret (ρ := _ :: _), DL.v_F (ρ := _ :: _), DL.v_var (ρ := _ :: _), DL.v_varF (ρ := _ :: _), DL.v_op (ρ := _ :: _), DL.v_un (ρ := _ :: _), DL.v_cb (ρ := _ :: _), DL.v_nil (ρ := _ :: _), DL.v_cons (ρ := _ :: _), DL.v_test (ρ := _ :: _), DL.v_tru (ρ := _ :: _), DL.v_and (ρ := _ :: _), DL.v_or (ρ := _ :: _), DL.v_not (ρ := _ :: _), DL.v_if (ρ := _ :: _), DL.v_andV (ρ := _ :: _), DL.v_orV (ρ := _ :: _), DL.v_notV (ρ := _ :: _), DL.v_chain (ρ := _ :: _), DL.v_tup (ρ := _ :: _), DL.v_lst (ρ := _ :: _), DL.v_noPart (ρ := _ :: _), DL.v_part (ρ := _ :: _), DL.v_sl (ρ := _ :: _), DL.v_mtS (ρ := _ :: _), DL.v_iter (ρ := _ :: _), DL.v_items (ρ := _ :: _), DL.v_vals (ρ := _ :: _), DL.v_itA (ρ := _ :: _), DL.v_itV (ρ := _ :: _), DL.v_rev (ρ := _ :: _), DL.v_mtL (ρ := _ :: _), DL.v_call (ρ := _ :: _), DL.v_callD (ρ := _ :: _), DL.v_callO (ρ := _ :: _), DL.v_fld (ρ := _ :: _), DL.v_meth (ρ := _ :: _), DL.v_prop (ρ := _ :: _), DL.v_make (ρ := _ :: _), DL.v_makeN (ρ := _ :: _), DL.v_lc (ρ := _ :: _), DL.v_dc (ρ := _ :: _), DL.v_get2 (ρ := _ :: _), DL.w_E (ρ := _ :: _), DL.w_seq (ρ := _ :: _), DL.w_next (ρ := _ :: _), DL.w_set (ρ := _ :: _), DL.w_own (ρ := _ :: _), DL.w_unp (ρ := _ :: _), DL.w_drop (ρ := _ :: _), DL.w_ret (ρ := _ :: _), DL.w_retN (ρ := _ :: _), DL.w_retNew (ρ := _ :: _), DL.w_retOwn (ρ := _ :: _), DL.w_if (ρ := _ :: _), DL.w_put (ρ := _ :: _), DL.w_for (ρ := _ :: _), DL.w_rai0 (ρ := _ :: _), DL.w_rai1 (ρ := _ :: _), DL.w_fld (ρ := _ :: _), DL.w_aug (ρ := _ :: _), kM_ok, kM_ex, kM_no, kM_if, kS_ok, kS_ex, kS_no, kS_if, kQ_nx, kQ_rt, kQ_rn, kQ_ex, kQ_bk, kQ_ct, kQ_no, kQ_if, kF_some, kF_no, DL.kV_sh, DL.kV_ow, kVF_sh, kVF_ow, kB_bl, kD_nx, kD_rt, kD_ex, kD_if, kN_rn, kN_ex, kN_if, kO_nx, kO_rt, kO_ex, kO_if, kI_int, kStr_str, kC_some, kOL_ow, kOw_ow, kOo_val, kOo_exc, kFl_ins, kPr_ins, kVal_val, kE_some, kRO_ow, kOI_ow, kJ_own, kSh_sh, kZ_some, kW_tt, kW_ff, kOpt_some, key_str, key_int, dicL_dicD, kLc_some, kDc_some, out_val, out_exc, out_if, outO_val, outO_exc, c_tf, c_val, c_rt, c_okS, c_valO, c_intD, c_strD, c_bl, c_ff, c_tt, c_same, lent_ev, kLn_sh, kLn_no, kLn_ow, kLn_lent, kLn_slS, kLn_none, real_non, real_bl, real_int, real_str, real_lst, real_tup, real_ins, real_ty, real_ref, real_own, allReal_consE, allReal_nilE, real_dic, Bool.and_self, Bool.and_true, Bool.true_and, Bool.and_false, Bool.false_and, Bool.or_true, Bool.true_or, Bool.or_false, Bool.false_or, and_self, and_true, true_and, if_true, reduceIte, cond_true, cond_false, Bool.not_true, Bool.not_false, Nat.reduceLeDiff, Nat.zero_le, Bool.not_not, l_lst, l_tup, l_strD, l_int, l_bl, l_non, l_dic, l_ins, l_own, kLk_ow, eq_int, eq_str, eq_bl, ne_int, ne_str, ne_bl, cmp_int, cmp_str, DL.add_int, DL.sub_int, DL.neg_int, DL.iadd_int, len_lst, len_tup, len_dic, DL.ix_lst, DL.ix_tup, ix_dicS, in_dicS, in_lstS, in_tupS, it_lst, it_tup, it_str, it_dic, list_lst, list_tup, list_dic, tup_lst, tup_tup, dict_dic, dict_prs, isi_int_int, isi_int_bool, isi_str_str, isi_tup_tup, tru_bl, tru_lst, isNon_non, isNon_bl, isNon_int, isNon_str, isNon_lst, isNon_tup, isNon_ins, isNon_dic, gfName, gfTup, gfCons, gfNil, List.contains_nil, noLent_consE, noLent_nilE, wipeE, stepL, kL_nx, absF, intF, decide_true, decide_false, Int.cast_ofNat_Int, Int.reduceLE, Nat.reduceLT, Int.reduceLT, Int.reduceEq, Int.reduceNeg, Bool.false_bne, Bool.true_bne, real_deed, real_lab, real_label, real_seq, real_deeds, real_starts, real_kinds, real_fol, real_beg, real_map, real_vD, real_scheme, look_vD, look_map, look_scheme, look_label, fl_fv, fl_ad, fl_al, fl_nk, fl_fk, real_fv, real_ad, lb_first, lb_slots, lb_signs, me_joined, me_of, me_counters, me_kinds, me_start, me_deeds, me_label, me_may_begin, me_may_follow, me_followers, me_beginners, real_bef])
end T
set_option Elab.async false
set_option linter.all false
set_option maxRecDepth 100000
set_option autoImplicit false
set_option maxHeartbeats 4000000
namespace T
open PySem L2 DL
variable {K : DL.Frag}

/-! ### the tape -/
def tapeD (t : Int × Int) : Dt := .lst [.int t.1, .int t.2]
def tapeOk (t : Int × Int) : Prop := 0 ≤ t.1 ∧ 0 ≤ t.2 ∧ t.2 < 2 ^ 40
theorem real_tape (t : Int × Int) : (tapeD t).real = true := rfl
def kXo (ρ : En) (k : Nat) (s : Option Sl) (i : Int) : Option Dt := match s with
  | some (.ow _ (.lst xs)) => atI xs i
  | _ => ixF ρ (.own k) (.int i)
theorem ix_ow {ρ : En} (k : Nat) (i : Int) : ixF ρ (.own k) (.int i) = kXo ρ k (ρ[k]?) i := by
  unfold kXo
  split
  · rename_i l xs h
    unfold ixF
    have e : look ρ (.own k) = .lst xs := by rw [l_own, h]; rfl
    rw [e]
  · rfl
theorem kXo_ow {ρ : En} (k : Nat) (l : Bool) (xs : List Dt) (i : Int) : kXo ρ k (some (.ow l (.lst xs))) i = atI xs i := rfl
def kLo (ρ : En) (k : Nat) (s : Option Sl) : Option Dt := match s with
  | some (.ow _ (.lst xs)) => some (.int xs.length)
  | _ => lenF ρ [.own k]
theorem len_ow {ρ : En} (k : Nat) : lenF ρ [.own k] = kLo ρ k (ρ[k]?) := by
  unfold kLo
  split
  · rename_i l xs h
    exact len_own k l xs h
  · rfl
theorem kLo_ow {ρ : En} (k : Nat) (l : Bool) (xs : List Dt) : kLo ρ k (some (.ow l (.lst xs))) = some (.int xs.length) := rfl
theorem pow18 (ρ : En) : powF ρ (.int 10) (.int 18) = some (.int 1000000000000000000) := rfl
theorem at0 (a : Dt) (l : List Dt) : atI (a :: l) 0 = some a := by
  unfold atI ixN
  rw [if_pos (by decide), if_pos (by rw [List.length_cons]; omega)]
  rfl
theorem at1 (a b : Dt) (l : List Dt) : atI (a :: b :: l) 1 = some b := by
  unfold atI ixN
  rw [if_pos (by decide), if_pos (by rw [List.length_cons, List.length_cons]; omega)]
  rfl
theorem at2 (a b c : Dt) (l : List Dt) : atI (a :: b :: c :: l) 2 = some c := by
  unfold atI ixN
  rw [if_pos (by decide), if_pos (by rw [List.length_cons, List.length_cons, List.length_cons]; omega)]
  rfl
theorem at3 (a b c d : Dt) (l : List Dt) : atI (a :: b :: c :: d :: l) 3 = some d := by
  unfold atI ixN
  rw [if_pos (by decide), if_pos (by rw [List.length_cons, List.length_cons, List.length_cons, List.length_cons]; omega)]
  rfl
local macro_rules | `(tactic| walk_at "ev") => `(tactic| simp only [r_D, r_N, r_O, st0, st1, List.map_cons, List.map_nil, List.length_cons, List.length_nil, List.cons_append, List.nil_append, Nat.reduceAdd, Nat.reduceSub, Nat.add_one_sub_one, List.replicate_succ, List.replicate_zero, List.getElem?_cons_zero, List.getElem?_cons_succ, List.set_cons_zero, List.set_cons_succ, DL.v_bind (ρ := _ :: _), DL.v_ret (ρ := _ :: _), DL.v_F (ρ := _ :: _), DL.v_var (ρ := _ :: _), DL.v_varF (ρ := _ :: _), DL.v_op (ρ := _ :: _), DL.v_un (ρ := _ :: _), DL.v_cb (ρ := _ :: _), DL.v_nil (ρ := _ :: _), DL.v_cons (ρ := _ :: _), DL.v_test (ρ := _ :: _), DL.v_tru (ρ := _ :: _), DL.v_and (ρ := _ :: _), DL.v_or (ρ := _ :: _), DL.v_not (ρ := _ :: _), DL.v_if (ρ := _ :: _), DL.v_andV (ρ := _ :: _), DL.v_orV (ρ := _ :: _), DL.v_notV (ρ := _ :: _), DL.v_chain (ρ := _ :: _), DL.v_tup (ρ := _ :: _), DL.v_lst (ρ := _ :: _), DL.v_noPart (ρ := _ :: _), DL.v_part (ρ := _ :: _), DL.v_sl (ρ := _ :: _), DL.v_mtS (ρ := _ :: _), DL.v_iter (ρ := _ :: _), DL.v_items (ρ := _ :: _), DL.v_vals (ρ := _ :: _), DL.v_itA (ρ := _ :: _), DL.v_itV (ρ := _ :: _), DL.v_rev (ρ := _ :: _), DL.v_mtL (ρ := _ :: _), DL.v_call (ρ := _ :: _), DL.v_callD (ρ := _ :: _), DL.v_callO (ρ := _ :: _), DL.v_fld (ρ := _ :: _), DL.v_meth (ρ := _ :: _), DL.v_prop (ρ := _ :: _), DL.v_make (ρ := _ :: _), DL.v_makeN (ρ := _ :: _), DL.v_lc (ρ := _ :: _), DL.v_dc (ρ := _ :: _), DL.v_get2 (ρ := _ :: _), DL.w_E (ρ := _ :: _), DL.w_seq (ρ := _ :: _), DL.w_next (ρ := _ :: _), DL.w_set (ρ := _ :: _), DL.w_own (ρ := _ :: _), DL.w_unp (ρ := _ :: _), DL.w_drop (ρ := _ :: _), DL.w_ret (ρ := _ :: _), DL.w_retN (ρ := _ :: _), DL.w_retNew (ρ := _ :: _), DL.w_retOwn (ρ := _ :: _), DL.w_if (ρ := _ :: _), DL.w_put (ρ := _ :: _), DL.w_for (ρ := _ :: _), DL.w_rai0 (ρ := _ :: _), DL.w_rai1 (ρ := _ :: _), DL.w_fld (ρ := _ :: _), DL.w_aug (ρ := _ :: _), kM_ok, kM_ex, kM_no, kM_if, kS_ok, kS_ex, kS_no, kS_if, kQ_nx, kQ_rt, kQ_rn, kQ_ex, kQ_bk, kQ_ct, kQ_no, kQ_if, kF_some, kF_no, DL.kV_sh, DL.kV_ow, kVF_sh, kVF_ow, kB_bl, kD_nx, kD_rt, kD_ex, kD_if, kN_rn, kN_ex, kN_if, kO_nx, kO_rt, kO_ex, kO_if, kI_int, kStr_str, kC_some, kOL_ow, kOw_ow, kOo_val, kOo_exc, kFl_ins, kPr_ins, kVal_val, kE_some, kRO_ow, kOI_ow, kJ_own, kSh_sh, kZ_some, kW_tt, kW_ff, kOpt_some, key_str, key_int, dicL_dicD, kLc_some, kDc_some, out_val, out_exc, out_if, outO_val, outO_exc, c_tf, c_val, c_rt, c_okS, c_valO, c_intD, c_strD, c_bl, c_ff, c_tt, c_same, lent_ev, kLn_sh, kLn_no, kLn_ow, kLn_lent, kLn_slS, kLn_none, real_non, real_bl, real_int, real_str, real_lst, real_tup, real_ins, real_ty, real_ref, real_own, allReal_consE, allReal_nilE, real_dic, Bool.and_self, Bool.and_true, Bool.true_and, Bool.and_false, Bool.false_and, Bool.or_true, Bool.true_or, Bool.or_false, Bool.false_or, and_self, and_true, true_and, if_true, reduceIte, cond_true, cond_false, Bool.not_true, Bool.not_false, Nat.reduceLeDiff, Nat.zero_le, Bool.not_not, l_lst, l_tup, l_strD, l_int, l_bl, l_non, l_dic, l_ins, l_own, kLk_ow, eq_int, eq_str, eq_bl, ne_int, ne_str, ne_bl, cmp_int, cmp_str, DL.add_int, DL.sub_int, DL.neg_int, DL.iadd_int, len_lst, len_tup, len_dic, DL.ix_lst, DL.ix_tup, ix_dicS, in_dicS, in_lstS, in_tupS, it_lst, it_tup, it_str, it_dic, list_lst, list_tup, list_dic, tup_lst, tup_tup, dict_dic, dict_prs, isi_int_int, isi_int_bool, isi_str_str, isi_tup_tup, tru_bl, tru_lst, isNon_non, isNon_bl, isNon_int, isNon_str, isNon_lst, isNon_tup, isNon_ins, isNon_dic, gfName, gfTup, gfCons, gfNil, List.contains_nil, noLent_consE, noLent_nilE, wipeE, stepL, kL_nx, absF, intF, decide_true, decide_false, Int.cast_ofNat_Int, Int.reduceLE, Nat.reduceLT, Int.reduceLT, Int.reduceEq, Int.reduceNeg, Bool.false_bne, Bool.true_bne, real_deed, real_lab, real_label, real_seq, real_deeds, real_starts, real_kinds, real_fol, real_beg, real_map, real_vD, real_scheme, look_vD, look_map, look_scheme, look_label, fl_fv, fl_ad, fl_al, fl_nk, fl_fk, real_fv, real_ad, lb_first, lb_slots, lb_signs, me_joined, me_of, me_counters, me_kinds, me_start, me_deeds, me_label, me_may_begin, me_may_follow, me_followers, me_beginners, real_bef, real_tape, pow18, at0, at1, at2, at3, ix_ow, kXo_ow, len_ow, kLo_ow])
theorem atI_ints {ns : List Int} {k : Int} (h0 : 0 ≤ k) (h : k < ns.length) : ∃ n, atI (ns.map Dt.int) k = some (.int n) := by
  have hk : k.toNat < ns.length := by omega
  refine ⟨ns[k.toNat], ?_⟩
  unfold atI ixN
  rw [List.length_map, if_pos h0, if_pos h]
  show (ns.map Dt.int)[k.toNat]? = _
  rw [List.getElem?_map, List.getElem?_eq_getElem hk]
  rfl
theorem setL_eq {ρ : En} {k : Nat} {b : Bool} {ds : List Dt} {n : Int} {d : Dt} (h : ρ[k]? = some (.ow b (.lst ds))) (h0 : 0 ≤ n) (h1 : n < ds.length) : setF ρ (.own k) (.int n) d = some (ρ.set k (.ow b (.lst (ds.set n.toNat d)))) := by
  unfold setF ixN
  dsimp only
  rw [h]
  dsimp only
  rw [if_pos h0, if_pos h1]
theorem len_ints (ns : List Int) : (ns.map Dt.int).length = ns.length := List.length_map ..
theorem in40 {a : Int} (h0 : 0 ≤ a) (h : a < 2 ^ 100) : a.natAbs < 2 ^ 4000 := Nat.lt_trans (show a.natAbs < 2 ^ 100 by omega) (by decide +kernel)
theorem mulE {ρ : En} {i j : Int} (h1 : i.natAbs < 2 ^ 4000) (h2 : j.natAbs < 2 ^ 4000) : mulF ρ (.int i) (.int j) = some (.int (i * j)) := by rw [DL.mul_int, if_pos ⟨h1, h2⟩]
theorem modE {ρ : En} {i j : Int} (h1 : 0 < j) : modF ρ (.int i) (.int j) = some (.int (i % j)) := by rw [DL.mod_int, if_pos h1]
theorem fdivE {ρ : En} {i j : Int} (h1 : 0 < j) (h2 : j < 2 ^ 200) : fdivF ρ (.int i) (.int j) = some (.int (i / j)) := by rw [DL.fdiv_int, if_pos ⟨h1, h2⟩]
theorem f_tape (ns : List Int) (k : Int) (h0 : 0 ≤ k) (h1 : k ≤ 1000) : ∃ t, F_law_tape K [.lst (ns.map .int), .int k] = some (.val (tapeD t)) ∧ tapeOk t := by
  unfold F_law_tape b_law_tape
  have fin : ∀ c : Int, tapeOk ((if c < 0 then -c else c), 7919 * k + 104729) := by
    intro c
    refine ⟨?_, ?_, ?_⟩
    · show 0 ≤ (if c < 0 then -c else c)
      split <;> omega
    · show 0 ≤ 7919 * k + 104729
      omega
    · show 7919 * k + 104729 < 2 ^ 40
      omega
  by_cases hb : k < (ns.length : Nat)
  · obtain ⟨n, hn⟩ := atI_ints h0 hb
    refine ⟨_, ?_, fin n⟩
    walk_at "ev"
    rw [len_ints, decide_eq_true hb]
    walk_at "ev"
    rw [hn]
    walk_at "ev"
    rw [mulE (by decide +kernel) (in40 h0 (by omega))]
    walk_at "ev"
    rfl
  · refine ⟨_, ?_, fin 0⟩
    walk_at "ev"
    rw [len_ints, decide_eq_false hb]
    walk_at "ev"
    rw [mulE (by decide +kernel) (in40 h0 (by omega))]
    walk_at "ev"
    rfl
theorem f_pick (t : Int × Int) (m : Int) (ht : tapeOk t) (h3 : 0 < m) (h4 : m < 2 ^ 200) : ∃ r t', F_law_pick K (tapeD t) [.int m] = some (.val (.int r) (tapeD t')) ∧ tapeOk t' ∧ 0 ≤ r ∧ r < m := by
  obtain ⟨a, b⟩ := t
  obtain ⟨h0, h1, h2⟩ : 0 ≤ a ∧ 0 ≤ b ∧ b < 2 ^ 40 := ht
  by_cases hb : (1000000000000000000 : Int) ≤ a
  · refine ⟨a % m, (a / m, b), ?_, ⟨Int.ediv_nonneg h0 (Int.le_of_lt h3), h1, h2⟩, Int.emod_nonneg _ (by omega), Int.emod_lt_of_pos _ h3⟩
    unfold F_law_pick b_law_pick
    show runO _ 4 (.lst [.int a, .int b]) _ = _
    walk_at "ev"
    rw [decide_eq_true hb]
    walk_at "ev"
    rw [modE h3]
    walk_at "ev"
    rw [fdivE h3 h4]
    walk_at "ev"
    rw [setL_eq rfl (by decide) (by simp only [List.length_cons, List.length_nil]; omega)]
    walk_at "ev"
    rfl
  · have ha : a < 2 ^ 100 := by omega
    have hm := Int.emod_nonneg (b * 48271 + a * 69621 + 11) (show (2147483647 : Int) ≠ 0 by decide)
    have hm2 := Int.emod_lt_of_pos (b * 48271 + a * 69621 + 11) (show (0 : Int) < 2147483647 by decide)
    suffices h : ∃ q : Int, F_law_pick K (tapeD (a, b)) [.int m] = some (.val (.int (q % m)) (tapeD (a, (b * 48271 + a * 69621 + 11) % 2147483647))) by
      obtain ⟨q, e⟩ := h
      exact ⟨q % m, _, e, ⟨h0, hm, by show (b * 48271 + a * 69621 + 11) % 2147483647 < 2 ^ 40; omega⟩, Int.emod_nonneg _ (by omega), Int.emod_lt_of_pos _ h3⟩
    generalize hc : (b * 48271 + a * 69621 + 11) % 2147483647 = c at hm hm2 ⊢
    refine ⟨(c * c + c * 40692 + 7) % 2147483399 / 64, ?_⟩
    unfold F_law_pick b_law_pick
    show runO _ 4 (.lst [.int a, .int b]) _ = _
    walk_at "ev"
    rw [decide_eq_false hb]
    walk_at "ev"
    rw [mulE (in40 h1 (by omega)) (by decide +kernel)]
    walk_at "ev"
    rw [mulE (in40 h0 ha) (by decide +kernel)]
    walk_at "ev"
    rw [modE (by decide)]
    walk_at "ev"
    rw [setL_eq rfl (by decide) (by simp only [List.length_cons, List.length_nil]; omega)]
    rw [hc]
    show kO (kQ (some (So.nx [.ow true (.lst [.int a, .int c]), .sh (.int m), .no, .no])) _) = _
    walk_at "ev"
    rw [mulE (in40 hm (by omega)) (in40 hm (by omega))]
    walk_at "ev"
    rw [mulE (in40 hm (by omega)) (by decide +kernel)]
    walk_at "ev"
    rw [modE (by decide)]
    walk_at "ev"
    rw [fdivE (by decide) (by decide)]
    walk_at "ev"
    rw [modE h3]
    walk_at "ev"
    rfl
end T
set_option Elab.async false
set_option linter.all false
set_option maxRecDepth 100000
set_option autoImplicit false
set_option maxHeartbeats 4000000
namespace T
open PySem L2 DL
variable {K : DL.Frag}
/-! exceptions as values: what is evaluated -/
def kXv (d : Dt) (C : Addr) (f : Str) : Option Dt := match d with
  | .exv C' fs ds => if C' = C then (fs.zip ds).lookup f else none
  | _ => none
theorem kXv_exv (C : Addr) (fs : List Str) (ds : List Dt) (f : Str) : kXv (.exv C fs ds) C f = (fs.zip ds).lookup f := if_pos rfl
theorem v_xfV {ρ : En} (C : Addr) (f : Str) (o : Mo Dt) : mXfV C f o ρ = kM (o ρ) fun d ρ1 => kF (kXv d C f) ρ1 := by
  show mBind o _ ρ = _
  unfold mBind kM
  cases o ρ with
  | none => rfl
  | some r => cases r with
    | ok d ρ1 => cases d <;> rfl
    | ex c ρ1 => rfl
theorem v_mkV {ρ : En} (C : Addr) (fs : List Str) (a : Mo (List Dt)) : mMkV C fs a ρ = kM (a ρ) fun ds ρ1 => kF (exvF C fs ds) ρ1 := by
  show mBind a _ ρ = _
  unfold mBind kM
  cases a ρ with
  | none => rfl
  | some r => cases r <;> rfl
theorem v_revV {ρ : En} (a : Mo (List Dt)) : mRevV a ρ = kM (a ρ) fun ds ρ1 => some (.ok ds.reverse ρ1) := by
  show mBind a _ ρ = _
  unfold mBind kM
  cases a ρ with
  | none => rfl
  | some r => cases r <;> rfl
theorem rev2 (d e : Dt) : [d, e].reverse = [e, d] := rfl
theorem exv1 (C : Addr) (f : Str) (d : Dt) (h : d.real = true) : exvF C [f] [d] = some (.exv C [f] [d]) := by
  unfold exvF allReal
  simp [h]
theorem exv2 (C : Addr) (f g : Str) (d e : Dt) (h : d.real = true) (h2 : e.real = true) : exvF C [f, g] [d, e] = some (.exv C [g, f] [e, d]) := by
  unfold exvF allReal
  simp [h, h2]
theorem lk1 (f : Str) (d : Dt) : ([f].zip [d]).lookup f = some d := by simp [List.lookup]
theorem lkK (d e : Dt) : ((["other", "kind"] : List Str).zip [e, d]).lookup ("kind" : Str) = some d := rfl
theorem lkO (d e : Dt) : ((["other", "kind"] : List Str).zip [e, d]).lookup ("other" : Str) = some e := rfl
theorem real_exv (C : Addr) (fs : List Str) (ds : List Dt) : (Dt.exv C fs ds).real = true := rfl
theorem l_exv {ρ : En} (C : Addr) (fs : List Str) (ds : List Dt) : look ρ (.exv C fs ds) = .exv C fs ds := rfl
/-- the drawn values -/
def thD : Nat → Dt
  | 0 => .int 0
  | 1 => .int (-1)
  | 2 => .int 100000000000000000000
  | 3 => .str ""
  | 4 => .str "x"
  | 5 => .non
  | 6 => .lst [.int 1, .int 2]
  | _ => .bl true
theorem thD_real (i : Nat) : (thD i).real = true := by
  unfold thD
  split <;> rfl
theorem thD_pd (i : Nat) : ∃ p, (thD i).pd = some p ∧ p.depth ≤ 1 := by
  unfold thD
  split
  · exact ⟨_, rfl, by simp [PyData.depth]⟩
  · exact ⟨_, rfl, by simp [PyData.depth]⟩
  · exact ⟨_, rfl, by simp [PyData.depth]⟩
  · exact ⟨_, rfl, by simp [PyData.depth]⟩
  · exact ⟨_, rfl, by simp [PyData.depth]⟩
  · exact ⟨_, rfl, by simp [PyData.depth]⟩
  · exact ⟨_, rfl, by simp [PyData.depth, PyData.depthAll]⟩
  · exact ⟨_, rfl, by simp [PyData.depth]⟩
theorem pdL_rep {d : Dt} {p : PyData} (h : d.pd = some p) (hd : p.depth ≤ 1) : ∀ n, ∃ ps, pdL (List.replicate n d) = some ps ∧ PyData.depthAll ps ≤ 1
  | 0 => ⟨[], rfl, by simp [PyData.depthAll]⟩
  | n + 1 => by
    obtain ⟨ps, e, g⟩ := pdL_rep h hd n
    refine ⟨p :: ps, ?_, ?_⟩
    · rw [List.replicate_succ]
      unfold pdL
      rw [h, e]
    · simp [PyData.depthAll]
      omega
theorem ne_rep {ρ : En} (i n : Nat) : neF ρ (.lst (List.replicate n (thD i))) (.lst (List.replicate n (thD i))) = some (.bl false) := by
  obtain ⟨p, h, hd⟩ := thD_pd i
  obtain ⟨ps, e, g⟩ := pdL_rep h hd n
  have e2 : (Dt.lst (List.replicate n (thD i))).pd = some (.list ps) := by unfold Dt.pd; rw [e]; rfl
  exact ne_sameF (x := .lst (List.replicate n (thD i))) rfl rfl e2 (by simp only [PyData.depth]; omega)
theorem pow20 (ρ : En) : powF ρ (.int 10) (.int 20) = some (.int 100000000000000000000) := rfl
theorem at_th {r : Int} (h0 : 0 ≤ r) (h1 : r < 8) : ∃ i, atI [Dt.int 0, .int (-1), .int 100000000000000000000, .str "", .str "x", .non, .lst [.int 1, .int 2], .bl true] r = some (thD i) := by
  obtain ⟨n, rfl⟩ := Int.eq_ofNat_of_zero_le h0
  refine ⟨n, ?_⟩
  have h : n < 8 := by omega
  match n, h with
  | 0, _ => rfl
  | 1, _ => rfl
  | 2, _ => rfl
  | 3, _ => rfl
  | 4, _ => rfl
  | 5, _ => rfl
  | 6, _ => rfl
  | 7, _ => rfl
theorem lc_mp {α : Type} {g : GF} {e : Mo Dt} {vs : List Nat} {ρ : En} (enc f : α → Dt) (l : List α) (hl : l.length ≤ 100000) (h : ∀ x ∈ l, stepC g (mRet true) e vs (enc x) ρ = some (some (f x), ρ)) : kLc (lcL g (mRet true) e vs (l.map enc) ρ) = some (.ok (.lst (l.map f)) ρ) := by
  rw [lcL_map enc (fun x => some (f x)) l h, kLc_some]
  have e2 : l.filterMap (fun x => some (f x)) = l.map f := by
    clear h hl
    induction l with
    | nil => rfl
    | cons x l ih => rw [List.filterMap_cons, List.map_cons, ih]
  rw [e2, if_pos (by rw [List.length_map]; exact hl)]
theorem rng_map (n : Nat) : rngD 0 n = (List.range n).map fun k : Nat => Dt.int (k : Nat) := by
  unfold rngD
  refine List.map_congr_left fun k _ => ?_
  simp
theorem map_rep {α : Type} (l : List α) (d : Dt) : (l.map fun _ => d) = List.replicate l.length d := by
  induction l with
  | nil => rfl
  | cons x l ih => rw [List.map_cons, ih]; rfl
local macro_rules | `(tactic| walk_at "ev") => `(tactic| simp only [r_D, r_N, r_O, st0, st1, List.map_cons, List.map_nil, List.length_cons, List.length_nil, List.cons_append, List.nil_append, Nat.reduceAdd, Nat.reduceSub, Nat.add_one_sub_one, List.replicate_succ, List.replicate_zero, List.getElem?_cons_zero, List.getElem?_cons_succ, List.set_cons_zero, List.set_cons_succ, DL.v_bind (ρ := _ :: _), DL.v_ret (ρ := _ :: _), DL.v_F (ρ := _ :: _), DL.v_var (ρ := _ :: _), DL.v_varF (ρ := _ :: _), DL.v_op (ρ := _ :: _), DL.v_un (ρ := _ :: _), DL.v_cb (ρ := _ :: _), DL.v_nil (ρ := _ :: _), DL.v_cons (ρ := _ :: _), DL.v_test (ρ := _ :: _), DL.v_tru (ρ := _ :: _), DL.v_and (ρ := _ :: _), DL.v_or (ρ := _ :: _), DL.v_not (ρ := _ :: _), DL.v_if (ρ := _ :: _), DL.v_andV (ρ := _ :: _), DL.v_orV (ρ := _ :: _), DL.v_notV (ρ := _ :: _), DL.v_chain (ρ := _ :: _), DL.v_tup (ρ := _ :: _), DL.v_lst (ρ := _ :: _), DL.v_noPart (ρ := _ :: _), DL.v_part (ρ := _ :: _), DL.v_sl (ρ := _ :: _), DL.v_mtS (ρ := _ :: _), DL.v_iter (ρ := _ :: _), DL.v_items (ρ := _ :: _), DL.v_vals (ρ := _ :: _), DL.v_itA (ρ := _ :: _), DL.v_itV (ρ := _ :: _), DL.v_rev (ρ := _ :: _), DL.v_mtL (ρ := _ :: _), DL.v_call (ρ := _ :: _), DL.v_callD (ρ := _ :: _), DL.v_callO (ρ := _ :: _), DL.v_fld (ρ := _ :: _), DL.v_meth (ρ := _ :: _), DL.v_prop (ρ := _ :: _), DL.v_make (ρ := _ :: _), DL.v_makeN (ρ := _ :: _), DL.v_lc (ρ := _ :: _), DL.v_dc (ρ := _ :: _), DL.v_get2 (ρ := _ :: _), DL.w_E (ρ := _ :: _), DL.w_seq (ρ := _ :: _), DL.w_next (ρ := _ :: _), DL.w_set (ρ := _ :: _), DL.w_own (ρ := _ :: _), DL.w_unp (ρ := _ :: _), DL.w_drop (ρ := _ :: _), DL.w_ret (ρ := _ :: _), DL.w_retN (ρ := _ :: _), DL.w_retNew (ρ := _ :: _), DL.w_retOwn (ρ := _ :: _), DL.w_if (ρ := _ :: _), DL.w_put (ρ := _ :: _), DL.w_for (ρ := _ :: _), DL.w_rai0 (ρ := _ :: _), DL.w_rai1 (ρ := _ :: _), DL.w_fld (ρ := _ :: _), DL.w_aug (ρ := _ :: _), kM_ok, kM_ex, kM_no, kM_if, kS_ok, kS_ex, kS_no, kS_if, kQ_nx, kQ_rt, kQ_rn, kQ_ex, kQ_bk, kQ_ct, kQ_no, kQ_if, kF_some, kF_no, DL.kV_sh, DL.kV_ow, kVF_sh, kVF_ow, kB_bl, kD_nx, kD_rt, kD_ex, kD_if, kN_rn, kN_ex, kN_if, kO_nx, kO_rt, kO_ex, kO_if, kI_int, kStr_str, kC_some, kOL_ow, kOw_ow, kOo_val, kOo_exc, kFl_ins, kPr_ins, kVal_val, kE_some, kRO_ow, kOI_ow, kJ_own, kSh_sh, kZ_some, kW_tt, kW_ff, kOpt_some, key_str, key_int, dicL_dicD, kLc_some, kDc_some, out_val, out_exc, out_if, outO_val, outO_exc, c_tf, c_val, c_rt, c_okS, c_valO, c_intD, c_strD, c_bl, c_ff, c_tt, c_same, lent_ev, kLn_sh, kLn_no, kLn_ow, kLn_lent, kLn_slS, kLn_none, real_non, real_bl, real_int, real_str, real_lst, real_tup, real_ins, real_ty, real_ref, real_own, allReal_consE, allReal_nilE, real_dic, Bool.and_self, Bool.and_true, Bool.true_and, Bool.and_false, Bool.false_and, Bool.or_true, Bool.true_or, Bool.or_false, Bool.false_or, and_self, and_true, true_and, if_true, reduceIte, cond_true, cond_false, Bool.not_true, Bool.not_false, Nat.reduceLeDiff, Nat.zero_le, Bool.not_not, l_lst, l_tup, l_strD, l_int, l_bl, l_non, l_dic, l_ins, l_own, kLk_ow, eq_int, eq_str, eq_bl, ne_int, ne_str, ne_bl, cmp_int, cmp_str, DL.add_int, DL.sub_int, DL.neg_int, DL.iadd_int, len_lst, len_tup, len_dic, DL.ix_lst, DL.ix_tup, ix_dicS, in_dicS, in_lstS, in_tupS, it_lst, it_tup, it_str, it_dic, list_lst, list_tup, list_dic, tup_lst, tup_tup, dict_dic, dict_prs, isi_int_int, isi_int_bool, isi_str_str, isi_tup_tup, tru_bl, tru_lst, isNon_non, isNon_bl, isNon_int, isNon_str, isNon_lst, isNon_tup, isNon_ins, isNon_dic, gfName, gfTup, gfCons, gfNil, List.contains_nil, noLent_consE, noLent_nilE, wipeE, stepL, kL_nx, absF, intF, decide_true, decide_false, Int.cast_ofNat_Int, Int.reduceLE, Nat.reduceLT, Int.reduceLT, Int.reduceEq, Int.reduceNeg, Bool.false_bne, Bool.true_bne, real_tape, pow18, at0, at1, at2, at3, ix_ow, kXo_ow, len_ow, kLo_ow, v_xfV, v_mkV, v_revV, rev2, exv1, exv2, lk1, lkK, lkO, kXv_exv, real_exv, l_exv, thD_real, DL.add_lst])
theorem f_thing (t : Int × Int) (ht : tapeOk t) : ∃ i t', F_law_thing K (tapeD t) [] = some (.val (thD i) (tapeD t')) ∧ tapeOk t' := by
  obtain ⟨r, t', e, ht', r0, r1⟩ := f_pick (K := K) t 8 ht (by decide) (by decide)
  obtain ⟨i, ei⟩ := at_th r0 r1
  refine ⟨i, t', ?_, ht'⟩
  unfold F_law_thing b_law_thing
  try walk_at "ev"
  rw [pow20]
  try walk_at "ev"
  try walk_at "ev"
  rw [e]
  try walk_at "ev"
  try walk_at "ev"
  rw [ei]
  try walk_at "ev"
theorem f_told (i : Nat) : F_law_told K [thD i] = some (.val (.lst (List.replicate 17 (thD i)))) := by
  unfold F_law_told b_law_told
  try walk_at "ev"
theorem f_named (i : Nat) : F_law_named K [thD i] = some (.val (.lst (List.replicate 17 (thD i)))) := by
  unfold F_law_named b_law_named
  try walk_at "ev"
end T
set_option Elab.async false
set_option linter.all false
set_option maxRecDepth 100000
set_option autoImplicit false
set_option maxHeartbeats 4000000
namespace T
open PySem L2 DL
variable {K : DL.Frag}
/-! the classes -/
structure Ex (K : DL.Frag) : Prop where
  kt : ∀ X ∈ exL, ∀ Y ∈ exL, PySem.W.kitOne K (.ref (He.ga K X)) (.ref (He.ga K Y)) = some (decide (X = Y))
  kp : ∀ X ∈ exL, PySem.W.kitOne K (.ref (He.ga K X)) (.ref (He.ga K "PartError")) = some true
  kv : ∀ X ∈ exL, PySem.W.kitOne K (.ref (He.ga K X)) (.type "ValueError") = some true
def nmL : List Str := ["BadLine", "BadName", "UnknownName", "BadNumber", "BadCount", "BadDeed", "BadHead", "BadShown", "BadChange", "BadTimes", "BadWeight", "NotDocument", "NoDocument", "NoLabel", "BadKey", "KeyTaken", "UnknownKey", "BadText", "BadLabel", "BadRow", "BadJoints", "UnlikeSchemes", "NothingToUndo", "NotLet"]
theorem xcl_map : xclL K = exL.map (He.ga K) := rfl
theorem in_xcl {X : Str} (h : X ∈ exL) : He.ga K X ∈ xclL K := by rw [xcl_map]; exact List.mem_map_of_mem h
theorem isv (hx : Ex K) {X : Str} (hX : X ∈ exL) {Y : Str} (hY : Y ∈ exL) {ρ : En} {fs : List Str} {ds : List Dt} : isiVF K (clsL K) (xclL K) ρ [.exv (He.ga K X) fs ds, .ref (He.ga K Y)] = some (.bl (decide (X = Y))) := by
  show (if He.ga K X ∈ xclL K then (PySem.W.kitOne K (.ref (He.ga K X)) (.ref (He.ga K Y))).map Dt.bl else none) = _
  rw [if_pos (in_xcl hX), hx.kt X hX Y hY]
  rfl
theorem isp (hx : Ex K) {X : Str} (hX : X ∈ exL) {ρ : En} {fs : List Str} {ds : List Dt} : isiVF K (clsL K) (xclL K) ρ [.exv (He.ga K X) fs ds, .ref (He.ga K "PartError")] = some (.bl true) := by
  show (if He.ga K X ∈ xclL K then (PySem.W.kitOne K (.ref (He.ga K X)) (.ref (He.ga K "PartError"))).map Dt.bl else none) = _
  rw [if_pos (in_xcl hX), hx.kp X hX]
  rfl
theorem isve (hx : Ex K) {X : Str} (hX : X ∈ exL) {ρ : En} {fs : List Str} {ds : List Dt} : isiVF K (clsL K) (xclL K) ρ [.exv (He.ga K X) fs ds, .ty "ValueError"] = some (.bl true) := by
  show (if He.ga K X ∈ xclL K then (PySem.W.kitOne K (.ref (He.ga K X)) (.type "ValueError")).map Dt.bl else none) = _
  rw [if_pos (in_xcl hX), hx.kv X hX]
  rfl
def rowX (X : Str) : List Bool := nmL.map fun Y => decide (X = Y)
local macro_rules | `(tactic| walk_at "ev") => `(tactic| simp only [r_D, r_N, r_O, st0, st1, List.map_cons, List.map_nil, List.length_cons, List.length_nil, List.cons_append, List.nil_append, Nat.reduceAdd, Nat.reduceSub, Nat.add_one_sub_one, List.replicate_succ, List.replicate_zero, List.getElem?_cons_zero, List.getElem?_cons_succ, List.set_cons_zero, List.set_cons_succ, DL.v_bind (ρ := _ :: _), DL.v_ret (ρ := _ :: _), DL.v_F (ρ := _ :: _), DL.v_var (ρ := _ :: _), DL.v_varF (ρ := _ :: _), DL.v_op (ρ := _ :: _), DL.v_un (ρ := _ :: _), DL.v_cb (ρ := _ :: _), DL.v_nil (ρ := _ :: _), DL.v_cons (ρ := _ :: _), DL.v_test (ρ := _ :: _), DL.v_tru (ρ := _ :: _), DL.v_and (ρ := _ :: _), DL.v_or (ρ := _ :: _), DL.v_not (ρ := _ :: _), DL.v_if (ρ := _ :: _), DL.v_andV (ρ := _ :: _), DL.v_orV (ρ := _ :: _), DL.v_notV (ρ := _ :: _), DL.v_chain (ρ := _ :: _), DL.v_tup (ρ := _ :: _), DL.v_lst (ρ := _ :: _), DL.v_noPart (ρ := _ :: _), DL.v_part (ρ := _ :: _), DL.v_sl (ρ := _ :: _), DL.v_mtS (ρ := _ :: _), DL.v_iter (ρ := _ :: _), DL.v_items (ρ := _ :: _), DL.v_vals (ρ := _ :: _), DL.v_itA (ρ := _ :: _), DL.v_itV (ρ := _ :: _), DL.v_rev (ρ := _ :: _), DL.v_mtL (ρ := _ :: _), DL.v_call (ρ := _ :: _), DL.v_callD (ρ := _ :: _), DL.v_callO (ρ := _ :: _), DL.v_fld (ρ := _ :: _), DL.v_meth (ρ := _ :: _), DL.v_prop (ρ := _ :: _), DL.v_make (ρ := _ :: _), DL.v_makeN (ρ := _ :: _), DL.v_lc (ρ := _ :: _), DL.v_dc (ρ := _ :: _), DL.v_get2 (ρ := _ :: _), DL.w_E (ρ := _ :: _), DL.w_seq (ρ := _ :: _), DL.w_next (ρ := _ :: _), DL.w_set (ρ := _ :: _), DL.w_own (ρ := _ :: _), DL.w_unp (ρ := _ :: _), DL.w_drop (ρ := _ :: _), DL.w_ret (ρ := _ :: _), DL.w_retN (ρ := _ :: _), DL.w_retNew (ρ := _ :: _), DL.w_retOwn (ρ := _ :: _), DL.w_if (ρ := _ :: _), DL.w_put (ρ := _ :: _), DL.w_for (ρ := _ :: _), DL.w_rai0 (ρ := _ :: _), DL.w_rai1 (ρ := _ :: _), DL.w_fld (ρ := _ :: _), DL.w_aug (ρ := _ :: _), kM_ok, kM_ex, kM_no, kM_if, kS_ok, kS_ex, kS_no, kS_if, kQ_nx, kQ_rt, kQ_rn, kQ_ex, kQ_bk, kQ_ct, kQ_no, kQ_if, kF_some, kF_no, DL.kV_sh, DL.kV_ow, kVF_sh, kVF_ow, kB_bl, kD_nx, kD_rt, kD_ex, kD_if, kN_rn, kN_ex, kN_if, kO_nx, kO_rt, kO_ex, kO_if, kI_int, kStr_str, kC_some, kOL_ow, kOw_ow, kOo_val, kOo_exc, kFl_ins, kPr_ins, kVal_val, kE_some, kRO_ow, kOI_ow, kJ_own, kSh_sh, kZ_some, kW_tt, kW_ff, kOpt_some, key_str, key_int, dicL_dicD, kLc_some, kDc_some, out_val, out_exc, out_if, outO_val, outO_exc, c_tf, c_val, c_rt, c_okS, c_valO, c_intD, c_strD, c_bl, c_ff, c_tt, c_same, lent_ev, kLn_sh, kLn_no, kLn_ow, kLn_lent, kLn_slS, kLn_none, real_non, real_bl, real_int, real_str, real_lst, real_tup, real_ins, real_ty, real_ref, real_own, allReal_consE, allReal_nilE, real_dic, Bool.and_self, Bool.and_true, Bool.true_and, Bool.and_false, Bool.false_and, Bool.or_true, Bool.true_or, Bool.or_false, Bool.false_or, and_self, and_true, true_and, if_true, reduceIte, cond_true, cond_false, Bool.not_true, Bool.not_false, Nat.reduceLeDiff, Nat.zero_le, Bool.not_not, l_lst, l_tup, l_strD, l_int, l_bl, l_non, l_dic, l_ins, l_own, kLk_ow, eq_int, eq_str, eq_bl, ne_int, ne_str, ne_bl, cmp_int, cmp_str, DL.add_int, DL.sub_int, DL.neg_int, DL.iadd_int, len_lst, len_tup, len_dic, DL.ix_lst, DL.ix_tup, ix_dicS, in_dicS, in_lstS, in_tupS, it_lst, it_tup, it_str, it_dic, list_lst, list_tup, list_dic, tup_lst, tup_tup, dict_dic, dict_prs, isi_int_int, isi_int_bool, isi_str_str, isi_tup_tup, tru_bl, tru_lst, isNon_non, isNon_bl, isNon_int, isNon_str, isNon_lst, isNon_tup, isNon_ins, isNon_dic, gfName, gfTup, gfCons, gfNil, List.contains_nil, noLent_consE, noLent_nilE, wipeE, stepL, kL_nx, absF, intF, decide_true, decide_false, Int.cast_ofNat_Int, Int.reduceLE, Nat.reduceLT, Int.reduceLT, Int.reduceEq, Int.reduceNeg, Bool.false_bne, Bool.true_bne, real_tape, pow18, at0, at1, at2, at3, ix_ow, kXo_ow, len_ow, kLo_ow, v_xfV, v_mkV, v_revV, rev2, exv1, exv2, lk1, lkK, lkO, kXv_exv, real_exv, l_exv, thD_real, DL.add_lst])
theorem f_kinds (hx : Ex K) {X : Str} (hX : X ∈ exL) (fs : List Str) (ds : List Dt) : F_law_kinds K [.exv (He.ga K X) fs ds] = some (.val (.lst ((rowX X).map .bl))) := by
  unfold F_law_kinds b_law_kinds
  try walk_at "ev"
  rw [isv hx hX (show ("BadLine" : Str) ∈ exL by decide)]
  try walk_at "ev"
  rw [isv hx hX (show ("BadName" : Str) ∈ exL by decide)]
  try walk_at "ev"
  rw [isv hx hX (show ("UnknownName" : Str) ∈ exL by decide)]
  try walk_at "ev"
  rw [isv hx hX (show ("BadNumber" : Str) ∈ exL by decide)]
  try walk_at "ev"
  rw [isv hx hX (show ("BadCount" : Str) ∈ exL by decide)]
  try walk_at "ev"
  rw [isv hx hX (show ("BadDeed" : Str) ∈ exL by decide)]
  try walk_at "ev"
  rw [isv hx hX (show ("BadHead" : Str) ∈ exL by decide)]
  try walk_at "ev"
  rw [isv hx hX (show ("BadShown" : Str) ∈ exL by decide)]
  try walk_at "ev"
  rw [isv hx hX (show ("BadChange" : Str) ∈ exL by decide)]
  try walk_at "ev"
  rw [isv hx hX (show ("BadTimes" : Str) ∈ exL by decide)]
  try walk_at "ev"
  rw [isv hx hX (show ("BadWeight" : Str) ∈ exL by decide)]
  try walk_at "ev"
  rw [isv hx hX (show ("NotDocument" : Str) ∈ exL by decide)]
  try walk_at "ev"
  rw [isv hx hX (show ("NoDocument" : Str) ∈ exL by decide)]
  try walk_at "ev"
  rw [isv hx hX (show ("NoLabel" : Str) ∈ exL by decide)]
  try walk_at "ev"
  rw [isv hx hX (show ("BadKey" : Str) ∈ exL by decide)]
  try walk_at "ev"
  rw [isv hx hX (show ("KeyTaken" : Str) ∈ exL by decide)]
  try walk_at "ev"
  rw [isv hx hX (show ("UnknownKey" : Str) ∈ exL by decide)]
  try walk_at "ev"
  rw [isv hx hX (show ("BadText" : Str) ∈ exL by decide)]
  try walk_at "ev"
  rw [isv hx hX (show ("BadLabel" : Str) ∈ exL by decide)]
  try walk_at "ev"
  rw [isv hx hX (show ("BadRow" : Str) ∈ exL by decide)]
  try walk_at "ev"
  rw [isv hx hX (show ("BadJoints" : Str) ∈ exL by decide)]
  try walk_at "ev"
  rw [isv hx hX (show ("UnlikeSchemes" : Str) ∈ exL by decide)]
  try walk_at "ev"
  rw [isv hx hX (show ("NothingToUndo" : Str) ∈ exL by decide)]
  try walk_at "ev"
  rw [isv hx hX (show ("NotLet" : Str) ∈ exL by decide)]
  try walk_at "ev"
  rfl
def errs (K : DL.Frag) (i j : Nat) : List Dt := [.exv (He.ga K "BadLine") ["line"] [thD i], .exv (He.ga K "BadName") ["name"] [thD i], .exv (He.ga K "UnknownName") ["name"] [thD i], .exv (He.ga K "BadNumber") ["number"] [thD i], .exv (He.ga K "BadCount") ["count"] [thD i], .exv (He.ga K "BadDeed") ["deed"] [thD i], .exv (He.ga K "BadHead") ["value"] [thD i], .exv (He.ga K "BadShown") ["index"] [thD i], .exv (He.ga K "BadChange") ["counter"] [thD i], .exv (He.ga K "BadTimes") ["times"] [thD i], .exv (He.ga K "BadWeight") ["counter"] [thD i], .exv (He.ga K "NotDocument") ["index"] [thD i], .exv (He.ga K "NoDocument") ["kind"] [thD i], .exv (He.ga K "NoLabel") ["kind"] [thD i], .exv (He.ga K "BadKey") ["key"] [thD i], .exv (He.ga K "KeyTaken") ["key"] [thD i], .exv (He.ga K "UnknownKey") ["key"] [thD i], .exv (He.ga K "BadText") [] [], .exv (He.ga K "BadLabel") [] [], .exv (He.ga K "BadRow") [] [], .exv (He.ga K "BadJoints") [] [], .exv (He.ga K "UnlikeSchemes") [] [], .exv (He.ga K "NothingToUndo") [] [], .exv (He.ga K "NotLet") ["other", "kind"] [thD j, thD i]]
def rowN (k : Nat) : List Bool := (List.range 24).map fun m => decide ((k : Int) = (m : Nat))
theorem at_err (i j k : Nat) (h : k < 24) : ∃ X fs ds, X ∈ exL ∧ atI (errs K i j) (k : Nat) = some (.exv (He.ga K X) fs ds) ∧ rowX X = rowN k := by
  match k, h with
  | 0, _ => exact ⟨"BadLine", _, _, by decide, rfl, by decide⟩
  | 1, _ => exact ⟨"BadName", _, _, by decide, rfl, by decide⟩
  | 2, _ => exact ⟨"UnknownName", _, _, by decide, rfl, by decide⟩
  | 3, _ => exact ⟨"BadNumber", _, _, by decide, rfl, by decide⟩
  | 4, _ => exact ⟨"BadCount", _, _, by decide, rfl, by decide⟩
  | 5, _ => exact ⟨"BadDeed", _, _, by decide, rfl, by decide⟩
  | 6, _ => exact ⟨"BadHead", _, _, by decide, rfl, by decide⟩
  | 7, _ => exact ⟨"BadShown", _, _, by decide, rfl, by decide⟩
  | 8, _ => exact ⟨"BadChange", _, _, by decide, rfl, by decide⟩
  | 9, _ => exact ⟨"BadTimes", _, _, by decide, rfl, by decide⟩
  | 10, _ => exact ⟨"BadWeight", _, _, by decide, rfl, by decide⟩
  | 11, _ => exact ⟨"NotDocument", _, _, by decide, rfl, by decide⟩
  | 12, _ => exact ⟨"NoDocument", _, _, by decide, rfl, by decide⟩
  | 13, _ => exact ⟨"NoLabel", _, _, by decide, rfl, by decide⟩
  | 14, _ => exact ⟨"BadKey", _, _, by decide, rfl, by decide⟩
  | 15, _ => exact ⟨"KeyTaken", _, _, by decide, rfl, by decide⟩
  | 16, _ => exact ⟨"UnknownKey", _, _, by decide, rfl, by decide⟩
  | 17, _ => exact ⟨"BadText", _, _, by decide, rfl, by decide⟩
  | 18, _ => exact ⟨"BadLabel", _, _, by decide, rfl, by decide⟩
  | 19, _ => exact ⟨"BadRow", _, _, by decide, rfl, by decide⟩
  | 20, _ => exact ⟨"BadJoints", _, _, by decide, rfl, by decide⟩
  | 21, _ => exact ⟨"UnlikeSchemes", _, _, by decide, rfl, by decide⟩
  | 22, _ => exact ⟨"NothingToUndo", _, _, by decide, rfl, by decide⟩
  | 23, _ => exact ⟨"NotLet", _, _, by decide, rfl, by decide⟩
  | k + 24, h => exact absurd h (by omega)
theorem pdL_bl (bs : List Bool) : pdL (bs.map Dt.bl) = some (bs.map .bool) := by
  induction bs with
  | nil => rfl
  | cons b bs ih =>
    rw [List.map_cons]
    unfold pdL
    rw [ih]
    rfl
theorem dep_bl (bs : List Bool) : PyData.depthAll (bs.map .bool) ≤ 1 := by
  induction bs with
  | nil => simp [PyData.depthAll]
  | cons b bs ih => simp [PyData.depthAll, PyData.depth] at ih ⊢; omega
theorem ne_bl2 {ρ : En} (bs : List Bool) : neF ρ (.lst (bs.map .bl)) (.lst (bs.map .bl)) = some (.bl false) := by
  have e2 : (Dt.lst (bs.map .bl)).pd = some (.list (bs.map .bool)) := by unfold Dt.pd; rw [pdL_bl]; rfl
  have := dep_bl bs
  exact ne_sameF (x := .lst (bs.map .bl)) rfl rfl e2 (by simp only [PyData.depth]; omega)
theorem rng17 : rng1F [.int 17] = some (rngD 0 17) := rfl
theorem rng24 : rng1F [.int 24] = some (rngD 0 24) := rfl
end T
set_option Elab.async false
set_option linter.all false
set_option maxRecDepth 100000
set_option autoImplicit false
set_option maxHeartbeats 4000000
namespace T
open PySem L2 DL
variable {K : DL.Frag}
/-! the law -/
theorem ne17 (ρ : En) (i : Nat) : neF ρ (.lst [thD i, thD i, thD i, thD i, thD i, thD i, thD i, thD i, thD i, thD i, thD i, thD i, thD i, thD i, thD i, thD i, thD i]) (.lst [thD i, thD i, thD i, thD i, thD i, thD i, thD i, thD i, thD i, thD i, thD i, thD i, thD i, thD i, thD i, thD i, thD i]) = some (.bl false) := ne_rep i 17
theorem ne2 (ρ : En) (i : Nat) : neF ρ (.lst [thD i, thD i]) (.lst [thD i, thD i]) = some (.bl false) := ne_rep i 2
theorem errs_len (K : DL.Frag) (i j : Nat) : (errs K i j).length = 24 := rfl
local macro_rules | `(tactic| walk_at "ev") => `(tactic| simp only [r_D, r_N, r_O, st0, st1, List.map_cons, List.map_nil, List.length_cons, List.length_nil, List.cons_append, List.nil_append, Nat.reduceAdd, Nat.reduceSub, Nat.add_one_sub_one, List.replicate_succ, List.replicate_zero, List.getElem?_cons_zero, List.getElem?_cons_succ, List.set_cons_zero, List.set_cons_succ, DL.v_bind (ρ := _ :: _), DL.v_ret (ρ := _ :: _), DL.v_F (ρ := _ :: _), DL.v_var (ρ := _ :: _), DL.v_varF (ρ := _ :: _), DL.v_op (ρ := _ :: _), DL.v_un (ρ := _ :: _), DL.v_cb (ρ := _ :: _), DL.v_nil (ρ := _ :: _), DL.v_cons (ρ := _ :: _), DL.v_test (ρ := _ :: _), DL.v_tru (ρ := _ :: _), DL.v_and (ρ := _ :: _), DL.v_or (ρ := _ :: _), DL.v_not (ρ := _ :: _), DL.v_if (ρ := _ :: _), DL.v_andV (ρ := _ :: _), DL.v_orV (ρ := _ :: _), DL.v_notV (ρ := _ :: _), DL.v_chain (ρ := _ :: _), DL.v_tup (ρ := _ :: _), DL.v_lst (ρ := _ :: _), DL.v_noPart (ρ := _ :: _), DL.v_part (ρ := _ :: _), DL.v_sl (ρ := _ :: _), DL.v_mtS (ρ := _ :: _), DL.v_iter (ρ := _ :: _), DL.v_items (ρ := _ :: _), DL.v_vals (ρ := _ :: _), DL.v_itA (ρ := _ :: _), DL.v_itV (ρ := _ :: _), DL.v_rev (ρ := _ :: _), DL.v_mtL (ρ := _ :: _), DL.v_call (ρ := _ :: _), DL.v_callD (ρ := _ :: _), DL.v_callO (ρ := _ :: _), DL.v_fld (ρ := _ :: _), DL.v_meth (ρ := _ :: _), DL.v_prop (ρ := _ :: _), DL.v_make (ρ := _ :: _), DL.v_makeN (ρ := _ :: _), DL.v_lc (ρ := _ :: _), DL.v_dc (ρ := _ :: _), DL.v_get2 (ρ := _ :: _), DL.w_E (ρ := _ :: _), DL.w_seq (ρ := _ :: _), DL.w_next (ρ := _ :: _), DL.w_set (ρ := _ :: _), DL.w_own (ρ := _ :: _), DL.w_unp (ρ := _ :: _), DL.w_drop (ρ := _ :: _), DL.w_ret (ρ := _ :: _), DL.w_retN (ρ := _ :: _), DL.w_retNew (ρ := _ :: _), DL.w_retOwn (ρ := _ :: _), DL.w_if (ρ := _ :: _), DL.w_put (ρ := _ :: _), DL.w_for (ρ := _ :: _), DL.w_rai0 (ρ := _ :: _), DL.w_rai1 (ρ := _ :: _), DL.w_fld (ρ := _ :: _), DL.w_aug (ρ := _ :: _), kM_ok, kM_ex, kM_no, kM_if, kS_ok, kS_ex, kS_no, kS_if, kQ_nx, kQ_rt, kQ_rn, kQ_ex, kQ_bk, kQ_ct, kQ_no, kQ_if, kF_some, kF_no, DL.kV_sh, DL.kV_ow, kVF_sh, kVF_ow, kB_bl, kD_nx, kD_rt, kD_ex, kD_if, kN_rn, kN_ex, kN_if, kO_nx, kO_rt, kO_ex, kO_if, kI_int, kStr_str, kC_some, kOL_ow, kOw_ow, kOo_val, kOo_exc, kFl_ins, kPr_ins, kVal_val, kE_some, kRO_ow, kOI_ow, kJ_own, kSh_sh, kZ_some, kW_tt, kW_ff, kOpt_some, key_str, key_int, dicL_dicD, kLc_some, kDc_some, out_val, out_exc, out_if, outO_val, outO_exc, c_tf, c_val, c_rt, c_okS, c_valO, c_intD, c_strD, c_bl, c_ff, c_tt, c_same, lent_ev, kLn_sh, kLn_no, kLn_ow, kLn_lent, kLn_slS, kLn_none, real_non, real_bl, real_int, real_str, real_lst, real_tup, real_ins, real_ty, real_ref, real_own, allReal_consE, allReal_nilE, real_dic, Bool.and_self, Bool.and_true, Bool.true_and, Bool.and_false, Bool.false_and, Bool.or_true, Bool.true_or, Bool.or_false, Bool.false_or, and_self, and_true, true_and, if_true, reduceIte, cond_true, cond_false, Bool.not_true, Bool.not_false, Nat.reduceLeDiff, Nat.zero_le, Bool.not_not, l_lst, l_tup, l_strD, l_int, l_bl, l_non, l_dic, l_ins, l_own, kLk_ow, eq_int, eq_str, eq_bl, ne_int, ne_str, ne_bl, cmp_int, cmp_str, DL.add_int, DL.sub_int, DL.neg_int, DL.iadd_int, len_lst, len_tup, len_dic, DL.ix_lst, DL.ix_tup, ix_dicS, in_dicS, in_lstS, in_tupS, it_lst, it_tup, it_str, it_dic, list_lst, list_tup, list_dic, tup_lst, tup_tup, dict_dic, dict_prs, isi_int_int, isi_int_bool, isi_str_str, isi_tup_tup, tru_bl, tru_lst, isNon_non, isNon_bl, isNon_int, isNon_str, isNon_lst, isNon_tup, isNon_ins, isNon_dic, gfName, gfTup, gfCons, gfNil, List.contains_nil, noLent_consE, noLent_nilE, wipeE, stepL, kL_nx, absF, intF, decide_true, decide_false, Int.cast_ofNat_Int, Int.reduceLE, Nat.reduceLT, Int.reduceLT, Int.reduceEq, Int.reduceNeg, Bool.false_bne, Bool.true_bne, real_tape, pow18, at0, at1, at2, at3, ix_ow, kXo_ow, len_ow, kLo_ow, v_xfV, v_mkV, v_revV, rev2, exv1, exv2, lk1, lkK, lkO, kXv_exv, real_exv, l_exv, thD_real, DL.add_lst])
theorem comp17 (s tp d : Sl) (i : Nat) : kLc (lcL (gfName 4) (mRet true) (mVar 2) [4] (rngD 0 17) [s, tp, .sh (thD i), d, .no, .no, .no, .no, .no]) = some (.ok (.lst [thD i, thD i, thD i, thD i, thD i, thD i, thD i, thD i, thD i, thD i, thD i, thD i, thD i, thD i, thD i, thD i, thD i]) [s, tp, .sh (thD i), d, .no, .no, .no, .no, .no]) := by
  rw [rng_map, lc_mp (fun k : Nat => Dt.int (k : Nat)) (fun _ => thD i) (List.range 17) (by simp) (fun k _ => by
    unfold stepC
    try walk_at "ev"
    )]
  rw [map_rep, List.length_range]
  rfl
theorem comp2K (s tp a d c : Sl) (i j : Nat) (C : Addr) : kLc (lcL (gfName 7) (mRet true) (mXfV C "kind" (mVar 7)) [7] [.exv C ["other", "kind"] [thD j, thD i], .exv C ["other", "kind"] [thD j, thD i]] [s, tp, a, d, .no, c, .no, .no, .no]) = some (.ok (.lst [thD i, thD i]) [s, tp, a, d, .no, c, .no, .no, .no]) :=
  lc_mp (fun _ : Unit => Dt.exv C ["other", "kind"] [thD j, thD i]) (fun _ => thD i) [(), ()] (by simp) (fun k _ => by
    unfold stepC
    try walk_at "ev"
    )
theorem comp2O (s tp a d c : Sl) (i j : Nat) (C : Addr) : kLc (lcL (gfName 7) (mRet true) (mXfV C "other" (mVar 7)) [7] [.exv C ["other", "kind"] [thD j, thD i], .exv C ["other", "kind"] [thD j, thD i]] [s, tp, a, d, .no, c, .no, .no, .no]) = some (.ok (.lst [thD j, thD j]) [s, tp, a, d, .no, c, .no, .no, .no]) :=
  lc_mp (fun _ : Unit => Dt.exv C ["other", "kind"] [thD j, thD i]) (fun _ => thD j) [(), ()] (by simp) (fun k _ => by
    unfold stepC
    try walk_at "ev"
    )
theorem comp24 (s tp a d c e : Sl) (k : Nat) : kLc (lcL (gfName 8) (mRet true) (mOp eqF (mVar 4) (mVar 8)) [8] (rngD 0 24) [s, tp, a, d, .sh (.int (k : Nat)), c, e, .no, .no]) = some (.ok (.lst ((rowN k).map .bl)) [s, tp, a, d, .sh (.int (k : Nat)), c, e, .no, .no]) := by
  rw [rng_map, lc_mp (fun k : Nat => Dt.int (k : Nat)) (fun m => .bl (decide ((k : Int) = (m : Nat)))) (List.range 24) (by simp) (fun m _ => by
    unfold stepC
    try walk_at "ev"
    )]
  unfold rowN
  rw [List.map_map]
  rfl
theorem f_law (hx : Ex K) (ns : List Int) : F_law K [.lst (ns.map .int)] = some (.val (.bl true)) := by
  obtain ⟨t0, e0, ht0⟩ := f_tape (K := K) ns 0 (by decide) (by decide)
  obtain ⟨i, t1, e1, ht1⟩ := f_thing (K := K) t0 ht0
  obtain ⟨j, t2, e2, ht2⟩ := f_thing (K := K) t1 ht1
  unfold F_law b_law
  rw [r_D, show st0 9 [Dt.lst (ns.map .int)] = [.sh (.lst (ns.map .int)), .no, .no, .no, .no, .no, .no, .no, .no] from rfl]
  try walk_at "ev"
  rw [e0]
  try walk_at "ev"
  try walk_at "ev"
  rw [e1]
  try walk_at "ev"
  try walk_at "ev"
  rw [e2]
  try walk_at "ev"
  try walk_at "ev"
  rw [f_told]
  try walk_at "ev"
  try walk_at "ev"
  rw [rng17]
  try walk_at "ev"
  try walk_at "ev"
  rw [comp17]
  try walk_at "ev"
  try walk_at "ev"
  rw [ne17]
  try walk_at "ev"
  try walk_at "ev"
  rw [f_named]
  try walk_at "ev"
  try walk_at "ev"
  rw [rng17]
  try walk_at "ev"
  try walk_at "ev"
  rw [comp17]
  try walk_at "ev"
  try walk_at "ev"
  rw [ne17]
  try walk_at "ev"
  try walk_at "ev"
  rw [comp2K]
  try walk_at "ev"
  try walk_at "ev"
  rw [ne2]
  try walk_at "ev"
  try walk_at "ev"
  rw [comp2O]
  try walk_at "ev"
  try walk_at "ev"
  rw [ne2]
  try walk_at "ev"
  try walk_at "ev"
  rw [rng24]
  try walk_at "ev"
  try walk_at "ev"
  refine forL_ind (P := fun r => kD (kQ r _) = some (.val (.bl true))) (fun k ρ => ∃ x, ρ = [.sh (.lst (ns.map .int)), .ow false (tapeD t2), .sh (thD i), .sh (thD j), slS x, .sh (.lst [.exv (He.ga K "NotLet") ["other", "kind"] [thD j, thD i], .exv (He.ga K "NotLet") ["other", "kind"] [thD j, thD i]]), .sh (.lst (errs K i j)), .no, .no]) ⟨none, rfl⟩ ?_ ?_
  · rintro k z _ hz ⟨x, rfl⟩
    obtain ⟨hk, rfl⟩ := rng_get hz
    obtain ⟨X, fs, ds, hX, ea, er⟩ := at_err (K := K) i j k hk
    refine ⟨_, ?_, some (.int (k : Nat)), rfl⟩
    try walk_at "ev"
    rw [ea]
    try walk_at "ev"
    try walk_at "ev"
    rw [isp hx hX]
    try walk_at "ev"
    try walk_at "ev"
    rw [ea]
    try walk_at "ev"
    try walk_at "ev"
    rw [isve hx hX]
    try walk_at "ev"
    try walk_at "ev"
    rw [ea]
    try walk_at "ev"
    try walk_at "ev"
    rw [f_kinds hx hX]
    try walk_at "ev"
    try walk_at "ev"
    rw [errs_len]
    try walk_at "ev"
    try walk_at "ev"
    rw [rng24]
    try walk_at "ev"
    try walk_at "ev"
    rw [comp24]
    try walk_at "ev"
    try walk_at "ev"
    rw [er, ne_bl2]
    try walk_at "ev"
    rfl
  · rintro _ ⟨x, rfl⟩
    try walk_at "ev"
end T
set_option Elab.async false
set_option linter.all false
set_option maxRecDepth 100000
set_option autoImplicit false
set_option maxHeartbeats 4000000
namespace T
open PySem L2 PyProof.Rows DL
theorem ok_law {P : Program} {w : World} {K : DL.Frag} {mg : Str → Option Value} {base : Heap} (T : Tx w K mg) {fd : FuncData} (F : FunD K "law" "law" (defArgs s_law) (defBody s_law) (defScope s_law) [] [] (He.ga K "law") fd) : FnOk P w K mg base (L2.CX P w) 4 (He.ga K "law") fd ["_law_script"] (DSp K sp_law) := ok_law_of T (fun ns => f_law ⟨T.kt, T.kp, T.kv⟩ ns) F
theorem facts {P : Program} {w : World} {K : DL.Frag} {h : Heap} {mg : Str → Option Value} {f : Addr} (X : K.In h) (G : h.Ns mainGlobals mg) (hfa : mg ("law" : Str) = some (.ref f)) (c : DL.SaysF w fa fn ex dc pr K) :
    ∃ fd : FuncData, (∀ (s : Shared) (v : Value), BindsTo s fd ⟨[v], []⟩ [("_law_script", v)]) ∧ ∀ base : Heap, K.In base → base.Ns mainGlobals mg → FnOk P w K mg base (L2.CX P w) 4 f fd ["_law_script"] (DL.DSp K sp_law) := by
  have T := tx_of X G c
  obtain ⟨fd, F⟩ := T.F_law
  have e := hfa.symm.trans T.g_law
  cases e
  have b := FunD.bindsA (ps := ["_law_script"]) F fun _ _ _ _ _ _ us hl => match us, hl with | [_], _ => rfl
  exact ⟨fd, fun s v => b s [v] rfl, fun base _ _ => ok_law T F⟩
end T
open PySem PySem.W PySem.Calls PyProof.Rows
set_option maxHeartbeats 0 in
theorem PySem.Challenge.cw_partlabels_k11_errors_holds : PySem.Challenge.rw_partlabels_k11_errors.Holds := by
  w_on; o_law
  refine HandSHeadRun.head_any (r := OpenLaw.row PySem.Challenge.rw_partlabels_k11_errors) (q := view (OpenLaw.row PySem.Challenge.rw_partlabels_k11_errors).prog [33]) (H := T.hk) (ob := T.ob) (M := 20000) (loose := T.loose) (d := HandSHeadRun.topDef (OpenLaw.row PySem.Challenge.rw_partlabels_k11_errors).prog 33) (kwd := []) T.ob_eq
    (by kernel_rfl) (fun s => by kernel_rfl) T.run (by kernel_rfl) (by kernel_rfl) (by kernel_rfl) (by rfl) (by first | assumption | decide +kernel) (by decide +kernel) ⟨rfl, rfl, rfl, rfl, rfl, by decide +kernel⟩ ?hw ?hc
  case hw => w_witness2
  case hc =>
    refine DL.walk_W (l := PySem.Challenge.rw_partlabels_k11_errors) (n := 63) (k := 4) (x := "_law_script") rfl (by decide) (by kernel_rfl) ⟨rfl, by decide, by decide⟩ ?F
    intro w mg fa h Y G hmg0
    obtain ⟨K, KX, c⟩ := Y
    have hmg : mg ("law" : PySem.Str) = some (.ref fa) := by
      have e : (HandSHeadRun.topDef (OpenLaw.row PySem.Challenge.rw_partlabels_k11_errors).prog 33).name = ("law" : PySem.Str) := by kernel_rfl
      rw [← e]
      exact hmg0
    obtain ⟨fd, hb, hF⟩ := T.facts (P := (PySem.Challenge.rw_partlabels_k11_errors).prog) (w := w) KX G hmg c
    exact ⟨K, fd, T.spL K, KX, hb, fun H a ns hl _ hS => T.spL_of hl hS, hF⟩
#print axioms PySem.Challenge.cw_partlabels_k11_errors_holds
