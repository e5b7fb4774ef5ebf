import PyProof.Rows.All
import PySem.Challenge.RW_hashdoors_k27_texts_refused
import Wide.All
import OpenK.AllK
import Wide.FinOn
import HandS.ForMost
import HandS.Wide
import HandS.Property
import HandS.IsInst
import HandS.RaiseMore
import HandS.SortInts
import HandS.Flow
import HandS.Style
import HandS.Conv
import HandS.EndBits
import HandS.WideBits
import HandS.OwnEq
import PyProof.ReprBulk
import PyProof.LongRange
import PyProof.ListRange
import HandS.SetFor
import HandS.Strs
import PyProof.DictUpdate
import HandS.ForDict
import HandS.SortRule
import HandS.Star
import HandS.ExcValue
import HandS.ExcInit
import HandS.ExcField
import KE.KExcIs
import HandS.Deep
import HandS.Text
import HandS.Iter
import HandS.DictTup
import KE.DatumOrd
import HandS.Exc
import HandS.ExcOwn
import HandS.CallSlots
import HandS.WordsExc
import PyProof.StrOps2
import KE.KBits
import KE.IntTextLaws
set_option Elab.async false
set_option linter.all false
section
set_option maxRecDepth 100000
/-! typed layer over HandS: frozen values, owned lists, expressions that evaluate, statements that pass on -/
namespace Fw
open PySem L2

/-- what is said of a value, by the frozen part of the heap -/
structure R where
  p : Hp → V → Prop
  mono : ∀ {F F' : Hp} {v : V}, Same F F' → p F v → p F' v
/-- what is said of an object that is owned -/
structure OC where
  p : Hp → Addr → HO → Prop
  mono : ∀ {F F' : Hp} {a : Addr} {o : HO}, Same F F' → p F a o → p F' a o
  nt : ∀ {F : Hp} {a : Addr} {o : HO}, p F a o → ∀ xs : List V, o ≠ .tup xs

def eV (v : V) : R := ⟨fun _ x => x = v, fun _ h => h⟩
abbrev eI (i : Int) : R := eV (.int i)
abbrev eB (b : Bool) : R := eV (.bl b)
abbrev eS (s : Str) : R := eV (.str s)
abbrev eN : R := eV .non
def eAny : R := ⟨fun _ _ => True, fun _ h => h⟩

def All2 : List R → Hp → List V → Prop
  | [], _, [] => True
  | r :: rs, F, x :: xs => r.p F x ∧ All2 rs F xs
  | _, _, _ => False
theorem All2.mono {F F' : Hp} (e : Same F F') : ∀ {rs : List R} {xs : List V}, All2 rs F xs → All2 rs F' xs
  | [], [], _ => trivial
  | r :: rs, x :: xs, h => ⟨r.mono e h.1, All2.mono e h.2⟩
  | [], _ :: _, h => h.elim
  | _ :: _, [], h => h.elim
theorem All2.len {F : Hp} : ∀ {rs : List R} {xs : List V}, All2 rs F xs → xs.length = rs.length
  | [], [], _ => rfl
  | r :: rs, x :: xs, h => congrArg (· + 1) (All2.len h.2)
  | [], _ :: _, h => h.elim
  | _ :: _, [], h => h.elim
theorem All2.app {F : Hp} : ∀ {rs : List R} {xs : List V} {ss : List R} {ys : List V}, All2 rs F xs → All2 ss F ys → All2 (rs ++ ss) F (xs ++ ys)
  | [], [], _, _, _, h => h
  | r :: rs, x :: xs, _, _, h, k => ⟨h.1, All2.app h.2 k⟩
  | [], _ :: _, _, _, h, _ => h.elim
  | _ :: _, [], _, _, h, _ => h.elim
theorem All2.get {F : Hp} : ∀ {rs : List R} {xs : List V} {i : Nat} {x : V}, All2 rs F xs → xs[i]? = some x → ∃ r, rs[i]? = some r ∧ r.p F x
  | r :: rs, y :: ys, 0, x, h, e => by simp at e; subst e; exact ⟨r, rfl, h.1⟩
  | r :: rs, y :: ys, i + 1, x, h, e => by
    obtain ⟨q, h1, h2⟩ := All2.get (i := i) (x := x) h.2 (by simpa using e)
    exact ⟨q, by simpa using h1, h2⟩
  | [], [], i, x, _, e => by simp at e
  | [], _ :: _, _, _, h, _ => h.elim
  | _ :: _, [], _, _, h, _ => h.elim
theorem All2.get' {F : Hp} : ∀ {rs : List R} {xs : List V} {i : Nat} {r : R}, All2 rs F xs → rs[i]? = some r → ∃ x, xs[i]? = some x ∧ r.p F x
  | r :: rs, y :: ys, 0, x, h, e => by simp at e; subst e; exact ⟨y, rfl, h.1⟩
  | r :: rs, y :: ys, i + 1, x, h, e => by
    obtain ⟨q, h1, h2⟩ := All2.get' (i := i) (r := x) h.2 (by simpa using e)
    exact ⟨q, by simpa using h1, h2⟩
  | [], [], i, x, _, e => by simp at e
  | [], _ :: _, _, _, h, _ => h.elim
  | _ :: _, [], _, _, h, _ => h.elim
theorem All2.set {F : Hp} {r : R} {x : V} (q : r.p F x) : ∀ {rs : List R} {xs : List V} (i : Nat), All2 rs F xs → All2 (rs.set i r) F (xs.set i x)
  | [], [], _, h => h
  | _ :: _, _ :: _, 0, h => ⟨q, h.2⟩
  | _ :: _, _ :: _, i + 1, h => ⟨h.1, All2.set q i h.2⟩
  | [], _ :: _, _, h => h.elim
  | _ :: _, [], _, h => h.elim

variable {K : PySem.W.Frag}
def eT (K : PySem.W.Frag) (rs : List R) : R := ⟨fun F v => ∃ p xs, v = .ref p ∧ F p = some (.tup xs) ∧ All2 rs F xs, fun e ⟨p, xs, h1, h2, h3⟩ => ⟨p, xs, h1, e _ _ h2, h3.mono e⟩⟩
def eP2 {α β : Type} (K : PySem.W.Frag) (a : α → R) (b : β → R) (x : α × β) : R := eT K [a x.1, b x.2]
def eP3 {α β γ : Type} (K : PySem.W.Frag) (a : α → R) (b : β → R) (c : γ → R) (x : α × β × γ) : R := eT K [a x.1, b x.2.1, c x.2.2]
def eO {α : Type} (e : α → R) : Option α → R
  | none => eN
  | some x => e x
/-- a list; q: where it stands, if that is told -/
def oLq (q : Option Addr) (rs : List R) : OC := ⟨fun F a o => (∀ p, q = some p → a = p) ∧ ∃ xs, o = .lst xs ∧ All2 rs F xs, fun e ⟨z, xs, h1, h2⟩ => ⟨z, xs, h1, h2.mono e⟩, fun ⟨_, xs, h1, _⟩ ys e => by rw [h1] at e; cases e⟩
abbrev oL (rs : List R) : OC := oLq none rs
abbrev oLs {α : Type} (e : α → R) (l : List α) : OC := oL (l.map e)

/-! ### slots -/
inductive Sl where
  | no
  | fz (r : R)
  | ow (c : OC)
def Own (W : List Sl) (σ : St) (a : Addr) : Prop := ∃ (i : Nat) (c : OC), W[i]? = some (.ow c) ∧ σ[i]? = some (some (.ref a))
structure Sat (F H : Hp) (σ : St) (W : List Sl) : Prop where
  ex : Same F H
  len : σ.length = W.length
  fz : ∀ (i : Nat) (r : R), W[i]? = some (.fz r) → ∃ v, σ[i]? = some (some v) ∧ r.p F v
  ow : ∀ (i : Nat) (c : OC), W[i]? = some (.ow c) → ∃ p o, σ[i]? = some (some (.ref p)) ∧ H p = some o ∧ F p = none ∧ c.p F p o
  ds : ∀ (i j : Nat) (c d : OC) (p : Addr), W[i]? = some (.ow c) → W[j]? = some (.ow d) → σ[i]? = some (some (.ref p)) → σ[j]? = some (some (.ref p)) → i = j
structure Rel (F H : Hp) (M : Addr → Prop) (F' H' : Hp) (M' : Addr → Prop) : Prop where
  f : Same F F'
  h : ∀ a o, ¬ M a → H a = some o → H' a = some o
  n : ∀ a o, F' a = some o → F a = some o ∨ H a = none ∨ M a ∨ ∃ xs, o = .tup xs
  t : ∀ a, H' a = none → H a = none
  o : ∀ a, M' a → M a ∨ H a = none
section
variable {F H F' H' F'' H'' : Hp} {M M' M'' : Addr → Prop} {σ : St} {W W' : List Sl}
theorem Rel.refl : Rel F H M F H M := ⟨fun _ _ h => h, fun _ _ _ h => h, fun _ _ h => .inl h, fun _ h => h, fun _ h => Or.inl h⟩
theorem Rel.trans (a : Rel F H M F' H' M') (b : Rel F' H' M' F'' H'' M'') : Rel F H M F'' H'' M'' where
  f := fun x o h => b.f x o (a.f x o h)
  h := fun x o n h => b.h x o (fun m => (a.o x m).elim n fun z => by rw [h] at z; cases z) (a.h x o n h)
  n := fun x o h => by
    rcases b.n x o h with z | z | z | z
    · exact a.n x o z
    · exact .inr (.inl (a.t x z))
    · exact (a.o x z).elim (fun z => .inr (.inr (.inl z))) fun z => .inr (.inl z)
    · exact .inr (.inr (.inr z))
  t := fun x h => a.t x (b.t x h)
  o := fun x m => (b.o x m).elim (a.o x) fun z => .inr (a.t x z)
/-- what is owned does not freeze -/
theorem Rel.nof (q : Rel F H M F' H' M') (ex : Same F' H') {p : Addr} {o : HO} (f : F p = none) (h : H p = some o) (m : ¬ M p) (nt : ∀ xs, o ≠ .tup xs) : F' p = none := by
  cases z : F' p with
  | none => rfl
  | some u =>
    rcases q.n p u z with k | k | k | ⟨xs, e⟩
    · rw [f] at k; cases k
    · rw [h] at k; cases k
    · exact (m k).elim
    · have a := ex p u z
      rw [q.h p o m h] at a
      cases a
      exact (nt xs e).elim
/-- the heap grows; nothing that is frozen comes -/
theorem Rel.grow (e : Same H H') : Rel F H M F H' M := ⟨fun _ _ h => h, fun x o _ h => e x o h, fun _ _ h => .inl h, fun x h => e.free h, fun _ h => .inl h⟩
/-- a new object is laid and frozen -/
theorem Rel.lay {p : Addr} {o : HO} (ex : Same F H) (hp : H p = none) : Rel F H M (upd F p o) (upd H p o) M where
  f := fun x u h => by
    have q := ex x u h
    rw [upd_ne (ne_of_none q hp)]; exact h
  h := fun x u _ h => by rw [upd_ne (ne_of_none h hp)]; exact h
  n := fun x u h => by
    by_cases e : x = p
    · subst e; exact .inr (.inl hp)
    · rw [upd_ne e] at h; exact .inl h
  t := fun x h => by
    by_cases e : x = p
    · subst e; exact hp
    · rw [upd_ne e] at h; exact h
  o := fun _ h => .inl h
end
end Fw
end
section
set_option maxRecDepth 100000
namespace Fw
open PySem L2
section
variable {F H F' H' F'' H'' : Hp} {M M' M'' : Addr → Prop} {σ σ' : St} {W W' W1 W2 : List Sl} {K : PySem.W.Frag}
theorem Rel.sub (a : Rel F H M F' H' M') (s : ∀ x, M'' x → M' x) : Rel F H M F' H' M'' := ⟨a.f, a.h, a.n, a.t, fun x m => a.o x (s x m)⟩
theorem Own.lt {a : Addr} (o : Own W σ a) (s : Sat F H σ W) : ∃ u, H a = some u := by
  obtain ⟨i, c, h1, h2⟩ := o
  obtain ⟨p, u, e, q, _⟩ := s.ow i c h1
  rw [h2] at e; cases e
  exact ⟨u, q⟩
theorem Sat.grow (s : Sat F H σ W) (e : Same H H') : Sat F H' σ W :=
  ⟨fun a o h => e a o (s.ex a o h), s.len, s.fz, fun i c h => let ⟨p, o, h1, h2, h3, h4⟩ := s.ow i c h; ⟨p, o, h1, e p o h2, h3, h4⟩, s.ds⟩
theorem Sat.lay {p : Addr} {o : HO} (s : Sat F H σ W) (hp : H p = none) : Sat (upd F p o) (upd H p o) σ W := by
  have fp : F p = none := s.ex.free hp
  have e : Same F (upd F p o) := fun a u h => by rw [upd_ne (ne_of_none h fp)]; exact h
  refine ⟨fun a u h => ?_, s.len, fun i r h => ?_, fun i c h => ?_, s.ds⟩
  · by_cases q : a = p
    · subst q; rw [upd_same] at h; cases h; exact upd_same
    · rw [upd_ne q] at h; rw [upd_ne q]; exact s.ex a u h
  · obtain ⟨v, h1, h2⟩ := s.fz i r h
    exact ⟨v, h1, r.mono e h2⟩
  · obtain ⟨q, u, h1, h2, h3, h4⟩ := s.ow i c h
    have ne : q ≠ p := ne_of_none h2 hp
    exact ⟨q, u, h1, by rw [upd_ne ne]; exact h2, by rw [upd_ne ne]; exact h3, c.mono e h4⟩
/-- a frozen value is stored -/
theorem Sat.put {i : Nat} {v : V} {r : R} (s : Sat F H σ W) (q : r.p F v) : Sat F H (σ.set i (some v)) (W.set i (.fz r)) := by
  refine ⟨s.ex, by simpa using s.len, fun j u h => ?_, fun j c h => ?_, fun j k c d p h1 h2 h3 h4 => ?_⟩
  · by_cases e : i = j
    · subst e
      have hi : i < W.length := by
        have := (List.getElem?_eq_some_iff.mp h).1
        simpa using this
      rw [List.getElem?_set_self hi] at h; cases h
      exact ⟨v, List.getElem?_set_self (by rw [s.len]; exact hi), q⟩
    · rw [List.getElem?_set_ne e] at h
      rw [List.getElem?_set_ne e]
      exact s.fz j u h
  · by_cases e : i = j
    · subst e
      have hi : i < W.length := by
        have := (List.getElem?_eq_some_iff.mp h).1
        simpa using this
      rw [List.getElem?_set_self hi] at h; cases h
    · rw [List.getElem?_set_ne e] at h
      rw [List.getElem?_set_ne e]
      exact s.ow j c h
  · have nj : i ≠ j := fun e => by
      subst e
      have hi : i < W.length := by
        have := (List.getElem?_eq_some_iff.mp h1).1
        simpa using this
      rw [List.getElem?_set_self hi] at h1; cases h1
    have nk : i ≠ k := fun e => by
      subst e
      have hi : i < W.length := by
        have := (List.getElem?_eq_some_iff.mp h2).1
        simpa using this
      rw [List.getElem?_set_self hi] at h2; cases h2
    rw [List.getElem?_set_ne nj] at h1 h3
    rw [List.getElem?_set_ne nk] at h2 h4
    exact s.ds j k c d p h1 h2 h3 h4
theorem Own.put {i : Nat} {v : V} {r : R} {a : Addr} (o : Own (W.set i (.fz r)) (σ.set i (some v)) a) : Own W σ a := by
  obtain ⟨j, c, h1, h2⟩ := o
  have nj : i ≠ j := fun e => by
    subst e
    have hi : i < W.length := by
      have := (List.getElem?_eq_some_iff.mp h1).1
      simpa using this
    rw [List.getElem?_set_self hi] at h1; cases h1
  rw [List.getElem?_set_ne nj] at h1 h2
  exact ⟨j, c, h1, h2⟩
/-- an owned object, new, is stored -/
theorem Sat.own {i : Nat} {p : Addr} {o : HO} {c : OC} (s : Sat F H σ W) (hp : H p = some o) (fp : F p = none) (np : ¬ Own W σ p) (q : c.p F p o) : Sat F H (σ.set i (some (.ref p))) (W.set i (.ow c)) := by
  have inj : ∀ (j : Nat) (d : OC), i ≠ j → W[j]? = some (.ow d) → σ[j]? = some (some (.ref p)) → False := fun j d _ h1 h2 => np ⟨j, d, h1, h2⟩
  refine ⟨s.ex, by simpa using s.len, fun j u h => ?_, fun j d h => ?_, fun j k d e a h1 h2 h3 h4 => ?_⟩
  · by_cases e : i = j
    · subst e
      have hi : i < W.length := by
        have := (List.getElem?_eq_some_iff.mp h).1
        simpa using this
      rw [List.getElem?_set_self hi] at h; cases h
    · rw [List.getElem?_set_ne e] at h
      rw [List.getElem?_set_ne e]
      exact s.fz j u h
  · by_cases e : i = j
    · subst e
      have hi : i < W.length := by
        have := (List.getElem?_eq_some_iff.mp h).1
        simpa using this
      rw [List.getElem?_set_self hi] at h; cases h
      exact ⟨p, o, List.getElem?_set_self (by rw [s.len]; exact hi), hp, fp, q⟩
    · rw [List.getElem?_set_ne e] at h
      rw [List.getElem?_set_ne e]
      exact s.ow j d h
  · by_cases ej : i = j
    · by_cases ek : i = k
      · exact ej.symm.trans ek
      · subst ej
        have hi : i < W.length := by
          have := (List.getElem?_eq_some_iff.mp h1).1
          simpa using this
        rw [List.getElem?_set_self (by rw [s.len]; exact hi)] at h3
        cases h3
        rw [List.getElem?_set_ne ek] at h2 h4
        exact (inj k e ek h2 h4).elim
    · by_cases ek : i = k
      · subst ek
        have hi : i < W.length := by
          have := (List.getElem?_eq_some_iff.mp h2).1
          simpa using this
        rw [List.getElem?_set_self (by rw [s.len]; exact hi)] at h4
        cases h4
        rw [List.getElem?_set_ne ej] at h1 h3
        exact (inj j d ej h1 h3).elim
      · rw [List.getElem?_set_ne ej] at h1 h3
        rw [List.getElem?_set_ne ek] at h2 h4
        exact s.ds j k d e a h1 h2 h3 h4
theorem Own.own {i : Nat} {p : Addr} {c : OC} {a : Addr} (o : Own (W.set i (.ow c)) (σ.set i (some (.ref p))) a) : Own W σ a ∨ a = p := by
  obtain ⟨j, d, h1, h2⟩ := o
  by_cases e : i = j
  · subst e
    have hi : i < (W.set i (.ow c)).length := (List.getElem?_eq_some_iff.mp h1).1
    have hj : i < (σ.set i (some (.ref p))).length := (List.getElem?_eq_some_iff.mp h2).1
    rw [List.getElem?_set_self (by simpa using hj)] at h2
    cases h2
    exact .inr rfl
  · rw [List.getElem?_set_ne e] at h1 h2
    exact .inl ⟨j, d, h1, h2⟩
/-- what an owned object holds is changed -/
theorem Sat.mut {i : Nat} {p : Addr} {o : HO} {c d : OC} (s : Sat F H σ W) (hw : W[i]? = some (.ow d)) (hs : σ[i]? = some (some (.ref p))) (q : c.p F p o) : Sat F (upd H p o) σ (W.set i (.ow c)) := by
  have hi : i < W.length := (List.getElem?_eq_some_iff.mp hw).1
  have fp : F p = none := by
    obtain ⟨p', o', e1, _, e3, _⟩ := s.ow i d hw
    rw [hs] at e1; cases e1; exact e3
  refine ⟨fun a u h => ?_, by simpa using s.len, fun j u h => ?_, fun j e h => ?_, fun j k e e' a h1 h2 h3 h4 => ?_⟩
  · rw [upd_ne (ne_of_none h fp)]; exact s.ex a u h
  · by_cases e : i = j
    · subst e
      rw [List.getElem?_set_self hi] at h; cases h
    · rw [List.getElem?_set_ne e] at h
      exact s.fz j u h
  · by_cases e1 : i = j
    · subst e1
      rw [List.getElem?_set_self hi] at h; cases h
      exact ⟨p, o, hs, upd_same, fp, q⟩
    · rw [List.getElem?_set_ne e1] at h
      obtain ⟨a, u, g1, g2, g3, g4⟩ := s.ow j e h
      have ne : a ≠ p := fun z => by subst z; exact e1 (s.ds i j d e a hw h hs g1)
      exact ⟨a, u, g1, by rw [upd_ne ne]; exact g2, g3, g4⟩
  · have old : ∀ (j : Nat) (e : OC), (W.set i (.ow c))[j]? = some (.ow e) → ∃ e', W[j]? = some (.ow e') := fun j e h => by
      by_cases e1 : i = j
      · subst e1; exact ⟨d, hw⟩
      · rw [List.getElem?_set_ne e1] at h; exact ⟨e, h⟩
    obtain ⟨a1, g1⟩ := old j e h1
    obtain ⟨a2, g2⟩ := old k e' h2
    exact s.ds j k a1 a2 a g1 g2 h3 h4
theorem Own.mut {i : Nat} {c d : OC} {a : Addr} (hw : W[i]? = some (.ow d)) : Own (W.set i (.ow c)) σ a ↔ Own W σ a := by
  have hi : i < W.length := (List.getElem?_eq_some_iff.mp hw).1
  constructor
  · rintro ⟨j, e, h1, h2⟩
    by_cases e1 : i = j
    · subst e1; exact ⟨i, d, hw, h2⟩
    · rw [List.getElem?_set_ne e1] at h1; exact ⟨j, e, h1, h2⟩
  · rintro ⟨j, e, h1, h2⟩
    by_cases e1 : i = j
    · subst e1; exact ⟨i, c, List.getElem?_set_self hi, h2⟩
    · exact ⟨j, e, by rw [List.getElem?_set_ne e1]; exact h1, h2⟩
/-- forgetting -/
def Wk : List Sl → List Sl → Prop
  | [], [] => True
  | s :: W, t :: W' => (t = .no ∨ t = s) ∧ Wk W W'
  | _, _ => False
theorem Wk.len : ∀ {W W' : List Sl}, Wk W W' → W.length = W'.length
  | [], [], _ => rfl
  | _ :: _, _ :: _, h => congrArg (· + 1) (Wk.len h.2)
  | [], _ :: _, h => h.elim
  | _ :: _, [], h => h.elim
theorem Wk.at : ∀ {W W' : List Sl} {i : Nat} {s : Sl}, Wk W W' → W'[i]? = some s → s = .no ∨ W[i]? = some s
  | _ :: _, _ :: _, 0, s, h, e => by
    simp at e; subst e
    rcases h.1 with z | z
    · exact .inl z
    · exact .inr (by rw [z]; rfl)
  | _ :: _, _ :: _, i + 1, s, h, e => by
    rcases Wk.at (i := i) (s := s) h.2 (by simpa using e) with z | z
    · exact .inl z
    · exact .inr (by simpa using z)
  | [], [], _, _, _, e => by simp at e
  | [], _ :: _, _, _, h, _ => h.elim
  | _ :: _, [], _, _, h, _ => h.elim
theorem Wk.refl : ∀ {W : List Sl}, Wk W W
  | [] => trivial
  | _ :: _ => ⟨.inr rfl, Wk.refl⟩
theorem Wk.sub {a : Addr} (k : Wk W W') (o : Own W' σ a) : Own W σ a := by
  obtain ⟨i, c, h1, h2⟩ := o
  rcases k.at h1 with z | z
  · cases z
  · exact ⟨i, c, z, h2⟩
theorem Sat.weak (s : Sat F H σ W) (k : Wk W W') : Sat F H σ W' := by
  refine ⟨s.ex, s.len.trans k.len, fun i r h => ?_, fun i c h => ?_, fun i j c d p h1 h2 => ?_⟩
  · rcases k.at h with z | z
    · cases z
    · exact s.fz i r z
  · rcases k.at h with z | z
    · cases z
    · exact s.ow i c z
  · rcases k.at h1 with z | z
    · cases z
    · rcases k.at h2 with z' | z'
      · cases z'
      · exact s.ds i j c d p z z'
end

/-! ### judgements -/
/-- an expression evaluates to a frozen value -/
def ES (t : TE) (W W' : List Sl) (r : R) : Prop := ∀ (F H : Hp) (σ : St) (Q : VK), Sat F H σ W →
  (∀ v F' H', Rel F H (Own W σ) F' H' (Own W' σ) → Sat F' H' σ W' → r.p F' v → Q v H') → t σ H Q
/-- .. to a new object that is owned by nobody yet -/
def ESN (t : TE) (W W' : List Sl) (c : OC) : Prop := ∀ (F H : Hp) (σ : St) (Q : VK), Sat F H σ W →
  (∀ p o F' H', Rel F H (Own W σ) F' H' (Own W' σ) → Sat F' H' σ W' → H p = none → H' p = some o → F' p = none → ¬ Own W' σ p → c.p F' p o → Q (.ref p) H') → t σ H Q
/-- a test -/
def ET (t : TT) (W W' : List Sl) (b : Bool) : Prop := ∀ (F H : Hp) (σ : St) (Q : Bool → Hp → Prop), Sat F H σ W →
  (∀ F' H', Rel F H (Own W σ) F' H' (Own W' σ) → Sat F' H' σ W' → Q b H') → t σ H Q
/-- arguments -/
def AS (t : TA) (W W' : List Sl) (rs : List R) : Prop := ∀ (F H : Hp) (σ : St) (Q : List V → Hp → Prop), Sat F H σ W →
  (∀ vs F' H', Rel F H (Own W σ) F' H' (Own W' σ) → Sat F' H' σ W' → All2 rs F' vs → Q vs H') → t σ H Q
structure Post where
  nx : List Sl → Prop
  rt : List Sl → R → Prop
  bk : List Sl → Prop := fun _ => False
  ct : List Sl → Prop := fun _ => False
/-- a statement -/
def SS (t : TS) (W : List Sl) (P : Post) : Prop := ∀ (F H : Hp) (σ : St) (D : Ends), Sat F H σ W →
  (∀ W' σ' F' H', P.nx W' → Rel F H (Own W σ) F' H' (Own W' σ') → Sat F' H' σ' W' → D.nx σ' H') →
  (∀ W' σ' r v F' H', P.rt W' r → Rel F H (Own W σ) F' H' (Own W' σ') → Sat F' H' σ' W' → r.p F' v → D.rt v H') →
  (∀ W' σ' F' H', P.bk W' → Rel F H (Own W σ) F' H' (Own W' σ') → Sat F' H' σ' W' → D.bk σ' H') →
  (∀ W' σ' F' H', P.ct W' → Rel F H (Own W σ) F' H' (Own W' σ') → Sat F' H' σ' W' → D.ct σ' H') → t D σ H

section
variable {W W' W1 W2 W3 : List Sl} {K : PySem.W.Frag} {ta tb tc te : TE} {t u : TT} {r ra rb : R} {x y z v : V}
theorem ES.to {r' : R} (h : ES te W W' r) (e : r = r') : ES te W W' r' := e ▸ h
theorem ES.imp {r' : R} (h : ES te W W' r) (e : ∀ F v, r.p F v → r'.p F v) : ES te W W' r' := fun F H σ Q s k => h F H σ Q s fun v F' H' a b c => k v F' H' a b (e _ _ c)
theorem ET.to {b b' : Bool} (h : ET t W W' b) (e : b = b') : ET t W W' b' := e ▸ h
/-! values -/
theorem es_var (i : Nat) (h : W[i]? = some (.fz r)) : ES (tVar i) W W r := fun F H σ Q s k => by
  obtain ⟨v, h1, h2⟩ := s.fz i r h
  exact ⟨v, h1, k v F H Rel.refl s h2⟩
theorem es_c : ES (tC v) W W (eV v) := fun F H σ Q s k => k v F H Rel.refl s rfl
/-- two values, an operation that changes nothing -/
theorem es_op {g : R2} (ha : ES ta W W1 (eV x)) (hb : ES tb W1 W2 (eV y)) (hg : ∀ (H : Hp) (Q : VK), Q z H → g x y H Q) : ES (tOp g ta tb) W W2 (eV z) := fun F H σ Q s k =>
  ha F H σ _ s fun v F1 H1 a1 s1 e1 => hb F1 H1 σ _ s1 fun w F2 H2 a2 s2 e2 => by
    have e1' : v = x := e1
    have e2' : w = y := e2
    subst e1' e2'
    exact hg H2 Q (k z F2 H2 (a1.trans a2) s2 rfl)
theorem es_un {g : V → Hp → VK → Prop} (ha : ES ta W W1 (eV x)) (hg : ∀ (H : Hp) (Q : VK), Q z H → g x H Q) : ES (tUn g ta) W W1 (eV z) := fun F H σ Q s k =>
  ha F H σ _ s fun v F1 H1 a1 s1 e1 => by
    have e1' : v = x := e1
    subst e1'
    exact hg H1 Q (k z F1 H1 a1 s1 rfl)
section
variable {i j : Int}
theorem es_add (ha : ES ta W W1 (eI i)) (hb : ES tb W1 W2 (eI j)) : ES (tOp (rI0 fun i j => .int (i + j)) ta tb) W W2 (eI (i + j)) := es_op ha hb fun _ _ q => ⟨i, j, rfl, rfl, q⟩
theorem es_sub (ha : ES ta W W1 (eI i)) (hb : ES tb W1 W2 (eI j)) : ES (tOp (rI0 fun i j => .int (i - j)) ta tb) W W2 (eI (i - j)) := es_op ha hb fun _ _ q => ⟨i, j, rfl, rfl, q⟩
theorem es_mul (ha : ES ta W W1 (eI i)) (hb : ES tb W1 W2 (eI j)) (c : CMul i j) : ES (tOp (rI CMul fun i j => .int (i * j)) ta tb) W W2 (eI (i * j)) := es_op ha hb fun _ _ q => ⟨i, j, rfl, rfl, c, q⟩
theorem es_mod (ha : ES ta W W1 (eI i)) (hb : ES tb W1 W2 (eI j)) (c : 0 < j) : ES (tOp (rI (fun _ j => 0 < j) fun i j => .int (i % j)) ta tb) W W2 (eI (i % j)) := es_op ha hb fun _ _ q => ⟨i, j, rfl, rfl, c, q⟩
theorem es_pow (ha : ES ta W W1 (eI i)) (hb : ES tb W1 W2 (eI j)) (c : CPow i j) : ES (tOp (rI CPow fun i j => .int (i ^ j.toNat)) ta tb) W W2 (eI (i ^ j.toNat)) := es_op ha hb fun _ _ q => ⟨i, j, rfl, rfl, c, q⟩
theorem es_shl (ha : ES ta W W1 (eI i)) (hb : ES tb W1 W2 (eI j)) (c : CPow i j) : ES (tOp (rI CPow fun i j => .int (i * 2 ^ j.toNat)) ta tb) W W2 (eI (i * 2 ^ j.toNat)) := es_op ha hb fun _ _ q => ⟨i, j, rfl, rfl, c, q⟩
theorem es_shr (ha : ES ta W W1 (eI i)) (hb : ES tb W1 W2 (eI j)) (c : 0 ≤ j) : ES (tOp (rI (fun _ j => 0 ≤ j) fun i j => .int (i / 2 ^ j.toNat)) ta tb) W W2 (eI (i / 2 ^ j.toNat)) := es_op ha hb fun _ _ q => ⟨i, j, rfl, rfl, c, q⟩
theorem es_and (ha : ES ta W W1 (eI i)) (hb : ES tb W1 W2 (eI j)) : ES (tOp (rI0 fun i j => .int (Builtin.bitAnd i j)) ta tb) W W2 (eI (Builtin.bitAnd i j)) := es_op ha hb fun _ _ q => ⟨i, j, rfl, rfl, q⟩
theorem es_neg (ha : ES ta W W1 (eI i)) : ES (tUn (rU fun i => .int (-i)) ta) W W1 (eI (-i)) := es_un ha fun _ _ q => ⟨i, rfl, q⟩
end
end
end Fw
end
section
set_option maxRecDepth 100000
namespace Fw
open PySem L2
section
variable {W W' W1 W2 W3 : List Sl} {K : PySem.W.Frag} {ta tb tc te : TE} {t u : TT} {r ra rb : R} {x y z v : V} {a b : Bool}
/-! tests -/
theorem et_cmp {g : R2} (ha : ES ta W W1 (eV x)) (hb : ES tb W1 W2 (eV y)) (hg : ∀ (H : Hp) (Q : VK), Q (.bl b) H → g x y H Q) : ET (tTest (tOp g ta tb)) W W2 b := fun F H σ Q s k =>
  es_op ha hb hg F H σ _ s fun v F1 H1 a1 s1 e1 => ⟨b, e1, k F1 H1 a1 s1⟩
theorem es_cmp {g : R2} (ha : ES ta W W1 (eV x)) (hb : ES tb W1 W2 (eV y)) (hg : ∀ (H : Hp) (Q : VK), Q (.bl b) H → g x y H Q) : ES (tOp g ta tb) W W2 (eB b) := es_op ha hb hg
theorem et_val (h : ES te W W1 (eB b)) : ET (tB te) W W1 b := fun F H σ Q s k => h F H σ _ s fun v F1 H1 a1 s1 e1 => ⟨b, e1, k F1 H1 a1 s1⟩
theorem et_not (h : ET t W W1 a) : ET (tNot t) W W1 (!a) := fun F H σ Q s k => h F H σ _ s k
theorem et_and (h : ET t W W1 a) (h2 : a = true → ET u W1 W1 b) : ET (tAnd t u) W W1 (a && b) := fun F H σ Q s k => h F H σ _ s fun F1 H1 a1 s1 => by
  cases a with
  | true =>
    rw [if_pos rfl]
    exact h2 rfl F1 H1 σ Q s1 fun F2 H2 a2 s2 => k F2 H2 (a1.trans a2) s2
  | false =>
    rw [if_neg Bool.false_ne_true]
    exact k F1 H1 a1 s1
theorem et_or (h : ET t W W1 a) (h2 : a = false → ET u W1 W1 b) : ET (tOr t u) W W1 (a || b) := fun F H σ Q s k => h F H σ _ s fun F1 H1 a1 s1 => by
  cases a with
  | true =>
    rw [if_pos rfl]
    exact k F1 H1 a1 s1
  | false =>
    rw [if_neg Bool.false_ne_true]
    exact h2 rfl F1 H1 σ Q s1 fun F2 H2 a2 s2 => k F2 H2 (a1.trans a2) s2
theorem es_andV (h : ES ta W W1 (eB a)) (h2 : a = true → ES tb W1 W1 (eB b)) : ES (tAndV ta tb) W W1 (eB (a && b)) := fun F H σ Q s k => h F H σ _ s fun v F1 H1 a1 s1 e1 => ⟨a, e1, by
  cases a with
  | true =>
    rw [if_pos rfl]
    exact h2 rfl F1 H1 σ Q s1 fun w F2 H2 a2 s2 e2 => k w F2 H2 (a1.trans a2) s2 e2
  | false =>
    rw [if_neg Bool.false_ne_true]
    exact k _ F1 H1 a1 s1 rfl⟩
theorem es_orV (h : ES ta W W1 (eB a)) (h2 : a = false → ES tb W1 W1 (eB b)) : ES (tOrV ta tb) W W1 (eB (a || b)) := fun F H σ Q s k => h F H σ _ s fun v F1 H1 a1 s1 e1 => ⟨a, e1, by
  cases a with
  | true =>
    rw [if_pos rfl]
    exact k _ F1 H1 a1 s1 rfl
  | false =>
    rw [if_neg Bool.false_ne_true]
    exact h2 rfl F1 H1 σ Q s1 fun w F2 H2 a2 s2 e2 => k w F2 H2 (a1.trans a2) s2 e2⟩
theorem es_notV (h : ES ta W W1 (eB a)) : ES (tNotV ta) W W1 (eB (!a)) := fun F H σ Q s k => h F H σ _ s fun v F1 H1 a1 s1 e1 => ⟨a, e1, k _ F1 H1 a1 s1 rfl⟩
theorem es_if {α : Type} {e : α → R} {p q : α} (h : ET t W W1 a) (h1 : a = true → ES ta W1 W2 (e p)) (h2 : a = false → ES tb W1 W2 (e q)) : ES (tIf t ta tb) W W2 (e (if a = true then p else q)) := fun F H σ Q s k => h F H σ _ s fun F1 H1 a1 s1 => by
  cases a with
  | true =>
    rw [if_pos rfl] at k ⊢
    exact h1 rfl F1 H1 σ Q s1 fun w F2 H2 a2 s2 e2 => k w F2 H2 (a1.trans a2) s2 e2
  | false =>
    rw [if_neg Bool.false_ne_true] at k ⊢
    exact h2 rfl F1 H1 σ Q s1 fun w F2 H2 a2 s2 e2 => k w F2 H2 (a1.trans a2) s2 e2
section
variable {i j : Int}
theorem q_lt : ∀ (H : Hp) (Q : VK), Q (.bl (decide (i < j))) H → rI0 (fun i j => .bl (decide (i < j))) (.int i) (.int j) H Q := fun _ _ q => ⟨i, j, rfl, rfl, q⟩
theorem q_le : ∀ (H : Hp) (Q : VK), Q (.bl (decide (i ≤ j))) H → rI0 (fun i j => .bl (decide (i ≤ j))) (.int i) (.int j) H Q := fun _ _ q => ⟨i, j, rfl, rfl, q⟩
theorem q_gt : ∀ (H : Hp) (Q : VK), Q (.bl (decide (j < i))) H → rI0 (fun i j => .bl (decide (j < i))) (.int i) (.int j) H Q := fun _ _ q => ⟨i, j, rfl, rfl, q⟩
theorem q_ge : ∀ (H : Hp) (Q : VK), Q (.bl (decide (j ≤ i))) H → rI0 (fun i j => .bl (decide (j ≤ i))) (.int i) (.int j) H Q := fun _ _ q => ⟨i, j, rfl, rfl, q⟩
theorem q_eqI : ∀ (H : Hp) (Q : VK), Q (.bl (decide (i = j))) H → rEq (.int i) (.int j) H Q := fun _ _ q => ⟨rfl, by
  have e : decide (V.int i = V.int j) = decide (i = j) := by simp
  rw [e]; exact q⟩
theorem q_neI : ∀ (H : Hp) (Q : VK), Q (.bl (!decide (i = j))) H → rNe (.int i) (.int j) H Q := fun _ _ q => ⟨rfl, by
  have e : decide (V.int i = V.int j) = decide (i = j) := by simp
  rw [e]; exact q⟩
theorem q_eqB {i j : Bool} : ∀ (H : Hp) (Q : VK), Q (.bl (decide (i = j))) H → rEq (.bl i) (.bl j) H Q := fun _ _ q => ⟨rfl, by
  have e : decide (V.bl i = V.bl j) = decide (i = j) := by simp
  rw [e]; exact q⟩
theorem q_neB {i j : Bool} : ∀ (H : Hp) (Q : VK), Q (.bl (!decide (i = j))) H → rNe (.bl i) (.bl j) H Q := fun _ _ q => ⟨rfl, by
  have e : decide (V.bl i = V.bl j) = decide (i = j) := by simp
  rw [e]; exact q⟩
theorem q_eqS {i j : Str} : ∀ (H : Hp) (Q : VK), Q (.bl (decide (i = j))) H → rEq (.str i) (.str j) H Q := fun _ _ q => ⟨rfl, by
  have e : decide (V.str i = V.str j) = decide (i = j) := by simp
  rw [e]; exact q⟩
theorem q_neS {i j : Str} : ∀ (H : Hp) (Q : VK), Q (.bl (!decide (i = j))) H → rNe (.str i) (.str j) H Q := fun _ _ q => ⟨rfl, by
  have e : decide (V.str i = V.str j) = decide (i = j) := by simp
  rw [e]; exact q⟩
end
/-- a < b < c -/
theorem es_chain {g g' : R2} (ha : ES ta W W1 (eV x)) (hb : ES tb W1 W2 (eV y)) (hg : ∀ (H : Hp) (Q : VK), Q (.bl a) H → g x y H Q) (hc : a = true → ES tc W2 W2 (eV z)) (hg' : ∀ (H : Hp) (Q : VK), Q (.bl b) H → g' y z H Q) :
    ES (tChain g g' ta tb tc) W W2 (eB (a && b)) := fun F H σ Q s k =>
  ha F H σ _ s fun v F1 H1 a1 s1 e1 => hb F1 H1 σ _ s1 fun w F2 H2 a2 s2 e2 => by
    have e1' : v = x := e1
    have e2' : w = y := e2
    subst e1' e2'
    refine hg H2 _ ⟨a, rfl, ?_⟩
    cases a with
    | false =>
      rw [if_neg Bool.false_ne_true]
      exact k _ F2 H2 (a1.trans a2) s2 rfl
    | true =>
      rw [if_pos rfl]
      refine hc rfl F2 H2 σ _ s2 fun w' F3 H3 a3 s3 e3 => ?_
      have e3' : w' = z := e3
      subst e3'
      exact hg' H3 Q (k _ F3 H3 ((a1.trans a2).trans a3) s3 rfl)
theorem et_test (h : ES te W W1 (eB b)) : ET (tTest te) W W1 b := fun F H σ Q s k => h F H σ _ s fun v F1 H1 a1 s1 e1 => ⟨b, e1, k F1 H1 a1 s1⟩

/-! arguments, displays -/
theorem as_nil : AS tNil W W [] := fun F H σ Q s k => k [] F H Rel.refl s trivial
theorem as_cons {tr : TA} {rs : List R} (h : ES ta W W1 r) (hr : AS tr W1 W2 rs) : AS (tCons ta tr) W W2 (r :: rs) := fun F H σ Q s k =>
  h F H σ _ s fun v F1 H1 a1 s1 e1 => hr F1 H1 σ _ s1 fun vs F2 H2 a2 s2 e2 => k (v :: vs) F2 H2 (a1.trans a2) s2 ⟨r.mono a2.f e1, e2⟩
theorem es_tup {tr : TA} {rs : List R} (h : AS tr W W1 rs) (hl : rs.length ≤ 100000 := by exact Nat.le_of_ble_eq_true rfl) : ES (tTup tr) W W1 (eT K rs) := fun F H σ Q s k =>
  h F H σ _ s fun vs F1 H1 a1 s1 e1 => ⟨by rw [e1.len]; exact Nat.le_trans hl (by decide), fun p hp => k _ _ _ (a1.trans (Rel.lay s1.ex hp)) (s1.lay hp) ⟨p, vs, rfl, upd_same, e1.mono fun a o q => by
    rw [upd_ne (ne_of_none q (s1.ex.free hp))]; exact q⟩⟩
theorem not_own {F H : Hp} {σ : St} {p : Addr} (s : Sat F H σ W) (hp : H p = none) : ¬ Own W σ p := fun o => by
  obtain ⟨u, e⟩ := o.lt s
  rw [hp] at e; cases e
theorem en_lst {tr : TA} {rs : List R} (h : AS tr W W1 rs) (hl : rs.length ≤ 100000 := by exact Nat.le_of_ble_eq_true rfl) : ESN (tLst tr) W W1 (oL rs) := fun F H σ Q s k =>
  h F H σ _ s fun vs F1 H1 a1 s1 e1 => ⟨by rw [e1.len]; exact Nat.le_trans hl (by decide), fun p hp =>
    have e : Same H1 (upd H1 p (.lst vs)) := fun a o q => by rw [upd_ne (ne_of_none q hp)]; exact q
    k p (.lst vs) F1 _ (a1.trans (Rel.grow e)) (s1.grow e) (a1.t p hp) upd_same (s1.ex.free hp) (not_own s1 hp) ⟨nofun, vs, rfl, e1⟩⟩
/-- a new list, frozen -/
def eL (rs : List R) : R := ⟨fun F v => ∃ p xs, v = .ref p ∧ F p = some (.lst xs) ∧ All2 rs F xs, fun e ⟨p, xs, h1, h2, h3⟩ => ⟨p, xs, h1, e _ _ h2, h3.mono e⟩⟩
def eLs {α : Type} (e : α → R) (l : List α) : R := eL (l.map e)
/-- what is new may be frozen -/
theorem Sat.freeze {F H : Hp} {σ : St} {p : Addr} {o : HO} (s : Sat F H σ W) (hp : H p = some o) (fp : F p = none) (np : ¬ Own W σ p) : Sat (upd F p o) H σ W := by
  have e : Same F (upd F p o) := fun a u h => by rw [upd_ne (ne_of_none h fp)]; exact h
  refine ⟨fun a u h => ?_, s.len, fun i r h => ?_, fun i c h => ?_, s.ds⟩
  · by_cases q : a = p
    · subst q; rw [upd_same] at h; cases h; exact hp
    · rw [upd_ne q] at h; exact s.ex a u h
  · obtain ⟨v, h1, h2⟩ := s.fz i r h
    exact ⟨v, h1, r.mono e h2⟩
  · obtain ⟨q, u, h1, h2, h3, h4⟩ := s.ow i c h
    have ne : q ≠ p := fun z => by subst z; exact np ⟨i, c, h, h1⟩
    exact ⟨q, u, h1, h2, by rw [upd_ne ne]; exact h3, c.mono e h4⟩
theorem Rel.freeze {F H F' H' : Hp} {M M' : Addr → Prop} {p : Addr} {o : HO} (a : Rel F H M F' H' M') (h0 : H p = none ∨ M p) (fp : F' p = none) : Rel F H M (upd F' p o) H' M' where
  f := fun x u h => by
    have q := a.f x u h
    rw [upd_ne (ne_of_none q fp)]; exact q
  h := a.h
  n := fun x u h => by
    by_cases e : x = p
    · subst e; exact .inr (h0.imp id .inl)
    · rw [upd_ne e] at h; exact a.n x u h
  t := a.t
  o := a.o
theorem es_fr {rs : List R} (h : ESN te W W1 (oL rs)) : ES te W W1 (eL rs) := fun F H σ Q s k =>
  h F H σ _ s fun p o F1 H1 a1 s1 hp ho fp np ⟨_, xs, e, c⟩ => by
    subst e
    exact k _ _ H1 (a1.freeze (.inl hp) fp) (s1.freeze ho fp np) ⟨p, xs, rfl, upd_same, c.mono fun a o q => by rw [upd_ne (ne_of_none q fp)]; exact q⟩
end
end Fw
end
section
set_option maxRecDepth 100000
namespace Fw
open PySem L2
abbrev Nob : Addr → Prop := fun _ => False
/-- the promise of a def that changes nothing: what comes in, when it holds, what comes out -/
def spF {ι : Type} (as : ι → List R) (ok : ι → Prop) (res : ι → R) : Sp := fun vs H Q _ => ∃ (d : ι) (F : Hp), ok d ∧ Same F H ∧ All2 (as d) F vs ∧
  ∀ v F' H', Rel F H Nob F' H' Nob → Same F' H' → (res d).p F' v → Q v H'
/-- .. that changes its first argument alone -/
def spB {ι : Type} (c : ι → List R) (as : ι → List R) (ok : ι → Prop) (c' : ι → List R) (res : ι → R) : Sp := fun vs H Q _ => ∃ (d : ι) (F : Hp) (p : Addr) (o : List V) (ws : List V), vs = .ref p :: ws ∧ ok d ∧ Same F H ∧
  H p = some (.lst o) ∧ F p = none ∧ All2 (c d) F o ∧ All2 (as d) F ws ∧
  ∀ v F' H' o', Rel F H (fun a => a = p) F' H' (fun a => a = p) → Same F' H' → H' p = some (.lst o') → F' p = none → All2 (c' d) F' o' → (res d).p F' v → Q v H'
section
variable {W W' W1 W2 W3 : List Sl} {K : PySem.W.Frag} {ta tb tc te to : TE} {t u : TT} {r ra rb : R} {x y z v : V} {a b : Bool} {ι : Type} {F H F' H' : Hp} {σ : St} {E : XK}
theorem Sat.pure (s : Sat F H σ W) (q : Rel F H Nob F' H' Nob) (e : Same F' H') : Sat F' H' σ W := by
  refine ⟨e, s.len, fun i r h => ?_, fun i c h => ?_, s.ds⟩
  · obtain ⟨v, h1, h2⟩ := s.fz i r h
    exact ⟨v, h1, r.mono q.f h2⟩
  · obtain ⟨p, o, h1, h2, h3, h4⟩ := s.ow i c h
    refine ⟨p, o, h1, q.h p o (fun z => z) h2, ?_, c.mono q.f h4⟩
    exact q.nof e h3 h2 (fun z => z) (c.nt h4)
theorem Rel.pure {M : Addr → Prop} (q : Rel F H Nob F' H' Nob) : Rel F H M F' H' M :=
  ⟨q.f, fun a o _ h => q.h a o (fun z => z) h, fun a o h => (q.n a o h).imp id (Or.imp id (Or.imp False.elim id)), q.t, fun _ m => .inl m⟩
theorem es_call {as : ι → List R} {ok : ι → Prop} {res : ι → R} {tr : TA} (d : ι) (h : AS tr W W1 (as d)) (g : ok d) : ES (tCall (spF as ok res) [] E tr) W W1 (res d) := fun F H σ Q s k =>
  h F H σ _ s fun vs F1 H1 a1 s1 e1 => by
    rw [List.append_nil]
    exact ⟨d, F1, g, s1.ex, e1, fun v F2 H2 q e2 hv => k v F2 H2 (a1.trans q.pure) (s1.pure q e2) hv⟩
theorem es_callB {c c' : ι → List R} {c0 : OC} {q : Option Addr} {as : ι → List R} {ok : ι → Prop} {res : ι → R} {tr : TA} (d : ι) (i : Nat) (h0 : W[i]? = some (.ow c0)) (h : AS tr W W1 (as d)) (h1 : W1[i]? = some (.ow (oLq q (c d)))) (g : ok d) :
    ES (tCall (spB c as ok c' res) [] E (tCons (tVar i) tr)) W (W1.set i (.ow (oLq q (c' d)))) (res d) := fun F H σ Q s k => by
  obtain ⟨p, o0, e0, _⟩ := s.ow i c0 h0
  refine ⟨.ref p, e0, h F H σ _ s fun vs F1 H1 a1 s1 e1 => ?_⟩
  show spB c as ok c' res ((V.ref p :: vs) ++ []) H1 Q E
  rw [List.append_nil]
  obtain ⟨p', _, e2, g1, g2, gq, o, rfl, g3⟩ := s1.ow i _ h1
  rw [e0] at e2; cases e2
  refine ⟨d, F1, p, o, vs, rfl, g, s1.ex, g1, g2, g3, e1, fun v F2 H2 o2 q' ex hp fp hc hv => ?_⟩
  have mv : ∀ a, a ≠ p → Own W1 σ a → F2 a = none := fun a ne ow => by
    obtain ⟨j, cj, w1, w2⟩ := ow
    obtain ⟨pj, oj, z1, z2, z3, z4⟩ := s1.ow j cj w1
    rw [w2] at z1; cases z1
    exact q'.nof ex z3 z2 ne (cj.nt z4)
  have own1 : Own W1 σ p := ⟨i, _, h1, e0⟩
  refine k v F2 H2 (a1.trans ⟨q'.f, fun a o n hh => q'.h a o (fun z => n (z ▸ own1)) hh, fun a o hh => ?_, q'.t, fun a m => .inl ((Own.mut h1).mp m)⟩) ?_ hv
  · rcases q'.n a o hh with y | y | y | y
    · exact .inl y
    · exact .inr (.inl y)
    · exact .inr (.inr (.inl (y ▸ own1)))
    · exact .inr (.inr (.inr y))
  · have hi : i < W1.length := (List.getElem?_eq_some_iff.mp h1).1
    refine ⟨ex, by simpa using s1.len, fun j r hj => ?_, fun j cj hj => ?_, fun j l cj cl a w1 w2 => ?_⟩
    · by_cases ej : i = j
      · subst ej; rw [List.getElem?_set_self hi] at hj; cases hj
      · rw [List.getElem?_set_ne ej] at hj
        obtain ⟨w, y1, y2⟩ := s1.fz j r hj
        exact ⟨w, y1, r.mono q'.f y2⟩
    · by_cases ej : i = j
      · subst ej; rw [List.getElem?_set_self hi] at hj; cases hj
        exact ⟨p, .lst o2, e0, hp, fp, gq, o2, rfl, hc⟩
      · rw [List.getElem?_set_ne ej] at hj
        obtain ⟨pj, oj, z1, z2, z3, z4⟩ := s1.ow j cj hj
        have ne : pj ≠ p := fun z => by subst z; exact ej (s1.ds i j _ _ _ h1 hj e0 z1)
        exact ⟨pj, oj, z1, q'.h pj oj ne z2, mv pj ne ⟨j, cj, hj, z1⟩, cj.mono q'.f z4⟩
    · have old : ∀ (j : Nat) (e : OC), (W1.set i (.ow (oLq q (c' d))))[j]? = some (.ow e) → ∃ e', W1[j]? = some (.ow e') := fun j e h => by
        by_cases z : i = j
        · subst z; exact ⟨_, h1⟩
        · rw [List.getElem?_set_ne z] at h; exact ⟨e, h⟩
      obtain ⟨b1, y1⟩ := old j cj w1
      obtain ⟨b2, y2⟩ := old l cl w2
      exact s1.ds j l b1 b2 a y1 y2
/-! subscripts -/
theorem sqT_up {a : Addr} {xs : List V} (e : Same F F') (h : F a = some (.tup xs)) : SqT K F' a xs := .inl (.inl (e _ _ h))
theorem atI_k {α : Type} {xs : List α} {k : Nat} {x : α} (h : xs[k]? = some x) : atI xs (k : Int) = some x := by
  have hk : k < xs.length := (List.getElem?_eq_some_iff.mp h).1
  unfold atI ixN
  rw [if_pos (Int.natCast_nonneg k), if_pos (by omega)]
  simpa using h
theorem es_ixT {rs : List R} {k : Nat} (h : ES ta W W1 (eT K rs)) (hk : rs[k]? = some r) : ES (tOp (rIxT K) ta (tC (.int (k : Int)))) W W1 r := fun F H σ Q s q =>
  h F H σ _ s fun v F1 H1 a1 s1 ⟨p, xs, e1, e2, e3⟩ => by
    subst e1
    obtain ⟨x, g1, g2⟩ := e3.get' hk
    exact ⟨p, xs, (k : Int), x, rfl, rfl, sqT_up s1.ex e2, atI_k g1, q x F1 H1 a1 s1 g2⟩
end
end Fw
end
section
set_option maxRecDepth 100000
namespace Fw
open PySem L2
section
variable {W W' W0 W1 W2 W3 : List Sl} {K : PySem.W.Frag} {ta tb tc te to : TE} {tc' : TT} {r ra rb : R} {x y z v : V} {a b : Bool} {ι : Type} {F H F' H' : Hp} {σ : St} {E : XK} {P P1 : Post} {tt uu : TS}
/-! statements -/
theorem ss_nx (h : P.nx W) : SS tNext W P := fun F H σ D s kn _ _ _ => kn W σ F H h Rel.refl s
theorem ss_brk (h : P.bk W) : SS tBreak W P := fun F H σ D s _ _ kb _ => kb W σ F H h Rel.refl s
theorem ss_cont (h : P.ct W) : SS tCont W P := fun F H σ D s _ _ _ kc => kc W σ F H h Rel.refl s
theorem ss_never (h : False) : SS tt W P := h.elim
/-- one statement, then the rest -/
theorem ss_seq (N : List Sl → Prop) (h : SS tt W ⟨N, P.rt, P.bk, P.ct⟩) (k : ∀ W', N W' → SS uu W' P) : SS (tSeq tt uu) W P := fun F H σ D s kn kr kb kc =>
  h F H σ { D with nx := uu D } s
    (fun W1 σ1 F1 H1 n a1 s1 => k W1 n F1 H1 σ1 D s1 (fun W2 σ2 F2 H2 n2 a2 s2 => kn W2 σ2 F2 H2 n2 (a1.trans a2) s2) (fun W2 σ2 r v F2 H2 n2 a2 s2 => kr W2 σ2 r v F2 H2 n2 (a1.trans a2) s2)
      (fun W2 σ2 F2 H2 n2 a2 s2 => kb W2 σ2 F2 H2 n2 (a1.trans a2) s2) fun W2 σ2 F2 H2 n2 a2 s2 => kc W2 σ2 F2 H2 n2 (a1.trans a2) s2)
    kr kb kc
/-- .. what is forgotten between -/
theorem ss_seqTo (W1 : List Sl) (h : SS tt W ⟨fun W' => Wk W' W1, P.rt, P.bk, P.ct⟩) (k : SS uu W1 P) : SS (tSeq tt uu) W P := fun F H σ D s kn kr kb kc =>
  h F H σ { D with nx := uu D } s
    (fun W' σ1 F1 H1 n a1 s1 => k F1 H1 σ1 D (s1.weak n) (fun W2 σ2 F2 H2 n2 a2 s2 => kn W2 σ2 F2 H2 n2 ((a1.sub fun _ o => n.sub o).trans a2) s2) (fun W2 σ2 r v F2 H2 n2 a2 s2 => kr W2 σ2 r v F2 H2 n2 ((a1.sub fun _ o => n.sub o).trans a2) s2)
      (fun W2 σ2 F2 H2 n2 a2 s2 => kb W2 σ2 F2 H2 n2 ((a1.sub fun _ o => n.sub o).trans a2) s2) fun W2 σ2 F2 H2 n2 a2 s2 => kc W2 σ2 F2 H2 n2 ((a1.sub fun _ o => n.sub o).trans a2) s2)
    kr kb kc
theorem SS.weak (h : SS tt W1 P) (k : Wk W W1) : SS tt W P := fun F H σ D s kn kr kb kc =>
  h F H σ D (s.weak k) (fun W2 σ2 F2 H2 n2 a2 s2 => kn W2 σ2 F2 H2 n2 ((Rel.refl.sub fun _ o => k.sub o).trans a2) s2) (fun W2 σ2 r v F2 H2 n2 a2 s2 => kr W2 σ2 r v F2 H2 n2 ((Rel.refl.sub fun _ o => k.sub o).trans a2) s2)
    (fun W2 σ2 F2 H2 n2 a2 s2 => kb W2 σ2 F2 H2 n2 ((Rel.refl.sub fun _ o => k.sub o).trans a2) s2) fun W2 σ2 F2 H2 n2 a2 s2 => kc W2 σ2 F2 H2 n2 ((Rel.refl.sub fun _ o => k.sub o).trans a2) s2
theorem SS.imp {P' : Post} (h : SS tt W P) (n : ∀ W', P.nx W' → P'.nx W') (q : ∀ W' r, P.rt W' r → P'.rt W' r) (bk : ∀ W', P.bk W' → P'.bk W') (ct : ∀ W', P.ct W' → P'.ct W') : SS tt W P' := fun F H σ D s kn kr kb kc =>
  h F H σ D s (fun W' σ' F' H' z => kn W' σ' F' H' (n _ z)) (fun W' σ' r v F' H' z => kr W' σ' r v F' H' (q _ _ z)) (fun W' σ' F' H' z => kb W' σ' F' H' (bk _ z)) fun W' σ' F' H' z => kc W' σ' F' H' (ct _ z)
/-- x = e -/
theorem ss_set {i : Nat} (h : ES te W W1 r) (k : P.nx (W1.set i (.fz r))) : SS (tAsg te (gName i)) W P := fun F H σ D s kn _ _ _ =>
  h F H σ _ s fun v F1 H1 a1 s1 e1 => kn _ _ F1 H1 k (a1.sub fun _ o => o.put) (s1.put e1)
/-- x = e, e new: x owns it -/
theorem ss_own {i : Nat} {c : OC} (h : ESN te W W1 c) (k : P.nx (W1.set i (.ow c))) : SS (tAsg te (gName i)) W P := fun F H σ D s kn _ _ _ =>
  h F H σ _ s fun p o F1 H1 a1 s1 hp ho fp np hc => kn _ _ F1 H1 k
    ⟨a1.f, a1.h, a1.n, a1.t, fun a m => (Own.own m).elim (a1.o a) fun z => .inr (z ▸ hp)⟩ (s1.own ho fp np hc)
theorem ss_ret (h : ES te W W1 r) (k : P.rt W1 r) : SS (tRet te) W P := fun F H σ D s _ kr _ _ =>
  h F H σ _ s fun v F1 H1 a1 s1 e1 => kr W1 σ r v F1 H1 k a1 s1 e1
theorem ss_drop (h : ES te W W1 r) (k : P.nx W1) : SS (tDrop te) W P := fun F H σ D s kn _ _ _ =>
  h F H σ _ s fun v F1 H1 a1 s1 e1 => kn W1 σ F1 H1 k a1 s1
theorem ss_if (h : ET tc' W W1 a) (h1 : a = true → SS tt W1 P) (h2 : a = false → SS uu W1 P) : SS (tIfS tc' tt uu) W P := fun F H σ D s kn kr kb kc =>
  h F H σ _ s fun F1 H1 a1 s1 => by
    cases a with
    | true =>
      rw [if_pos rfl]
      exact h1 rfl F1 H1 σ D s1 (fun W2 σ2 F2 H2 n2 a2 s2 => kn W2 σ2 F2 H2 n2 (a1.trans a2) s2) (fun W2 σ2 r v F2 H2 n2 a2 s2 => kr W2 σ2 r v F2 H2 n2 (a1.trans a2) s2)
        (fun W2 σ2 F2 H2 n2 a2 s2 => kb W2 σ2 F2 H2 n2 (a1.trans a2) s2) fun W2 σ2 F2 H2 n2 a2 s2 => kc W2 σ2 F2 H2 n2 (a1.trans a2) s2
    | false =>
      rw [if_neg Bool.false_ne_true]
      exact h2 rfl F1 H1 σ D s1 (fun W2 σ2 F2 H2 n2 a2 s2 => kn W2 σ2 F2 H2 n2 (a1.trans a2) s2) (fun W2 σ2 r v F2 H2 n2 a2 s2 => kr W2 σ2 r v F2 H2 n2 (a1.trans a2) s2)
        (fun W2 σ2 F2 H2 n2 a2 s2 => kb W2 σ2 F2 H2 n2 (a1.trans a2) s2) fun W2 σ2 F2 H2 n2 a2 s2 => kc W2 σ2 F2 H2 n2 (a1.trans a2) s2
/-- targets: from a frozen value, the slots behind; is: the slots that are stored -/
def GS (g : TG) (r : R) (W W' : List Sl) (is : List Nat) : Prop := ∀ (F H : Hp) (σ : St) (v : V) (Q : St → Hp → Prop), Sat F H σ W → r.p F v →
  (∀ σ', (∀ a, Own W' σ' a → Own W σ a) → Sat F H σ' W' → (σ'.length = σ.length ∧ ∀ j, j ∉ is → σ'[j]? = σ[j]?) → Q σ' H) → g v σ H Q
theorem gs_name (i : Nat) : GS (gName i) r W (W.set i (.fz r)) [i] := fun F H σ v Q s hv k => k _ (fun _ o => o.put) (s.put hv) ⟨by simp, fun j hj => by
  rw [List.getElem?_set_ne (by simpa [eq_comm] using hj)]⟩
/-- several targets -/
def GSs (g : TGs) (rs : List R) (W W' : List Sl) (is : List Nat) : Prop := ∀ (F H : Hp) (σ : St) (vs : List V) (Q : St → Hp → Prop), Sat F H σ W → All2 rs F vs →
  (∀ σ', (∀ a, Own W' σ' a → Own W σ a) → Sat F H σ' W' → (σ'.length = σ.length ∧ ∀ j, j ∉ is → σ'[j]? = σ[j]?) → Q σ' H) → g vs σ H Q
theorem gs_nil : GSs gNil [] W W [] := fun F H σ vs Q s hv k => by
  cases vs with
  | nil => exact ⟨rfl, k σ (fun _ o => o) s ⟨rfl, fun _ _ => rfl⟩⟩
  | cons v vs => exact hv.elim
theorem gs_cons {g : TG} {gs : TGs} {rs : List R} {is js : List Nat} (h1 : GS g r W W1 is) (h2 : GSs gs rs W1 W2 js) : GSs (gCons g gs) (r :: rs) W W2 (is ++ js) := fun F H σ vs Q s hv k => by
  cases vs with
  | nil => exact hv.elim
  | cons v vs => exact ⟨v, vs, rfl, h1 F H σ v _ s hv.1 fun σ1 o1 s1 d1 => h2 F H σ1 vs Q s1 hv.2 fun σ2 o2 s2 d2 => k σ2 (fun a o => o1 a (o2 a o)) s2 ⟨d2.1.trans d1.1, fun j hj => by
      rw [d2.2 j (fun z => hj (List.mem_append_right _ z)), d1.2 j (fun z => hj (List.mem_append_left _ z))]⟩⟩
theorem gs_tup {gs : TGs} {rs : List R} {n : Nat} {is : List Nat} (h : GSs gs rs W W1 is) (hn : rs.length = n := by rfl) : GS (gTup K n gs) (eT K rs) W W1 is := fun F H σ v Q s ⟨p, xs, e1, e2, e3⟩ k =>
  ⟨p, xs, e1, sqT_up s.ex e2, e3.len.trans hn, h F H σ xs Q s e3 k⟩
theorem ss_asg {g : TG} {is : List Nat} (h : ES te W W1 r) (hg : GS g r W1 W2 is) (k : P.nx W2) : SS (tAsg te g) W P := fun F H σ D s kn _ _ _ =>
  h F H σ _ s fun v F1 H1 a1 s1 e1 => hg F1 H1 σ v _ s1 e1 fun σ2 o2 s2 _ => kn W2 σ2 F1 H1 k (a1.sub o2) s2
/-- a, b = e1, e2 -/
theorem ss_par {i j : Nat} {tr : TA} (h : AS tr W W1 [ra, rb]) (k : P.nx ((W1.set i (.fz ra)).set j (.fz rb))) : SS (tPar i j tr) W P := fun F H σ D s kn _ _ _ =>
  h F H σ _ s fun vs F1 H1 a1 s1 e1 => by
    match vs, e1 with
    | [v, w], e1 => exact ⟨v, w, rfl, kn _ _ F1 H1 k (a1.sub fun _ o => (o.put).put) ((s1.put e1.1).put e1.2.1)⟩
    | [], e1 => exact e1.elim
    | [_], e1 => exact e1.2.elim
    | _ :: _ :: _ :: _, e1 => exact e1.2.2.elim
/-- x += e, x -= e -/
theorem ss_aug {i : Nat} {f : Int → Int → Int} {m n : Int} (h0 : W[i]? = some (.fz (eI m))) (h : ES te W W1 (eI n)) (k : P.nx (W1.set i (.fz (eI (f m n))))) : SS (tAug i te (ipI f)) W P := fun F H σ D s kn _ _ _ => by
  obtain ⟨v, e, hv⟩ := s.fz i _ h0
  have hv' : v = V.int m := hv
  subst hv'
  refine ⟨_, e, h F H σ _ s fun w F1 H1 a1 s1 e1 => ?_⟩
  have e1' : w = V.int n := e1
  subst e1'
  exact ⟨m, n, rfl, rfl, kn _ _ F1 H1 k (a1.sub fun _ o => o.put) (s1.put rfl)⟩
/-- xs.append(e) as a statement, xs owned -/
theorem ss_append {i : Nat} {rs0 rs : List R} {q0 q1 : Option Addr} (h0 : W[i]? = some (.ow (oLq q0 rs0))) (h : ES te W W1 r) (h1 : W1[i]? = some (.ow (oLq q1 rs))) (hl : rs.length < 16000000) (k : P.nx (W1.set i (.ow (oLq q1 (rs ++ [r]))))) :
    SS (tDrop (tBM K "list" rAppend (tVar i) (tCons te tNil))) W P := fun F H σ D s kn _ _ _ => by
  obtain ⟨p, o, e0, g1, _, ⟨_, xs, rfl, _⟩⟩ := s.ow i _ h0
  refine ⟨.ref p, e0, .inl ⟨rfl, xs, .inl (.inl g1)⟩, h F H σ _ s fun v F1 H1 a1 s1 e1 => ?_⟩
  obtain ⟨p', o', e0', y1, y2, ⟨yq, ys, rfl, y3⟩⟩ := s1.ow i _ h1
  rw [e0] at e0'; cases e0'
  refine ⟨p, ys, v, rfl, rfl, y1, Nat.lt_of_lt_of_le (by rw [y3.len]; exact hl) (by decide), kn _ _ _ _ k (a1.trans ⟨fun _ _ z => z, fun a u n z => ?_, fun _ _ z => .inl z, fun a z => ?_, fun a m => .inl ((Own.mut h1).mp m)⟩) (s1.mut h1 e0 ⟨yq, _, rfl, y3.app ⟨e1, trivial⟩⟩)⟩
  · rw [upd_ne (fun q : a = p => n (by rw [q]; exact ⟨i, _, h1, e0⟩))]; exact z
  · by_cases q : a = p
    · subst q; rw [upd_same] at z; cases z
    · rw [upd_ne q] at z; exact z
/-- xs[-1] = e, xs owned and not empty -/
theorem ss_setlast {i : Nat} {rs : List R} {q1 : Option Addr} (h : ES te W W1 r) (h1 : W1[i]? = some (.ow (oLq q1 rs))) (hl : rs ≠ []) (k : P.nx (W1.set i (.ow (oLq q1 (rs.set (rs.length - 1) r))))) :
    SS (tAsg te (gSub (tVar i) (tUn (rU fun i => .int (-i)) (tC (.int 1))) rSetL)) W P := fun F H σ D s kn _ _ _ =>
  h F H σ _ s fun v F1 H1 a1 s1 e1 => by
    obtain ⟨p, o, e0, y1, y2, ⟨yq, ys, rfl, y3⟩⟩ := s1.ow i _ h1
    have pos : 0 < rs.length := List.length_pos_iff.mpr hl
    have el := y3.len
    refine ⟨.ref p, e0, 1, rfl, p, ys, -1, rs.length - 1, rfl, rfl, y1, ?_, kn _ _ _ _ k (a1.trans ⟨fun _ _ z => z, fun a u n z => ?_, fun _ _ z => .inl z, fun a z => ?_, fun a m => .inl ((Own.mut h1).mp m)⟩) (s1.mut h1 e0 ⟨yq, _, rfl, y3.set e1 _⟩)⟩
    · unfold ixN
      rw [if_neg (by omega), if_pos (by omega)]
      congr 1
      omega
    · rw [upd_ne (fun q : a = p => n (by rw [q]; exact ⟨i, _, h1, e0⟩))]; exact z
    · by_cases q : a = p
      · subst q; rw [upd_same] at z; cases z
      · rw [upd_ne q] at z; exact z
/-! loops -/
theorem ss_forL {g : TG} {tb : TS} {tl : TE} {rs : List R} (I : Nat → List Sl → Prop) (h : ES tl W W1 (eL rs)) (h0 : I 0 W1)
    (hs : ∀ i r W', rs[i]? = some r → I i W' → ∃ W2 is, GS g r W' W2 is ∧ SS tb W2 ⟨I (i + 1), P.rt, P.nx, I (i + 1)⟩) (hd : ∀ W', I rs.length W' → P.nx W') : SS (tFor (iList K tl) g tb) W P := fun F H σ D s kn kr kb kc =>
  h F H σ _ s fun v F1 H1 a1 s1 ⟨p, xs, e1, e2, e3⟩ => by
    refine ⟨p, e1, ⟨xs, .inl (.inl (s1.ex _ _ e2))⟩, for_list (xs := xs) (fun i σ' H' => ∃ W' F', I i W' ∧ Rel F1 H1 (Own W1 σ) F' H' (Own W' σ') ∧ Sat F' H' σ' W') ⟨W1, F1, h0, Rel.refl, s1⟩
      (fun i σ' H' _ ⟨W', F', _, q, s'⟩ => .inl (.inl (s'.ex _ _ (q.f _ _ e2)))) ?_ ?_⟩
    · rintro i x σ' H' hx ⟨W', F', hi, q, s'⟩
      obtain ⟨r, hr, rx⟩ := e3.get hx
      obtain ⟨W2, is, hg, hb⟩ := hs i r W' hr hi
      refine hg F' H' σ' x _ s' (r.mono q.f rx) fun σ2 o2 s2 _ => hb F' H' σ2 _ s2 ?_ ?_ ?_ ?_
      · exact fun W3 σ3 F3 H3 n3 a3 s3 => ⟨W3, F3, n3, (q.sub o2).trans a3, s3⟩
      · exact fun W3 σ3 r3 v3 F3 H3 n3 a3 s3 y3 => kr W3 σ3 r3 v3 F3 H3 n3 (a1.trans ((q.sub o2).trans a3)) s3 y3
      · exact fun W3 σ3 F3 H3 n3 a3 s3 => kn W3 σ3 F3 H3 n3 (a1.trans ((q.sub o2).trans a3)) s3
      · exact fun W3 σ3 F3 H3 n3 a3 s3 => ⟨W3, F3, n3, (q.sub o2).trans a3, s3⟩
    · rintro σ' H' ⟨W', F', hi, q, s'⟩
      rw [e3.len] at hi
      exact kn W' σ' F' H' (hd W' hi) (a1.trans q) s'
theorem ss_forT {g : TG} {tb : TS} {tl : TE} {rs : List R} (I : Nat → List Sl → Prop) (h : ES tl W W1 (eT K rs)) (h0 : I 0 W1)
    (hs : ∀ i r W', rs[i]? = some r → I i W' → ∃ W2 is, GS g r W' W2 is ∧ SS tb W2 ⟨I (i + 1), P.rt, P.nx, I (i + 1)⟩) (hd : ∀ W', I rs.length W' → P.nx W') : SS (tFor (iTup K tl) g tb) W P := fun F H σ D s kn kr kb kc =>
  h F H σ _ s fun v F1 H1 a1 s1 ⟨p, xs, e1, e2, e3⟩ => by
    refine ⟨p, e1, ⟨xs, sqT_up s1.ex e2⟩, for_tup (xs := xs) (fun i σ' H' => ∃ W' F', I i W' ∧ Rel F1 H1 (Own W1 σ) F' H' (Own W' σ') ∧ Sat F' H' σ' W') ⟨W1, F1, h0, Rel.refl, s1⟩
      (fun i σ' H' _ ⟨W', F', _, q, s'⟩ => sqT_up s'.ex (q.f _ _ e2)) ?_ ?_⟩
    · rintro i x σ' H' hx ⟨W', F', hi, q, s'⟩
      obtain ⟨r, hr, rx⟩ := e3.get hx
      obtain ⟨W2, is, hg, hb⟩ := hs i r W' hr hi
      refine hg F' H' σ' x _ s' (r.mono q.f rx) fun σ2 o2 s2 _ => hb F' H' σ2 _ s2 ?_ ?_ ?_ ?_
      · exact fun W3 σ3 F3 H3 n3 a3 s3 => ⟨W3, F3, n3, (q.sub o2).trans a3, s3⟩
      · exact fun W3 σ3 r3 v3 F3 H3 n3 a3 s3 y3 => kr W3 σ3 r3 v3 F3 H3 n3 (a1.trans ((q.sub o2).trans a3)) s3 y3
      · exact fun W3 σ3 F3 H3 n3 a3 s3 => kn W3 σ3 F3 H3 n3 (a1.trans ((q.sub o2).trans a3)) s3
      · exact fun W3 σ3 F3 H3 n3 a3 s3 => ⟨W3, F3, n3, (q.sub o2).trans a3, s3⟩
    · rintro σ' H' ⟨W', F', hi, q, s'⟩
      rw [e3.len] at hi
      exact kn W' σ' F' H' (hd W' hi) (a1.trans q) s'
/-- over range(lo, hi): its walk -/
theorem ss_rng {g : TG} {tb : TS} {D : Ends} {F1 H1 : Hp} {lo : Int} {n : Nat} (I : Nat → List Sl → Prop) (s1 : Sat F1 H1 σ W1) (h0 : I 0 W1)
    (hs : ∀ i W', i < n → I i W' → ∃ W2 is, GS g (eI (lo + i)) W' W2 is ∧ SS tb W2 ⟨I (i + 1), P.rt, P.nx, I (i + 1)⟩) (hd : ∀ W', I n W' → P.nx W')
    (kn : ∀ W' σ' F' H', P.nx W' → Rel F1 H1 (Own W1 σ) F' H' (Own W' σ') → Sat F' H' σ' W' → D.nx σ' H')
    (kr : ∀ W' σ' r v F' H', P.rt W' r → Rel F1 H1 (Own W1 σ) F' H' (Own W' σ') → Sat F' H' σ' W' → r.p F' v → D.rt v H') :
    ∃ W : Nat → Nat → St → Hp → Prop, (∃ m, W 0 m σ H1) ∧ ∀ i m σ H, W i m σ H →
      ((Itr lo n).stop i H ∧ D.nx σ H) ∨ ((Itr lo n).go i H ∧ ∃ N : St → Hp → Prop, (∀ σ' H', N σ' H' → ∃ m', m' < m ∧ W (i + 1) m' σ' H') ∧ ∀ x H', (Itr lo n).yld i H x H' → g x σ H' fun σ2 H2 => tb { D with nx := N, ct := N, bk := D.nx } σ2 H2) := by
  refine for_range (fun i σ' H' => ∃ W' F', I i W' ∧ Rel F1 H1 (Own W1 σ) F' H' (Own W' σ') ∧ Sat F' H' σ' W') ⟨W1, F1, h0, Rel.refl, s1⟩ ?_ ?_
  · rintro i σ' H' hi ⟨W', F', hI, q, s'⟩
    obtain ⟨W2, is, hg, hb⟩ := hs i W' hi hI
    refine hg F' H' σ' _ _ s' rfl fun σ2 o2 s2 _ => hb F' H' σ2 _ s2 ?_ ?_ ?_ ?_
    · exact fun W3 σ3 F3 H3 n3 a3 s3 => ⟨W3, F3, n3, (q.sub o2).trans a3, s3⟩
    · exact fun W3 σ3 r3 v3 F3 H3 n3 a3 s3 y3 => kr W3 σ3 r3 v3 F3 H3 n3 ((q.sub o2).trans a3) s3 y3
    · exact fun W3 σ3 F3 H3 n3 a3 s3 => kn W3 σ3 F3 H3 n3 ((q.sub o2).trans a3) s3
    · exact fun W3 σ3 F3 H3 n3 a3 s3 => ⟨W3, F3, n3, (q.sub o2).trans a3, s3⟩
  · rintro σ' H' ⟨W', F', hi, q, s'⟩
    exact kn W' σ' F' H' (hd W' hi) q s'
theorem ss_forR1 {g : TG} {tb : TS} {tr : TA} {n : Int} (I : Nat → List Sl → Prop) (h : AS tr W W1 [eI n]) (hn : n < 2 ^ 62) (hn' : -(2 ^ 62) ≤ n) (h0 : I 0 W1)
    (hs : ∀ i W', i < n.toNat → I i W' → ∃ W2 is, GS g (eI (0 + (i : Int))) W' W2 is ∧ SS tb W2 ⟨I (i + 1), P.rt, P.nx, I (i + 1)⟩) (hd : ∀ W', I n.toNat W' → P.nx W') : SS (tFor (iRng1 tr) g tb) W P := fun F H σ D s kn kr kb kc =>
  h F H σ _ s fun vs F1 H1 a1 s1 e1 => by
    match vs, e1 with
    | [v], e1 =>
      have e : v = V.int n := e1.1
      subst e
      exact ⟨n, rfl, hn', hn, ss_rng I s1 h0 hs hd (fun W' σ' F' H' z q => kn W' σ' F' H' z (a1.trans q)) fun W' σ' r v F' H' z q => kr W' σ' r v F' H' z (a1.trans q)⟩
    | [], e1 => exact e1.elim
    | _ :: _ :: _, e1 => exact e1.2.elim
theorem ss_forR2 {g : TG} {tb : TS} {tr : TA} {lo n : Int} (I : Nat → List Sl → Prop) (h : AS tr W W1 [eI lo, eI n]) (hn : -(2 ^ 62) ≤ lo ∧ lo < 2 ^ 62 ∧ -(2 ^ 62) ≤ n ∧ n < 2 ^ 62) (h0 : I 0 W1)
    (hs : ∀ i W', i < (n - lo).toNat → I i W' → ∃ W2 is, GS g (eI (lo + (i : Int))) W' W2 is ∧ SS tb W2 ⟨I (i + 1), P.rt, P.nx, I (i + 1)⟩) (hd : ∀ W', I (n - lo).toNat W' → P.nx W') : SS (tFor (iRng2 tr) g tb) W P := fun F H σ D s kn kr kb kc =>
  h F H σ _ s fun vs F1 H1 a1 s1 e1 => by
    match vs, e1 with
    | [v, w], e1 =>
      have e : v = V.int lo := e1.1
      have e' : w = V.int n := e1.2.1
      subst e e'
      exact ⟨lo, n, rfl, hn, ss_rng I s1 h0 hs hd (fun W' σ' F' H' z q => kn W' σ' F' H' z (a1.trans q)) fun W' σ' r v F' H' z q => kr W' σ' r v F' H' z (a1.trans q)⟩
    | [], e1 => exact e1.elim
    | [_], e1 => exact e1.2.elim
    | _ :: _ :: _ :: _, e1 => exact e1.2.2.elim
end
end Fw
end
section
set_option maxRecDepth 100000
namespace Fw
open PySem L2
/-! folds: how a loop's data goes -/
def okF {α β : Type} (ok : β → α → Prop) (b : β → α → β) : β → List α → Prop
  | _, [] => True
  | s, x :: xs => ok s x ∧ okF ok b (b s x) xs
theorem okF_at {α β : Type} {ok : β → α → Prop} {b : β → α → β} : ∀ {l : List α} {s : β} {i : Nat} {x : α}, okF ok b s l → l[i]? = some x → ok ((l.take i).foldl b s) x
  | y :: ys, s, 0, x, h, e => by simp at e; subst e; exact h.1
  | y :: ys, s, i + 1, x, h, e => okF_at (l := ys) (s := b s y) (i := i) h.2 (by simpa using e)
  | [], _, _, _, _, e => by simp at e
theorem foldl_take {α β : Type} {b : β → α → β} : ∀ {l : List α} {s : β} {i : Nat} {x : α}, l[i]? = some x → (l.take (i + 1)).foldl b s = b ((l.take i).foldl b s) x
  | y :: ys, s, 0, x, e => by simp at e; subst e; simp
  | y :: ys, s, i + 1, x, e => foldl_take (l := ys) (s := b s y) (i := i) (by simpa using e)
  | [], _, _, _, e => by simp at e
@[irreducible] def rng (lo hi : Int) : List Int := (List.range (hi - lo).toNat).map fun k : Nat => lo + (k : Int)
theorem rng_at {lo hi : Int} {i : Nat} (h : i < (hi - lo).toNat) : (rng lo hi)[i]? = some (lo + (i : Int)) := by
  unfold rng
  rw [List.getElem?_map, List.getElem?_range h]; rfl
theorem rng_len {lo hi : Int} : (rng lo hi).length = (hi - lo).toNat := by unfold rng; simp
section
variable {W W' W0 W1 W2 W3 : List Sl} {K : PySem.W.Frag} {ta tb tc te to tl : TE} {tc' tt : TT} {r ra rb : R} {x y z v : V} {a b : Bool} {ι : Type} {F H F' H' : Hp} {σ : St} {E : XK} {P P1 : Post} {ts uu : TS} {g : TG}
variable {α β : Type}
/-- for x in l, the data fold -/
theorem sf_L {e : α → R} {l : List α} (mk : β → List Sl) (bd : β → α → β) (ok : β → α → Prop) (s0 : β) (h : ES tl W W1 (eLs e l)) (w : Wk W1 (mk s0)) (hg : okF ok bd s0 l)
    (hs : ∀ s x, x ∈ l → ok s x → ∃ W2 is, GS g (e x) (mk s) W2 is ∧ SS ts W2 ⟨fun W' => Wk W' (mk (bd s x)), P.rt, fun _ => False, fun W' => Wk W' (mk (bd s x))⟩) (hd : ∀ W', Wk W' (mk (l.foldl bd s0)) → P.nx W') : SS (tFor (iList K tl) g ts) W P := by
  refine ss_forL (K := K) (fun i W' => Wk W' (mk ((l.take i).foldl bd s0))) h (by simpa using w) (fun i r W' hr hi => ?_) fun W' hw => hd W' (by rw [List.length_map, List.take_length] at hw; exact hw)
  rw [List.getElem?_map] at hr
  cases q : l[i]? with
  | none => rw [q] at hr; cases hr
  | some x =>
    rw [q] at hr
    have er : e x = r := Option.some.inj hr
    subst er
    obtain ⟨W2, is, h1, h2⟩ := hs _ x (List.mem_of_getElem? q) (okF_at hg q)
    rw [foldl_take q]
    refine ⟨W2, is, fun F H σ v Q s hv k => h1 F H σ v Q (s.weak hi) hv fun σ' o s' d => k σ' (fun a z => hi.sub (o a z)) s' d, ?_⟩
    exact h2.imp (fun _ z => z) (fun _ _ z => z) (fun _ z => z.elim) fun _ z => z
theorem sf_T {e : α → R} {l : List α} (mk : β → List Sl) (bd : β → α → β) (ok : β → α → Prop) (s0 : β) (h : ES tl W W1 (eT K (l.map e))) (w : Wk W1 (mk s0)) (hg : okF ok bd s0 l)
    (hs : ∀ s x, x ∈ l → ok s x → ∃ W2 is, GS g (e x) (mk s) W2 is ∧ SS ts W2 ⟨fun W' => Wk W' (mk (bd s x)), P.rt, fun _ => False, fun W' => Wk W' (mk (bd s x))⟩) (hd : ∀ W', Wk W' (mk (l.foldl bd s0)) → P.nx W') : SS (tFor (iTup K tl) g ts) W P := by
  refine ss_forT (K := K) (fun i W' => Wk W' (mk ((l.take i).foldl bd s0))) h (by simpa using w) (fun i r W' hr hi => ?_) fun W' hw => hd W' (by rw [List.length_map, List.take_length] at hw; exact hw)
  rw [List.getElem?_map] at hr
  cases q : l[i]? with
  | none => rw [q] at hr; cases hr
  | some x =>
    rw [q] at hr
    have er : e x = r := Option.some.inj hr
    subst er
    obtain ⟨W2, is, h1, h2⟩ := hs _ x (List.mem_of_getElem? q) (okF_at hg q)
    rw [foldl_take q]
    refine ⟨W2, is, fun F H σ v Q s hv k => h1 F H σ v Q (s.weak hi) hv fun σ' o s' d => k σ' (fun a z => hi.sub (o a z)) s' d, ?_⟩
    exact h2.imp (fun _ z => z) (fun _ _ z => z) (fun _ z => z.elim) fun _ z => z
theorem sf_R2 {tr : TA} {lo n : Int} (mk : β → List Sl) (bd : β → Int → β) (ok : β → Int → Prop) (s0 : β) (h : AS tr W W1 [eI lo, eI n]) (hn : -(2 ^ 62) ≤ lo ∧ lo < 2 ^ 62 ∧ -(2 ^ 62) ≤ n ∧ n < 2 ^ 62) (w : Wk W1 (mk s0)) (hg : okF ok bd s0 (rng lo n))
    (hs : ∀ s x, lo ≤ x → x < n → ok s x → ∃ W2 is, GS g (eI x) (mk s) W2 is ∧ SS ts W2 ⟨fun W' => Wk W' (mk (bd s x)), P.rt, fun _ => False, fun W' => Wk W' (mk (bd s x))⟩) (hd : ∀ W', Wk W' (mk ((rng lo n).foldl bd s0)) → P.nx W') : SS (tFor (iRng2 tr) g ts) W P := by
  refine ss_forR2 (fun i W' => Wk W' (mk (((rng lo n).take i).foldl bd s0))) h hn (by simpa using w) (fun i W' hr hi => ?_) fun W' hw => hd W' (by rw [← rng_len (lo := lo), List.take_length] at hw; exact hw)
  have q := rng_at hr
  obtain ⟨W2, is, h1, h2⟩ := hs _ _ (by omega) (by omega) (okF_at hg q)
  rw [foldl_take q]
  refine ⟨W2, is, fun F H σ v Q s hv k => h1 F H σ v Q (s.weak hi) hv fun σ' o s' d => k σ' (fun a z => hi.sub (o a z)) s' d, ?_⟩
  exact h2.imp (fun _ z => z) (fun _ _ z => z) (fun _ z => z.elim) fun _ z => z
theorem sf_R1 {tr : TA} {n : Int} (mk : β → List Sl) (bd : β → Int → β) (ok : β → Int → Prop) (s0 : β) (h : AS tr W W1 [eI n]) (hn : -(2 ^ 62) ≤ n ∧ n < 2 ^ 62) (w : Wk W1 (mk s0)) (hg : okF ok bd s0 (rng 0 n))
    (hs : ∀ s x, 0 ≤ x → x < n → ok s x → ∃ W2 is, GS g (eI x) (mk s) W2 is ∧ SS ts W2 ⟨fun W' => Wk W' (mk (bd s x)), P.rt, fun _ => False, fun W' => Wk W' (mk (bd s x))⟩) (hd : ∀ W', Wk W' (mk ((rng 0 n).foldl bd s0)) → P.nx W') : SS (tFor (iRng1 tr) g ts) W P := by
  have en : (n - 0).toNat = n.toNat := by omega
  refine ss_forR1 (fun i W' => Wk W' (mk (((rng 0 n).take i).foldl bd s0))) h hn.2 hn.1 (by simpa using w) (fun i W' hr hi => ?_) fun W' hw => hd W' (by rw [← en, ← rng_len (lo := 0), List.take_length] at hw; exact hw)
  have q : (rng 0 n)[i]? = some (0 + (i : Int)) := rng_at (by rw [en]; exact hr)
  obtain ⟨W2, is, h1, h2⟩ := hs _ _ (by omega) (by omega) (okF_at hg q)
  rw [foldl_take q]
  refine ⟨W2, is, fun F H σ v Q s hv k => h1 F H σ v Q (s.weak hi) hv fun σ' o s' d => k σ' (fun a z => hi.sub (o a z)) s' d, ?_⟩
  exact h2.imp (fun _ z => z) (fun _ _ z => z) (fun _ z => z.elim) fun _ z => z
/-! while -/
def wRun (c : β → Bool) (bd : β → β) : Nat → β → β
  | 0, s => s
  | n + 1, s => if c s = true then wRun c bd n (bd s) else s
def wOk (c : β → Bool) (bd : β → β) (okc okb : β → Prop) : Nat → β → Prop
  | 0, s => okc s ∧ c s = false
  | n + 1, s => okc s ∧ (c s = true → okb s ∧ wOk c bd okc okb n (bd s))
theorem sf_while (mk : β → List Sl) (c : β → Bool) (bd : β → β) (okc okb : β → Prop) (n : Nat) (s0 : β) (w : Wk W (mk s0)) (hg : wOk c bd okc okb n s0)
    (hc : ∀ s, okc s → ET tc' (mk s) (mk s) (c s)) (hs : ∀ s, c s = true → okb s → SS ts (mk s) ⟨fun W' => Wk W' (mk (bd s)), P.rt, fun _ => False, fun W' => Wk W' (mk (bd s))⟩)
    (hd : ∀ W', Wk W' (mk (wRun c bd n s0)) → P.nx W') : SS (tWhile tc' ts) W P := fun F H σ D s kn kr kb kc => by
  refine ⟨fun m σ' H' => ∃ t W' F', wOk c bd okc okb m t ∧ wRun c bd m t = wRun c bd n s0 ∧ Wk W' (mk t) ∧ Rel F H (Own W σ) F' H' (Own W' σ') ∧ Sat F' H' σ' W', ⟨n, s0, W, F, hg, rfl, w, Rel.refl, s⟩, ?_⟩
  rintro m σ' H' ⟨t, W', F', g1, g2, g3, g4, g5⟩
  have okc' : okc t := by cases m with
    | zero => exact g1.1
    | succ m => exact g1.1
  refine hc t okc' F' H' σ' _ (g5.weak g3) fun F1 H1 a1 s1 => ?_
  have a1' : Rel F H (Own W σ) F1 H1 (Own (mk t) σ') := (g4.sub fun _ o => g3.sub o).trans a1
  cases q : c t with
  | true =>
    rw [if_pos rfl]
    cases m with
    | zero => rw [g1.2] at q; cases q
    | succ m =>
      obtain ⟨y1, y2⟩ := g1.2 q
      have er : wRun c bd m (bd t) = wRun c bd n s0 := by rw [← g2]; show _ = if c t = true then _ else _; rw [if_pos q]
      refine ⟨fun σ2 H2 => ∃ t W' F', wOk c bd okc okb m t ∧ wRun c bd m t = wRun c bd n s0 ∧ Wk W' (mk t) ∧ Rel F H (Own W σ) F' H2 (Own W' σ2) ∧ Sat F' H2 σ2 W', fun σ2 H2 z => ⟨m, Nat.lt_succ_self m, z⟩, ?_⟩
      refine hs t q y1 F1 H1 σ' _ s1 (fun W2 σ2 F2 H2 n2 a2 s2 => ⟨_, W2, F2, y2, er, n2, a1'.trans a2, s2⟩) (fun W2 σ2 r v F2 H2 n2 a2 s2 => kr W2 σ2 r v F2 H2 n2 (a1'.trans a2) s2) (fun _ _ _ _ z => z.elim)
        fun W2 σ2 F2 H2 n2 a2 s2 => ⟨_, W2, F2, y2, er, n2, a1'.trans a2, s2⟩
  | false =>
    rw [if_neg Bool.false_ne_true]
    have er : t = wRun c bd n s0 := by
      rw [← g2]
      cases m with
      | zero => rfl
      | succ m => show t = if c t = true then _ else _; rw [if_neg (by rw [q]; exact Bool.false_ne_true)]
    exact kn (mk t) σ' F1 H1 (hd _ (by rw [← er]; exact Wk.refl)) a1' s1
end
end Fw
end
section
set_option maxRecDepth 100000
namespace Fw
open PySem L2
/-! comprehensions -/
theorem wipe_in {σ : St} {i : Nat} : ∀ {vs : List Nat}, i ∈ vs → (wipe σ vs)[i]? = if i < σ.length then some none else none
  | v :: vs, h => by
    show ((wipe σ vs).set v none)[i]? = _
    have el : (wipe σ vs).length = σ.length := wipe_length σ vs
    by_cases e : v = i
    · subst e
      by_cases hl : v < σ.length
      · rw [List.getElem?_set_self (by rw [el]; exact hl), if_pos hl]
      · rw [List.getElem?_eq_none (by rw [List.length_set, el]; omega), if_neg hl]
    · rw [List.getElem?_set_ne e]
      exact wipe_in ((List.mem_cons.mp h).resolve_left fun z => e z.symm)
theorem wipe_out' {σ : St} {i : Nat} : ∀ {vs : List Nat}, i ∉ vs → (wipe σ vs)[i]? = σ[i]?
  | [], _ => rfl
  | v :: vs, h => by
    show ((wipe σ vs).set v none)[i]? = _
    rw [List.getElem?_set_ne (fun e => h (by rw [e]; exact List.mem_cons_self)), wipe_out' fun z => h (List.mem_cons_of_mem _ z)]
theorem wipe_eq {σ σ' : St} {vs is : List Nat} (hl : σ'.length = σ.length) (h : ∀ j, j ∉ is → σ'[j]? = (wipe σ vs)[j]?) (hs : ∀ j ∈ is, j ∈ vs) : wipe σ' vs = wipe σ vs := by
  refine List.ext_getElem? fun j => ?_
  by_cases hj : j ∈ vs
  · rw [wipe_in hj, wipe_in hj, hl]
  · rw [wipe_out' hj]
    exact h j fun z => hj (hs j z)
def wipeW : List Sl → List Nat → List Sl
  | W, [] => W
  | W, v :: vs => (wipeW W vs).set v .no
section
variable {W W' W0 W1 W2 W3 : List Sl} {K : PySem.W.Frag} {ta tb tc te to tl : TE} {tc' tt : TT} {r ra rb : R} {x y z v : V} {a b : Bool} {ι : Type} {F H F' H' : Hp} {σ : St} {E : XK} {P P1 : Post} {ts uu : TS} {g : TG}
variable {α β : Type}
theorem Sat.wipe (s : Sat F H σ W) : ∀ vs : List Nat, Sat F H (L2.wipe σ vs) (wipeW W vs) ∧ ∀ a, Own (wipeW W vs) (L2.wipe σ vs) a → Own W σ a
  | [] => ⟨s, fun _ o => o⟩
  | w :: vs => by
    obtain ⟨s1, o1⟩ := Sat.wipe s vs
    have key : ∀ (i : Nat) (c : OC), ((wipeW W vs).set w .no)[i]? = some (.ow c) → w ≠ i ∧ (wipeW W vs)[i]? = some (.ow c) := fun i c h => by
      by_cases e : w = i
      · subst e
        have hi : w < (wipeW W vs).length := by
          have := (List.getElem?_eq_some_iff.mp h).1
          simpa using this
        rw [List.getElem?_set_self hi] at h; cases h
      · rw [List.getElem?_set_ne e] at h; exact ⟨e, h⟩
    have keyf : ∀ (i : Nat) (c : R), ((wipeW W vs).set w .no)[i]? = some (.fz c) → w ≠ i ∧ (wipeW W vs)[i]? = some (.fz c) := fun i c h => by
      by_cases e : w = i
      · subst e
        have hi : w < (wipeW W vs).length := by
          have := (List.getElem?_eq_some_iff.mp h).1
          simpa using this
        rw [List.getElem?_set_self hi] at h; cases h
      · rw [List.getElem?_set_ne e] at h; exact ⟨e, h⟩
    refine ⟨⟨s1.ex, by show ((L2.wipe σ vs).set w none).length = ((wipeW W vs).set w .no).length; rw [List.length_set, List.length_set]; exact s1.len, fun i c h => ?_, fun i c h => ?_, fun i j c d p h1 h2 h3 h4 => ?_⟩, fun p ⟨i, c, h1, h2⟩ => ?_⟩
    · obtain ⟨ne, q⟩ := keyf i c h
      obtain ⟨u, y1, y2⟩ := s1.fz i c q
      exact ⟨u, by show ((L2.wipe σ vs).set w none)[i]? = _; rw [List.getElem?_set_ne ne]; exact y1, y2⟩
    · obtain ⟨ne, q⟩ := key i c h
      obtain ⟨p, o, y1, y2⟩ := s1.ow i c q
      exact ⟨p, o, by show ((L2.wipe σ vs).set w none)[i]? = _; rw [List.getElem?_set_ne ne]; exact y1, y2⟩
    · obtain ⟨ne, q⟩ := key i c h1
      obtain ⟨ne', q'⟩ := key j d h2
      have h3' : ((L2.wipe σ vs).set w none)[i]? = some (some (.ref p)) := h3
      have h4' : ((L2.wipe σ vs).set w none)[j]? = some (some (.ref p)) := h4
      rw [List.getElem?_set_ne ne] at h3'
      rw [List.getElem?_set_ne ne'] at h4'
      exact s1.ds i j c d p q q' h3' h4'
    · obtain ⟨ne, q⟩ := key i c h1
      have h2' : ((L2.wipe σ vs).set w none)[i]? = some (some (.ref p)) := h2
      rw [List.getElem?_set_ne ne] at h2'
      exact o1 p ⟨i, c, q, h2'⟩
/-- the frozen slots alone -/
def frW : List Sl → List Sl
  | [] => []
  | .ow _ :: W => .no :: frW W
  | .fz r :: W => .fz r :: frW W
  | .no :: W => .no :: frW W
theorem frW_at : ∀ {W : List Sl} {i : Nat} {s : Sl}, (frW W)[i]? = some s → s = .no ∨ W[i]? = some s
  | .ow _ :: W, 0, s, h => .inl (by cases h; rfl)
  | .fz _ :: W, 0, s, h => .inr h
  | .no :: W, 0, s, h => .inr h
  | .ow _ :: W, i + 1, s, h => frW_at (W := W) (i := i) h
  | .fz _ :: W, i + 1, s, h => frW_at (W := W) (i := i) h
  | .no :: W, i + 1, s, h => frW_at (W := W) (i := i) h
theorem frW_len : ∀ W : List Sl, (frW W).length = W.length
  | [] => rfl
  | .ow _ :: W => congrArg (· + 1) (frW_len W)
  | .fz _ :: W => congrArg (· + 1) (frW_len W)
  | .no :: W => congrArg (· + 1) (frW_len W)
theorem frW_no : ∀ {W : List Sl} {i : Nat} {c : OC}, ¬ (frW W)[i]? = some (.ow c)
  | .ow _ :: W, 0, s, h => by cases h
  | .fz _ :: W, 0, s, h => by cases h
  | .no :: W, 0, s, h => by cases h
  | .ow _ :: W, i + 1, s, h => frW_no (W := W) (i := i) h
  | .fz _ :: W, i + 1, s, h => frW_no (W := W) (i := i) h
  | .no :: W, i + 1, s, h => frW_no (W := W) (i := i) h
theorem own_fr {p : Addr} (o : Own (frW W) σ p) : False := by
  obtain ⟨i, c, h, _⟩ := o
  exact frW_no h
theorem Sat.fr (s : Sat F H σ W) : Sat F H σ (frW W) := by
  refine ⟨s.ex, s.len.trans (frW_len W).symm, fun i r h => ?_, fun i c h => (frW_no h).elim, fun i j c d p h => (frW_no h).elim⟩
  rcases frW_at h with z | z
  · cases z
  · exact s.fz i r z
/-- the slots in a comprehension's block -/
def blW (W : List Sl) (vs : List Nat) : List Sl := frW (wipeW W vs)
/-- what the walk of a comprehension keeps -/
def CI (F1 H1 : Hp) (D : Addr) (rs : List R) (H : Hp) : Prop :=
  ∃ F acc, Rel F1 H1 Nob F H Nob ∧ Same F H ∧ F D = none ∧ H D = some (.lst acc) ∧ All2 rs F acc
theorem ci_turn {F1 H1 : Hp} {D : Addr} {rs : List R} {vs is : List Nat} {p : Bool} {xv : V} (hD : H1 D = none) (s1 : Sat F1 H1 σ W1) (c : CI F1 H1 D rs H) (hx : ra.p F1 xv) (hl : rs.length < 16000000)
    (hg : GS g ra (blW W1 vs) W2 is) (his : ∀ j ∈ is, j ∈ vs) (ht : ET tt W2 W2 p) (he : p = true → ES te W2 W2 rb) :
    g xv (wipe σ vs) H fun σ2 H2 => wipe σ2 vs = wipe σ vs ∧ tt σ2 H2 fun b H3 =>
      if b = true then te σ2 H3 fun y H4 => ∃ acc, H4 D = some (.lst acc) ∧ acc.length < sizeLine ∧ CI F1 H1 D (if p = true then rs ++ [rb] else rs) (upd H4 D (.lst (acc ++ [y]))) else CI F1 H1 D (if p = true then rs ++ [rb] else rs) H3 := by
  obtain ⟨F, acc, q, ex, fD, hDl, ha⟩ := c
  obtain ⟨sw, _⟩ := (s1.pure q ex).wipe vs
  refine hg F H (wipe σ vs) xv _ sw.fr (ra.mono q.f hx) fun σ2 o2 s2 d2 => ⟨wipe_eq (d2.1.trans (wipe_length σ vs)) d2.2 his, ?_⟩
  have none2 : ∀ a, ¬ Own W2 σ2 a := fun a o => own_fr (o2 a o)
  have up : ∀ {F F' H H' : Hp}, Rel F H (Own W2 σ2) F' H' (Own W2 σ2) → Rel F H Nob F' H' Nob := fun {F F' H H'} a =>
    ⟨a.f, fun x o n h => a.h x o (none2 x) h, fun x o h => (a.n x o h).imp id (Or.imp id (Or.imp (fun m => none2 x m) id)), a.t, fun x m => .inl m⟩
  refine ht F H σ2 _ s2 fun F3 H3 a3 s3 => ?_
  have q3 := q.trans (up a3)
  have hD3 : H3 D = some (.lst acc) := (up a3).h D _ (fun z => z) hDl
  have fresh : ∀ {F' H' : Hp}, Rel F1 H1 Nob F' H' Nob → Same F' H' → Rel F H Nob F' H' Nob → F' D = none := fun {F' H'} a ex b => b.nof ex fD hDl (fun z => z) (fun xs e => by cases e)
  cases p with
  | false =>
    rw [if_neg Bool.false_ne_true, if_neg Bool.false_ne_true]
    exact ⟨F3, acc, q3, s3.ex, fresh q3 s3.ex (up a3), hD3, ha.mono a3.f⟩
  | true =>
    rw [if_pos rfl, if_pos rfl]
    refine he rfl F3 H3 σ2 _ s3 fun y F4 H4 a4 s4 hy => ?_
    have q4 := q3.trans (up a4)
    have f4 := fresh q4 s4.ex ((up a3).trans (up a4))
    refine ⟨acc, (up a4).h D _ (fun z => z) hD3, Nat.lt_of_lt_of_le (by rw [ha.len]; exact hl) (by decide), F4, acc ++ [y], ?_, fun a o h => ?_, f4, upd_same, (ha.mono (fun a o h => a4.f a o (a3.f a o h))).app ⟨hy, trivial⟩⟩
    · refine ⟨q4.f, fun a o n h => ?_, q4.n, fun a h => ?_, fun _ m => m.elim⟩
      · rw [upd_ne (ne_of_none h hD)]; exact q4.h a o n h
      · by_cases e : a = D
        · subst e; exact hD
        · rw [upd_ne e] at h; exact q4.t a h
    · rw [upd_ne (ne_of_none h f4)]; exact s4.ex a o h
/-- how a comprehension's data goes -/
def lcR {α : Type} (p : α → Bool) (f : α → R) (l : List α) : List R := (l.filter p).map f
theorem lcR_take {p : α → Bool} {f : α → R} {l : List α} {i : Nat} {x : α} (h : l[i]? = some x) : lcR p f (l.take (i + 1)) = if p x = true then lcR p f (l.take i) ++ [f x] else lcR p f (l.take i) := by
  have hi := (List.getElem?_eq_some_iff.mp h).1
  have e : l.take (i + 1) = l.take i ++ [x] := by
    rw [List.take_add_one, h]; rfl
  unfold lcR
  rw [e, List.filter_append, List.map_append]
  by_cases q : p x = true
  · rw [if_pos q, List.filter_cons, if_pos q]; rfl
  · rw [if_neg q, List.filter_cons, if_neg q]; simp
theorem lcR_len {p : α → Bool} {f : α → R} {l : List α} : (lcR p f l).length ≤ l.length := by
  unfold lcR; rw [List.length_map]; exact List.length_filter_le p l
/-- [f x for x in l if p x] -/
theorem en_lcL {e : α → R} {l : List α} {f : α → R} {vs is : List Nat} (p : α → Bool) (W2 : α → List Sl) (h : ES tl W W1 (eLs e l)) (hz : l.length < 16000000) (his : ∀ j ∈ is, j ∈ vs)
    (hg : ∀ x, GS g (e x) (blW W1 vs) (W2 x) is) (ht : ∀ x ∈ l, ET tt (W2 x) (W2 x) (p x)) (he : ∀ x ∈ l, p x = true → ES te (W2 x) (W2 x) (f x)) :
    ESN (tLc (iList K tl) g tt te vs) W W1 (oL ((l.filter p).map f)) := fun F H σ Q s k =>
  h F H σ _ s fun v F1 H1 a1 s1 ⟨a, xs, e1, e2, e3⟩ => by
    refine ⟨a, e1, ⟨xs, .inl (.inl (s1.ex _ _ e2))⟩, fun D hD => ?_⟩
    have fD : F1 D = none := s1.ex.free hD
    refine lc_list (xs := xs) (fun i H' => CI F1 H1 D (lcR p f (l.take i)) H') ?_ (fun i H' _ ⟨F', acc, q, ex, _⟩ => .inl (.inl (ex _ _ (q.f _ _ e2)))) ?_ ?_
    · refine ⟨F1, [], Rel.grow fun a o h => ?_, fun a o h => ?_, fD, upd_same, by simp [lcR, All2]⟩
      · rw [upd_ne (ne_of_none h hD)]; exact h
      · rw [upd_ne (ne_of_none h fD)]; exact s1.ex a o h
    · intro i x H' hx c
      obtain ⟨r, hr, rx⟩ := e3.get hx
      rw [List.getElem?_map] at hr
      cases q : l[i]? with
      | none => rw [q] at hr; cases hr
      | some y =>
        rw [q] at hr
        have er : e y = r := Option.some.inj hr
        subst er
        have my := List.mem_of_getElem? q
        show g x (wipe σ vs) H' fun σ2 H2 => wipe σ2 vs = wipe σ vs ∧ tt σ2 H2 fun b H3 =>
          if b = true then te σ2 H3 fun y H4 => ∃ acc, H4 D = some (.lst acc) ∧ acc.length < sizeLine ∧ CI F1 H1 D (lcR p f (l.take (i + 1))) (upd H4 D (.lst (acc ++ [y]))) else CI F1 H1 D (lcR p f (l.take (i + 1))) H3
        rw [lcR_take q]
        exact ci_turn hD s1 c rx (by have := lcR_len (p := p) (f := f) (l := l.take i); have := List.length_take_le' i l; omega) (hg y) his (ht y my) (he y my)
    · rintro H' ⟨F', acc, q, ex, f', hDl, ha⟩
      rw [e3.len, List.length_map, List.take_length] at ha
      exact k D _ F' H' (a1.trans q.pure) (s1.pure q ex) (a1.t D hD) hDl f' (fun o => by
        obtain ⟨u, z⟩ := o.lt s1
        rw [hD] at z; cases z) ⟨nofun, acc, rfl, ha⟩
theorem en_lcR2 {f : Int → R} {vs is : List Nat} {tr : TA} {lo n : Int} (p : Int → Bool) (W2 : Int → List Sl) (h : AS tr W W1 [eI lo, eI n]) (hn : -(2 ^ 62) ≤ lo ∧ lo < 2 ^ 62 ∧ -(2 ^ 62) ≤ n ∧ n < 2 ^ 62) (hz : n - lo < 16000000) (his : ∀ j ∈ is, j ∈ vs)
    (hg : ∀ x, GS g (eI x) (blW W1 vs) (W2 x) is) (ht : ∀ x ∈ rng lo n, ET tt (W2 x) (W2 x) (p x)) (he : ∀ x ∈ rng lo n, p x = true → ES te (W2 x) (W2 x) (f x)) :
    ESN (tLc (iRng2 tr) g tt te vs) W W1 (oL (((rng lo n).filter p).map f)) := fun F H σ Q s k =>
  h F H σ _ s fun ws F1 H1 a1 s1 e1 => by
    match ws, e1 with
    | [], e1 => exact e1.elim
    | [_], e1 => exact e1.2.elim
    | _ :: _ :: _ :: _, e1 => exact e1.2.2.elim
    | [v, w], e1 =>
      have ev : v = V.int lo := e1.1
      have ew : w = V.int n := e1.2.1
      subst ev ew
      refine ⟨lo, n, rfl, hn, fun D hD => ?_⟩
      have fD : F1 D = none := s1.ex.free hD
      refine lc_range (fun i H' => CI F1 H1 D (lcR p f ((rng lo n).take i)) H') ?_ ?_ ?_
      · refine ⟨F1, [], Rel.grow fun a o h => ?_, fun a o h => ?_, fD, upd_same, by simp [lcR, All2]⟩
        · rw [upd_ne (ne_of_none h hD)]; exact h
        · rw [upd_ne (ne_of_none h fD)]; exact s1.ex a o h
      · intro i H' hi c
        have q := rng_at hi
        have my := List.mem_of_getElem? q
        show g _ (wipe σ vs) H' fun σ2 H2 => wipe σ2 vs = wipe σ vs ∧ tt σ2 H2 fun b H3 =>
          if b = true then te σ2 H3 fun y H4 => ∃ acc, H4 D = some (.lst acc) ∧ acc.length < sizeLine ∧ CI F1 H1 D (lcR p f ((rng lo n).take (i + 1))) (upd H4 D (.lst (acc ++ [y]))) else CI F1 H1 D (lcR p f ((rng lo n).take (i + 1))) H3
        rw [lcR_take q]
        exact ci_turn hD s1 c (show (eI (lo + i)).p F1 _ from rfl) (by have := lcR_len (p := p) (f := f) (l := (rng lo n).take i); have := List.length_take_le' i (rng lo n); rw [rng_len] at this; omega) (hg _) his (ht _ my) (he _ my)
      · rintro H' ⟨F', acc, q, ex, f', hDl, ha⟩
        rw [← rng_len, List.take_length] at ha
        exact k D _ F' H' (a1.trans q.pure) (s1.pure q ex) (a1.t D hD) hDl f' (fun o => by
          obtain ⟨u, z⟩ := o.lt s1
          rw [hD] at z; cases z) ⟨nofun, acc, rfl, ha⟩
theorem et_yes : ET tYes W W true := fun F H σ Q s k => k F H Rel.refl s
end
end Fw
end
section
set_option maxRecDepth 100000
namespace Fw
open PySem L2 PySem.Spec PyProof.Rows
/-- a def's promise where no guard of a display runs -/
structure FnG (P : Program) (w : World) (K : PySem.W.Frag) (mg : Str → Option Value) (base : Heap) (CX : CXT) (k : Nat) (f : Addr) (fd : FuncData) (ps : List Str) (sp : Sp) : Prop where
  len : ∀ vs H Q E, sp vs H Q E → vs.length = ps.length
  run : ∀ (A : Around) (outer : List Env) (s : Shared) (H : Hp) (args : Args) (us : List Value) (vs : List V) (Q : VK) (E : XK), A.guards = some [] → Room k A → Env0 P w K mg base A outer s H →
    BindsTo s fd args (ps.zip us) → Vals vs us → sp vs H Q E → codeAny (model P w) A (.call (.ref f) args) (CR CX outer P w H s Q E) s
section
variable {P : Program} {w : World} {K : PySem.W.Frag} {mg : Str → Option Value} {base : Heap} {CX : CXT} {k j : Nat} {f : Addr} {fd : FuncData} {ps : List Str} {sp sp' : Sp}
theorem FnG.mono (F : FnG P w K mg base CX j f fd ps sp) (h : j ≤ k) : FnG P w K mg base CX k f fd ps sp :=
  ⟨F.len, fun A outer s H args us vs Q E hg hr => F.run A outer s H args us vs Q E hg (hr.mono h)⟩
theorem FnG.imp (F : FnG P w K mg base CX k f fd ps sp) (h : ∀ vs H Q E, sp' vs H Q E → sp vs H Q E) : FnG P w K mg base CX k f fd ps sp' :=
  ⟨fun vs H Q E q => F.len vs H Q E (h _ _ _ _ q), fun A outer s H args us vs Q E hg hr he hb hv hs => F.run A outer s H args us vs Q E hg hr he hb hv (h _ _ _ _ hs)⟩
theorem FnG.of (F : FnOk P w K mg base CX k f fd ps sp) : FnG P w K mg base CX k f fd ps sp := ⟨F.len, fun A outer s H args us vs Q E _ => F.run A outer s H args us vs Q E⟩
/-- a def of the text, by its body -/
theorem fng_of {name qual : Str} {params : Arguments} {body : List Stmt} {scope : Scope} {dV kV doc pm cdv ct oc : Value} {an od : Option Addr} {osl : Array (Option Value)} {N : List Str}
    (lk : K.lookup f = some ⟨oc, od, .func (PySem.W.fnOf name qual params body scope dV kV doc pm an cdv ct), osl⟩) (hcd : PySem.W.codeIn K cdv qual = true) (S : FnScope N ps scope) (len : ∀ vs H Q E, sp vs H Q E → vs.length = ps.length)
    (hbody : ∀ (A : Around) (outer : List Env) (s : Shared) (H : Hp) (vs : List V) (Q : VK) (E : XK), A.guards = some [] → Room k (A.deeper (envOfC qual scope s.heap.objs.size f cdv)) → sp vs H Q E →
      ∃ t, PSs (cxOf CX P w K mg base N qual scope f cdv A outer s H E) body t ∧ t { nx := fun _ H' => Q .non H', rt := Q } (start N vs) H) :
    FnG P w K mg base CX (k + 1) f (PySem.W.fnOf name qual params body scope dV kV doc pm an cdv ct) ps sp :=
  ⟨len, fun A outer s H args us vs Q E hg hr e0 hb r hsp => by
    have old : ∀ b o, base.get? b = some o → s.heap.get? b = some o := fun b o e => (e0.bs b o e).1
    have KX := e0.mod.kin.keeps old
    have lim := e0.mod.nolimit.keeps old
    refine codeAny_call_function hr.depth (KX _ _ lk) rfl S.co S.gen rfl (PySem.W.codeRec_of KX hcd) (hb _ _ _ _ ?_)
    refine wpAny_newFunctionEnv_cells S.kind (fun y hy => ?_) fun env he s1 x => ?_
    · obtain ⟨n, v⟩ := y
      exact (S.par n (List.of_mem_zip hy).1).imp id fun q => ⟨q, PySem.W.cellsFrom_some _ _ _ (.inl q)⟩
    · subst he
      obtain ⟨t, ht, hq⟩ := hbody A outer s H vs Q E hg (hr.deeper _) hsp
      have I := inv_start (CX := CX) (E := E) S hr.hd e0 (len _ _ _ _ hsp) r x
      have fin : ∀ {s' : Shared} {σ' : L2.St} {H' : Hp} {v : V} {u : Value}, Inv (cxOf CX P w K mg base N qual scope f cdv A outer s H E) [] σ' H' s' → RelV v u → Q v H' → CE outer P w H s Q u s' :=
        fun J rv q => ⟨_, _, J.os, J.bare, J.base, J.hok, rv, q⟩
      refine ⟨lim.keeps x.toInCall.keep, codeAny_func (wpAny_mono (ht.run [] s1 (start N vs) H _ I hq) (fun fl s' hs => ?_) fun e s' hs => hs)⟩
      cases fl with
      | ret u => exact let ⟨v, σ', H', J, rv, q⟩ := hs; fin J rv q
      | next => exact let ⟨σ', H', J, q⟩ := hs; fin (v := V.non) (u := Value.none) J rfl q
      | brk => exact hs.elim fun _ z => z.elim fun _ z => z.2.elim
      | cont => exact hs.elim fun _ z => z.elim fun _ z => z.2.elim⟩
theorem Fun.okG {x qual : Str} {st : Stmt} {N : List Str} (F : L2.Fun K x qual st f fd) (S : FnScope N ps (defScope st)) (len : ∀ vs H Q E, sp vs H Q E → vs.length = ps.length)
    (hbody : ∀ (cdv : Value) (A : Around) (outer : List Env) (s : Shared) (H : Hp) (vs : List V) (Q : VK) (E : XK), A.guards = some [] → Room k (A.deeper (envOfC qual (defScope st) s.heap.objs.size f cdv)) → sp vs H Q E →
      ∃ t, PSs (cxOf CX0 P w K mg base N qual (defScope st) f cdv A outer s H E).nox (defBody st) t ∧ t { nx := fun _ H' => Q .non H', rt := Q } (start N vs) H) : FnG P w K mg base CX0 (k + 1) f fd ps sp := by
  obtain ⟨oc, od, kV, doc, pm, an, cdv, ct, osl, e, lk, hcd⟩ := F.ex
  subst e
  exact fng_of lk hcd S len fun A outer s H vs Q E hg hr hsp => let ⟨t, h, q⟩ := hbody cdv A outer s H vs Q E hg hr hsp; ⟨t, h.nox, q⟩
end
section
variable {X : Cx} {CX : CXT} {k : Nat} {f C p g : Addr} {fd : FuncData} {ps : List Str} {sp : Sp} {dvs : List V} {ds : List Value} {E : XK} {x m : Str} {pp pos apos : Pos} {e o : Expr} {es : List Expr} {ta : TE} {t : TA}
theorem run_fng {pins : List (Addr × Obj)} {σ : L2.St} {H : Hp} {s : Shared} {Q : VK} {us : List Value} {vs : List V} (F : FnG X.prog X.w X.K X.mg X.base CX k f fd ps sp) (hG : X.A.guards = some []) (hr : Room k X.A) (hb : Binds X.K fd ps ds) (hd : Vals dvs ds)
    (hx : Passes CX X E) (I : Inv X pins σ H s) (r : Vals vs us) (h : sp (vs ++ dvs) H Q E) : wpAny (model X.prog X.w) X.A (call (.ref f) us) (EP X pins σ Q) X.xe s := by
  have r2 := r.append hd
  refine wpAny_call (codeAny_mono (F.run X.A X.stack s H ⟨us, []⟩ _ _ Q E hG hr I.env0 (hb s us I.kIn (r2.length.symm.trans (F.len _ _ _ _ h))) r2 h) fun q s' hq => ?_)
  match q, hq with
  | .error e, hq => exact hx pins σ H s e s' I hq
  | .ok (.ret u), hq => exact I.after hq
  | .ok .next, hq => exact hq.elim
  | .ok .brk, hq => exact hq.elim
  | .ok .cont, hq => exact hq.elim
theorem pg_call (F : FnG X.prog X.w X.K X.mg X.base CX k f fd ps sp) (hG : X.A.guards = some []) (hr : Room k X.A) (hg : Gl X x) (hm : X.mg x = some (.ref f)) (hk : PySem.W.keepIn X.K (.ref f) = true) (hb : Binds X.K fd ps ds) (hd : Vals dvs ds) (hx : Passes CX X E)
    (ha : PA X (e :: es) t) (hdb : (x == ("__debug__" : Str)) = false := by decide) (he : starEach (e :: es) X.env = (false, eval e X.env) :: starEach es X.env := by rfl) (hpl : (backTo pos (starEach es X.env)).any (·.1) = false := by rfl) :
    PE X (.Call (.Name x pp) (e :: es) [] pos) (tCall sp dvs E t) :=
  ⟨fun pins s σ H Q I h => wpAny_Call_Name_kw (ld_glob I hg hm (PySem.W.callWith_K (h₀ := X.base) I.ok.mod.kin hk
    (thn (ha.run pos pins s σ H _ I h) fun us s1 ⟨vs, H1, I1, r, q⟩ => ⟨I1.kIn, run_fng F hG hr hb hd hx I1 r q⟩) he hpl) hdb)⟩
theorem pg_call0 (F : FnG X.prog X.w X.K X.mg X.base CX k f fd ps sp) (hG : X.A.guards = some []) (hr : Room k X.A) (hg : Gl X x) (hm : X.mg x = some (.ref f)) (hk : PySem.W.keepIn X.K (.ref f) = true) (hb : Binds X.K fd ps ds) (hd : Vals dvs ds) (hx : Passes CX X E)
    (hdb : (x == ("__debug__" : Str)) = false := by decide) : PE X (.Call (.Name x pp) [] [] pos) (tCall sp dvs E tNil) :=
  ⟨fun pins s σ H Q I h => wpAny_Call_Name_kw (ld_glob I hg hm (PySem.W.callWith_K0 I.kIn hk (run_fng (us := []) F hG hr hb hd hx I .nil h)) hdb)⟩
theorem pg_meth {pl : Sem Bool} (he : PE X o ta) (c : Cls X.K C) (hm : Meth X.K C m f) (F : FnG X.prog X.w X.K X.mg X.base CX k f fd ps sp) (hG : X.A.guards = some []) (hr : Room k X.A) (hb : Binds X.K fd ps ds) (hd : Vals dvs ds) (hx : Passes CX X E) (ha : PA X (e :: es) t)
    (hst : starEach (e :: es) X.env = (false, eval e X.env) :: starEach es X.env := by rfl) (hpl : (backTo pos (starEach es X.env)).any (·.1) = false := by rfl)
    (ht : eval (.Call (.Attribute o m apos) (e :: es) [] pos) X.env = (eval o X.env >>= fun ov => standAt apos.atName >>= fun _ => holding [ov] (getMethod ov m pl) >>= fun fm =>
      callWith pos fm.1 fm.2 (backTo pos (starEach (e :: es) X.env)) (backToKw pos (keywordEach [] X.env))) := by rfl) :
    PE X (.Call (.Attribute o m apos) (e :: es) [] pos) (tMeth C m sp dvs E ta t) := by
  refine ⟨fun pins s σ H Q I h => PySem.W.methodCall_KW (pl := pl) (thn (he.run pins s σ H _ I h) fun u s1 ⟨x, H1, I1, rx, a, dx, fs, ex, ea, l, q⟩ => ?_) ht⟩
  subst ex
  cases (show u = Value.ref a from rx)
  refine getmeth_ok I1 ea c hm l (PySem.W.callWith_K (first := [.ref a]) (h₀ := X.base) I.ok.mod.kin hm.kp (thn (ha.run pos pins s1 σ H1 _ I1 q) fun us s2 ⟨vs, H2, I2, r, q2⟩ => ⟨I2.kIn, ?_⟩) hst hpl)
  exact run_fng (us := .ref a :: us) (vs := .ref a :: vs) F hG hr hb hd hx I2 (.cons rfl r) q2
theorem pg_meth0 {pl : Sem Bool} (he : PE X o ta) (c : Cls X.K C) (hm : Meth X.K C m f) (F : FnG X.prog X.w X.K X.mg X.base CX k f fd ps sp) (hG : X.A.guards = some []) (hr : Room k X.A) (hb : Binds X.K fd ps ds) (hd : Vals dvs ds) (hx : Passes CX X E)
    (ht : eval (.Call (.Attribute o m apos) [] [] pos) X.env = (eval o X.env >>= fun ov => standAt apos.atName >>= fun _ => holding [ov] (getMethod ov m pl) >>= fun fm =>
      callWith pos fm.1 fm.2 (backTo pos (starEach [] X.env)) (backToKw pos (keywordEach [] X.env))) := by rfl) :
    PE X (.Call (.Attribute o m apos) [] [] pos) (tMeth C m sp dvs E ta tNil) := by
  refine ⟨fun pins s σ H Q I h => PySem.W.methodCall_KW (pl := pl) (thn (he.run pins s σ H _ I h) fun u s1 ⟨x, H1, I1, rx, a, dx, fs, ex, ea, l, q⟩ => ?_) ht⟩
  subst ex
  cases (show u = Value.ref a from rx)
  exact getmeth_ok I1 ea c hm l (PySem.W.callWith_K0 (first := [.ref a]) I1.kIn hm.kp (run_fng (us := [.ref a]) (vs := [.ref a]) F hG hr hb hd hx I1 (.cons rfl .nil) q))
theorem pg_make (M : Mk X.K C f) (F : FnG X.prog X.w X.K X.mg X.base CX k f fd ps sp) (hG : X.A.guards = some []) (hr : Room (k + 1) X.A) (hg : Gl X x) (hm : X.mg x = some (.ref C)) (hb : Binds X.K fd ps ds) (hd : Vals dvs ds) (hx : Passes CX X E)
    (ha : PA X (e :: es) t) (hdb : (x == ("__debug__" : Str)) = false := by decide) (he : starEach (e :: es) X.env = (false, eval e X.env) :: starEach es X.env := by rfl) (hpl : (backTo pos (starEach es X.env)).any (·.1) = false := by rfl) :
    PE X (.Call (.Name x pp) (e :: es) [] pos) (tMake C sp dvs E t) := by
  refine ⟨fun pins s0 σ H0 Q I0 h0 => wpAny_Call_Name_kw (ld_glob I0 hg hm (PySem.W.callWith_K (h₀ := X.base) I0.ok.mod.kin M.kp (thn (ha.run pos pins s0 σ H0 _ I0 h0) fun us s ⟨vs, H, I, r, h⟩ => ⟨I.kIn, ?_⟩) he hpl) hdb)⟩
  have hq := h (s.heap.objs.size + 1) s.heap.objs.size (I.hok.fresh (Nat.le_succ _)) (I.hok.fresh (Nat.le_refl _)) (Nat.ne_of_lt (Nat.lt_succ_self _))
  have I2 := Inv.made (C := C) I
  have r2 : Vals (V.ref (s.heap.objs.size + 1) :: (vs ++ dvs)) (Value.ref (s.heap.objs.size + 1) :: (us ++ ds)) := .cons rfl (r.append hd)
  have gd : ∀ us', (X.A.under (.builtin "type.__call__" ⟨.ref C :: us', []⟩)).guards = some [] := fun us' => by
    have : (X.A.under (.builtin "type.__call__" ⟨.ref C :: us', []⟩)).guards = X.A.guards := rfl
    rw [this]; exact hG
  refine wpAny_call (make_map (f := f) I.kIn M.makes M.init (beq_iff_eq.mp M.fn) (codeAny_mono (F.run _ X.stack _ _ ⟨Value.ref (s.heap.objs.size + 1) :: us, []⟩ _ _ _ E (gd us) (hr.make C us [])
    (I2.env0.make C us []) (hb _ (Value.ref (s.heap.objs.size + 1) :: us) I2.kIn (r2.length.symm.trans (F.len _ _ _ _ hq))) r2 hq) fun q s' hq' => ?_))
  match q, hq' with
  | .error e, hq' => exact hx pins σ _ _ e s' I2 hq'
  | .ok (.ret u), hq' =>
    obtain ⟨v, H', I3, rv, ev, q3⟩ := I2.after hq'
    subst ev
    exact ⟨rv, V.ref (s.heap.objs.size + 1), H', I3, rfl, q3⟩
  | .ok .next, hq' => exact hq'.elim
  | .ok .brk, hq' => exact hq'.elim
  | .ok .cont, hq' => exact hq'.elim
end
end Fw
end
section
set_option maxRecDepth 100000
namespace Fw
open PySem L2
section
variable {W W' W0 W1 W2 W3 : List Sl} {K : PySem.W.Frag} {ta tb tc te to tl : TE} {tc' tt : TT} {r ra rb : R} {x y z v : V} {a b : Bool} {ι : Type} {F H F' H' : Hp} {σ : L2.St} {E : XK} {P P1 : Post} {ts uu : TS} {g : TG}
variable {α β : Type}
/-- a built-in of one value, of two -/
theorem es_cb1 {g : List V → Hp → VK → Prop} (ha : ES ta W W1 (eV x)) (hg : ∀ (H : Hp) (Q : VK), Q z H → g [x] H Q) : ES (tCB g (tCons ta tNil)) W W1 (eV z) := fun F H σ Q s k =>
  ha F H σ _ s fun v F1 H1 a1 s1 e1 => by
    have e1' : v = x := e1
    subst e1'
    exact hg H1 Q (k z F1 H1 a1 s1 rfl)
theorem es_cb2 {g : List V → Hp → VK → Prop} (ha : ES ta W W1 (eV x)) (hb : ES tb W1 W2 (eV y)) (hg : ∀ (H : Hp) (Q : VK), Q z H → g [x, y] H Q) : ES (tCB g (tCons ta (tCons tb tNil))) W W2 (eV z) := fun F H σ Q s k =>
  ha F H σ _ s fun v F1 H1 a1 s1 e1 => hb F1 H1 σ _ s1 fun w F2 H2 a2 s2 e2 => by
    have e1' : v = x := e1
    have e2' : w = y := e2
    subst e1' e2'
    exact hg H2 Q (k z F2 H2 (a1.trans a2) s2 rfl)
theorem es_int {i : Int} {q : List V → Hp → VK → Prop} (ha : ES ta W W1 (eI i)) : ES (tCB (fun xs H Q => (∃ i, xs = [.int i] ∧ Q (.int i) H) ∨ q xs H Q) (tCons ta tNil)) W W1 (eI i) := es_cb1 ha fun _ _ k => .inl ⟨i, rfl, k⟩
def b2i (b : Bool) : Int := if b = true then 1 else 0
theorem es_intB {q : List V → Hp → VK → Prop} (ha : ES ta W W1 (eB b)) : ES (tCB (fun xs H Q => q xs H Q ∨ (∃ k, xs = [.bl k] ∧ Q (.int (if k = true then 1 else 0)) H)) (tCons ta tNil)) W W1 (eI (b2i b)) := es_cb1 ha fun _ _ k => .inr ⟨b, rfl, k⟩
def max2 (i j : Int) : Int := if j > i then j else i
def min2 (i j : Int) : Int := if j < i then j else i
theorem es_max2 {i j : Int} (ha : ES ta W W1 (eI i)) (hb : ES tb W1 W2 (eI j)) : ES (tCB (fun xs H Q => ∃ i j, xs = [.int i, .int j] ∧ Q (.int (if j > i then j else i)) H) (tCons ta (tCons tb tNil))) W W2 (eI (max2 i j)) := es_cb2 ha hb fun _ _ k => ⟨i, j, rfl, k⟩
theorem es_min2 {i j : Int} (ha : ES ta W W1 (eI i)) (hb : ES tb W1 W2 (eI j)) : ES (tCB (fun xs H Q => ∃ i j, xs = [.int i, .int j] ∧ Q (.int (if j < i then j else i)) H) (tCons ta (tCons tb tNil))) W W2 (eI (min2 i j)) := es_cb2 ha hb fun _ _ k => ⟨i, j, rfl, k⟩
theorem es_fdivW {i j : Int} (ha : ES ta W W1 (eI i)) (hb : ES tb W1 W2 (eI j)) (c : CDivW i j) : ES (tOp (rI CDivW fun i j => .int (i / j)) ta tb) W W2 (eI (i / j)) := es_op ha hb fun _ _ q => ⟨i, j, rfl, rfl, c, q⟩
theorem es_mulW {i j : Int} (ha : ES ta W W1 (eI i)) (hb : ES tb W1 W2 (eI j)) (c : CMulW i j) : ES (tOp (rI CMulW fun i j => .int (i * j)) ta tb) W W2 (eI (i * j)) := es_op ha hb fun _ _ q => ⟨i, j, rfl, rfl, c, q⟩
/-- xs[k], xs owned, k written -/
theorem es_ixO {rs : List R} {q0 : Option Addr} {k i : Nat} (h : W[i]? = some (.ow (oLq q0 rs))) (hk : rs[k]? = some r) : ES (tOp (rIxL K) (tVar i) (tC (.int (k : Int)))) W W r := fun F H σ Q s q => by
  obtain ⟨p, o, e0, g1, _, ⟨_, xs, rfl, g2⟩⟩ := s.ow i _ h
  obtain ⟨x, z1, z2⟩ := g2.get' hk
  exact ⟨.ref p, e0, p, xs, k, x, rfl, rfl, .inl (.inl g1), atI_k z1, q x F H Rel.refl s z2⟩
/-- xs[k] = e, xs owned, k written -/
theorem ss_setk {i k : Nat} {rs : List R} {q1 : Option Addr} (h : ES te W W1 r) (h1 : W1[i]? = some (.ow (oLq q1 rs))) (hk : k < rs.length) (n : P.nx (W1.set i (.ow (oLq q1 (rs.set k r))))) :
    SS (tAsg te (gSub (tVar i) (tC (.int (k : Int))) rSetL)) W P := fun F H σ D s kn _ _ _ =>
  h F H σ _ s fun v F1 H1 a1 s1 e1 => by
    obtain ⟨p, o, e0, y1, y2, ⟨yq, ys, rfl, y3⟩⟩ := s1.ow i _ h1
    have el := y3.len
    refine ⟨.ref p, e0, p, ys, k, k, rfl, rfl, y1, ?_, kn _ _ _ _ n (a1.trans ⟨fun _ _ z => z, fun a u n z => ?_, fun _ _ z => .inl z, fun a z => ?_, fun a m => .inl ((Own.mut h1).mp m)⟩) (s1.mut h1 e0 ⟨yq, _, rfl, y3.set e1 _⟩)⟩
    · unfold ixN
      rw [if_pos (by omega), if_pos (by omega)]
      rfl
    · rw [upd_ne (fun q : a = p => n (by rw [q]; exact ⟨i, _, h1, e0⟩))]; exact z
    · by_cases q : a = p
      · subst q; rw [upd_same] at z; cases z
      · rw [upd_ne q] at z; exact z
/-- the slots as a def begins: what is frozen, then nothing -/
def slF (rs : List R) (n : Nat) : List Sl := rs.map .fz ++ List.replicate (n - rs.length) .no
theorem slF_ow {rs : List R} {n i : Nat} {c : OC} (h : (slF rs n)[i]? = some (.ow c)) : False := by
  rcases List.mem_append.mp (List.mem_of_getElem? h) with z | z
  · obtain ⟨r, _, e⟩ := List.mem_map.mp z; cases e
  · cases List.eq_of_mem_replicate z
theorem slF_fz {rs : List R} {n i : Nat} {r : R} (h : (slF rs n)[i]? = some (.fz r)) : rs[i]? = some r := by
  unfold slF at h
  have hi : i < rs.length := by
    by_cases z : i < rs.length
    · exact z
    · rw [List.getElem?_append_right (by simpa using z), List.getElem?_replicate] at h
      split at h <;> cases h
  rw [List.getElem?_append_left (by simpa using hi), List.getElem?_map] at h
  cases q : rs[i]? with
  | none => rw [q] at h; cases h
  | some r' => rw [q] at h; have z := Option.some.inj h; injection z with z; rw [z]
theorem start_at {N : List Str} {vs : List V} {i : Nat} {v : V} (h : vs[i]? = some v) : (L2.start N vs)[i]? = some (some v) := by
  unfold L2.start
  have hi := (List.getElem?_eq_some_iff.mp h).1
  rw [List.getElem?_append_left (by simpa using hi), List.getElem?_map, h]; rfl
/-- a def's body: from what comes in to what goes out -/
theorem def_F {as : ι → List R} {ok : ι → Prop} {res : ι → R} {N : List Str} {vs : List V} {H : Hp} {Q : VK} {E : XK} (h : spF as ok res vs H Q E) (hN : ∀ d, (as d).length ≤ N.length)
    (k : ∀ d, ok d → SS ts (slF (as d) N.length) ⟨fun _ => res d = eN, fun _ r => r = res d, fun _ => False, fun _ => False⟩) : ts { nx := fun _ H' => Q .non H', rt := Q } (L2.start N vs) H := by
  obtain ⟨d, F, hok, ex, ha, hq⟩ := h
  have el := ha.len
  have s : Sat F H (L2.start N vs) (slF (as d) N.length) := by
    refine ⟨ex, ?_, fun i r h => ?_, fun i c h => (slF_ow h).elim, fun i j c e p h => (slF_ow h).elim⟩
    · unfold L2.start slF; simp [el]
    · obtain ⟨x, z1, z2⟩ := ha.get' (slF_fz h)
      exact ⟨x, start_at z1, z2⟩
  have own0 : ∀ a, ¬ Own (slF (as d) N.length) (L2.start N vs) a := fun a ⟨i, c, h, _⟩ => slF_ow h
  have up : ∀ {F' H' : Hp} {M : Addr → Prop}, Rel F H (Own (slF (as d) N.length) (L2.start N vs)) F' H' M → Rel F H Nob F' H' Nob := fun a =>
    ⟨a.f, fun x o n h => a.h x o (own0 x) h, fun x o h => (a.n x o h).imp id (Or.imp id (Or.imp (fun m => own0 x m) id)), a.t, fun x m => m.elim⟩
  refine k d hok F H (L2.start N vs) _ s (fun W' σ' F' H' z a s' => ?_) (fun W' σ' r v F' H' z a s' hv => ?_) (fun _ _ _ _ z => z.elim) fun _ _ _ _ z => z.elim
  · exact hq .non F' H' (up a) s'.ex (by rw [z]; rfl)
  · have z' : r = res d := z
    subst z'; exact hq v F' H' (up a) s'.ex hv
theorem def_B {c c' : ι → List R} {as : ι → List R} {ok : ι → Prop} {res : ι → R} {N : List Str} {vs : List V} {H : Hp} {Q : VK} {E : XK} (h : spB c as ok c' res vs H Q E) (hN : ∀ d, (as d).length < N.length)
    (k : ∀ d p, ok d → SS ts (.ow (oLq (some p) (c d)) :: slF (as d) (N.length - 1)) ⟨fun W' => res d = eN ∧ W'[0]? = some (.ow (oLq (some p) (c' d))), fun W' r => r = res d ∧ W'[0]? = some (.ow (oLq (some p) (c' d))), fun _ => False, fun _ => False⟩) :
    ts { nx := fun _ H' => Q .non H', rt := Q } (L2.start N vs) H := by
  obtain ⟨d, F, p, o, ws, rfl, hok, ex, hp, fp, hc, ha, hq⟩ := h
  have el := ha.len
  have hN' := hN d
  have s : Sat F H (L2.start N (.ref p :: ws)) (.ow (oLq (some p) (c d)) :: slF (as d) (N.length - 1)) := by
    refine ⟨ex, ?_, fun i r h => ?_, fun i e h => ?_, fun i j e e' q h1 h2 => ?_⟩
    · unfold L2.start slF; simp [el]; omega
    · cases i with
      | zero => cases h
      | succ i =>
        obtain ⟨x, z1, z2⟩ := ha.get' (slF_fz (i := i) h)
        exact ⟨x, start_at z1, z2⟩
    · cases i with
      | zero =>
        cases h
        exact ⟨p, .lst o, rfl, hp, fp, fun _ z => Option.some.inj z, o, rfl, hc⟩
      | succ i => exact (slF_ow (i := i) h).elim
    · cases i with
      | zero => cases j with
        | zero => exact fun _ _ => rfl
        | succ j => exact (slF_ow (i := j) h2).elim
      | succ i => exact (slF_ow (i := i) h1).elim
  have own0 : ∀ a, Own (.ow (oLq (some p) (c d)) :: slF (as d) (N.length - 1)) (L2.start N (.ref p :: ws)) a → a = p := fun a ⟨i, e, h1, h2⟩ => by
    cases i with
    | zero =>
      have z : some (some (V.ref p)) = some (some (.ref a)) := h2
      cases z; rfl
    | succ i => exact (slF_ow (i := i) h1).elim
  have own1 : Own (.ow (oLq (some p) (c d)) :: slF (as d) (N.length - 1)) (L2.start N (.ref p :: ws)) p := ⟨0, _, rfl, rfl⟩
  have up : ∀ {F' H' : Hp} {M : Addr → Prop}, Rel F H (Own (.ow (oLq (some p) (c d)) :: slF (as d) (N.length - 1)) (L2.start N (.ref p :: ws))) F' H' M → Rel F H (fun a => a = p) F' H' (fun a => a = p) := fun a =>
    ⟨a.f, fun x o n h => a.h x o (fun z => n (own0 x z)) h, fun x o h => (a.n x o h).imp id (Or.imp id (Or.imp (fun m => own0 x m) id)), a.t, fun x m => .inl m⟩
  have fin : ∀ {W' : List Sl} {σ' : L2.St} {F' H' : Hp}, Sat F' H' σ' W' → W'[0]? = some (.ow (oLq (some p) (c' d))) → ∃ o', H' p = some (.lst o') ∧ F' p = none ∧ All2 (c' d) F' o' := fun {W' σ' F' H'} s' hw => by
    obtain ⟨p', _, _, y1, y2, yq, ys, rfl, y3⟩ := s'.ow 0 _ hw
    cases yq p rfl
    exact ⟨ys, y1, y2, y3⟩
  refine k d p hok F H (L2.start N (.ref p :: ws)) _ s (fun W' σ' F' H' z a s' => ?_) (fun W' σ' r v F' H' z a s' hv => ?_) (fun _ _ _ _ z => z.elim) fun _ _ _ _ z => z.elim
  · obtain ⟨z1, z2⟩ := z
    obtain ⟨o', y1, y2, y3⟩ := fin s' z2
    exact hq .non F' H' o' (up a) s'.ex y1 y2 y3 (by rw [z1]; rfl)
  · obtain ⟨z1, z2⟩ := z
    subst z1
    obtain ⟨o', y1, y2, y3⟩ := fin s' z2
    exact hq v F' H' o' (up a) s'.ex y1 y2 y3 hv
end
end Fw
end
section
set_option maxRecDepth 100000
namespace Fw
open PySem L2
section
variable {W W' W0 W1 W2 W3 : List Sl} {K : PySem.W.Frag} {ta tb tc te to tl : TE} {tc' tt : TT} {r ra rb : R} {x y z v : V} {a b : Bool} {ι : Type} {F H F' H' : Hp} {σ : L2.St} {E : XK} {P P1 : Post} {ts uu tA tB : TS} {g : TG}
variable {α β γ δ : Type}
theorem ss_assoc {s1 s2 s3 : TS} (h : SS (tSeq s1 (tSeq s2 s3)) W P) : SS (tSeq (tSeq s1 s2) s3) W P := h
theorem ss_nxq {s3 : TS} (h : SS s3 W P) : SS (tSeq tNext s3) W P := h
theorem ss_seq1 (v1 : α) (mk : α → List Sl) (h : SS ts W ⟨fun W' => Wk W' (mk v1), P.rt, P.bk, P.ct⟩) (k : ∀ x1, x1 = v1 → SS uu (mk x1) P) : SS (tSeq ts uu) W P := ss_seqTo (mk v1) h (k v1 rfl)
theorem ss_seq2 (v1 : α) (v2 : β) (mk : α → β → List Sl) (h : SS ts W ⟨fun W' => Wk W' (mk v1 v2), P.rt, P.bk, P.ct⟩) (k : ∀ x1, x1 = v1 → ∀ x2, x2 = v2 → SS uu (mk x1 x2) P) : SS (tSeq ts uu) W P := ss_seqTo (mk v1 v2) h (k v1 rfl v2 rfl)
theorem ss_seq3 (v1 : α) (v2 : β) (v3 : γ) (mk : α → β → γ → List Sl) (h : SS ts W ⟨fun W' => Wk W' (mk v1 v2 v3), P.rt, P.bk, P.ct⟩) (k : ∀ x1, x1 = v1 → ∀ x2, x2 = v2 → ∀ x3, x3 = v3 → SS uu (mk x1 x2 x3) P) : SS (tSeq ts uu) W P :=
  ss_seqTo (mk v1 v2 v3) h (k v1 rfl v2 rfl v3 rfl)
theorem ss_seq4 (v1 : α) (v2 : β) (v3 : γ) (v4 : δ) (mk : α → β → γ → δ → List Sl) (h : SS ts W ⟨fun W' => Wk W' (mk v1 v2 v3 v4), P.rt, P.bk, P.ct⟩) (k : ∀ x1, x1 = v1 → ∀ x2, x2 = v2 → ∀ x3, x3 = v3 → ∀ x4, x4 = v4 → SS uu (mk x1 x2 x3 x4) P) :
    SS (tSeq ts uu) W P := ss_seqTo (mk v1 v2 v3 v4) h (k v1 rfl v2 rfl v3 rfl v4 rfl)
theorem ss_retq (h : ES te W W1 r) (k : P.rt W1 r) : SS (tSeq (tRet te) uu) W P := ss_seq (fun _ => False) (ss_ret h k) fun _ z => z.elim
theorem ss_retNq (k : P.rt W eN) : SS (tSeq tRetN uu) W P := fun F H σ D s _ kr _ _ => kr W σ eN .non F H k Rel.refl s rfl
theorem ss_neverq (h : False) : SS (tSeq ts uu) W P := h.elim
theorem ss_contq (h : P.ct W) : SS (tSeq tCont uu) W P := ss_seq (fun _ => False) (ss_cont h) fun _ z => z.elim
theorem ss_brkq (h : P.bk W) : SS (tSeq tBreak uu) W P := ss_seq (fun _ => False) (ss_brk h) fun _ z => z.elim
/-- an if one way of which ends -/
theorem ss_ifL (h : ET tc' W W1 a) (h1 : a = true → SS tA W1 ⟨fun _ => False, P.rt, P.bk, P.ct⟩) (h2 : a = false → SS (tSeq tB uu) W1 P) : SS (tSeq (tIfS tc' tA tB) uu) W P := fun F H σ D s kn kr kb kc =>
  h F H σ _ s fun F1 H1 a1 s1 => by
    cases a with
    | true =>
      rw [if_pos rfl]
      exact h1 rfl F1 H1 σ { D with nx := uu D } s1 (fun _ _ _ _ z => z.elim) (fun W2 σ2 r v F2 H2 n2 a2 s2 => kr W2 σ2 r v F2 H2 n2 (a1.trans a2) s2)
        (fun W2 σ2 F2 H2 n2 a2 s2 => kb W2 σ2 F2 H2 n2 (a1.trans a2) s2) fun W2 σ2 F2 H2 n2 a2 s2 => kc W2 σ2 F2 H2 n2 (a1.trans a2) s2
    | false =>
      rw [if_neg Bool.false_ne_true]
      exact h2 rfl F1 H1 σ D s1 (fun W2 σ2 F2 H2 n2 a2 s2 => kn W2 σ2 F2 H2 n2 (a1.trans a2) s2) (fun W2 σ2 r v F2 H2 n2 a2 s2 => kr W2 σ2 r v F2 H2 n2 (a1.trans a2) s2)
        (fun W2 σ2 F2 H2 n2 a2 s2 => kb W2 σ2 F2 H2 n2 (a1.trans a2) s2) fun W2 σ2 F2 H2 n2 a2 s2 => kc W2 σ2 F2 H2 n2 (a1.trans a2) s2
theorem ss_ifR (h : ET tc' W W1 a) (h1 : a = true → SS (tSeq tA uu) W1 P) (h2 : a = false → SS tB W1 ⟨fun _ => False, P.rt, P.bk, P.ct⟩) : SS (tSeq (tIfS tc' tA tB) uu) W P := fun F H σ D s kn kr kb kc =>
  h F H σ _ s fun F1 H1 a1 s1 => by
    cases a with
    | false =>
      rw [if_neg Bool.false_ne_true]
      exact h2 rfl F1 H1 σ { D with nx := uu D } s1 (fun _ _ _ _ z => z.elim) (fun W2 σ2 r v F2 H2 n2 a2 s2 => kr W2 σ2 r v F2 H2 n2 (a1.trans a2) s2)
        (fun W2 σ2 F2 H2 n2 a2 s2 => kb W2 σ2 F2 H2 n2 (a1.trans a2) s2) fun W2 σ2 F2 H2 n2 a2 s2 => kc W2 σ2 F2 H2 n2 (a1.trans a2) s2
    | true =>
      rw [if_pos rfl]
      exact h1 rfl F1 H1 σ D s1 (fun W2 σ2 F2 H2 n2 a2 s2 => kn W2 σ2 F2 H2 n2 (a1.trans a2) s2) (fun W2 σ2 r v F2 H2 n2 a2 s2 => kr W2 σ2 r v F2 H2 n2 (a1.trans a2) s2)
        (fun W2 σ2 F2 H2 n2 a2 s2 => kb W2 σ2 F2 H2 n2 (a1.trans a2) s2) fun W2 σ2 F2 H2 n2 a2 s2 => kc W2 σ2 F2 H2 n2 (a1.trans a2) s2
/-! several names at once, some of them given new lists -/
inductive Ds where
  | fz (r : R)
  | nw (c : OC)
def MOk (F' H' : Hp) : Hp → List Ds → List V → Prop
  | _, [], [] => True
  | H, .fz r :: ds, v :: vs => r.p F' v ∧ MOk F' H' H ds vs
  | H, .nw c :: ds, v :: vs => ∃ p o, v = .ref p ∧ H p = none ∧ H' p = some o ∧ F' p = none ∧ c.p F' p o ∧ MOk F' H' (upd H p o) ds vs
  | _, _, _ => False
theorem MOk.base {F' H' : Hp} : ∀ {ds : List Ds} {vs : List V} {H1 H2 : Hp}, (∀ a, H1 a = none → H2 a = none) → MOk F' H' H1 ds vs → MOk F' H' H2 ds vs
  | [], [], _, _, _, _ => trivial
  | .fz _ :: _, _ :: _, _, _, e, h => ⟨h.1, MOk.base e h.2⟩
  | .nw _ :: _, _ :: _, H1, H2, e, ⟨p, o, h1, h2, h3, h4, h5, h6⟩ => ⟨p, o, h1, e p h2, h3, h4, h5, MOk.base (fun a z => by
      by_cases q : a = p
      · subst q; rw [upd_same] at z; cases z
      · rw [upd_ne q] at z ⊢; exact e a z) h6⟩
  | [], _ :: _, _, _, _, h => h.elim
  | .fz _ :: _, [], _, _, _, h => h.elim
  | .nw _ :: _, [], _, _, _, h => h.elim
theorem MOk.len {F' H' : Hp} : ∀ {ds : List Ds} {vs : List V} {H : Hp}, MOk F' H' H ds vs → vs.length = ds.length
  | [], [], _, _ => rfl
  | .fz _ :: _, _ :: _, _, h => congrArg (· + 1) (MOk.len h.2)
  | .nw _ :: _, _ :: _, _, ⟨_, _, _, _, _, _, _, h⟩ => congrArg (· + 1) (MOk.len h)
  | [], _ :: _, _, h => h.elim
  | .fz _ :: _, [], _, h => h.elim
  | .nw _ :: _, [], _, h => h.elim
/-- a further object is frozen -/
theorem MOk.lay {F' H' : Hp} {q : Addr} {u : HO} (hq : H' q = none) : ∀ {ds : List Ds} {vs : List V} {H : Hp}, Same F' H' → MOk F' H' H ds vs → MOk (upd F' q u) (upd H' q u) H ds vs
  | [], [], _, _, _ => trivial
  | .fz r :: _, _ :: _, _, e, h => ⟨r.mono (fun a o z => by rw [upd_ne (ne_of_none (e a o z) hq)]; exact z) h.1, MOk.lay hq e h.2⟩
  | .nw c :: _, _ :: _, H, e, ⟨p, o, h1, h2, h3, h4, h5, h6⟩ => by
    have ne : p ≠ q := ne_of_none h3 hq
    exact ⟨p, o, h1, h2, by rw [upd_ne ne]; exact h3, by rw [upd_ne ne]; exact h4, c.mono (fun a o z => by rw [upd_ne (ne_of_none (e a o z) hq)]; exact z) h5, MOk.lay hq e h6⟩
  | [], _ :: _, _, _, h => h.elim
  | .fz _ :: _, [], _, _, h => h.elim
  | .nw _ :: _, [], _, _, h => h.elim
def AM (t : TA) (W W' : List Sl) (ds : List Ds) : Prop := ∀ (F H : Hp) (σ : L2.St) (Q : List V → Hp → Prop), Sat F H σ W →
  (∀ vs F' H', Rel F H (Own W σ) F' H' (Own W' σ) → Sat F' H' σ W' → (∀ a, Own W' σ a → ∃ o, H a = some o) → MOk F' H' H ds vs → Q vs H') → t σ H Q
theorem am_nil : AM tNil W W [] := fun F H σ Q s k => k [] F H Rel.refl s (fun a o => o.lt s) trivial
theorem am_fz {tr : TA} {ds : List Ds} (h : ES ta W W r) (hr : AM tr W W ds) : AM (tCons ta tr) W W (.fz r :: ds) := fun F H σ Q s k =>
  h F H σ _ s fun v F1 H1 a1 s1 e1 => hr F1 H1 σ _ s1 fun vs F2 H2 a2 s2 o2 e2 => k (v :: vs) F2 H2 (a1.trans a2) s2 (fun a o => o.lt s) ⟨r.mono a2.f e1, e2.base fun a z => a1.t a z⟩
/-- .. what comes first may change what is owned -/
theorem am_fzb {tr : TA} {ds : List Ds} (h : ES ta W W1 r) (hr : AM tr W1 W2 ds) (ho : ∀ (σ : L2.St) (a : Addr), Own W2 σ a → Own W σ a) : AM (tCons ta tr) W W2 (.fz r :: ds) := fun F H σ Q s k =>
  h F H σ _ s fun v F1 H1 a1 s1 e1 => hr F1 H1 σ _ s1 fun vs F2 H2 a2 s2 o2 e2 => k (v :: vs) F2 H2 (a1.trans a2) s2 (fun a o => (ho σ a o).lt s) ⟨r.mono a2.f e1, e2.base fun a z => a1.t a z⟩
theorem am_nw {tr : TA} {ds : List Ds} {c : OC} (h : ESN ta W W c) (hr : AM tr W W ds) : AM (tCons ta tr) W W (.nw c :: ds) := fun F H σ Q s k =>
  h F H σ _ s fun p o F1 H1 a1 s1 hp ho fp np hc => hr F1 H1 σ _ s1 fun vs F2 H2 a2 s2 o2 e2 => by
    have h2 : H2 p = some o := a2.h p o np ho
    have f2 : F2 p = none := a2.nof s2.ex fp ho np (c.nt hc)
    refine k (.ref p :: vs) F2 H2 (a1.trans a2) s2 (fun a o => o.lt s) ⟨p, o, rfl, hp, h2, f2, c.mono a2.f hc, e2.base fun a z => ?_⟩
    by_cases q : a = p
    · subst q; rw [ho] at z; cases z
    · rw [upd_ne q]; exact a1.t a z
def putV : L2.St → List Nat → List V → L2.St
  | σ, i :: is, v :: vs => putV (σ.set i (some v)) is vs
  | σ, _, _ => σ
def putD : List Sl → List Nat → List Ds → List Sl
  | W, i :: is, .fz r :: ds => putD (W.set i (.fz r)) is ds
  | W, i :: is, .nw c :: ds => putD (W.set i (.ow c)) is ds
  | W, _, _ => W
theorem put_all {F H : Hp} : ∀ {is : List Nat} {ds : List Ds} {vs : List V} {σ : L2.St} {W : List Sl} {Hb : Hp}, Sat F H σ W → (∀ a, Own W σ a → ∃ o, Hb a = some o) → MOk F H Hb ds vs →
    Sat F H (putV σ is vs) (putD W is ds) ∧ ∀ a, Own (putD W is ds) (putV σ is vs) a → Own W σ a ∨ Hb a = none
  | [], [], [], σ, W, Hb, s, _, _ => ⟨s, fun _ o => .inl o⟩
  | [], .fz _ :: _, _ :: _, σ, W, Hb, s, _, _ => ⟨s, fun _ o => .inl o⟩
  | [], .nw _ :: _, _ :: _, σ, W, Hb, s, _, _ => ⟨s, fun _ o => .inl o⟩
  | _ :: _, [], [], σ, W, Hb, s, _, _ => ⟨s, fun _ o => .inl o⟩
  | i :: is, .fz r :: ds, v :: vs, σ, W, Hb, s, ho, h => by
    obtain ⟨s1, o1⟩ := put_all (is := is) (s.put (i := i) h.1) (fun a o => ho a o.put) h.2
    exact ⟨s1, fun a o => (o1 a o).imp (fun z => z.put) id⟩
  | i :: is, .nw c :: ds, v :: vs, σ, W, Hb, s, ho, ⟨p, o, e, h2, h3, h4, h5, h6⟩ => by
    subst e
    have np : ¬ Own W σ p := fun z => by
      obtain ⟨u, y⟩ := ho p z
      rw [h2] at y; cases y
    obtain ⟨s1, o1⟩ := put_all (is := is) (s.own (i := i) h3 h4 np h5) (fun a z => by
      rcases z.own with y | y
      · obtain ⟨u, q⟩ := ho a y
        exact ⟨u, by rw [upd_ne (fun e => by subst e; rw [h2] at q; cases q)]; exact q⟩
      · subst y; exact ⟨o, upd_same⟩) h6
    refine ⟨s1, fun a z => ?_⟩
    rcases o1 a z with y | y
    · rcases y.own with q | q
      · exact .inl q
      · subst q; exact .inr h2
    · by_cases q : a = p
      · subst q; rw [upd_same] at y; cases y
      · rw [upd_ne q] at y; exact .inr y
  | [], [], _ :: _, _, _, _, _, _, h => h.elim
  | _ :: _, [], _ :: _, _, _, _, _, _, h => h.elim
  | [], .fz _ :: _, [], _, _, _, _, _, h => h.elim
  | [], .nw _ :: _, [], _, _, _, _, _, h => h.elim
  | _ :: _, .fz _ :: _, [], _, _, _, _, _, h => h.elim
  | _ :: _, .nw _ :: _, [], _, _, _, _, _, h => h.elim
/-- a, b = e1, e2 -/
theorem ss_parM {i j : Nat} {tr : TA} {d1 d2 : Ds} (h : AM tr W W1 [d1, d2]) (k : P.nx (putD W1 [i, j] [d1, d2])) : SS (tPar i j tr) W P := fun F H σ D s kn _ _ _ =>
  h F H σ _ s fun vs F1 H1 a1 s1 o1 e1 => by
    match vs, e1.len with
    | [v, w], _ =>
      obtain ⟨s2, o2⟩ := put_all (is := [i, j]) s1 o1 e1
      exact ⟨v, w, rfl, kn _ _ F1 H1 k ⟨a1.f, a1.h, a1.n, a1.t, fun a m => (o2 a m).elim (a1.o a) .inr⟩ s2⟩
def gNames : List Nat → TGs
  | [] => gNil
  | i :: is => gCons (gName i) (gNames is)
theorem gNames_go {Q : L2.St → Hp → Prop} {H : Hp} : ∀ {is : List Nat} {vs : List V} {σ : L2.St}, vs.length = is.length → Q (putV σ is vs) H → gNames is vs σ H Q
  | [], [], _, _, q => ⟨rfl, q⟩
  | i :: is, v :: vs, σ, h, q => ⟨v, vs, rfl, gNames_go (is := is) (vs := vs) (by simpa using h) q⟩
  | [], _ :: _, _, h, _ => by cases h
  | _ :: _, [], _, h, _ => by cases h
/-- (a, b, ..) = (e1, e2, ..) by a tuple -/
theorem ss_tupM {tr : TA} {ds : List Ds} {n : Nat} (is : List Nat) (h : AM tr W W1 ds) (hn : is.length = n) (hd : ds.length = n) (hz : n ≤ 100000) (k : P.nx (putD W1 is ds)) : SS (tAsg (tTup tr) (gTup K n (gNames is))) W P := fun F H σ D s kn _ _ _ =>
  h F H σ _ s fun vs F1 H1 a1 s1 o1 e1 => by
    refine ⟨Nat.le_trans (by rw [e1.len, hd]; exact hz) (by decide), fun p hp => ⟨p, vs, rfl, .inl (.inl upd_same), e1.len.trans hd, gNames_go (e1.len.trans (hd.trans hn.symm)) ?_⟩⟩
    obtain ⟨s2, o2⟩ := put_all (is := is) (s1.lay (o := .tup vs) hp) (fun a o => o1 a o) (MOk.lay hp s1.ex e1)
    have a2 := a1.trans (Rel.lay (o := HO.tup vs) s1.ex hp)
    exact kn _ _ _ _ k ⟨a2.f, a2.h, a2.n, a2.t, fun a m => (o2 a m).elim (a2.o a) .inr⟩ s2
end
end Fw
end
section
set_option maxRecDepth 100000
namespace Fw
open PySem L2
def owPos (W : List Sl) : List Bool := W.map fun | .ow _ => true | _ => false
theorem own_pos {W W' : List Sl} {σ : L2.St} {a : Addr} (h : owPos W' = owPos W) (o : Own W' σ a) : Own W σ a := by
  obtain ⟨i, c, h1, h2⟩ := o
  have e : (owPos W')[i]? = some true := by unfold owPos; rw [List.getElem?_map, h1]; rfl
  rw [h] at e
  unfold owPos at e
  rw [List.getElem?_map] at e
  cases q : W[i]? with
  | none => rw [q] at e; cases e
  | some s =>
    rw [q] at e
    cases s with
    | ow d => exact ⟨i, d, q, h2⟩
    | no => cases e
    | fz r => cases e
section
variable {W W' W0 W1 W2 W3 : List Sl} {K : PySem.W.Frag} {ta tb tc te to tl : TE} {tc' tt : TT} {r ra rb : R} {x y z v : V} {a b : Bool} {ι : Type} {F H F' H' : Hp} {σ : L2.St} {E : XK} {P P1 : Post} {ts uu tA tB : TS} {g : TG}
variable {α β γ δ : Type}
theorem am_fzo {tr : TA} {ds : List Ds} (h : ES ta W W1 r) (hr : AM tr W1 W2 ds) (ho : owPos W2 = owPos W) : AM (tCons ta tr) W W2 (.fz r :: ds) := am_fzb h hr fun _ _ o => own_pos ho o
theorem am_nwo {tr : TA} {ds : List Ds} {c : OC} (h : ESN ta W W1 c) (hr : AM tr W1 W2 ds) (ho : owPos W2 = owPos W) : AM (tCons ta tr) W W2 (.nw c :: ds) := fun F H σ Q s k =>
  h F H σ _ s fun p o F1 H1 a1 s1 hp ho1 fp np hc => hr F1 H1 σ _ s1 fun vs F2 H2 a2 s2 o2 e2 => by
    have f2 : F2 p = none := a2.nof s2.ex fp ho1 np (c.nt hc)
    refine k (.ref p :: vs) F2 H2 (a1.trans a2) s2 (fun a o => (own_pos ho o).lt s) ⟨p, o, rfl, hp, a2.h p o np ho1, f2, c.mono a2.f hc, e2.base fun a z => ?_⟩
    by_cases q : a = p
    · subst q; rw [ho1] at z; cases z
    · rw [upd_ne q]; exact a1.t a z
/-- a built-in of a frozen thing that gives a plain value -/
theorem es_cbr {g : List V → Hp → VK → Prop} (ha : ES ta W W1 r) (hg : ∀ (F H : Hp) (v : V) (Q : VK), Same F H → r.p F v → Q z H → g [v] H Q) : ES (tCB g (tCons ta tNil)) W W1 (eV z) := fun F H σ Q s k =>
  ha F H σ _ s fun v F1 H1 a1 s1 e1 => hg F1 H1 v Q s1.ex e1 (k z F1 H1 a1 s1 rfl)
theorem all2_ints {F : Hp} : ∀ {l : List Int} {xs : List V}, All2 (l.map fun i => eI i) F xs → xs = l.map V.int
  | [], [], _ => rfl
  | i :: l, x :: xs, h => by
    have e : x = V.int i := h.1
    subst e
    rw [all2_ints h.2]; rfl
  | [], _ :: _, h => h.elim
  | _ :: _, [], h => h.elim
theorem es_sum {l : List Int} (ha : ES ta W W1 (eLs (fun i => eI i) l)) : ES (tCB (rSum K) (tCons ta tNil)) W W1 (eI l.sum) := es_cbr ha fun F H v Q e ⟨p, xs, h1, h2, h3⟩ q => by
  subst h1
  cases all2_ints h3
  exact ⟨p, l, rfl, .inl (.inl (e _ _ h2)), q⟩
/-- the greatest, the least of ints -/
def lmax : List Int → Int
  | [] => 0
  | [x] => x
  | x :: y :: l => let m := lmax (y :: l); if x ≥ m then x else m
def lmin : List Int → Int
  | [] => 0
  | [x] => x
  | x :: y :: l => let m := lmin (y :: l); if x ≤ m then x else m
theorem lmax_mem : ∀ {l : List Int}, l ≠ [] → lmax l ∈ l ∧ ∀ y ∈ l, y ≤ lmax l
  | [x], _ => ⟨by simp [lmax], by simp [lmax]⟩
  | x :: y :: l, _ => by
    obtain ⟨h1, h2⟩ := lmax_mem (l := y :: l) (by simp)
    show (if x ≥ lmax (y :: l) then x else lmax (y :: l)) ∈ _ ∧ ∀ z ∈ _, z ≤ (if x ≥ lmax (y :: l) then x else lmax (y :: l))
    by_cases q : x ≥ lmax (y :: l)
    · rw [if_pos q]
      exact ⟨List.mem_cons_self, fun z hz => (List.mem_cons.mp hz).elim (fun e => by omega) fun m => Int.le_trans (h2 z m) q⟩
    · rw [if_neg q]
      exact ⟨List.mem_cons_of_mem _ h1, fun z hz => (List.mem_cons.mp hz).elim (fun e => by omega) fun m => h2 z m⟩
theorem lmin_mem : ∀ {l : List Int}, l ≠ [] → lmin l ∈ l ∧ ∀ y ∈ l, lmin l ≤ y
  | [x], _ => ⟨by simp [lmin], by simp [lmin]⟩
  | x :: y :: l, _ => by
    obtain ⟨h1, h2⟩ := lmin_mem (l := y :: l) (by simp)
    show (if x ≤ lmin (y :: l) then x else lmin (y :: l)) ∈ _ ∧ ∀ z ∈ _, (if x ≤ lmin (y :: l) then x else lmin (y :: l)) ≤ z
    by_cases q : x ≤ lmin (y :: l)
    · rw [if_pos q]
      exact ⟨List.mem_cons_self, fun z hz => (List.mem_cons.mp hz).elim (fun e => by omega) fun m => Int.le_trans q (h2 z m)⟩
    · rw [if_neg q]
      exact ⟨List.mem_cons_of_mem _ h1, fun z hz => (List.mem_cons.mp hz).elim (fun e => by omega) fun m => h2 z m⟩
theorem es_maxL {l : List Int} (ha : ES ta W W1 (eLs (fun i => eI i) l)) (hl : l ≠ []) : ES (tCB (rMax K) (tCons ta tNil)) W W1 (eI (lmax l)) := es_cbr ha fun F H v Q e ⟨p, xs, h1, h2, h3⟩ q => by
  subst h1
  cases all2_ints h3
  refine ⟨p, l, rfl, .inl (.inl (e _ _ h2)), List.length_pos_iff.mpr hl, fun m hm hle => ?_⟩
  have em : m = lmax l := Int.le_antisymm ((lmax_mem hl).2 m hm) (hle _ (lmax_mem hl).1)
  rw [em]; exact q
theorem es_minL {l : List Int} (ha : ES ta W W1 (eLs (fun i => eI i) l)) (hl : l ≠ []) : ES (tCB (rMin K) (tCons ta tNil)) W W1 (eI (lmin l)) := es_cbr ha fun F H v Q e ⟨p, xs, h1, h2, h3⟩ q => by
  subst h1
  cases all2_ints h3
  refine ⟨p, l, rfl, .inl (.inl (e _ _ h2)), List.length_pos_iff.mpr hl, fun m hm hle => ?_⟩
  have em : m = lmin l := Int.le_antisymm (hle _ (lmin_mem hl).1) ((lmin_mem hl).2 m hm)
  rw [em]; exact q
/-- len of a list, of a tuple -/
theorem es_lenL {rs : List R} (ha : ES ta W W1 (eL rs)) : ES (tCB (fun xs H Q => ∃ p ys, xs = [.ref p] ∧ (SqL K H p ys ∨ SqT K H p ys) ∧ Q (.int ys.length) H) (tCons ta tNil)) W W1 (eI (rs.length : Int)) := es_cbr ha fun F H v Q e ⟨p, xs, h1, h2, h3⟩ q => by
  subst h1
  rw [← h3.len] at q
  exact ⟨p, xs, rfl, .inl (.inl (.inl (e _ _ h2))), q⟩
theorem es_lenLs {e : α → R} {l : List α} (ha : ES ta W W1 (eLs e l)) : ES (tCB (fun xs H Q => ∃ p ys, xs = [.ref p] ∧ (SqL K H p ys ∨ SqT K H p ys) ∧ Q (.int ys.length) H) (tCons ta tNil)) W W1 (eI (l.length : Int)) := by
  have h := es_lenL (K := K) ha
  rw [List.length_map] at h; exact h
theorem es_lenT {rs : List R} (ha : ES ta W W1 (eT K rs)) : ES (tCB (fun xs H Q => ∃ p ys, xs = [.ref p] ∧ (SqL K H p ys ∨ SqT K H p ys) ∧ Q (.int ys.length) H) (tCons ta tNil)) W W1 (eI (rs.length : Int)) := es_cbr ha fun F H v Q e ⟨p, xs, h1, h2, h3⟩ q => by
  subst h1
  rw [← h3.len] at q
  exact ⟨p, xs, rfl, .inr (sqT_up e h2), q⟩
/-- xs[i], a frozen list, an open index in bounds -/
def nth [Inhabited α] (l : List α) (i : Int) : α := l.getD i.toNat default
theorem nth_get [Inhabited α] {l : List α} {i : Int} (h : 0 ≤ i ∧ i < l.length) : l[i.toNat]? = some (nth l i) := by
  have hb : i.toNat < l.length := by omega
  unfold nth
  rw [List.getD_eq_getElem?_getD, List.getElem?_eq_getElem hb]; rfl
theorem es_ixL [Inhabited α] {e : α → R} {l : List α} {i : Int} (ha : ES ta W W1 (eLs e l)) (hi : ES tb W1 W2 (eI i)) (h : 0 ≤ i ∧ i < l.length) : ES (tOp (rIxL K) ta tb) W W2 (e (nth l i)) := fun F H σ Q s k =>
  ha F H σ _ s fun v F1 H1 a1 s1 ⟨p, xs, h1, h2, h3⟩ => hi F1 H1 σ _ s1 fun w F2 H2 a2 s2 e2 => by
    have e2' : w = V.int i := e2
    subst h1 e2'
    obtain ⟨x, z1, z2⟩ := h3.get' (i := i.toNat) (r := e (nth l i)) (by rw [List.getElem?_map, nth_get h]; rfl)
    have hx := atI_k z1
    rw [Int.toNat_of_nonneg h.1] at hx
    exact ⟨p, xs, i, x, rfl, rfl, .inl (.inl (s2.ex _ _ (a2.f _ _ h2))), hx, k x F2 H2 (a1.trans a2) s2 ((e (nth l i)).mono a2.f z2)⟩
/-- xs[-1] -/
theorem es_ixLast [Inhabited α] {e : α → R} {l : List α} (ha : ES ta W W1 (eLs e l)) (h : l ≠ []) : ES (tOp (rIxL K) ta (tUn (rU fun i => .int (-i)) (tC (.int 1)))) W W1 (e (nth l (l.length - 1))) := fun F H σ Q s k =>
  ha F H σ _ s fun v F1 H1 a1 s1 ⟨p, xs, h1, h2, h3⟩ => by
    subst h1
    have pos : 0 < l.length := List.length_pos_iff.mpr h
    have hb : ((l.length : Int) - 1).toNat = l.length - 1 := by omega
    have hn := nth_get (l := l) (i := (l.length : Int) - 1) (by omega)
    rw [hb] at hn
    obtain ⟨x, z1, z2⟩ := h3.get' (i := l.length - 1) (r := e (nth l (l.length - 1))) (by rw [List.getElem?_map, hn]; rfl)
    have el := h3.len
    rw [List.length_map] at el
    refine ⟨1, rfl, p, xs, -1, x, rfl, rfl, .inl (.inl (s1.ex _ _ h2)), ?_, k x F1 H1 a1 s1 z2⟩
    unfold atI ixN
    rw [if_neg (by omega), if_pos (by omega)]
    have e3 : (-1 + (xs.length : Int)).toNat = l.length - 1 := by omega
    show xs[(-1 + (xs.length : Int)).toNat]? = some x
    rw [e3]; exact z1
/-- a field of an instance -/
def eIns (C : Addr) (fs : List (Str × R)) : R := ⟨fun F v => ∃ p dx gs, v = .ref p ∧ F p = some (.ins C dx gs) ∧ gs.map Prod.fst = fs.map Prod.fst ∧ All2 (fs.map Prod.snd) F (gs.map Prod.snd),
  fun e ⟨p, dx, gs, h1, h2, h3, h4⟩ => ⟨p, dx, gs, h1, e _ _ h2, h3, h4.mono e⟩⟩
theorem ins_look {F : Hp} : ∀ {fs : List (Str × R)} {gs : List (Str × V)} {f : Str} {r : R}, gs.map Prod.fst = fs.map Prod.fst → All2 (fs.map Prod.snd) F (gs.map Prod.snd) → fs.lookup f = some r → ∃ v, gs.lookup f = some v ∧ r.p F v
  | (n, q) :: fs, (m, v) :: gs, f, r, e, h, l => by
    have en : m = n := (List.cons.inj e).1
    subst en
    unfold List.lookup at l ⊢
    by_cases z : (f == m) = true
    · rw [z] at l ⊢
      cases l
      exact ⟨v, rfl, h.1⟩
    · have z' : (f == m) = false := by simpa using z
      rw [z'] at l ⊢
      exact ins_look (List.cons.inj e).2 h.2 l
  | [], _, f, r, _, _, l => by cases l
  | _ :: _, [], _, _, _, h, _ => h.elim
theorem ins_none : ∀ {fs : List (Str × R)} {gs : List (Str × V)} {f : Str}, gs.map Prod.fst = fs.map Prod.fst → fs.lookup f = none → gs.lookup f = none
  | (n, q) :: fs, (m, v) :: gs, f, e, l => by
    have en : m = n := (List.cons.inj e).1
    subst en
    unfold List.lookup at l ⊢
    by_cases z : (f == m) = true
    · rw [z] at l; cases l
    · have z' : (f == m) = false := by simpa using z
      rw [z'] at l ⊢
      exact ins_none (List.cons.inj e).2 l
  | [], [], f, _, _ => rfl
  | [], _ :: _, _, e, _ => by cases e
  | _ :: _, [], _, e, _ => by cases e
theorem es_fld {C : Addr} {fs : List (Str × R)} {f : Str} (c : Cls K C) (n : NoAttr K C f) (ha : ES ta W W1 (eIns C fs)) (hf : fs.lookup f = some r) : ES (tFld K ta f) W W1 r := fun F H σ Q s k =>
  ha F H σ _ s fun v F1 H1 a1 s1 ⟨p, dx, gs, h1, h2, h3, h4⟩ => by
    obtain ⟨w, z1, z2⟩ := ins_look h3 h4 hf
    exact ⟨p, C, dx, gs, w, h1, s1.ex _ _ h2, c, n, z1, k w F1 H1 a1 s1 z2⟩
/-- o.m(..), o an instance -/
theorem es_meth {as : ι → List R} {ok : ι → Prop} {res : ι → R} {tr : TA} {C : Addr} {m : Str} {fs : List (Str × R)} (d : ι) (ho : ES to W W1 (eIns C fs)) (hm : fs.lookup m = none) (h : AS tr W1 W2 rs') (hd : as d = eIns C fs :: rs') (g : ok d) :
    ES (tMeth C m (spF as ok res) [] E to tr) W W2 (res d) := fun F H σ Q s k =>
  ho F H σ _ s fun v F1 H1 a1 s1 e1 => by
    obtain ⟨p, dx, gs, h1, h2, h3, h4⟩ := id e1
    refine ⟨p, dx, gs, h1, s1.ex _ _ h2, ins_none h3 hm, h F1 H1 σ _ s1 fun vs F2 H2 a2 s2 e2 => ?_⟩
    rw [List.append_nil]
    refine ⟨d, F2, g, s2.ex, by rw [hd]; exact ⟨(eIns C fs).mono a2.f e1, e2⟩, fun v F3 H3 q e3 hv => k v F3 H3 ((a1.trans a2).trans q.pure) (s2.pure q e3) hv⟩
/-- isinstance -/
theorem es_isi {c : V} {u t : Value} (ha : ES ta W W1 r) (hc : ClsV c u) (ht : ∀ (F H : Hp) (v : V), Same F H → r.p F v → TyX K H v t) (hk : PySem.W.kitOne K t u = some b) : ES (tCB (rIsi K) (tCons ta (tCons (tC c) tNil))) W W1 (eB b) := fun F H σ Q s k =>
  ha F H σ _ s fun v F1 H1 a1 s1 e1 => ⟨v, c, t, u, b, rfl, hc, ht F1 H1 v s1.ex e1, hk, k _ F1 H1 a1 s1 rfl⟩
theorem ty_int {i : Int} : ∀ (F H : Hp) (v : V), Same F H → (eI i).p F v → TyX K H v (.type "int") := fun F H v _ h => by
  have e : v = V.int i := h
  subst e; exact .base (.int i)
theorem ty_lst {rs : List R} : ∀ (F H : Hp) (v : V), Same F H → (eL rs).p F v → TyX K H v (.type "list") := fun F H v e ⟨p, xs, h1, h2, _⟩ => by
  subst h1; exact .base (.lst (e _ _ h2))
end
end Fw
end
section
set_option maxRecDepth 100000
namespace Fw
open PySem L2
structure Bag where
  a : Int
  c : Int
  t : Int
abbrev bagR (b : Bag) : List R := [eI b.a, eI b.c, eI b.t]
structure Tbl where
  capacity : Int
  rate : Int
  shift : Int
structure TblTxt (K : PySem.W.Frag) (mg : Str → Option Value) (C : Addr) : Prop where
  cl : Cls K C
  nC : NoAttr K C "own_capacity"
  nR : NoAttr K C "own_rate"
  nS : NoAttr K C "own_shift"
  mgT : mg "Table" = some (.ref C)
  isT : PySem.W.kitOne K (.ref C) (.ref C) = some true
  xa : PySem.W.findIn K (.ref C) "__class__" = some (some (.builtin "object.__class__"))
  xb : PySem.W.specialIn K (.builtin "object.__class__") "__get__" = some (some (.builtin "getset_descriptor.__get__"))
  xc : PySem.W.takesIn K (.builtin "object.__class__") = some true
  xd : PySem.W.mroIn K C (.type "object") = some true
instance : Inhabited Bag := ⟨⟨0, 0, 0⟩⟩
instance : Inhabited Tbl := ⟨⟨0, 0, 0⟩⟩
theorem sq_assoc {a b c : TS} : tSeq (tSeq a b) c = tSeq a (tSeq b c) := rfl
theorem sq_next {c : TS} : tSeq tNext c = c := rfl
section
variable {W W' W0 W1 W2 W3 : List Sl} {K : PySem.W.Frag} {ta tb tc te to tl : TE} {tc' tt : TT} {r ra rb : R} {x y z v : V} {a b : Bool} {ι : Type} {F H F' H' : Hp} {σ : L2.St} {E : XK} {P P1 : Post} {ts uu tA tB : TS} {g : TG}
variable {α β γ δ : Type}
theorem es_frs (e : α → R) (l : List α) (h : ESN te W W1 (oL (l.map e))) : ES te W W1 (eLs e l) := es_fr h
theorem es_shlL {i j : Int} (ha : ES ta W W1 (eI i)) (hb : ES tb W1 W2 (eI j)) (c : 0 ≤ j ∧ j ≤ 1000000) (d : i.natAbs < 2 ^ 64) : ES (tOp (rI CPow fun i j => .int (i * 2 ^ j.toNat)) ta tb) W W2 (eI (i * 2 ^ j.toNat)) := es_shl ha hb ⟨c.1, c.2, d⟩
theorem es_shlW {i j : Int} (ha : ES ta W W1 (eI i)) (hb : ES tb W1 W2 (eI j)) (c : CShl i j) : ES (tOp (rI CShl fun i j => .int (i * 2 ^ j.toNat)) ta tb) W W2 (eI (i * 2 ^ j.toNat)) := es_op ha hb fun _ _ q => ⟨i, j, rfl, rfl, c, q⟩
/-- xs + ys -/
theorem en_cat {e : α → R} {l m : List α} (ha : ES ta W W1 (eLs e l)) (hb : ES tb W1 W2 (eLs e m)) (c : l.length + m.length ≤ 16000000) : ESN (tOp rCat ta tb) W W2 (oL ((l ++ m).map e)) := fun F H σ Q s k =>
  ha F H σ _ s fun v F1 H1 a1 s1 ⟨p, xs, h1, h2, h3⟩ => hb F1 H1 σ _ s1 fun w F2 H2 a2 s2 ⟨q, ys, g1, g2, g3⟩ => by
    subst h1 g1
    have e1 := h3.len
    have e2 := g3.len
    rw [List.length_map] at e1 e2
    refine ⟨p, q, xs, ys, rfl, rfl, s2.ex _ _ (a2.f _ _ h2), s2.ex _ _ g2, Nat.le_trans (by rw [e1, e2]; exact c) (by decide), fun l' hl => ?_⟩
    have ex : Same H2 (upd H2 l' (.lst (xs ++ ys))) := fun a o q => by rw [upd_ne (ne_of_none q hl)]; exact q
    refine k l' _ F2 _ ((a1.trans a2).trans (Rel.grow ex)) (s2.grow ex) ((a1.trans a2).t _ hl) upd_same (s2.ex.free hl) (not_own s2 hl) ⟨nofun, _, rfl, ?_⟩
    rw [List.map_append]
    exact (h3.mono a2.f).app g3
theorem en_lcF (e : β → R) (f : α → β) {p : α → Bool} {l : List α} (h : ESN te W W1 (oL ((l.filter p).map fun x => e (f x)))) (hp : ∀ x, p x = true := by intro _; rfl) : ESN te W W1 (oL ((l.map f).map e)) := by
  rw [List.map_map]
  have : l.filter p = l := List.filter_eq_self.mpr fun x _ => hp x
  rw [this] at h
  exact h
theorem en_lcFT (e : β → R) (f : α → β) {p : α → Bool} {l : List α} (h : ESN te W W1 (oL ((l.filter p).map fun x => e (f x)))) : ESN te W W1 (oL (((l.filter p).map f).map e)) := by
  rw [List.map_map]; exact h
theorem ss_ifj (vA vB : α) (mk : α → List Sl) (h : ET tc' W W1 a) (hA : a = true → SS tA W1 ⟨fun W' => Wk W' (mk vA), P.rt, P.bk, P.ct⟩) (hB : a = false → SS tB W1 ⟨fun W' => Wk W' (mk vB), P.rt, P.bk, P.ct⟩)
    (k : ∀ x, x = (if a = true then vA else vB) → SS uu (mk x) P) : SS (tSeq (tIfS tc' tA tB) uu) W P := by
  refine ss_seqTo (mk (if a = true then vA else vB)) (ss_if h (fun q => ?_) fun q => ?_) (k _ rfl)
  · have e : (if a = true then vA else vB) = vA := if_pos q
    rw [e]; exact hA q
  · have e : (if a = true then vA else vB) = vB := if_neg (by rw [q]; exact Bool.false_ne_true)
    rw [e]; exact hB q
theorem ss_appendO {e : α → R} {x : α} {l0 l : List α} {i : Nat} {q0 q1 : Option Addr} (h0 : W[i]? = some (.ow (oLq q0 (l0.map e)))) (h : ES te W W1 (e x)) (h1 : W1[i]? = some (.ow (oLq q1 (l.map e)))) (hl : l.length < 16000000)
    (k : P.nx (W1.set i (.ow (oLq q1 ((l ++ [x]).map e))))) : SS (tDrop (tBM K "list" rAppend (tVar i) (tCons te tNil))) W P :=
  ss_append h0 h h1 (by rw [List.length_map]; exact hl) (by rw [List.map_append] at k; exact k)
def setLast (l : List α) (x : α) : List α := l.set (l.length - 1) x
theorem ss_setlastO {e : α → R} {x : α} {l : List α} {i : Nat} {q1 : Option Addr} (h : ES te W W1 (e x)) (h1 : W1[i]? = some (.ow (oLq q1 (l.map e)))) (hl : l ≠ []) (k : P.nx (W1.set i (.ow (oLq q1 ((setLast l x).map e))))) :
    SS (tAsg te (gSub (tVar i) (tUn (rU fun i => .int (-i)) (tC (.int 1))) rSetL)) W P :=
  ss_setlast h h1 (by simpa using hl) (by unfold setLast at k; rw [List.map_set] at k; rw [List.length_map]; exact k)
theorem ss_extendO {e : α → R} {m l0 l : List α} {i : Nat} {q0 q1 : Option Addr} (h0 : W[i]? = some (.ow (oLq q0 (l0.map e)))) (h : ES te W W1 (eLs e m)) (h1 : W1[i]? = some (.ow (oLq q1 (l.map e)))) (hl : l.length + m.length < 16000000)
    (k : P.nx (W1.set i (.ow (oLq q1 ((l ++ m).map e))))) : SS (tDrop (tBM K "list" rExtend (tVar i) (tCons te tNil))) W P := fun F H σ D s kn _ _ _ => by
  obtain ⟨p, o, e0, g1, _, ⟨_, xs, rfl, _⟩⟩ := s.ow i _ h0
  refine ⟨.ref p, e0, .inl ⟨rfl, xs, .inl (.inl g1)⟩, h F H σ _ s fun v F1 H1 a1 s1 ⟨q, zs, w1, w2, w3⟩ => ?_⟩
  subst w1
  obtain ⟨p', o', e0', y1, y2, ⟨yq, ys, rfl, y3⟩⟩ := s1.ow i _ h1
  rw [e0] at e0'; cases e0'
  have l1 := y3.len
  have l2 := w3.len
  rw [List.length_map] at l1 l2
  refine ⟨p, q, ys, zs, rfl, rfl, y1, s1.ex _ _ w2, Nat.le_trans (by rw [l1, l2]; exact Nat.le_of_lt hl) (by decide), kn _ _ _ _ k (a1.trans ⟨fun _ _ z => z, fun a u n z => ?_, fun _ _ z => .inl z, fun a z => ?_, fun a m => .inl ((Own.mut h1).mp m)⟩) (s1.mut h1 e0 ⟨yq, _, rfl, by rw [List.map_append]; exact y3.app w3⟩)⟩
  · rw [upd_ne (fun q : a = p => n (by rw [q]; exact ⟨i, _, h1, e0⟩))]; exact z
  · by_cases q : a = p
    · subst q; rw [upd_same] at z; cases z
    · rw [upd_ne q] at z; exact z
theorem es_ixLastO [Inhabited α] {e : α → R} {l : List α} {i : Nat} {q : Option Addr} (h0 : W[i]? = some (.ow (oLq q (l.map e)))) (h : l ≠ []) : ES (tOp (rIxL K) (tVar i) (tUn (rU fun i => .int (-i)) (tC (.int 1)))) W W (e (nth l (l.length - 1))) := fun F H σ Q s k => by
  obtain ⟨p, o, e0, g1, _, ⟨_, xs, rfl, h3⟩⟩ := s.ow i _ h0
  have pos : 0 < l.length := List.length_pos_iff.mpr h
  have hn := nth_get (l := l) (i := (l.length : Int) - 1) (by omega)
  have hb : ((l.length : Int) - 1).toNat = l.length - 1 := by omega
  rw [hb] at hn
  obtain ⟨x, z1, z2⟩ := h3.get' (i := l.length - 1) (r := e (nth l (l.length - 1))) (by rw [List.getElem?_map, hn]; rfl)
  have el := h3.len
  rw [List.length_map] at el
  refine ⟨.ref p, e0, 1, rfl, p, xs, -1, x, rfl, rfl, .inl (.inl g1), ?_, k x F H Rel.refl s z2⟩
  unfold atI ixN
  rw [if_neg (by omega), if_pos (by omega)]
  have e3 : (-1 + (xs.length : Int)).toNat = l.length - 1 := by omega
  show xs[(-1 + (xs.length : Int)).toNat]? = some x
  rw [e3]; exact z1
theorem es_lenO {e : α → R} {l : List α} {i : Nat} {q : Option Addr} (h0 : W[i]? = some (.ow (oLq q (l.map e)))) : ES (tCB (fun xs H Q => ∃ p ys, xs = [.ref p] ∧ (SqL K H p ys ∨ SqT K H p ys) ∧ Q (.int ys.length) H) (tCons (tVar i) tNil)) W W (eI (l.length : Int)) := fun F H σ Q s k => by
  obtain ⟨p, o, e0, g1, _, ⟨_, xs, rfl, h3⟩⟩ := s.ow i _ h0
  have el := h3.len
  rw [List.length_map] at el
  refine ⟨.ref p, e0, p, xs, rfl, .inl (.inl (.inl g1)), k _ F H Rel.refl s ?_⟩
  rw [el]; rfl
/-- an owned list is handed out -/
theorem ss_retO {e : α → R} {l : List α} {i : Nat} {q : Option Addr} (h0 : W[i]? = some (.ow (oLq q (l.map e)))) (k : P.rt (W.set i .no) (eLs e l)) : SS (tSeq (tRet (tVar i)) uu) W P := fun F H σ D s _ kr _ _ => by
  obtain ⟨p, o, e0, g1, g2, ⟨_, xs, rfl, h3⟩⟩ := s.ow i _ h0
  have hi : i < W.length := (List.getElem?_eq_some_iff.mp h0).1
  have wk : Wk W (W.set i .no) := by
    clear s k kr
    have go : ∀ (W : List Sl) (i : Nat), Wk W (W.set i .no) := fun W => by
      induction W with
      | nil => intro i; trivial
      | cons s W ih =>
        intro i
        cases i with
        | zero => exact ⟨.inl rfl, Wk.refl⟩
        | succ i => exact ⟨.inr rfl, ih i⟩
    exact go W i
  have s1 := s.weak wk
  have np : ¬ Own (W.set i .no) σ p := fun ⟨j, c, z1, z2⟩ => by
    by_cases e : i = j
    · subst e; rw [List.getElem?_set_self hi] at z1; cases z1
    · rw [List.getElem?_set_ne e] at z1
      exact e (s.ds i j _ _ p h0 z1 e0 z2)
  refine ⟨.ref p, e0, kr _ σ _ _ _ H k ((Rel.refl.sub fun a o => wk.sub o).freeze (p := p) (o := .lst xs) (.inr ⟨i, _, h0, e0⟩) g2) (s1.freeze g1 g2 np) ⟨p, xs, rfl, upd_same, h3.mono fun a o z => ?_⟩⟩
  rw [upd_ne (ne_of_none z g2)]; exact z
/-- a, b, c = e1, e2, e3 -/
theorem ss_parM3 {i j l : Nat} {tr : TA} {d1 d2 d3 : Ds} (h : AM tr W W1 [d1, d2, d3]) (k : P.nx (putD W1 [i, j, l] [d1, d2, d3])) : SS (tPar3 i j l tr) W P := fun F H σ D s kn _ _ _ =>
  h F H σ _ s fun vs F1 H1 a1 s1 o1 e1 => by
    match vs, e1.len with
    | [u, v, w], _ =>
      obtain ⟨s2, o2⟩ := put_all (is := [i, j, l]) s1 o1 e1
      exact ⟨u, v, w, rfl, kn _ _ F1 H1 k ⟨a1.f, a1.h, a1.n, a1.t, fun a m => (o2 a m).elim (a1.o a) .inr⟩ s2⟩
theorem ty_bl {i : Bool} : ∀ (F H : Hp) (v : V), Same F H → (eB i).p F v → TyX K H v (.type "bool") := fun F H v _ h => by
  have e : v = V.bl i := h
  subst e; exact .base (.bl i)
theorem ty_str {i : Str} : ∀ (F H : Hp) (v : V), Same F H → (eS i).p F v → TyX K H v (.type "str") := fun F H v _ h => by
  have e : v = V.str i := h
  subst e; exact .base (.str i)
theorem ty_tup {rs : List R} : ∀ (F H : Hp) (v : V), Same F H → (eT K rs).p F v → TyX K H v (.type "tuple") := fun F H v e ⟨p, xs, h1, h2, _⟩ => by
  subst h1
  exact .base (.tup (e _ _ h2))
theorem ty_ins {C : Addr} {fs : List (Str × R)} (cl : Cls K C) (xa : PySem.W.findIn K (.ref C) "__class__" = some (some (.builtin "object.__class__"))) (xb : PySem.W.specialIn K (.builtin "object.__class__") "__get__" = some (some (.builtin "getset_descriptor.__get__")))
    (xc : PySem.W.takesIn K (.builtin "object.__class__") = some true) (xd : PySem.W.mroIn K C (.type "object") = some true) : ∀ (F H : Hp) (v : V), Same F H → (eIns C fs).p F v → TyX K H v (.ref C) := fun F H v e ⟨p, dx, gs, h1, h2, _⟩ => by
  subst h1
  exact .base (.ins (e _ _ h2) cl xa xb xc xd)
/-- what comes out is new and owned -/
def spN {ι : Type} (as : ι → List R) (ok : ι → Prop) (c : ι → List R) : Sp := fun vs H Q _ => ∃ (d : ι) (F : Hp), ok d ∧ Same F H ∧ All2 (as d) F vs ∧
  ∀ p o F' H', Rel F H Nob F' H' Nob → Same F' H' → H p = none → H' p = some (.lst o) → F' p = none → All2 (c d) F' o → Q (.ref p) H'
theorem en_call {as : ι → List R} {ok : ι → Prop} {c : ι → List R} {tr : TA} (d : ι) (h : AS tr W W1 (as d)) (gd : ok d) : ESN (tCall (spN as ok c) [] E tr) W W1 (oL (c d)) := fun F H σ Q s k =>
  h F H σ _ s fun vs F1 H1 a1 s1 e1 => by
    rw [List.append_nil]
    refine ⟨d, F1, gd, s1.ex, e1, fun p o F2 H2 q e2 hp ho fp hc => k p _ F2 H2 (a1.trans q.pure) (s1.pure q e2) (a1.t p hp) ho fp ?_ ⟨nofun, o, rfl, hc⟩⟩
    exact fun ow => by
      obtain ⟨u, z⟩ := ow.lt s1
      rw [hp] at z; cases z
/-- a def that hands out a new list: the post -/
def nwPost (c : List R) : Post := ⟨fun _ => False, fun _ _ => False, fun _ => False, fun _ => False⟩
/-- a body that ends in `return` of what is new -/
def SSN (t : TS) (W : List Sl) (c : List R) : Prop := ∀ (F H : Hp) (σ : L2.St) (D : Ends), Sat F H σ W →
  (∀ p o F' H', Rel F H (Own W σ) F' H' (fun a => Own W σ a) → Same F' H' → H p = none → H' p = some (.lst o) → F' p = none → All2 c F' o → D.rt (.ref p) H') → t D σ H
theorem sn_ret {c : List R} (h : ESN te W W (oL c)) : SSN (tSeq (tRet te) uu) W c := fun F H σ D s k =>
  h F H σ _ s fun p o F1 H1 a1 s1 hp ho fp np ⟨_, xs, e, hc⟩ => by
    subst e
    exact k p xs F1 H1 a1 s1.ex hp ho fp hc
theorem def_N {as : ι → List R} {ok : ι → Prop} {c : ι → List R} {N : List Str} {vs : List V} {H : Hp} {Q : VK} {E : XK} (h : spN as ok c vs H Q E) (hN : ∀ d, (as d).length ≤ N.length)
    (k : ∀ d, ok d → SSN ts (slF (as d) N.length) (c d)) : ts { nx := fun _ H' => Q .non H', rt := Q } (L2.start N vs) H := by
  obtain ⟨d, F, hok, ex, ha, hq⟩ := h
  have el := ha.len
  have s : Sat F H (L2.start N vs) (slF (as d) N.length) := by
    refine ⟨ex, ?_, fun i r h => ?_, fun i c h => (slF_ow h).elim, fun i j c e p h => (slF_ow h).elim⟩
    · unfold L2.start slF; simp [el]
    · obtain ⟨x, z1, z2⟩ := ha.get' (slF_fz h)
      exact ⟨x, start_at z1, z2⟩
  have own0 : ∀ a, ¬ Own (slF (as d) N.length) (L2.start N vs) a := fun a ⟨i, c, h, _⟩ => slF_ow h
  refine k d hok F H (L2.start N vs) _ s fun p o F' H' a e hp ho fp hc => hq p o F' H' ⟨a.f, fun x o n h => a.h x o (own0 x) h, fun x o h => (a.n x o h).imp id (Or.imp id (Or.imp (fun m => own0 x m) id)), a.t, fun x m => m.elim⟩ e hp ho fp hc
/-- what a def hands back: a value; a value and what its first argument becomes -/
def FP (e : α → R) (v : α) : Post := ⟨fun _ => e v = eN, fun _ r => r = e v, fun _ => False, fun _ => False⟩
def BP (e : α → R) (p : Addr) (v : α × Bag) : Post := ⟨fun W' => e v.1 = eN ∧ W'[0]? = some (.ow (oLq (some p) (bagR v.2))), fun W' r => r = e v.1 ∧ W'[0]? = some (.ow (oLq (some p) (bagR v.2))), fun _ => False, fun _ => False⟩
def noNx (P : Post) : Post := ⟨fun _ => False, P.rt, P.bk, P.ct⟩
theorem ss_ifLv (Q : α → Post) {vA vB : α} (h : ET tc' W W1 a) (hA : a = true → SS tA W1 (noNx (Q vA))) (hB : a = false → SS (tSeq tB uu) W1 (Q vB)) : SS (tSeq (tIfS tc' tA tB) uu) W (Q (if a = true then vA else vB)) := by
  refine ss_ifL h (fun q => ?_) fun q => ?_
  · rw [if_pos q]; exact hA q
  · rw [if_neg (by rw [q]; exact Bool.false_ne_true)]; exact hB q
theorem ss_ifRv (Q : α → Post) {vA vB : α} (h : ET tc' W W1 a) (hA : a = true → SS (tSeq tA uu) W1 (Q vA)) (hB : a = false → SS tB W1 (noNx (Q vB))) : SS (tSeq (tIfS tc' tA tB) uu) W (Q (if a = true then vA else vB)) := by
  refine ss_ifR h (fun q => ?_) fun q => ?_
  · rw [if_pos q]; exact hA q
  · rw [if_neg (by rw [q]; exact Bool.false_ne_true)]; exact hB q
/-- list(range(a, b)) -/
theorem rgV_rng {a b : Int} : rgV a b = (rng a b).map V.int := by unfold rgV rng; rw [List.map_map]; rfl
theorem all2_of_ints {F : Hp} : ∀ l : List Int, All2 (l.map eI) F (l.map V.int)
  | [] => trivial
  | _ :: l => ⟨rfl, all2_of_ints l⟩
theorem en_listRg2 {i j : Int} (ha : ES ta W W1 (eI i)) (hb : ES tb W1 W2 (eI j)) (c : RgOk i j) : ESN (tLstRg (tRg2 ta tb)) W W2 (oL ((rng i j).map eI)) := fun F H σ Q s k =>
  ha F H σ _ s fun v F1 H1 a1 s1 e1 => hb F1 H1 σ _ s1 fun w F2 H2 a2 s2 e2 => by
    have e1' : v = V.int i := e1
    have e2' : w = V.int j := e2
    subst e1' e2'
    refine ⟨i, j, rfl, rfl, c, fun q hq => ?_⟩
    have ex : Same H2 (upd H2 q (.lst (rgV i j))) := fun a o z => by rw [upd_ne (ne_of_none z hq)]; exact z
    exact k q _ F2 _ ((a1.trans a2).trans (Rel.grow ex)) (s2.grow ex) ((a1.trans a2).t _ hq) upd_same (s2.ex.free hq) (not_own s2 hq) ⟨nofun, _, rfl, by rw [rgV_rng]; exact all2_of_ints _⟩
theorem en_listRg1 {j : Int} (hb : ES tb W W1 (eI j)) (c : RgOk 0 j) : ESN (tLstRg (tRg1 tb)) W W1 (oL ((rng 0 j).map eI)) := fun F H σ Q s k =>
  hb F H σ _ s fun w F2 H2 a2 s2 e2 => by
    have e2' : w = V.int j := e2
    subst e2'
    refine ⟨j, rfl, c, fun q hq => ?_⟩
    have ex : Same H2 (upd H2 q (.lst (rgV 0 j))) := fun a o z => by rw [upd_ne (ne_of_none z hq)]; exact z
    exact k q _ F2 _ (a2.trans (Rel.grow ex)) (s2.grow ex) (a2.t _ hq) upd_same (s2.ex.free hq) (not_own s2 hq) ⟨nofun, _, rfl, by rw [rgV_rng]; exact all2_of_ints _⟩
end
end Fw
end
section
set_option maxRecDepth 100000
namespace Fw
open PySem L2
/-- what is walked gives these items, one a turn -/
def Wlk (J : It) (F1 : Hp) (rs : List R) : Prop := ∀ (i : Nat) (F H : Hp), Same F1 F → Same F H →
  (∀ r, rs[i]? = some r → J.go i H ∧ ∀ x H', J.yld i H x H' → ∃ F', Rel F H Nob F' H' Nob ∧ Same F' H' ∧ r.p F' x) ∧ (rs.length ≤ i → J.stop i H)
def IS (wi : TI) (W W' : List Sl) (rs : List R) : Prop := ∀ (F H : Hp) (σ : L2.St) (Q : It → Hp → Prop), Sat F H σ W →
  (∀ J F' H', Rel F H (Own W σ) F' H' (Own W' σ) → Sat F' H' σ W' → Wlk J F' rs → Q J H') → wi σ H Q
section
variable {W W' W0 W1 W2 W3 : List Sl} {K : PySem.W.Frag} {ta tb tc te to tl : TE} {tc' tt : TT} {r ra rb : R} {x y z v : V} {a b : Bool} {ι : Type} {F H F' H' : Hp} {σ : L2.St} {E : XK} {P P1 : Post} {ts uu tA tB : TS} {g : TG} {wi : TI}
variable {α β γ δ ρ : Type}
theorem is_list {e : α → R} {l : List α} (h : ES tl W W1 (eLs e l)) : IS (iList K tl) W W1 (l.map e) := fun F H σ Q s k =>
  h F H σ _ s fun v F1 H1 a1 s1 ⟨p, xs, e1, e2, e3⟩ => by
    refine ⟨p, e1, ⟨xs, .inl (.inl (s1.ex _ _ e2))⟩, k (Itl K p) F1 H1 a1 s1 fun i F' H' f1 f2 => ⟨fun r hr => ?_, fun hl => ?_⟩⟩
    · obtain ⟨x, z1, z2⟩ := e3.get' hr
      have q : SqL K H' p xs := .inl (.inl (f2 _ _ (f1 _ _ e2)))
      refine ⟨⟨xs, x, q, z1⟩, fun y H'' ⟨u1, u2⟩ => ?_⟩
      subst u1
      have ey := u2 xs q
      rw [z1] at ey; cases ey
      exact ⟨F', Rel.refl, f2, r.mono f1 z2⟩
    · exact ⟨xs, .inl (.inl (f2 _ _ (f1 _ _ e2))), by rw [e3.len]; exact hl⟩
theorem is_tup {rs : List R} (h : ES tl W W1 (eT K rs)) : IS (iTup K tl) W W1 rs := fun F H σ Q s k =>
  h F H σ _ s fun v F1 H1 a1 s1 ⟨p, xs, e1, e2, e3⟩ => by
    refine ⟨p, e1, ⟨xs, sqT_up s1.ex e2⟩, k (Itt K p) F1 H1 a1 s1 fun i F' H' f1 f2 => ⟨fun r hr => ?_, fun hl => ?_⟩⟩
    · obtain ⟨x, z1, z2⟩ := e3.get' hr
      have q : SqT K H' p xs := sqT_up f2 (f1 _ _ e2)
      refine ⟨⟨xs, x, q, z1⟩, fun y H'' ⟨u1, u2⟩ => ?_⟩
      subst u1
      have ey := u2 xs q
      rw [z1] at ey; cases ey
      exact ⟨F', Rel.refl, f2, r.mono f1 z2⟩
    · exact ⟨xs, sqT_up f2 (f1 _ _ e2), by rw [e3.len]; exact hl⟩
theorem wlk_rng {lo n : Int} : Wlk (Itr lo (n - lo).toNat) F ((rng lo n).map eI) := fun i F' H' f1 f2 => ⟨fun r hr => by
  rw [List.getElem?_map] at hr
  have hi : i < (n - lo).toNat := by
    cases q : (rng lo n)[i]? with
    | none => rw [q] at hr; cases hr
    | some x => rw [← rng_len]; exact (List.getElem?_eq_some_iff.mp q).1
  rw [rng_at hi] at hr
  cases hr
  refine ⟨hi, fun x H'' ⟨u1, u2⟩ => ?_⟩
  subst u1
  exact ⟨F', Rel.refl, f2, u2⟩, fun hl => by rw [List.length_map, rng_len] at hl; exact hl⟩
theorem is_rng1 {tr : TA} {n : Int} (h : AS tr W W1 [eI n]) (hn : -(2 ^ 62) ≤ n ∧ n < 2 ^ 62) : IS (iRng1 tr) W W1 ((rng 0 n).map eI) := fun F H σ Q s k =>
  h F H σ _ s fun vs F1 H1 a1 s1 e1 => by
    match vs, e1 with
    | [v], e1 =>
      have e : v = V.int n := e1.1
      subst e
      have q := k _ F1 H1 a1 s1 (wlk_rng (lo := 0) (n := n))
      have en : (n - 0).toNat = n.toNat := by omega
      rw [en] at q
      exact ⟨n, rfl, hn.1, hn.2, q⟩
    | [], e1 => exact e1.elim
    | _ :: _ :: _, e1 => exact e1.2.elim
theorem is_rng2 {tr : TA} {lo n : Int} (h : AS tr W W1 [eI lo, eI n]) (hn : -(2 ^ 62) ≤ lo ∧ lo < 2 ^ 62 ∧ -(2 ^ 62) ≤ n ∧ n < 2 ^ 62) : IS (iRng2 tr) W W1 ((rng lo n).map eI) := fun F H σ Q s k =>
  h F H σ _ s fun vs F1 H1 a1 s1 e1 => by
    match vs, e1 with
    | [v, w], e1 =>
      have e : v = V.int lo := e1.1
      have e' : w = V.int n := e1.2.1
      subst e e'
      exact ⟨lo, n, rfl, hn, k _ F1 H1 a1 s1 wlk_rng⟩
    | [], e1 => exact e1.elim
    | [_], e1 => exact e1.2.elim
    | _ :: _ :: _ :: _, e1 => exact e1.2.2.elim
@[irreducible] def enumI (l : List α) : List (Int × α) := l.zipIdx.map fun p => ((p.2 : Int), p.1)
theorem enumI_at {l : List α} {i : Nat} : (enumI l)[i]? = (l[i]?).map fun x => ((i : Int), x) := by
  unfold enumI
  rw [List.getElem?_map, List.getElem?_zipIdx]
  cases l[i]? with
  | none => rfl
  | some x => simp
theorem enumI_len {l : List α} : (enumI l).length = l.length := by unfold enumI; simp
/-- a new pair is laid -/
theorem pair_new {T : Addr} {xs : List V} {rs : List R} (f2 : Same F H) (hT : H T = none) (h : All2 rs F xs) : ∃ F', Rel F H Nob F' (upd H T (.tup xs)) Nob ∧ Same F' (upd H T (.tup xs)) ∧ (eT K rs).p F' (.ref T) := by
  have fT := f2.free hT
  refine ⟨upd F T (.tup xs), Rel.lay f2 hT, fun a o z => ?_, T, xs, rfl, upd_same, h.mono fun a o z => by rw [upd_ne (ne_of_none z fT)]; exact z⟩
  by_cases q : a = T
  · subst q; rw [upd_same] at z; cases z; exact upd_same
  · rw [upd_ne q] at z ⊢; exact f2 a o z
theorem is_enum {e : α → R} {l : List α} (h : ES tl W W1 (eLs e l)) : IS (iEnum K (tCons tl tNil)) W W1 ((enumI l).map (eP2 K eI e)) := fun F H σ Q s k =>
  h F H σ _ s fun v F1 H1 a1 s1 ⟨p, xs, e1, e2, e3⟩ => by
    subst e1
    refine ⟨p, xs, rfl, .inl (.inl (s1.ex _ _ e2)), k (Ite K p) F1 H1 a1 s1 fun i F' H' f1 f2 => ⟨fun r hr => ?_, fun hl => ?_⟩⟩
    · rw [List.getElem?_map, enumI_at] at hr
      cases q : l[i]? with
      | none => rw [q] at hr; cases hr
      | some x0 =>
        rw [q] at hr; cases hr
        obtain ⟨x, z1, z2⟩ := e3.get' (i := i) (r := e x0) (by rw [List.getElem?_map, q]; rfl)
        have qs : SqL K H' p xs := .inl (.inl (f2 _ _ (f1 _ _ e2)))
        refine ⟨⟨xs, x, qs, z1⟩, fun y H'' ⟨T, x', u1, u2, u3, u4⟩ => ?_⟩
        subst u1 u3
        have ey := u4 xs qs
        rw [z1] at ey; cases ey
        exact pair_new f2 u2 ⟨rfl, (e x0).mono f1 z2, trivial⟩
    · refine ⟨xs, .inl (.inl (f2 _ _ (f1 _ _ e2))), ?_⟩
      rw [e3.len, List.length_map]
      rw [List.length_map, enumI_len] at hl; exact hl
theorem is_zip {e : α → R} {f : β → R} {l : List α} {m : List β} (h : ES ta W W1 (eLs e l)) (h' : ES tb W1 W2 (eLs f m)) : IS (iZip K (tCons ta (tCons tb tNil))) W W2 ((l.zip m).map (eP2 K e f)) := fun F H σ Q s k =>
  h F H σ _ s fun v F1 H1 a1 s1 ⟨p, xs, e1, e2, e3⟩ => h' F1 H1 σ _ s1 fun w F2 H2 a2 s2 ⟨q, ys, g1, g2, g3⟩ => by
    subst e1 g1
    have e2' := a2.f _ _ e2
    have e3' := e3.mono a2.f
    refine ⟨p, q, xs, ys, rfl, .inl (.inl (s2.ex _ _ e2')), .inl (.inl (s2.ex _ _ g2)), k (Itz K p q) F2 H2 (a1.trans a2) s2 fun i F' H' f1 f2 => ⟨fun r hr => ?_, fun hl => ?_⟩⟩
    · rw [List.getElem?_map] at hr
      cases qz : (l.zip m)[i]? with
      | none => rw [qz] at hr; cases hr
      | some xy =>
        rw [qz] at hr; cases hr
        obtain ⟨x0, y0⟩ := xy
        obtain ⟨q1, q2⟩ := List.getElem?_zip_eq_some.mp qz
        obtain ⟨x, z1, z2⟩ := e3'.get' (i := i) (r := e x0) (by rw [List.getElem?_map, q1]; rfl)
        obtain ⟨y, y1, y2⟩ := g3.get' (i := i) (r := f y0) (by rw [List.getElem?_map, q2]; rfl)
        have qs : SqL K H' p xs := .inl (.inl (f2 _ _ (f1 _ _ e2')))
        have qt : SqL K H' q ys := .inl (.inl (f2 _ _ (f1 _ _ g2)))
        refine ⟨⟨xs, ys, x, y, qs, qt, z1, y1⟩, fun w H'' ⟨T, x', y', u1, u2, u3, u4, u5⟩ => ?_⟩
        subst u1 u3
        have ex := u4 xs qs
        rw [z1] at ex; cases ex
        have ey := u5 ys qt
        rw [y1] at ey; cases ey
        exact pair_new f2 u2 ⟨(e x0).mono f1 z2, (f y0).mono f1 y2, trivial⟩
    · refine ⟨xs, ys, .inl (.inl (f2 _ _ (f1 _ _ e2'))), .inl (.inl (f2 _ _ (f1 _ _ g2))), ?_⟩
      rw [List.length_map, List.length_zip] at hl
      rw [e3.len, g3.len, List.length_map, List.length_map]
      omega
/-- for over any source -/
theorem ss_forS {tb : TS} {rs : List R} (I : Nat → List Sl → Prop) (h : IS wi W W1 rs) (h0 : I 0 W1)
    (hs : ∀ i r W', rs[i]? = some r → I i W' → ∃ W2 is, GS g r W' W2 is ∧ SS tb W2 ⟨I (i + 1), P.rt, P.nx, I (i + 1)⟩) (hd : ∀ W', I rs.length W' → P.nx W') : SS (tFor wi g tb) W P := fun F H σ D s kn kr kb kc =>
  h F H σ _ s fun J F1 H1 a1 s1 hw => by
    refine ⟨fun i m σ' H' => m = rs.length - i ∧ i ≤ rs.length ∧ ∃ W' F', I i W' ∧ Rel F1 H1 (Own W1 σ) F' H' (Own W' σ') ∧ Sat F' H' σ' W', ⟨rs.length, by simp, Nat.zero_le _, W1, F1, h0, Rel.refl, s1⟩, ?_⟩
    rintro i m σ' H' ⟨rfl, hi, W', F', hI, q, s'⟩
    obtain ⟨w1, w2⟩ := hw i F' H' q.f s'.ex
    by_cases hlt : i < rs.length
    · have hr : rs[i]? = some rs[i] := List.getElem?_eq_getElem hlt
      obtain ⟨go, yl⟩ := w1 _ hr
      obtain ⟨W2, is, hg, hb⟩ := hs i _ W' hr hI
      refine .inr ⟨go, fun σ' H' => ∃ W' F', I (i + 1) W' ∧ Rel F1 H1 (Own W1 σ) F' H' (Own W' σ') ∧ Sat F' H' σ' W', fun σ2 H2 z => ⟨rs.length - (i + 1), by omega, rfl, hlt, z⟩, fun x H2 y => ?_⟩
      obtain ⟨F2, q2, e2, hx⟩ := yl x H2 y
      have s2 := s'.pure q2 e2
      refine hg F2 H2 σ' x _ s2 hx fun σ3 o3 s3 _ => hb F2 H2 σ3 _ s3 ?_ ?_ ?_ ?_
      · exact fun W4 σ4 F4 H4 n4 a4 s4 => ⟨W4, F4, n4, (q.trans q2.pure).trans ((Rel.refl.sub o3).trans a4), s4⟩
      · exact fun W4 σ4 r4 v4 F4 H4 n4 a4 s4 y4 => kr W4 σ4 r4 v4 F4 H4 n4 (a1.trans ((q.trans q2.pure).trans ((Rel.refl.sub o3).trans a4))) s4 y4
      · exact fun W4 σ4 F4 H4 n4 a4 s4 => kn W4 σ4 F4 H4 n4 (a1.trans ((q.trans q2.pure).trans ((Rel.refl.sub o3).trans a4))) s4
      · exact fun W4 σ4 F4 H4 n4 a4 s4 => ⟨W4, F4, n4, (q.trans q2.pure).trans ((Rel.refl.sub o3).trans a4), s4⟩
    · have e : i = rs.length := by omega
      subst e
      exact .inl ⟨w2 (Nat.le_refl _), kn W' σ' F' H' (hd W' hI) (a1.trans q) s'⟩
theorem sf_S {e : α → R} {l : List α} (mk : β → List Sl) (bd : β → α → β) (ok : β → α → Prop) (s0 : β) (h : IS wi W W1 (l.map e)) (w : Wk W1 (mk s0)) (hg : okF ok bd s0 l)
    (hs : ∀ s x, x ∈ l → ok s x → ∃ W2 is, GS g (e x) (mk s) W2 is ∧ SS ts W2 ⟨fun W' => Wk W' (mk (bd s x)), P.rt, fun _ => False, fun W' => Wk W' (mk (bd s x))⟩) (hd : ∀ W', Wk W' (mk (l.foldl bd s0)) → P.nx W') : SS (tFor wi g ts) W P := by
  refine ss_forS (fun i W' => Wk W' (mk ((l.take i).foldl bd s0))) h (by simpa using w) (fun i r W' hr hi => ?_) fun W' hw => hd W' (by rw [List.length_map, List.take_length] at hw; exact hw)
  rw [List.getElem?_map] at hr
  cases q : l[i]? with
  | none => rw [q] at hr; cases hr
  | some x =>
    rw [q] at hr
    have er : e x = r := Option.some.inj hr
    subst er
    obtain ⟨W2, is, h1, h2⟩ := hs _ x (List.mem_of_getElem? q) (okF_at hg q)
    rw [foldl_take q]
    exact ⟨W2, is, fun F H σ v Q s hv k => h1 F H σ v Q (s.weak hi) hv fun σ' o s' d => k σ' (fun a z => hi.sub (o a z)) s' d, h2.imp (fun _ z => z) (fun _ _ z => z) (fun _ z => z.elim) fun _ z => z⟩
/-- .. whose turns may hand something back -/
def loopR (bd : β → α → ρ ⊕ β) : β → List α → ρ ⊕ β
  | s, [] => .inr s
  | s, x :: l => match bd s x with
    | .inl r => .inl r
    | .inr s' => loopR bd s' l
def okR (ok : β → α → Prop) (bd : β → α → ρ ⊕ β) : β → List α → Prop
  | _, [] => True
  | s, x :: l => ok s x ∧ match bd s x with
    | .inl _ => True
    | .inr s' => okR ok bd s' l
def LQ (mk : β → List Sl) (Q : γ → Post) (vR : ρ → γ) : ρ ⊕ β → Post
  | .inl r => ⟨fun _ => False, (Q (vR r)).rt, fun _ => False, fun _ => False⟩
  | .inr s => ⟨fun W' => Wk W' (mk s), fun _ _ => False, fun _ => False, fun W' => Wk W' (mk s)⟩
def sumC (vR : ρ → γ) (vN : β → γ) : ρ ⊕ β → γ
  | .inl r => vR r
  | .inr s => vN s
theorem sf_SR {e : α → R} {l : List α} (mk : β → List Sl) (bd : β → α → ρ ⊕ β) (ok : β → α → Prop) (s0 : β) (Q : γ → Post) (vR : ρ → γ) (vN : β → γ) (h : IS wi W W1 (l.map e)) (w : Wk W1 (mk s0)) (hg : okR ok bd s0 l)
    (hs : ∀ s x, x ∈ l → ok s x → ∃ W2 is, GS g (e x) (mk s) W2 is ∧ SS ts W2 (LQ mk Q vR (bd s x))) (hd : ∀ s, loopR bd s0 l = .inr s → SS uu (mk s) (Q (vN s))) :
    SS (tSeq (tFor wi g ts) uu) W (Q (sumC vR vN (loopR bd s0 l))) := by
  refine ss_seq (fun W' => ∃ s, loopR bd s0 l = .inr s ∧ Wk W' (mk s)) ?_ (fun W' ⟨s, e1, e2⟩ => by rw [e1]; exact (hd s e1).weak e2)
  refine ss_forS (fun i W' => ∃ s, Wk W' (mk s) ∧ loopR bd s (l.drop i) = loopR bd s0 l ∧ okR ok bd s (l.drop i)) h ⟨s0, w, rfl, hg⟩ (fun i r W' hr ⟨s, z1, z2, z3⟩ => ?_) fun W' ⟨s, z1, z2, _⟩ => ⟨s, by rw [List.length_map, List.drop_length] at z2; exact z2.symm, z1⟩
  rw [List.getElem?_map] at hr
  cases q : l[i]? with
  | none => rw [q] at hr; cases hr
  | some x =>
    rw [q] at hr
    have er : e x = r := Option.some.inj hr
    subst er
    have ed : l.drop i = x :: l.drop (i + 1) := by
      have hi := (List.getElem?_eq_some_iff.mp q).1
      rw [List.drop_eq_getElem_cons hi]
      rw [List.getElem?_eq_getElem hi] at q
      cases q; rfl
    rw [ed] at z2 z3
    obtain ⟨W2, is, h1, h2⟩ := hs s x (List.mem_of_getElem? q) z3.1
    refine ⟨W2, is, fun F H σ v Q s hv k => h1 F H σ v Q (s.weak z1) hv fun σ' o s' d => k σ' (fun a z => z1.sub (o a z)) s' d, ?_⟩
    have z4 := z3.2
    cases eb : bd s x with
    | inl r =>
      rw [eb] at h2
      simp only [loopR, eb] at z2
      refine h2.imp (fun _ z => z.elim) (fun W' r' z => ?_) (fun W' z => z.elim) fun W' z => z.elim
      show (Q (sumC vR vN (loopR bd s0 l))).rt W' r'
      rw [← z2]; exact z
    | inr s' =>
      rw [eb] at h2
      simp only [loopR, eb] at z2
      simp only [eb] at z4
      exact h2.imp (fun _ z => ⟨s', z, z2, z4⟩) (fun _ _ z => z.elim) (fun _ z => z.elim) fun _ z => ⟨s', z, z2, z4⟩
theorem ci_go {F1 H1 : Hp} {D : Addr} {rs : List R} {acc : List V} {vs is : List Nat} {p : Bool} {xv : V} (hD : H1 D = none) (s1 : Sat F1 H1 σ W1) (q : Rel F1 H1 Nob F H Nob) (ex : Same F H) (fD : F D = none) (hDl : H D = some (.lst acc)) (ha : All2 rs F acc) (hx : ra.p F xv) (hl : rs.length < 16000000)
    (hg : GS g ra (blW W1 vs) W2 is) (his : ∀ j ∈ is, j ∈ vs) (ht : ET tt W2 W2 p) (he : p = true → ES te W2 W2 rb) :
    g xv (wipe σ vs) H fun σ2 H2 => wipe σ2 vs = wipe σ vs ∧ tt σ2 H2 fun b H3 =>
      if b = true then te σ2 H3 fun y H4 => ∃ acc, H4 D = some (.lst acc) ∧ acc.length < sizeLine ∧ CI F1 H1 D (if p = true then rs ++ [rb] else rs) (upd H4 D (.lst (acc ++ [y]))) else CI F1 H1 D (if p = true then rs ++ [rb] else rs) H3 := by
  obtain ⟨sw, _⟩ := (s1.pure q ex).wipe vs
  refine hg F H (wipe σ vs) xv _ sw.fr hx fun σ2 o2 s2 d2 => ⟨wipe_eq (d2.1.trans (wipe_length σ vs)) d2.2 his, ?_⟩
  have none2 : ∀ a, ¬ Own W2 σ2 a := fun a o => own_fr (o2 a o)
  have up : ∀ {F F' H H' : Hp}, Rel F H (Own W2 σ2) F' H' (Own W2 σ2) → Rel F H Nob F' H' Nob := fun {F F' H H'} a =>
    ⟨a.f, fun x o n h => a.h x o (none2 x) h, fun x o h => (a.n x o h).imp id (Or.imp id (Or.imp (fun m => none2 x m) id)), a.t, fun x m => .inl m⟩
  refine ht F H σ2 _ s2 fun F3 H3 a3 s3 => ?_
  have q3 := q.trans (up a3)
  have hD3 : H3 D = some (.lst acc) := (up a3).h D _ (fun z => z) hDl
  have fresh : ∀ {F' H' : Hp}, Rel F1 H1 Nob F' H' Nob → Same F' H' → Rel F H Nob F' H' Nob → F' D = none := fun {F' H'} a ex b => b.nof ex fD hDl (fun z => z) (fun xs e => by cases e)
  cases p with
  | false =>
    rw [if_neg Bool.false_ne_true, if_neg Bool.false_ne_true]
    exact ⟨F3, acc, q3, s3.ex, fresh q3 s3.ex (up a3), hD3, ha.mono a3.f⟩
  | true =>
    rw [if_pos rfl, if_pos rfl]
    refine he rfl F3 H3 σ2 _ s3 fun y F4 H4 a4 s4 hy => ?_
    have q4 := q3.trans (up a4)
    have f4 := fresh q4 s4.ex ((up a3).trans (up a4))
    refine ⟨acc, (up a4).h D _ (fun z => z) hD3, Nat.lt_of_lt_of_le (by rw [ha.len]; exact hl) (by decide), F4, acc ++ [y], ?_, fun a o h => ?_, f4, upd_same, (ha.mono (fun a o h => a4.f a o (a3.f a o h))).app ⟨hy, trivial⟩⟩
    · refine ⟨q4.f, fun a o n h => ?_, q4.n, fun a h => ?_, fun _ m => m.elim⟩
      · rw [upd_ne (ne_of_none h hD)]; exact q4.h a o n h
      · by_cases e : a = D
        · subst e; exact hD
        · rw [upd_ne e] at h; exact q4.t a h
    · rw [upd_ne (ne_of_none h f4)]; exact s4.ex a o h
theorem en_lcS {e : α → R} {l : List α} {f : α → R} {vs is : List Nat} (p : α → Bool) (W2 : α → List Sl) (h : IS wi W W1 (l.map e)) (hz : l.length < 16000000) (his : ∀ j ∈ is, j ∈ vs)
    (hg : ∀ x, GS g (e x) (blW W1 vs) (W2 x) is) (ht : ∀ x ∈ l, ET tt (W2 x) (W2 x) (p x)) (he : ∀ x ∈ l, p x = true → ES te (W2 x) (W2 x) (f x)) :
    ESN (tLc wi g tt te vs) W W1 (oL ((l.filter p).map f)) := fun F H σ Q s k =>
  h F H σ _ s fun J F1 H1 a1 s1 hw D hD => by
    have fD : F1 D = none := s1.ex.free hD
    refine ⟨fun i m H' => m = l.length - i ∧ i ≤ l.length ∧ CI F1 H1 D (lcR p f (l.take i)) H', ⟨l.length, by simp, Nat.zero_le _, F1, [], Rel.grow fun a o h => ?_, fun a o h => ?_, fD, upd_same, by simp [lcR, All2]⟩, ?_⟩
    · rw [upd_ne (ne_of_none h hD)]; exact h
    · rw [upd_ne (ne_of_none h fD)]; exact s1.ex a o h
    rintro i m H' ⟨rfl, hi, F', acc, q, ex, f', hDl, ha⟩
    obtain ⟨w1, w2⟩ := hw i F' H' q.f ex
    by_cases hlt : i < l.length
    · have hy : l[i]? = some l[i] := List.getElem?_eq_getElem hlt
      have my := List.mem_of_getElem? hy
      obtain ⟨go, yl⟩ := w1 (e l[i]) (by rw [List.getElem?_map, hy]; rfl)
      refine .inr ⟨go, CI F1 H1 D (lcR p f (l.take (i + 1))), fun H2 z => ⟨l.length - (i + 1), by omega, rfl, hlt, z⟩, fun x H2 y => ?_⟩
      obtain ⟨F2, q2, e2, hx⟩ := yl x H2 y
      have d2 : H2 D = some (.lst acc) := q2.h D _ (fun z => z) hDl
      have f2 : F2 D = none := q2.nof e2 f' hDl (fun z => z) (fun xs e => by cases e)
      rw [lcR_take hy]
      exact ci_go hD s1 (q.trans q2) e2 f2 d2 (ha.mono q2.f) hx (by have := lcR_len (p := p) (f := f) (l := l.take i); have := List.length_take_le' i l; omega) (hg l[i]) his (ht _ my) (he _ my)
    · have e : i = l.length := by omega
      subst e
      rw [List.take_length] at ha
      exact .inl ⟨w2 (by rw [List.length_map]; exact Nat.le_refl _), k D _ F' H' (a1.trans q.pure) (s1.pure q ex) (a1.t D hD) hDl f' (fun o => by
        obtain ⟨u, z⟩ := o.lt s1
        rw [hD] at z; cases z) ⟨nofun, acc, rfl, ha⟩⟩
end
end Fw
end
section
set_option maxRecDepth 100000
namespace Fw
open PySem L2
/-- frozen things that are data -/
class DatE (K : PySem.W.Frag) {α : Type} (e : α → R) where
  d : α → PyData
  dep : Nat
  ok : ∀ {F H : Hp} {v : V} {x : α}, Same F H → (e x).p F v → Dp K H v (d x)
  lay : ∀ x, (d x).canLay0 = true
  dpt : ∀ x, (d x).depth ≤ dep
  eqv : ∀ x y, PyData.eqv (d x) (d y) = true ↔ x = y
  nod : ∀ x, (d x).hasDict = false
instance {K : PySem.W.Frag} : DatE K eI where
  d := .int
  dep := 0
  ok := fun _ h => by
    cases (show _ = V.int _ from h)
    exact .int _
  lay := fun _ => rfl
  dpt := fun _ => by simp [PyData.depth]
  eqv := fun x y => by simp [PyData.eqv]
  nod := fun _ => rfl
instance {K : PySem.W.Frag} : DatE K eB where
  d := .bool
  dep := 0
  ok := fun _ h => by
    cases (show _ = V.bl _ from h)
    exact .bl _
  lay := fun _ => rfl
  dpt := fun _ => by simp [PyData.depth]
  eqv := fun x y => by simp [PyData.eqv]
  nod := fun _ => rfl
theorem dpAll {K : PySem.W.Frag} {α : Type} {e : α → R} [D : DatE K e] {F H : Hp} (f : Same F H) : ∀ {l : List α} {xs : List V}, All2 (l.map e) F xs → DpAll K H xs (l.map (D.d))
  | [], [], _ => .nil
  | _ :: _, _ :: _, h => .cons (D.ok f h.1) (dpAll f h.2)
  | [], _ :: _, h => h.elim
  | _ :: _, [], h => h.elim
theorem layAll {K : PySem.W.Frag} {α : Type} {e : α → R} [D : DatE K e] : ∀ l : List α, PyData.canLayAll0 (l.map D.d) = true
  | [] => rfl
  | x :: l => by simp [PyData.canLayAll0, D.lay x, layAll l]
theorem eqvAll_iff {K : PySem.W.Frag} {α : Type} {e : α → R} [D : DatE K e] : ∀ l m : List α, PyData.eqvAll (l.map D.d) (m.map D.d) = true ↔ l = m
  | [], [] => by simp [PyData.eqvAll]
  | x :: l, y :: m => by simp [PyData.eqvAll, D.eqv, eqvAll_iff l m]
  | [], _ :: _ => by simp [PyData.eqvAll]
  | _ :: _, [] => by simp [PyData.eqvAll]
theorem depAll {K : PySem.W.Frag} {α : Type} {e : α → R} [D : DatE K e] : ∀ l : List α, PyData.depthAll (l.map D.d) ≤ D.dep
  | [] => by simp [PyData.depthAll]
  | x :: l => by
    have h1 := D.dpt x
    have h2 := depAll (D := D) l
    simp only [List.map_cons, PyData.depthAll]
    omega
theorem nodAll {K : PySem.W.Frag} {α : Type} {e : α → R} [D : DatE K e] : ∀ l : List α, PyData.hasDictAll (l.map D.d) = false
  | [] => rfl
  | x :: l => by simp [PyData.hasDictAll, D.nod x, nodAll l]
instance datLs {K : PySem.W.Frag} {α : Type} {e : α → R} [D : DatE K e] : DatE K (eLs e) where
  d := fun l => .list (l.map D.d)
  dep := D.dep + 1
  ok := fun f ⟨p, xs, h1, h2, h3⟩ => by
    subst h1
    exact .lst (.inl (.inl (f _ _ h2))) (dpAll f h3)
  lay := fun l => by show PyData.canLayAll0 _ = true; exact layAll l
  dpt := fun l => by
    have h := depAll (D := D) l
    simp only [PyData.depth]
    omega
  eqv := fun l m => by show PyData.eqvAll _ _ = true ↔ _; exact eqvAll_iff l m
  nod := fun l => by show PyData.hasDictAll _ = false; exact nodAll l
instance {K : PySem.W.Frag} {α β : Type} {e : α → R} {f : β → R} [D : DatE K e] [D' : DatE K f] : DatE K (eP2 K e f) where
  d := fun x => .tuple [D.d x.1, D'.d x.2]
  dep := max D.dep D'.dep + 1
  ok := fun f ⟨p, xs, h1, h2, h3⟩ => by
    subst h1
    match xs, h3 with
    | [x, y], h3 => exact .tup (sqT_up f h2) (.cons (D.ok f h3.1) (.cons (D'.ok f h3.2.1) .nil))
    | [], h3 => exact h3.elim
    | [_], h3 => exact h3.2.elim
    | _ :: _ :: _ :: _, h3 => exact h3.2.2.elim
  lay := fun x => by simp [PyData.canLay0, PyData.canLayAll0, D.lay, D'.lay]
  dpt := fun x => by
    have h1 := D.dpt x.1
    have h2 := D'.dpt x.2
    simp only [PyData.depth, PyData.depthAll]
    omega
  eqv := fun x y => by
    obtain ⟨x1, x2⟩ := x
    obtain ⟨y1, y2⟩ := y
    simp [PyData.eqv, PyData.eqvAll, D.eqv, D'.eqv]
  nod := fun x => by simp [PyData.hasDict, PyData.hasDictAll, D.nod, D'.nod]
instance {K : PySem.W.Frag} {α β γ : Type} {e : α → R} {f : β → R} {g : γ → R} [D : DatE K e] [D' : DatE K f] [D'' : DatE K g] : DatE K (eP3 K e f g) where
  d := fun x => .tuple [D.d x.1, D'.d x.2.1, D''.d x.2.2]
  dep := max D.dep (max D'.dep D''.dep) + 1
  ok := fun f ⟨p, xs, h1, h2, h3⟩ => by
    subst h1
    match xs, h3 with
    | [x, y, z], h3 => exact .tup (sqT_up f h2) (.cons (D.ok f h3.1) (.cons (D'.ok f h3.2.1) (.cons (D''.ok f h3.2.2.1) .nil)))
    | [], h3 => exact h3.elim
    | [_], h3 => exact h3.2.elim
    | [_, _], h3 => exact h3.2.2.elim
    | _ :: _ :: _ :: _ :: _, h3 => exact h3.2.2.2.elim
  lay := fun x => by simp [PyData.canLay0, PyData.canLayAll0, D.lay, D'.lay, D''.lay]
  dpt := fun x => by
    have h1 := D.dpt x.1
    have h2 := D'.dpt x.2.1
    have h3 := D''.dpt x.2.2
    simp only [PyData.depth, PyData.depthAll]
    omega
  eqv := fun x y => by
    obtain ⟨x1, x2, x3⟩ := x
    obtain ⟨y1, y2, y3⟩ := y
    simp [PyData.eqv, PyData.eqvAll, D.eqv, D'.eqv, D''.eqv]
  nod := fun x => by simp [PyData.hasDict, PyData.hasDictAll, D.nod, D'.nod, D''.nod]
section
variable {W W' W0 W1 W2 W3 : List Sl} {K : PySem.W.Frag} {ta tb tc te to tl : TE} {r ra rb : R} {a b : Bool} {F H F' H' : Hp} {σ : L2.St} {E : XK}
variable {α β γ δ ρ : Type}
theorem shp {e : α → R} [D : DatE K e] (h : D.dep ≤ 64) (x : α) : SeqAt.shaped (D.d x) = true := by
  unfold SeqAt.shaped
  rw [D.lay x, decide_eq_true (Nat.le_trans (D.dpt x) h)]; rfl
theorem es_eqDat {e : α → R} [D : DatE K e] [DecidableEq α] {x y : α} (ha : ES ta W W1 (e x)) (hb : ES tb W1 W2 (e y)) (h : D.dep ≤ 64 := by decide) : ES (tOp (rEqD K) ta tb) W W2 (eB (decide (x = y))) := fun F H σ Q s k =>
  ha F H σ _ s fun v F1 H1 a1 s1 e1 => hb F1 H1 σ _ s1 fun w F2 H2 a2 s2 e2 => by
    have eq : PyData.eqv (D.d x) (D.d y) = decide (x = y) := by
      rw [Bool.eq_iff_iff, D.eqv, decide_eq_true_iff]
    refine ⟨D.d x, D.d y, D.ok s2.ex ((e x).mono a2.f e1), D.ok s2.ex e2, shp h x, shp h y, ?_⟩
    rw [eq]; exact k _ F2 H2 (a1.trans a2) s2 rfl
theorem es_neDat {e : α → R} [D : DatE K e] [DecidableEq α] {x y : α} (ha : ES ta W W1 (e x)) (hb : ES tb W1 W2 (e y)) (h : D.dep ≤ 64 := by decide) : ES (tOp (rNeD K) ta tb) W W2 (eB (!decide (x = y))) := fun F H σ Q s k =>
  ha F H σ _ s fun v F1 H1 a1 s1 e1 => hb F1 H1 σ _ s1 fun w F2 H2 a2 s2 e2 => by
    have eq : PyData.eqv (D.d x) (D.d y) = decide (x = y) := by
      rw [Bool.eq_iff_iff, D.eqv, decide_eq_true_iff]
    refine ⟨D.d x, D.d y, D.ok s2.ex ((e x).mono a2.f e1), D.ok s2.ex e2, shp h x, shp h y, ?_⟩
    rw [eq]; exact k _ F2 H2 (a1.trans a2) s2 rfl
theorem eqv_nil (ds : List PyData) : PyData.eqv (.list ds) (.list []) = ds.isEmpty := by cases ds <;> simp [PyData.eqv, PyData.eqvAll]
theorem es_neNil {e : α → R} [D : DatE K e] {l : List α} (ha : ES ta W W1 (eLs e l)) (h : D.dep + 1 ≤ 64 := by decide) : ES (tOp (rNeD K) ta (tLst tNil)) W W1 (eB (!l.isEmpty)) := fun F H σ Q s k =>
  ha F H σ _ s fun v F1 H1 a1 s1 e1 => ⟨Nat.zero_le _, fun p hp => by
    have ex : Same H1 (upd H1 p (.lst [])) := fun a o z => by rw [upd_ne (ne_of_none z hp)]; exact z
    refine ⟨(datLs (K := K) (e := e)).d l, .list [], (datLs (K := K) (e := e)).ok (fun a o z => ex a o (s1.ex a o z)) e1, .lst (.inl (.inl upd_same)) .nil, shp (K := K) (e := eLs e) h l, by decide +kernel, ?_⟩
    have eq : PyData.eqv ((datLs (K := K) (e := e)).d l) (.list []) = l.isEmpty := by
      show PyData.eqv (PyData.list (l.map D.d)) (.list []) = l.isEmpty
      rw [eqv_nil]
      cases l <;> rfl
    rw [eq]; exact k _ F1 _ (a1.trans (Rel.grow ex)) (s1.grow ex) rfl⟩
theorem es_eqNil {e : α → R} [D : DatE K e] {l : List α} (ha : ES ta W W1 (eLs e l)) (h : D.dep + 1 ≤ 64 := by decide) : ES (tOp (rEqD K) ta (tLst tNil)) W W1 (eB l.isEmpty) := fun F H σ Q s k =>
  ha F H σ _ s fun v F1 H1 a1 s1 e1 => ⟨Nat.zero_le _, fun p hp => by
    have ex : Same H1 (upd H1 p (.lst [])) := fun a o z => by rw [upd_ne (ne_of_none z hp)]; exact z
    refine ⟨(datLs (K := K) (e := e)).d l, .list [], (datLs (K := K) (e := e)).ok (fun a o z => ex a o (s1.ex a o z)) e1, .lst (.inl (.inl upd_same)) .nil, shp (K := K) (e := eLs e) h l, by decide +kernel, ?_⟩
    have eq : PyData.eqv ((datLs (K := K) (e := e)).d l) (.list []) = l.isEmpty := by
      show PyData.eqv (PyData.list (l.map D.d)) (.list []) = l.isEmpty
      rw [eqv_nil]
      cases l <;> rfl
    rw [eq]; exact k _ F1 _ (a1.trans (Rel.grow ex)) (s1.grow ex) rfl⟩
/-- repr -/
def reprI (i : Int) : Str := toString i
theorem es_reprI {i : Int} (ha : ES ta W W1 (eI i)) (h : i.natAbs.log2 < 1920) : ES (tCB (fun xs H Q => ∃ i, xs = [.int i] ∧ i.natAbs.log2 < 1920 ∧ Q (.str (toString i)) H) (tCons ta tNil)) W W1 (eS (reprI i)) := es_cb1 ha fun _ _ q => ⟨i, rfl, h, q⟩
def rReprD (K : PySem.W.Frag) : List V → Hp → VK → Prop := fun xs H Q => ∃ a d, xs = [.ref a] ∧ Dp K H (.ref a) d ∧ d.showable = true ∧ d.hasDict = false ∧ d.depth ≤ 60 ∧ d.shown.length ≤ sizeLine ∧ Q (.str d.shown) H
theorem call_reprD {X : Cx} (hG : X.A.guards = some []) {k : Nat} (hr : Room k X.A) : CallR X (.builtin "repr") (rReprD X.K) := by
  intro pins s σ H xs us Q I r h
  obtain ⟨a, d, e, hd, h1, h2, h3, h4, q⟩ := h
  subst e
  obtain ⟨u, e, ru⟩ := vals1 r
  subst e
  obtain ⟨as, rd⟩ := Dp.reads I d _ u hd ru
  cases (show u = Value.ref a from ru)
  have hun := hr.un
  exact repr_of_reads' rd h1 (fun z => by rw [h2] at z; cases z) hG (by omega) (fun _ _ z => z) (fun h' u tk hk => ⟨.str d.shown, H, I.kept (t' := tk) hk, ⟨_, rfl⟩, q⟩) h4
def reprD (K : PySem.W.Frag) {α : Type} (e : α → R) [D : DatE K e] (x : α) : Str := (D.d x).shown
def ReprOk (K : PySem.W.Frag) {α : Type} (e : α → R) [D : DatE K e] (x : α) : Prop := (D.d x).showable = true ∧ (D.d x).shown.length ≤ sizeLine
theorem es_reprD {e : α → R} [D : DatE K e] {x : α} (ha : ES ta W W1 (e x)) (h : ReprOk K e x) (hv : ∀ F v, (e x).p F v → ∃ a, v = .ref a) (hd : D.dep ≤ 60 := by decide) : ES (tCB (rReprD K) (tCons ta tNil)) W W1 (eS (reprD K e x)) := es_cbr ha fun F H v Q f hp q => by
  obtain ⟨a, rfl⟩ := hv F v hp
  exact ⟨a, D.d x, rfl, D.ok f hp, h.1, D.nod x, Nat.le_trans (D.dpt x) hd, h.2, q⟩
theorem rf_L {e : α → R} {l : List α} : ∀ F v, (eLs e l).p F v → ∃ a, v = .ref a := fun F v ⟨p, _, h, _⟩ => ⟨p, h⟩
theorem rf_T {rs : List R} : ∀ F v, (eT K rs).p F v → ∃ a, v = .ref a := fun F v ⟨p, _, h, _⟩ => ⟨p, h⟩
/-- the length of a text -/
theorem es_lenS {x : Str} (ha : ES ta W W1 (eS x)) (h : x.length ≤ sizeLine) : ES (tCB (fun xs H Q => ∃ z, xs = [.str z] ∧ z.length ≤ sizeLine ∧ Q (.int z.length) H) (tCons ta tNil)) W W1 (eI (x.length : Int)) := es_cb1 ha fun _ _ q => ⟨x, rfl, h, q⟩
end
end Fw
end
section
set_option maxRecDepth 100000
namespace Fw
open PySem L2
/-- an owned instance -/
def oI (q : Option Addr) (C : Addr) (fs : List (Str × R)) : OC := ⟨fun F a o => (∀ p, q = some p → a = p) ∧ ∃ dx gs, o = .ins C dx gs ∧ gs.map Prod.fst = fs.map Prod.fst ∧ All2 (fs.map Prod.snd) F (gs.map Prod.snd),
  fun e ⟨z, dx, gs, h1, h2, h3⟩ => ⟨z, dx, gs, h1, h2, h3.mono e⟩, fun ⟨_, dx, gs, h1, _⟩ xs e => by rw [h1] at e; cases e⟩
def putR (f : Str) (r : R) : List (Str × R) → List (Str × R)
  | [] => [(f, r)]
  | (g, x) :: l => if g = f then (g, r) :: l else (g, x) :: putR f r l
theorem putR_ok {F : Hp} {f : Str} {r : R} {v : V} (h : r.p F v) : ∀ {fs : List (Str × R)} {gs : List (Str × V)}, gs.map Prod.fst = fs.map Prod.fst → All2 (fs.map Prod.snd) F (gs.map Prod.snd) →
    (putF f v gs).map Prod.fst = (putR f r fs).map Prod.fst ∧ All2 ((putR f r fs).map Prod.snd) F ((putF f v gs).map Prod.snd)
  | [], [], _, _ => ⟨rfl, h, trivial⟩
  | (n, q) :: fs, (m, w) :: gs, e, k => by
    have en : m = n := (List.cons.inj e).1
    subst en
    have ih := putR_ok (f := f) h (List.cons.inj e).2 k.2
    show ((if m = f then (m, v) :: gs else (m, w) :: putF f v gs)).map Prod.fst = (if m = f then (m, r) :: fs else (m, q) :: putR f r fs).map Prod.fst ∧
      All2 ((if m = f then (m, r) :: fs else (m, q) :: putR f r fs).map Prod.snd) F ((if m = f then (m, v) :: gs else (m, w) :: putF f v gs).map Prod.snd)
    by_cases z : m = f
    · rw [if_pos z, if_pos z]
      exact ⟨e, h, k.2⟩
    · rw [if_neg z, if_neg z]
      exact ⟨congrArg (m :: ·) ih.1, k.1, ih.2⟩
  | [], _ :: _, e, _ => by cases e
  | _ :: _, [], e, _ => by cases e
/-- the promise of an __init__ -/
def spI {ι : Type} (C : Addr) (as : ι → List R) (ok : ι → Prop) (fs : ι → List (Str × R)) : Sp := fun vs H Q _ => ∃ (d : ι) (F : Hp) (p dx : Addr) (ws : List V), vs = .ref p :: ws ∧ ok d ∧ Same F H ∧
  H p = some (.ins C dx []) ∧ F p = none ∧ All2 (as d) F ws ∧
  ∀ F' H' dx' gs, Rel F H (fun a => a = p) F' H' (fun a => a = p) → Same F' H' → H' p = some (.ins C dx' gs) → F' p = none → gs.map Prod.fst = (fs d).map Prod.fst → All2 ((fs d).map Prod.snd) F' (gs.map Prod.snd) → Q .non H'
section
variable {W W' W0 W1 W2 W3 : List Sl} {K : PySem.W.Frag} {ta tb tc te to tl tv : TE} {r ra rb : R} {a b : Bool} {F H F' H' : Hp} {σ : L2.St} {E : XK} {P : Post} {ts uu : TS}
variable {α β γ δ ρ ι : Type}
theorem ss_fld {i : Nat} {q : Option Addr} {C : Addr} {fs : List (Str × R)} {f : Str} (c : Cls K C) (n : NoAttr K C f) (h : ES tv W W1 r) (h1 : W1[i]? = some (.ow (oI q C fs))) (hl : fs.length < 1000) (k : P.nx (W1.set i (.ow (oI q C (putR f r fs))))) :
    SS (sFld K (tVar i) tv f) W P := fun F H σ D s kn _ _ _ =>
  h F H σ _ s fun v F1 H1 a1 s1 e1 => by
    obtain ⟨p, o, e0, y1, y2, ⟨yq, dx, gs, rfl, y3, y4⟩⟩ := s1.ow i _ h1
    have el : gs.length = fs.length := by have := congrArg List.length y3; simpa using this
    obtain ⟨z1, z2⟩ := putR_ok (f := f) e1 y3 y4
    refine ⟨.ref p, e0, p, C, dx, gs, rfl, y1, c, n, by rw [el]; exact hl, kn _ _ _ _ k (a1.trans ⟨fun _ _ z => z, fun a u n z => ?_, fun _ _ z => .inl z, fun a z => ?_, fun a m => .inl ((Own.mut h1).mp m)⟩) (s1.mut h1 e0 ⟨yq, dx, _, rfl, z1, z2⟩)⟩
    · rw [upd_ne (fun q : a = p => n (by rw [q]; exact ⟨i, _, h1, e0⟩))]; exact z
    · by_cases q : a = p
      · subst q; rw [upd_same] at z; cases z
      · rw [upd_ne q] at z; exact z
theorem es_fldO {i : Nat} {q : Option Addr} {C : Addr} {fs : List (Str × R)} {f : Str} (c : Cls K C) (n : NoAttr K C f) (h0 : W[i]? = some (.ow (oI q C fs))) (hf : fs.lookup f = some r) : ES (tFld K (tVar i) f) W W r := fun F H σ Q s k => by
  obtain ⟨p, o, e0, g1, _, ⟨_, dx, gs, rfl, h3, h4⟩⟩ := s.ow i _ h0
  obtain ⟨w, z1, z2⟩ := ins_look h3 h4 hf
  exact ⟨.ref p, e0, p, C, dx, gs, w, rfl, g1, c, n, z1, k w F H Rel.refl s z2⟩
theorem def_I {C : Addr} {as : ι → List R} {ok : ι → Prop} {fs : ι → List (Str × R)} {N : List Str} {vs : List V} {H : Hp} {Q : VK} {E : XK} (h : spI C as ok fs vs H Q E) (hN : ∀ d, (as d).length < N.length)
    (k : ∀ d p, ok d → SS ts (.ow (oI (some p) C []) :: slF (as d) (N.length - 1)) ⟨fun W' => W'[0]? = some (.ow (oI (some p) C (fs d))), fun _ _ => False, fun _ => False, fun _ => False⟩) :
    ts { nx := fun _ H' => Q .non H', rt := Q } (L2.start N vs) H := by
  obtain ⟨d, F, p, dx, ws, rfl, hok, ex, hp, fp, ha, hq⟩ := h
  have el := ha.len
  have hN' := hN d
  have s : Sat F H (L2.start N (.ref p :: ws)) (.ow (oI (some p) C []) :: slF (as d) (N.length - 1)) := by
    refine ⟨ex, ?_, fun i r h => ?_, fun i e h => ?_, fun i j e e' q h1 h2 => ?_⟩
    · unfold L2.start slF; simp [el]; omega
    · cases i with
      | zero => cases h
      | succ i =>
        obtain ⟨x, z1, z2⟩ := ha.get' (slF_fz (i := i) h)
        exact ⟨x, start_at z1, z2⟩
    · cases i with
      | zero =>
        cases h
        exact ⟨p, .ins C dx [], rfl, hp, fp, fun _ z => Option.some.inj z, dx, [], rfl, rfl, trivial⟩
      | succ i => exact (slF_ow (i := i) h).elim
    · cases i with
      | zero => cases j with
        | zero => exact fun _ _ => rfl
        | succ j => exact (slF_ow (i := j) h2).elim
      | succ i => exact (slF_ow (i := i) h1).elim
  have own0 : ∀ a, Own (.ow (oI (some p) C []) :: slF (as d) (N.length - 1)) (L2.start N (.ref p :: ws)) a → a = p := fun a ⟨i, e, h1, h2⟩ => by
    cases i with
    | zero =>
      have z : some (some (V.ref p)) = some (some (.ref a)) := h2
      cases z; rfl
    | succ i => exact (slF_ow (i := i) h1).elim
  refine k d p hok F H (L2.start N (.ref p :: ws)) _ s (fun W' σ' F' H' z a s' => ?_) (fun _ _ _ _ _ _ z => z.elim) (fun _ _ _ _ z => z.elim) fun _ _ _ _ z => z.elim
  obtain ⟨p', _, _, y1, y2, yq, dx', gs, rfl, y3, y4⟩ := s'.ow 0 _ z
  cases yq p rfl
  exact hq F' H' dx' gs ⟨a.f, fun x o n h => a.h x o (fun z => n (own0 x z)) h, fun x o h => (a.n x o h).imp id (Or.imp id (Or.imp (fun m => own0 x m) id)), a.t, fun x m => .inl m⟩ s'.ex y1 y2 y3 y4
theorem es_make {C : Addr} {as : ι → List R} {ok : ι → Prop} {fs : ι → List (Str × R)} {tr : TA} (d : ι) (h : AS tr W W1 (as d)) (g : ok d) : ES (tMake C (spI C as ok fs) [] E tr) W W1 (eIns C (fs d)) := fun F H σ Q s k =>
  h F H σ _ s fun vs F1 H1 a1 s1 e1 x dx hx hdx ne => by
    rw [List.append_nil]
    have hxd : upd (upd H1 dx (.own x)) x (.ins C dx []) x = some (.ins C dx []) := upd_same
    have f1 : F1 x = none := s1.ex.free hx
    have f2 : F1 dx = none := s1.ex.free hdx
    have grow : Same H1 (upd (upd H1 dx (.own x)) x (.ins C dx [])) := fun a o z => by
      rw [upd_ne (ne_of_none z hx), upd_ne (ne_of_none z hdx)]; exact z
    refine ⟨d, F1, x, dx, vs, rfl, g, fun a o z => grow a o (s1.ex a o z), hxd, f1, e1, fun F2 H2 dx' gs q ex h2 f2' hn ha => ⟨rfl, ?_⟩⟩
    -- the new instance is frozen
    have q1 : Rel F1 H1 (Own W1 σ) F2 H2 (Own W1 σ) := by
      refine ⟨q.f, fun a o n z => q.h a o (fun e => by subst e; rw [hx] at z; cases z) (grow a o z), fun a o z => ?_, fun a z => ?_, fun a m => .inl m⟩
      · rcases q.n a o z with y | y | y | y
        · exact .inl y
        · exact .inr (.inl (grow.free y))
        · subst y; exact .inr (.inl hx)
        · exact .inr (.inr (.inr y))
      · exact grow.free (q.t a z)
    have s2 : Sat F2 H2 σ W1 := by
      refine ⟨ex, s1.len, fun i r h => ?_, fun i c h => ?_, s1.ds⟩
      · obtain ⟨v, z1, z2⟩ := s1.fz i r h
        exact ⟨v, z1, r.mono q.f z2⟩
      · obtain ⟨p, o, z1, z2, z3, z4⟩ := s1.ow i c h
        have np : p ≠ x := ne_of_none z2 hx
        refine ⟨p, o, z1, q.h p o np (grow p o z2), ?_, c.mono q.f z4⟩
        exact q.nof ex z3 (grow p o z2) np (c.nt z4)
    have np : ¬ Own W1 σ x := not_own s1 hx
    exact k _ _ H2 ((a1.trans q1).freeze (.inl (a1.t x hx)) f2') (s2.freeze h2 f2' np) ⟨x, dx', gs, rfl, upd_same, hn, ha.mono fun a o z => by rw [upd_ne (ne_of_none z f2')]; exact z⟩
/-- the script: it is read alone -/
def eQ (K : PySem.W.Frag) (e : α → R) (l : List α) : R := ⟨fun F v => ∃ p xs, v = .ref p ∧ SqL K F p xs ∧ All2 (l.map e) F xs, fun e ⟨p, xs, h1, h2, h3⟩ => ⟨p, xs, h1, Same.seq e h2, h3.mono e⟩⟩
@[irreducible] def cutL (l : List α) (lo hi : Option Int) : List α := (l.drop (HT.sIx l.length 0 lo)).take (HT.sIx l.length l.length hi - HT.sIx l.length 0 lo)
theorem All2.drop' {F : Hp} : ∀ {rs : List R} {xs : List V} (n : Nat), All2 rs F xs → All2 (rs.drop n) F (xs.drop n)
  | _, _, 0, h => h
  | [], [], _ + 1, h => h
  | _ :: rs, _ :: xs, n + 1, h => All2.drop' (rs := rs) (xs := xs) n h.2
  | [], _ :: _, _, h => h.elim
  | _ :: _, [], _, h => h.elim
theorem All2.take' {F : Hp} : ∀ {rs : List R} {xs : List V} (n : Nat), All2 rs F xs → All2 (rs.take n) F (xs.take n)
  | _, _, 0, _ => trivial
  | [], [], _ + 1, h => h
  | _ :: rs, _ :: xs, n + 1, h => ⟨h.1, All2.take' (rs := rs) (xs := xs) n h.2⟩
  | [], _ :: _, _, h => h.elim
  | _ :: _, [], _, h => h.elim
theorem cut_ok {F : Hp} {e : α → R} {l : List α} {xs : List V} {lo hi : Option Int} (h : All2 (l.map e) F xs) : All2 ((cutL l lo hi).map e) F (cutV xs lo hi) := by
  have el := h.len
  rw [List.length_map] at el
  unfold cutL cutV
  rw [List.map_take, List.map_drop, el]
  exact All2.take' _ (All2.drop' _ h)
def OSm (t : TO) (W W' : List Sl) (o : Option Int) : Prop := ∀ (F H : Hp) (σ : L2.St) (Q : Option Int → Hp → Prop), Sat F H σ W →
  (∀ F' H', Rel F H (Own W σ) F' H' (Own W' σ) → Sat F' H' σ W' → Q o H') → t σ H Q
theorem os_no : OSm tNoPart W W none := fun F H σ Q s k => k F H Rel.refl s
theorem os_some {i : Int} (h : ES te W W1 (eI i)) : OSm (tPart te) W W1 (some i) := fun F H σ Q s k => h F H σ _ s fun v F1 H1 a1 s1 e1 => ⟨i, e1, k F1 H1 a1 s1⟩
theorem en_slice {e : α → R} {l : List α} {lo hi : Option Int} {tlo thi : TO} (h : ES te W W1 (eLs e l)) (h1 : OSm tlo W1 W2 lo) (h2 : OSm thi W2 W3 hi) : ESN (tSl (rSlL K) te tlo thi) W W3 (oL ((cutL l lo hi).map e)) := fun F H σ Q s k =>
  h F H σ _ s fun v F1 H1 a1 s1 ⟨p, xs, e1, e2, e3⟩ => h1 F1 H1 σ _ s1 fun F2 H2 a2 s2 => h2 F2 H2 σ _ s2 fun F3 H3 a3 s3 => by
    subst e1
    have e2' := a3.f _ _ (a2.f _ _ e2)
    refine ⟨p, xs, rfl, .inl (.inl (s3.ex _ _ e2')), fun q hq => ?_⟩
    have ex : Same H3 (upd H3 q (.lst (cutV xs lo hi))) := fun a o z => by rw [upd_ne (ne_of_none z hq)]; exact z
    have aa := (a1.trans a2).trans a3
    exact k q _ F3 _ (aa.trans (Rel.grow ex)) (s3.grow ex) (aa.t _ hq) upd_same (s3.ex.free hq) (not_own s3 hq) ⟨nofun, _, rfl, cut_ok ((e3.mono a2.f).mono a3.f)⟩
theorem en_sliceQ {e : α → R} {l : List α} {lo hi : Option Int} {tlo thi : TO} (h : ES te W W1 (eQ K e l)) (h1 : OSm tlo W1 W2 lo) (h2 : OSm thi W2 W3 hi) : ESN (tSl (rSlL K) te tlo thi) W W3 (oL ((cutL l lo hi).map e)) := fun F H σ Q s k =>
  h F H σ _ s fun v F1 H1 a1 s1 ⟨p, xs, e1, e2, e3⟩ => h1 F1 H1 σ _ s1 fun F2 H2 a2 s2 => h2 F2 H2 σ _ s2 fun F3 H3 a3 s3 => by
    subst e1
    refine ⟨p, xs, rfl, Same.seq s3.ex (Same.seq a3.f (Same.seq a2.f e2)), fun q hq => ?_⟩
    have ex : Same H3 (upd H3 q (.lst (cutV xs lo hi))) := fun a o z => by rw [upd_ne (ne_of_none z hq)]; exact z
    have aa := (a1.trans a2).trans a3
    exact k q _ F3 _ (aa.trans (Rel.grow ex)) (s3.grow ex) (aa.t _ hq) upd_same (s3.ex.free hq) (not_own s3 hq) ⟨nofun, _, rfl, cut_ok ((e3.mono a2.f).mono a3.f)⟩
end
end Fw
end
section
set_option maxRecDepth 100000
namespace Fw
open PySem L2
section
variable {W W' W0 W1 W2 W3 : List Sl} {K : PySem.W.Frag} {ta tb tc te to tl tv : TE} {r ra rb : R} {a b : Bool} {F H F' H' : Hp} {σ : L2.St} {E : XK} {P : Post} {ts uu : TS}
variable {α β γ δ ρ ι : Type}
theorem putR_new {f : Str} {r : R} : ∀ {fs : List (Str × R)}, (fs.map Prod.fst).contains f = false → putR f r fs = fs ++ [(f, r)]
  | [], _ => rfl
  | (g, x) :: l, h => by
    have h1 : ¬ g = f ∧ (l.map Prod.fst).contains f = false := by
      simp only [List.map_cons, List.contains_cons, Bool.or_eq_false_iff, beq_eq_false_iff_ne] at h
      exact ⟨fun e => h.1 e.symm, h.2⟩
    show (if g = f then (g, r) :: l else (g, x) :: putR f r l) = _
    rw [if_neg h1.1, putR_new h1.2]; rfl
theorem tbl_no {m : Str} {x y z : R} (h : ((m == "own_capacity") || (m == "own_rate") || (m == "own_shift")) = false) : List.lookup m [(("own_capacity" : Str), x), ("own_rate", y), ("own_shift", z)] = none := by
  simp only [Bool.or_eq_false_iff] at h
  simp [List.lookup, h.1.1, h.1.2, h.2]
theorem ss_let1 (v : α) (mk : α → List Sl) (k : ∀ x, x = v → SS ts (mk x) P) : SS ts (mk v) P := k v rfl
theorem ss_fldN {i : Nat} {q : Option Addr} {C : Addr} {fs : List (Str × R)} {f : Str} (c : Cls K C) (n : NoAttr K C f) (h : ES tv W W1 r) (h1 : W1[i]? = some (.ow (oI q C fs))) (hl : fs.length < 1000) (hf : (fs.map Prod.fst).contains f = false) (k : P.nx (W1.set i (.ow (oI q C (fs ++ [(f, r)]))))) :
    SS (sFld K (tVar i) tv f) W P := ss_fld c n h h1 hl (by rw [putR_new hf]; exact k)
end
end Fw
end
section
set_option maxRecDepth 100000
namespace Fw
open PySem L2 PySem.Spec PyProof.Rows
section
variable {P : Program} {w : World} {K : PySem.W.Frag} {mg mb : Str → Option Value} {CX : CXT} {k : Nat} {fa a : Addr} {fd : FuncData} {x : Str} {sp : Sp} {t : Shared} {us : List Value} {ns : List Int}
/-- the heap of the walk at the law's call: nothing, or the script alone -/
theorem lawG_core {H : Hp} (KX : K.In t.heap) (nG : t.heap.Ns mainGlobals mg) (nB : t.heap.Ns builtinsNs mb) (nb : ∀ x : Str, x ≠ "__name__" → mb x = bootBuiltins x) (nl : t.heap.NoLimit) (g0 : t.gens = #[])
    (at_ : t.heap.get? a = some { cls := .type "list", data := .seq us.toArray }) (room : Room k callerA)
    (F : ∀ base : Heap, K.In base → base.Ns mainGlobals mg → FnG P w K mg base CX k fa fd [x] sp) (bind : ∀ (s : Shared) (u : Value), BindsTo s fd ⟨[u], []⟩ [(x, u)])
    (pr : sp [.ref a] H (fun v _ => v = .bl true) fun _ _ _ => False) (noX : ∀ H e s', CX [] H t (fun _ _ _ => False) e s' → False)
    (only : Only H) (ok : HOk P w H t.heap) (one : ∀ b, H b ≠ none → b = a) (away : H a ≠ none → K.lookup a = none) :
    codeAny (model P w) callerA (.call (.ref fa) ⟨[.ref a], []⟩) (fun r s' => r = .ok (.ret (.bool true)) ∧ OldK t.heap s'.heap ∧ s'.os = t.os ∧ AllBare s'.gens) t := by
  have up : ∀ {b : Addr} {o : Obj}, t.heap.get? b = some o → H b = none → (hidT t.heap H).get? b = some o := fun h n => hidT_get h n
  have free : ∀ {b : Addr} {o : Obj} {es : Array DictEntry} {n : Nat}, t.heap.get? b = some o → o.data = .dict es n → H b = none := fun {b o es n} h d => by
    by_cases q : H b = none
    · exact q
    · obtain rfl := one b q
      cases at_.symm.trans h
      have d' : Data.seq us.toArray _ = Data.dict es n := d
      exact nomatch d'
  have nsUp : ∀ {b : Addr} {m : Str → Option Value}, t.heap.Ns b m → (hidT t.heap H).Ns b m := fun ⟨o, es, n, h, d, r⟩ => ⟨o, es, n, up h (free h d), d, r⟩
  have kUp : K.In (hidT t.heap H) := fun b o h => up (KX b o h) (by
    by_cases q : H b = none
    · exact q
    · obtain rfl := one b q
      rw [away q] at h; exact nomatch h)
  have md : Mod K mg (hidT t.heap H) := ⟨kUp, nsUp nG, ⟨mb, nsUp nB, nb⟩, nl.elim fun mc z => ⟨mc, nsUp z.1, z.2⟩⟩
  have env : Env0 P w K mg (hidT t.heap H) callerA [] t H := ⟨rfl, md, fun _ _ h => of_hidT h, Nat.le_of_eq (hidT_size _ _), trivial, fun b hb => (by cases hb), ok, .of_eq g0⟩
  have run := (F _ kUp (nsUp nG)).run callerA [] t H ⟨[.ref a], []⟩ [.ref a] [.ref a] _ _ rfl room env (bind t (.ref a)) (.cons rfl .nil) pr
  refine codeAny_mono run fun r s' h => ?_
  match r, h with
  | .error e, h => exact (noX H e s' h).elim
  | .ok (.ret u), h =>
    obtain ⟨v, H2, os, bare, un, ok2, rel, q⟩ := h
    obtain rfl : v = .bl true := q
    obtain rfl : u = Value.bool true := rel
    refine ⟨rfl, OldK.of_keep fun b o h => ?_, os, bare⟩
    rcases only b with z | ⟨ob, xs, z⟩
    · exact un.keep b o h z (fun m => by cases m) (by simp)
    · have e1 := (ok b _ z).1
      have e2 := (ok2 b _ (un.frzs b ob _ z)).1
      exact (Option.some.inj (h.symm.trans e1)) ▸ e2
theorem lawG {mb : Str → Option Value} (KX : K.In t.heap) (nG : t.heap.Ns mainGlobals mg) (nB : t.heap.Ns builtinsNs mb) (nb : ∀ x : Str, x ≠ "__name__" → mb x = bootBuiltins x) (nl : t.heap.NoLimit) (g0 : t.gens = #[])
    (at_ : t.heap.get? a = some { cls := .type "list", data := .seq us.toArray }) (iv : IntsAre us ns) (short : ns.length ≤ sizeLine) (room : Room k callerA)
    (F : ∀ base : Heap, K.In base → base.Ns mainGlobals mg → FnG P w K mg base CX k fa fd [x] sp) (bind : ∀ (s : Shared) (u : Value), BindsTo s fd ⟨[u], []⟩ [(x, u)])
    (pr : ∀ H : Hp, SqL K H a (ns.map V.int) → sp [.ref a] H (fun v _ => v = .bl true) fun _ _ _ => False) (noX : ∀ H e s', CX [] H t (fun _ _ _ => False) e s' → False) :
    codeAny (model P w) callerA (.call (.ref fa) ⟨[.ref a], []⟩) (fun r s' => r = .ok (.ret (.bool true)) ∧ OldK t.heap s'.heap ∧ s'.os = t.os ∧ AllBare s'.gens) t := by
  have rv := vals_ints iv
  cases hk : K.lookup a with
  | some o =>
    cases at_.symm.trans (KX a o hk)
    refine lawG_core (H := fun _ => none) KX nG nB nb nl g0 at_ room F bind (pr _ (.inr ⟨_, us.toArray, _, hk, rfl, rfl, rfl, ?_, ?_⟩)) noX (fun _ => .inl rfl) (fun b u z => nomatch z) (fun b z => absurd rfl z) fun z => absurd rfl z
    · rw [List.size_toArray, iv.length]; exact short
    · simpa using rv
  | none =>
    let ob : Obj := { cls := .type "list", data := .seq us.toArray }
    let G : Hp := fun b => if b = a then some (.frz ob (.lst (ns.map V.int))) else none
    have yes : G a = some (.frz ob (.lst (ns.map V.int))) := if_pos rfl
    have no : ∀ b, b ≠ a → G b = none := fun b h => if_neg h
    refine lawG_core (H := G) KX nG nB nb nl g0 at_ room F bind (pr _ (.inl (.inr ⟨ob, yes⟩))) noX (fun b => ?_) (fun b u z => ?_) (fun b z => ?_) fun _ => hk
    · by_cases h : b = a
      · subst h; exact .inr ⟨_, _, yes⟩
      · exact .inl (no b h)
    · by_cases h : b = a
      · subst h
        cases yes.symm.trans z
        exact ⟨at_, by rw [List.length_map]; exact short, us, _, rv, at_⟩
      · rw [no b h] at z; exact nomatch z
    · by_cases h : b = a
      · exact h
      · exact absurd (no b h) z
end
theorem walk_ofG {l : PySem.W.OpenLaw} {n k : Nat} {q : Program} {loose : List Str} {XP : (Str → Option Value) → Heap → Prop} {YP : World → Heap → Prop} {d : DefRec} {K : Params → PySem.W.Frag} {sp : PySem.W.Frag → Sp} {x : Str}
    (hn : l.most = some n) (hn2 : n ≤ sizeLine) (hdf : d.params.defaults = []) (hr : Room k callerA) (hY : ∀ (w : World) (h : Heap), YP w h → (K w.params).In h)
    (F : ∀ (w : World) (mg : Str → Option Value) (fa : Addr) (h : Heap), (K w.params).In h → h.Ns mainGlobals mg → mg d.name = some (.ref fa) →
      ∃ fd : FuncData, (∀ (s : Shared) (u : Value), BindsTo s fd ⟨[u], []⟩ [(x, u)]) ∧ ∀ base : Heap, (K w.params).In base → base.Ns mainGlobals mg → FnG l.prog w (K w.params) mg base CX0 k fa fd [x] (sp (K w.params)))
    (pr : ∀ (K : PySem.W.Frag) (H : Hp) (a : Addr) (ns : List Int), ns.length ≤ n → (∀ z ∈ ns, Builtin.Int.intBits z ≤ 1048576) → SqL K H a (ns.map V.int) → sp K [.ref a] H (fun v _ => v = .bl true) fun _ _ _ => False) :
    PySem.W.WalkO q loose XP YP l.row.toRowW d [] (fun f vs => PySem.call f vs) := by
  refine Att.attach_callB hn hdf fun w s₀ t mg mb fa o pm cd doc a us ns G Y ho hd hcd hmg at_ iv len bits g0 => ?_
  have KX := hY w _ Y
  obtain ⟨fd, bd, FG⟩ := F w mg fa _ KX G.T.g hmg
  exact lawG KX G.T.g G.T.b G.T.builtins G.T.nolimit g0 at_ iv (Nat.le_trans len hn2) hr FG bd (fun H S => pr (K w.params) H a ns len bits S) fun _ _ _ z => z
/-- the promise of a law that reads its script -/
theorem law_pr {K : PySem.W.Frag} {H : Hp} {a : Addr} {ns : List Int} {ok : List Int → Prop} {m : List Int → Bool} (S : SqL K H a (ns.map V.int)) (h1 : ok ns) (h2 : m ns = true) :
    spF (ι := List Int) (fun d => [eQ K eI d]) (fun d => ok d) (fun d => eB (m d)) [.ref a] H (fun v _ => v = .bl true) fun _ _ _ => False := by
  refine ⟨ns, H, h1, fun _ _ z => z, ⟨⟨a, ns.map V.int, rfl, S, ?_⟩, trivial⟩, fun v F' H' _ _ hv => ?_⟩
  · induction ns with
    | nil => trivial
    | cons z l ih => exact ⟨rfl, ih' l⟩
  · have e : v = V.bl (m ns) := hv
    rw [e, h2]
where ih' {F : Hp} : ∀ l : List Int, All2 (l.map eI) F (l.map V.int)
  | [] => trivial
  | _ :: l => ⟨rfl, ih' l⟩
end Fw
end
section
set_option maxRecDepth 100000
namespace Fw
open PySem L2
section
variable {X : Cx} {CX : CXT} {k : Nat} {f C : Addr} {fd : FuncData} {ps : List Str} {sp : Sp} {E : XK}
/-- repr of a bool, of None or an int -/
def reprB (b : Bool) : Str := if b then "True" else "False"
def rReprB : List V → Hp → VK → Prop := fun xs H Q => ∃ b, xs = [.bl b] ∧ Q (.str (reprB b)) H
theorem call_reprB : CallR X (.builtin "repr") rReprB := by
  intro pins s σ H xs us Q I r h
  obtain ⟨b, e, q⟩ := h
  subst e
  obtain ⟨u, e, ru⟩ := vals1 r
  subst e
  cases (show u = Value.bool b from ru)
  exact PySem.P.repr_of_bool ⟨.str _, H, I.tok _, ⟨_, rfl⟩, q⟩
def reprO : Option Int → Str
  | none => "None"
  | some i => reprI i
def rReprO : List V → Hp → VK → Prop := fun xs H Q => (xs = [.non] ∧ Q (.str "None") H) ∨ ∃ i, xs = [.int i] ∧ i.natAbs.log2 < 1920 ∧ Q (.str (toString i)) H
theorem call_reprO : CallR X (.builtin "repr") rReprO := by
  intro pins s σ H xs us Q I r h
  rcases h with ⟨e, q⟩ | h
  · subst e
    obtain ⟨u, e, ru⟩ := vals1 r
    subst e
    cases (show u = Value.none from ru)
    exact PySem.P.repr_of_none ⟨.str _, H, I.tok _, ⟨_, rfl⟩, q⟩
  · exact SkE.call_repr_int pins s σ H xs us Q I r h
theorem op_eqDK {K : PySem.W.Frag} (hK : X.K = K) (hu : X.A.units + 64 < cLine) : OpR X (compareOp .Eq) (rEqD K) := by subst hK; exact op_eqD hu
theorem op_neDK {K : PySem.W.Frag} (hK : X.K = K) (hu : X.A.units + 64 < cLine) : OpR X (compareOp .NotEq) (rNeD K) := by subst hK; exact op_neD hu
/-- == by an own def -/
structure EqC (K : PySem.W.Frag) (C f : Addr) : Prop where
  at_ : PySem.W.findIn K (.ref C) "__eq__" = some (some (.ref f))
  fn : PySem.W.isFn K (.ref f) = true
def rEqC (K : PySem.W.Frag) (C : Addr) (sp : Sp) (E : XK) : R2 := fun x y H Q => ∃ a dx fs tb, x = .ref a ∧ H a = some (.ins C dx fs) ∧ TyX K H y tb ∧ PySem.W.notFirst K C tb = true ∧ sp [x, y] H (fun v H' => (∃ b, v = .bl b) ∧ Q v H') E
theorem op_eqC {K : PySem.W.Frag} (hK : X.K = K) (F : FnG X.prog X.w X.K X.mg X.base CX k f fd ps sp) (hG : X.A.guards = some []) (hr : Room k X.A) (c : EqC X.K C f) (hb : Binds X.K fd ps []) (hx : Passes CX X E) : OpR X (compareOp .Eq) (rEqC K C sp E) := by
  subst hK
  intro pins s σ H x y v u Q I rx ry h
  obtain ⟨a, dx, fs, tb, e, ea, ty, nf, q⟩ := h
  subst e
  cases (show v = Value.ref a from rx)
  show wpAny (model X.prog X.w) X.A (richCompare .Eq (.ref a) u) (EP X pins σ Q) X.xe s
  obtain ⟨mA, J, _⟩ := ins_get I.hok ea
  obtain ⟨od, J, _⟩ := J.look
  obtain ⟨m, hF⟩ := I.fr
  obtain ⟨P, Z, hP, _⟩ := kit_of I ry ty
  refine PySem.W.cmp_K (op := .Eq) (tb := tb) hr.units0 hF I.ok.mod.kin J (Z.ty _ _ I.kIn hP) nf c.at_ c.fn ?_
  refine wpAny_mono (run_fng (us := [.ref a, u]) (vs := [.ref a, y]) F hG hr hb .nil hx I (.cons rfl (.cons ry .nil)) q) (fun r s' z => ?_) fun _ _ z => z
  obtain ⟨w', H', I', rw', ⟨b, eb⟩, q'⟩ := z
  subst eb
  cases (show r = Value.bool b from rw')
  exact ⟨.bl b, H', I', rfl, q'⟩
end
section
variable {W W' W0 W1 W2 W3 : List Sl} {K : PySem.W.Frag} {ta tb tc te to tl tv : TE} {r ra rb : R} {a b : Bool} {F H F' H' : Hp} {σ : L2.St} {E : XK} {P : Post} {ts uu : TS} {tt : TT}
variable {α β γ δ ρ ι : Type}
theorem es_reprB {b : Bool} (ha : ES ta W W1 (eB b)) : ES (tCB rReprB (tCons ta tNil)) W W1 (eS (reprB b)) := es_cb1 ha fun _ _ q => ⟨b, rfl, q⟩
theorem es_reprO {o : Option Int} (ha : ES ta W W1 (eO eI o)) (h : ∀ i, o = some i → i.natAbs.log2 < 1920) : ES (tCB rReprO (tCons ta tNil)) W W1 (eS (reprO o)) := by
  cases o with
  | none => exact es_cb1 (x := .non) (z := .str "None") ha fun _ _ q => .inl ⟨rfl, q⟩
  | some i => exact es_cb1 (x := .int i) (z := .str (reprI i)) ha fun _ _ q => .inr ⟨i, rfl, h i rfl, q⟩
theorem es_eqC {C : Addr} {fs : List (Str × R)} {as : ι → List R} {ok : ι → Prop} {m : ι → Bool} {t : Value} (d : ι) (ha : ES ta W W1 (eIns C fs)) (hb : ES tb W1 W2 r) (ht : ∀ (F H : Hp) (v : V), Same F H → r.p F v → TyX K H v t) (hn : PySem.W.notFirst K C t = true) (hd : as d = [eIns C fs, r]) (g : ok d) :
    ES (tOp (rEqC K C (spF as ok fun d => eB (m d)) E) ta tb) W W2 (eB (m d)) := fun F H σ Q s k =>
  ha F H σ _ s fun v F1 H1 a1 s1 e1 => hb F1 H1 σ _ s1 fun w F2 H2 a2 s2 e2 => by
    have e1' := (eIns C fs).mono a2.f e1
    obtain ⟨p, dx, gs, h1, h2, h3, h4⟩ := id e1'
    refine ⟨p, dx, gs, t, h1, s2.ex _ _ h2, ht F2 H2 w s2.ex e2, hn, d, F2, g, s2.ex, by rw [hd]; exact ⟨e1', e2, trivial⟩, fun z F3 H3 q e3 hz => ⟨⟨m d, hz⟩, k z F3 H3 ((a1.trans a2).trans q.pure) (s2.pure q e3) hz⟩⟩
/-- a property that reads a field -/
theorem es_prop {C : Addr} {fs : List (Str × R)} {f : Str} (ha : ES ta W W1 (eIns C fs)) (hf : fs.lookup f = some r) : ES (tProp C (getSp C f) [] E ta) W W1 r := fun F H σ Q s k =>
  ha F H σ _ s fun v F1 H1 a1 s1 ⟨p, dx, gs, h1, h2, h3, h4⟩ => by
    obtain ⟨w, z1, z2⟩ := ins_look h3 h4 hf
    exact ⟨p, dx, gs, h1, s1.ex _ _ h2, p, dx, gs, w, rfl, s1.ex _ _ h2, z1, k w F1 H1 a1 s1 z2⟩
/-- {} -/
def eD0 : R := ⟨fun F v => ∃ p, v = .ref p ∧ F p = some (.dK []), fun e ⟨p, h1, h2⟩ => ⟨p, h1, e _ _ h2⟩⟩
theorem es_dnew : ES tDNewK W W eD0 := fun F H σ Q s k p hp => by
  have ex : Same H (upd H p (.dK [])) := fun a o z => by rw [upd_ne (ne_of_none z hp)]; exact z
  have np : ¬ Own W σ p := not_own s hp
  have fp : F p = none := s.ex.free hp
  exact k _ _ _ ((Rel.grow ex).freeze (.inl hp) fp) ((s.grow ex).freeze upd_same fp np) ⟨p, rfl, upd_same⟩
theorem ty_dn : ∀ (F H : Hp) (v : V), Same F H → eD0.p F v → TyX K H v (.type "dict") := fun F H v e ⟨p, h1, h2⟩ => by
  subst h1; exact .base (.dK (e _ _ h2))
theorem ty_non : ∀ (F H : Hp) (v : V), Same F H → eN.p F v → TyX K H v (.type "NoneType") := fun F H v e h => by
  have e' : v = V.non := h
  subst e'; exact .base .non
/-- what is there of an Option -/
def unO [Inhabited α] (o : Option α) : α := o.getD default
theorem es_unO [Inhabited α] {e : α → R} {o : Option α} (h : ES te W W1 (eO e o)) (g : o.isSome = true) : ES te W W1 (e (unO o)) := by
  cases o with
  | none => cases g
  | some x => exact h
class NotN (e : α → R) : Prop where
  no : ∀ F x v, (e x).p F v → v ≠ .non
instance : NotN eI := ⟨fun F x v h e => by have h' : v = V.int x := h; rw [h'] at e; cases e⟩
theorem et_isN {e : α → R} [N : NotN e] {o : Option α} (h : ES te W W1 (eO e o)) : ET (tB (tIsN te)) W W1 (!o.isSome) := fun F H σ Q s k =>
  h F H σ _ s fun v F1 H1 a1 s1 e1 => by
    refine ⟨_, rfl, ?_⟩
    have eq : decide (v = .non) = (!o.isSome) := by
      cases o with
      | none => exact decide_eq_true (show v = .non from e1)
      | some x => exact decide_eq_false (N.no _ _ _ e1)
    rw [eq]; exact k F1 H1 a1 s1
theorem et_notN {e : α → R} [N : NotN e] {o : Option α} (h : ES te W W1 (eO e o)) : ET (tB (tNotN te)) W W1 o.isSome := fun F H σ Q s k =>
  h F H σ _ s fun v F1 H1 a1 s1 e1 => by
    refine ⟨_, rfl, ?_⟩
    have eq : (!decide (v = .non)) = o.isSome := by
      cases o with
      | none => rw [decide_eq_true (show v = .non from e1)]; rfl
      | some x => rw [decide_eq_false (N.no _ _ _ e1)]; rfl
    rw [eq]; exact k F1 H1 a1 s1
theorem es_nilc {e : α → R} {f : β → R} {l : List α} (h : ES te W W1 (eLs e l)) (z : l = []) : ES te W W1 (eLs f []) := by subst z; exact h
/-- a cut: the rest by a name of its own -/
theorem ss_cut (Q : α → Post) {v v' : α} (e : v = v') (h : SS ts W (Q v')) : SS ts W (Q v) := e ▸ h
abbrev NX (Q : α → Post) : α → Post := fun v => noNx (Q v)
def LF (mk : β → List Sl) (rt : List Sl → R → Prop) (v : β) : Post := ⟨fun W' => Wk W' (mk v), rt, fun _ => False, fun W' => Wk W' (mk v)⟩
theorem ss_LF {mk : β → List Sl} {v : β} {rt : List Sl → R → Prop} (h : SS ts W (LF mk rt v)) : SS ts W ⟨fun W' => Wk W' (mk v), rt, fun _ => False, fun W' => Wk W' (mk v)⟩ := h
end
end Fw
end
section
set_option maxRecDepth 100000
namespace Fw
open PySem L2
abbrev Trip := Int × Int × Int
/-- values of other kinds -/
def eOdd (K : PySem.W.Frag) : Nat × Trip → R
  | (0, _) => eN
  | (1, _) => eI 0
  | (2, _) => eB true
  | (3, _) => eS (Str.ofString "")
  | (4, t) => eP3 K eI eI eI t
  | (5, t) => eLs eI [t.1, t.2.1, t.2.2]
  | (_, _) => eD0
def tyO : Nat × Trip → String
  | (0, _) => "NoneType"
  | (1, _) => "int"
  | (2, _) => "bool"
  | (3, _) => "str"
  | (4, _) => "tuple"
  | (5, _) => "list"
  | (_, _) => "dict"
structure OddNo (K : PySem.W.Frag) (C : Addr) : Prop where
  cls : PySem.W.isClsIn K C = true
  typ : PySem.W.typeIn K (.ref C) = some (.type "type")
  s0 : PySem.W.subIn K (.type "NoneType") (.ref C) = some false
  s1 : PySem.W.subIn K (.type "int") (.ref C) = some false
  s2 : PySem.W.subIn K (.type "bool") (.ref C) = some false
  s3 : PySem.W.subIn K (.type "str") (.ref C) = some false
  s4 : PySem.W.subIn K (.type "tuple") (.ref C) = some false
  s5 : PySem.W.subIn K (.type "list") (.ref C) = some false
  s6 : PySem.W.subIn K (.type "dict") (.ref C) = some false
section
variable {K : PySem.W.Frag} {C : Addr}
theorem OddNo.sub (N : OddNo K C) : ∀ x : Nat × Trip, PySem.W.subIn K (.type (tyO x)) (.ref C) = some false
  | (0, _) => N.s0
  | (1, _) => N.s1
  | (2, _) => N.s2
  | (3, _) => N.s3
  | (4, _) => N.s4
  | (5, _) => N.s5
  | (_ + 6, _) => N.s6
theorem ty_odd : ∀ (x : Nat × Trip) (F H : Hp) (v : V), Same F H → (eOdd K x).p F v → TyX K H v (.type (tyO x))
  | (0, _) => ty_non
  | (1, _) => ty_int
  | (2, _) => ty_bl
  | (3, _) => ty_str
  | (4, _) => ty_tup
  | (5, _) => ty_lst
  | (_ + 6, _) => ty_dn
theorem kit_odd (N : OddNo K C) (x : Nat × Trip) : PySem.W.kitOne K (.type (tyO x)) (.ref C) = some false := by
  have h : PySem.W.kitCls K (.type (tyO x)) (.ref C) = some false := by
    unfold PySem.W.kitCls
    dsimp only
    have hc : (PySem.W.clsIn K C).isSome = true := N.cls
    rw [hc, N.typ, if_pos (by simp)]
    exact N.sub x
  show (if (Value.type (tyO x) == Value.ref C) = true then some true else PySem.W.kitCls K (.type (tyO x)) (.ref C)) = some false
  rw [h]; rfl
theorem nf_odd (N : OddNo K C) (x : Nat × Trip) : PySem.W.notFirst K C (.type (tyO x)) = true := by
  unfold PySem.W.notFirst
  rw [N.sub x]; simp
theorem nf_self : PySem.W.notFirst K C (.ref C) = true := by
  unfold PySem.W.notFirst
  rw [show (Value.ref C == Value.ref C) = true from beq_self_eq_true _]; rfl
end
/-- a list of three ints and a bool -/
def eLm (x : Int × Int × Int × Bool) : R := eL [eI x.1, eI x.2.1, eI x.2.2.1, eB x.2.2.2]
instance {K : PySem.W.Frag} : DatE K eLm where
  d := fun x => .list [.int x.1, .int x.2.1, .int x.2.2.1, .bool x.2.2.2]
  dep := 1
  ok := fun f ⟨p, xs, h1, h2, h3⟩ => by
    subst h1
    match xs, h3 with
    | [x, y, z, b], h3 =>
      obtain ⟨e1, e2, e3, e4, _⟩ := h3
      cases (show x = V.int _ from e1)
      cases (show y = V.int _ from e2)
      cases (show z = V.int _ from e3)
      cases (show b = V.bl _ from e4)
      exact .lst (.inl (.inl (f _ _ h2))) (.cons (.int _) (.cons (.int _) (.cons (.int _) (.cons (.bl _) .nil))))
    | [], h3 => exact h3.elim
    | [_], h3 => exact h3.2.elim
    | [_, _], h3 => exact h3.2.2.elim
    | [_, _, _], h3 => exact h3.2.2.2.elim
    | _ :: _ :: _ :: _ :: _ :: _, h3 => exact h3.2.2.2.2.elim
  lay := fun x => by simp [PyData.canLay0, PyData.canLayAll0]
  dpt := fun x => by simp [PyData.depth, PyData.depthAll]
  eqv := fun x y => by
    obtain ⟨x1, x2, x3, x4⟩ := x
    obtain ⟨y1, y2, y3, y4⟩ := y
    simp [PyData.eqv, PyData.eqvAll]
  nod := fun x => by simp [PyData.hasDict, PyData.hasDictAll]
def optD {α : Type} (f : α → PyData) (o : Option α) : PyData := match o with
  | none => .none
  | some x => f x
instance {K : PySem.W.Frag} : DatE K (eO eI) where
  d := fun o => optD .int o
  dep := 0
  ok := fun {F H v x} f h => by
    cases x with
    | none =>
      cases (show v = V.non from h)
      exact .non
    | some i =>
      cases (show v = V.int i from h)
      exact .int i
  lay := fun x => by cases x <;> rfl
  dpt := fun x => by cases x <;> simp [optD, PyData.depth]
  eqv := fun x y => by cases x <;> cases y <;> simp [optD, PyData.eqv]
  nod := fun x => by cases x <;> rfl
section
variable {W W' W0 W1 W2 W3 : List Sl} {te : TE} {α : Type}
theorem es_upO {e : α → R} {l : List α} (h : ES te W W1 (eLs e l)) : ES te W W1 (eLs (eO e) (l.map some)) := by
  have q : (l.map some).map (eO e) = l.map e := by rw [List.map_map]; rfl
  unfold eLs
  rw [q]; exact h
theorem es_frm {x : Int × Int × Int × Bool} (h : ESN te W W1 (oL [eI x.1, eI x.2.1, eI x.2.2.1, eB x.2.2.2])) : ES te W W1 (eLm x) := es_fr h
def reprF (d : PyData) : Str := d.shown
def ReprF (d : PyData) : Prop := d.showable = true ∧ d.shown.length ≤ sizeLine
theorem es_reprF {K : PySem.W.Frag} {e : α → R} [D : DatE K e] {x : α} {d : PyData} (ha : ES te W W1 (e x)) (h : ReprF d) (hd : D.d x = d) (hv : ∀ F v, (e x).p F v → ∃ a, v = .ref a) (z : D.dep ≤ 60) : ES (tCB (rReprD K) (tCons te tNil)) W W1 (eS (reprF d)) := by
  subst hd
  exact es_reprD ha h hv z
end
end Fw
end
section
set_option maxRecDepth 100000
namespace Fw
open PySem L2
/-! texts of ints and lists of ints are short -/
theorem shown_int {i : Int} {k : Nat} (hk : 0 < k) (h : i.natAbs.log2 < k) : (PyData.shown (.int i)).length ≤ k + 1 := by
  have e : PyData.shown (.int i) = Str.ofString (toString i) := rfl
  rw [e]
  have := int_text_length_le hk h
  rw [ofString_length]; exact this
theorem leaves_ints {k : Nat} (hk : 0 < k) : ∀ {l : List Int}, (∀ i ∈ l, i.natAbs.log2 < k) → PyData.leavesShortAll (k + 1) (l.map fun y => PyData.int y) = true
  | [], _ => rfl
  | i :: l, h => by
    have h1 := shown_int hk (h i (List.mem_cons_self ..))
    have h2 := leaves_ints hk (l := l) fun j hj => h j (List.mem_cons_of_mem _ hj)
    show (decide ((PyData.shown (.int i)).length ≤ k + 1) && PyData.leavesShortAll (k + 1) (l.map fun y => PyData.int y)) = true
    rw [h2, decide_eq_true h1]; rfl
theorem bulk_ints : ∀ l : List Int, PyData.bulkAll (l.map fun y => PyData.int y) = l.length
  | [] => rfl
  | i :: l => by
    show 0 + 1 + PyData.bulkAll (l.map fun y => PyData.int y) = l.length + 1
    rw [bulk_ints l]; omega
theorem show_ints {l : List Int} (h : ∀ i ∈ l, i.natAbs.log2 < 1000) : PyData.showableAll (l.map fun y => PyData.int y) = true := by
  induction l with
  | nil => rfl
  | cons i l ih =>
    show (decide (i.natAbs.log2 < 1920) && PyData.showableAll (l.map fun y => PyData.int y)) = true
    have h1 := h i (List.mem_cons_self ..)
    rw [ih fun j hj => h j (List.mem_cons_of_mem _ hj), decide_eq_true (by omega)]; rfl
theorem repr_ints {l : List Int} (h : ∀ i ∈ l, i.natAbs.log2 < 1000) (hl : l.length ≤ 10000) : ReprF (PyData.list (List.map (fun y : Int => PyData.int y) l)) := by
  refine ⟨show_ints h, Nat.le_trans (PyData.shown_le_bulk 1001 (by decide) _ (leaves_ints (k := 1000) (by decide) h)) ?_⟩
  show (1001 + 2) * PyData.bulkAll (l.map fun y => PyData.int y) + 1001 ≤ sizeLine
  rw [bulk_ints, sizeLine_eq]
  omega
end Fw
end
section
set_option maxRecDepth 100000
namespace FwLong
open PySem
open Sem (wp)
section
variable {prog : Program} {w : World} {A : Around} {E : Value → Shared → Prop} {z : Shared}
abbrev lit (a b c : Int) : Obj := { cls := .type "longrange_iterator", data := .fields #[rawInt a, rawInt (Builtin.Range.rangeSize a b c), rawInt c] }
/-- a list takes the items of a range of far numbers -/
theorem ext_long {R : Result → Shared → Prop} {r : Addr} {a b c : Int} {t u v : Tok} {n : Nat} (calm : A.handled = none) (rg : IsRange z.heap r a b c t u v) (big : Builtin.Range.small a b c = false)
    (sz : Builtin.Range.rangeSize a b c = n) (few : n ≤ 2 ^ 24) (L : Addr) (res : Value) (k0 : Nat) (lst : z.heap.get? L = some { cls := .type "list", data := .seq #[] k0 })
    (go : ∀ g tk xs k, (∀ b o, b ≠ L → z.heap.get? b = some o → g.get? b = some o) → g.get? L = some { cls := .type "list", dict := none, data := .seq xs k, slots := #[] } →
      ItemsOf (fun i v => ∃ t, v = .int (a + i * c) t) xs n → R (.ok (.ret res)) { z with heap := g, toks := tk }) :
    wpAny (model prog w) A.in1 (Builtin.List.listExtendWith (.ref L) (.ref r) res)
      (fun f s' => match f with | .done f => R (.ok f) s' | .again c' => c'.quiet = true ∧ codeAny (model prog w) A c' R s') (fun e s' => R (.error e) s') z := by
  have nLr : L ≠ r := fun e => by rw [e, rg] at lst; simp at lst
  have ltL : L < z.heap.objs.size := Heap.lt_size lst
  have nLI : L ≠ z.heap.objs.size := Nat.ne_of_lt ltL
  have nin : L ∉ [z.heap.objs.size] := fun m => nLI (List.mem_singleton.mp m)
  have Wz := (Walks.longrange (prog := prog) (w := w) (A := A.in1) calm z.heap.objs.size a c n).toS
  have turn : ∀ (g : Heap) (k1 tk : Nat), IsLongIter g z.heap.objs.size (a + ((0 : Nat) : Int) * c) ((n : Int) - ((0 : Nat) : Int)) c → (∀ b o, b ≠ L → z.heap.get? b = some o → g.get? b = some o) →
      g.get? L = some { cls := .type "list", data := .seq #[] k1 } → codeAny (model prog w) A (.builtin "list.extend.loop" ⟨[.ref L, .ref z.heap.objs.size, res], []⟩) R { z with heap := g, toks := tk } := fun g k1 tk it keep at1 => by
    refine codeAny_extend_loopS Wz (by rw [sizeLine_eq]; omega) L nin res n 0 _ #[] k1 rfl (Nat.zero_le _) it at1 (ItemsOf.nil _) fun y xs k2 mv at2 its => ?_
    rw [Moved.eq_with mv]
    refine go y.heap y.toks xs k2 (fun b o nb e => mv.heap b o (fun m => ?_) (keep b o nb e)) at2 its
    rcases List.mem_cons.mp m with e' | m
    · exact nb e'
    · exact absurd (Heap.lt_size e) (by rw [List.mem_singleton.mp m]; exact Nat.lt_irrefl _)
  unfold Builtin.List.listExtendWith
  refine wpAny_bind (wpAny_typeOf (T := "range") ⟨_, rg, rfl⟩ ?_)
  have q1 : Builtin.List.listSameRef (.ref L) (.ref r) = false := by simp [Builtin.List.listSameRef, nLr]
  have q2 : (Value.type "range" == Value.type "list") = false := by decide
  have q3 : (Value.type "range" == Value.type "tuple") = false := by decide
  simp only [q1, q2, q3, Bool.or_false, Bool.false_eq_true, if_false]
  refine wpAny_bind (wpAny_pyIter_longrange rg big (wpAny_bind (wpAny_holding (wpAny_hint_range (n := n) (Heap.get?_push_of_some _ rg) sz few ?_))))
  have it1 : IsLongIter (z.heap.push (lit a b c)) z.heap.objs.size (a + ((0 : Nat) : Int) * c) ((n : Int) - ((0 : Nat) : Int)) c := by
    unfold lit; show IsLongIter _ _ _ _ _; rw [sz]; simpa using Heap.get?_push_size _ rfl
  have at1 := Heap.get?_push_of_some (lit a b c) lst
  refine wpAny_ite_split (fun _ => ?_) (fun _ => wpAny_pure ⟨plainId_quiet F.plain_extend_loop _, turn _ k0 _ it1 (fun b o _ e => Heap.get?_push_of_some _ e) at1⟩)
  refine wpAny_bind (wpAny_rule (wpAny_bind ?_))
  show wpAny _ _ (updateSeq L (·.push .none) >>= fun _ => updateSeq L (·.pop)) _ _ _
  have at2 := Heap.get?_update_self (Obj.mapSeq (·.push Value.none)) at1 rfl
  have at3 := Heap.get?_update_self (Obj.mapSeq (·.pop)) at2 rfl
  refine wpAny_bind (wpAny_updateSeq at1 rfl (wpAny_updateSeq (hz := by seq_fits) at2 rfl (wpAny_pure ⟨plainId_quiet F.plain_extend_loop _, turn _ _ _ ?_ (fun b o nb e => ?_) at3⟩)))
  · exact Eq.trans (Heap.get?_update_other _ _ nLI) (Eq.trans (Heap.get?_update_other _ _ nLI) it1)
  · exact Eq.trans (Heap.get?_update_other _ _ (Ne.symm nb)) (Eq.trans (Heap.get?_update_other _ _ (Ne.symm nb)) (Heap.get?_push_of_some _ e))
theorem init_long {R : Result → Shared → Prop} {r : Addr} {a b c : Int} {t u v : Tok} {n : Nat} (calm : A.handled = none) (rg : IsRange z.heap r a b c t u v) (big : Builtin.Range.small a b c = false)
    (sz : Builtin.Range.rangeSize a b c = n) (few : n ≤ 2 ^ 24) (L : Addr) (lst : z.heap.get? L = some { cls := .type "list", data := .seq #[] })
    (go : ∀ g tk xs k, (∀ b o, b ≠ L → z.heap.get? b = some o → g.get? b = some o) → g.get? L = some { cls := .type "list", dict := none, data := .seq xs k, slots := #[] } →
      ItemsOf (fun i v => ∃ t, v = .int (a + i * c) t) xs n → R (.ok (.ret .none)) { z with heap := g, toks := tk }) :
    wpAny (model prog w) A.in1 (Builtin.«list.__init__» ⟨[.ref L, .ref r], []⟩)
      (fun f s' => match f with | .done f => R (.ok f) s' | .again c' => c'.quiet = true ∧ codeAny (model prog w) A c' R s') (fun e s' => R (.error e) s') z := by
  have nLr : L ≠ r := fun e => by rw [e, rg] at lst; simp at lst
  show wpAny _ _ (do let old ← Builtin.List.listItems (.ref L); Builtin.List.listUpdate (.ref L) (fun _ => #[]); letGo old.toList.reverse; Builtin.List.listExtendWith (.ref L) (.ref r) .none) _ _ z
  unfold Builtin.List.listItems
  refine wpAny_bind (wpAny_bind (wpAny_seqItems lst rfl (wpAny_pure ?_)))
  show wpAny _ _ (updateSeq L (fun _ => #[]) >>= fun _ => letGo (#[] : Array Value).toList.reverse >>= fun _ => Builtin.List.listExtendWith (.ref L) (.ref r) .none) _ _ z
  have at2 := Heap.get?_update_self (Obj.mapSeq (fun _ => (#[] : Array Value))) lst rfl
  have off : ∀ b o, b ≠ L → z.heap.get? b = some o → (z.heap.update L (Obj.mapSeq (fun _ => (#[] : Array Value)))).get? b = some o := fun b o nb e => Eq.trans (Heap.get?_update_other _ _ (Ne.symm nb)) e
  refine wpAny_bind (wpAny_updateSeq lst rfl (wpAny_bind (wpAny_letGo ?_)))
  refine ext_long calm (off r _ (Ne.symm nLr) rg) big sz few L .none _ at2 fun g tk xs k keep at3 its => go g tk xs k (fun b o nb e => keep b o nb (off b o nb e)) at3 its
theorem call_long {Q : Value → Shared → Prop} {r : Addr} {a b c : Int} {t u v : Tok} {n : Nat} (calm : A.handled = none) (rg : IsRange z.heap r a b c t u v) (sz : Builtin.Range.rangeSize a b c = n) (few : n ≤ 2 ^ 24)
    (go : ∀ g tk xs k, (∀ b o, z.heap.get? b = some o → g.get? b = some o) → g.get? z.heap.objs.size = some { cls := .type "list", dict := none, data := .seq xs k, slots := #[] } →
      ItemsOf (fun i v => ∃ t, v = .int (a + i * c) t) xs n → Q (.ref z.heap.objs.size) { z with heap := g, toks := tk }) : wpAny (model prog w) A (call (.type "list") [.ref r]) Q E z := by
  cases big : Builtin.Range.small a b c with
  | true => exact call_list_range calm rg big sz few go
  | false =>
    refine callType_codes (Q₁ := fun x y => x = .ref z.heap.objs.size ∧ y = { z with heap := z.heap.push { cls := .type "list", data := .seq #[] } }) F.called_list (F.typeCall_list_1 _) F.entry_list_init (code_list_new _ ⟨rfl, rfl⟩) fun x y h => ?_
    obtain ⟨e1, e2⟩ := h
    subst e1 e2
    have at1 : (z.heap.push { cls := .type "list", data := .seq #[] }).get? z.heap.objs.size = some { cls := .type "list", data := .seq #[] } := Heap.get?_push_size _ rfl
    exact ⟨⟨_, at1, rfl⟩, F.args_list_init_2 _ _, init_long (A := A.in1) calm (Heap.get?_push_of_some _ rg) big sz few _ at1 fun g tk xs k keep at2 its => ⟨rfl, go g tk xs k (fun b o e => keep b o (Nat.ne_of_lt (Heap.lt_size e)) (Heap.get?_push_of_some _ e)) at2 its⟩⟩
end
end FwLong
namespace Fw
open PySem L2 PySem.Spec PyProof.Rows
section
variable {X : Cx} {e : Expr} {te : L2.St → Hp → (Int → Int → Hp → Prop) → Prop}
def tLstRgF (te : L2.St → Hp → (Int → Int → Hp → Prop) → Prop) : TE := fun σ H Q => te σ H fun a b H1 => (b - a).toNat ≤ 2 ^ 24 ∧ ∀ q, H1 q = none → Q (.ref q) (upd H1 q (.lst (rgV a b)))
/-- list(range(a, b)), however far the numbers are -/
theorem pe_listRgF {p pos : Pos} (hc : X.calm = true) (hg : Gl X "list") (hm : X.mg "list" = none) (he : PRg X e te) (na : starEach [e] X.env = (false, eval e X.env) :: starEach [] X.env := by rfl) : PE X (.Call (.Name "list" p) [e] [] pos) (tLstRgF te) := by
  refine ⟨fun pins s σ H Q I h => Call_ (ld_blt I hg hm boot_list (PyProof.Rows.callWith_type1 (args_cons (thn (he pins s σ H _ I h) fun x s1 ⟨r, a, b, t, u, v, H1, ex, hr, I1, few, q⟩ => args_nil ?_) na) na))⟩
  subst ex
  refine FwLong.call_long (n := (b - a).toNat) (I1.ok.hd hc) hr (rangeSize_nat a b) few fun g tk xs k keep e' hi => ?_
  have lay : ObjOk X.prog X.w (upd H1 s1.heap.objs.size (.lst (rgV a b))) g s1.heap.objs.size (.lst (rgV a b)) := ⟨by rw [rgV_length, sizeLine_eq]; omega, xs.toList, k, vals_rg hi, by rw [Array.toArray_toList]; exact e'⟩
  exact ⟨.ref s1.heap.objs.size, _, I1.laid keep (Nat.le_refl _) lay, rfl, q _ (I1.hok.fresh (Nat.le_refl _))⟩
variable {W W1 W2 : List Sl} {ta tb : TE}
theorem en_listRgF {a b : Int} (ha : ES ta W W1 (eI a)) (hb : ES tb W1 W2 (eI b)) (c : (b - a).toNat ≤ 2 ^ 24) : ESN (tLstRgF (tRg2 ta tb)) W W2 (oL ((rng a b).map eI)) := fun F H σ Q s k =>
  ha F H σ _ s fun v F1 H1 a1 s1 e1 => hb F1 H1 σ _ s1 fun w F2 H2 a2 s2 e2 => by
    cases (show v = V.int a from e1)
    cases (show w = V.int b from e2)
    refine ⟨a, b, rfl, rfl, c, fun q hq => ?_⟩
    have ex : Same H2 (upd H2 q (.lst (rgV a b))) := fun x o z => by rw [upd_ne (ne_of_none z hq)]; exact z
    exact k q _ F2 _ ((a1.trans a2).trans (Rel.grow ex)) (s2.grow ex) ((a1.trans a2).t _ hq) upd_same (s2.ex.free hq) (not_own s2 hq) ⟨nofun, _, rfl, by rw [rgV_rng]; exact all2_of_ints _⟩
theorem en_catO {α : Type} {e : α → R} {l m : List α} {i : Nat} {q : Option Addr} (h0 : W[i]? = some (.ow (oLq q (l.map e)))) (hb : ES tb W W2 (eLs e m)) (h2 : W2[i]? = some (.ow (oLq q (l.map e)))) (c : l.length + m.length ≤ 16000000) : ESN (tOp rCat (tVar i) tb) W W2 (oL ((l ++ m).map e)) := fun F H σ Q s k => by
  obtain ⟨p, o, e0, _⟩ := s.ow i _ h0
  refine ⟨.ref p, e0, hb F H σ _ s fun w F2 H2 a2 s2 ⟨b, ys, g1, g2, g3⟩ => ?_⟩
  subst g1
  obtain ⟨p', o', e0', z1, z2, ⟨_, xs, eo, z3⟩⟩ := s2.ow i _ h2
  subst eo
  have ep : p' = p := by rw [e0] at e0'; cases e0'; rfl
  subst ep
  have e1 := z3.len
  have e2 := g3.len
  rw [List.length_map] at e1 e2
  refine ⟨p', b, xs, ys, rfl, rfl, z1, s2.ex _ _ g2, Nat.le_trans (by rw [e1, e2]; exact c) (by decide), fun l' hl => ?_⟩
  have ex : Same H2 (upd H2 l' (.lst (xs ++ ys))) := fun a o q => by rw [upd_ne (ne_of_none q hl)]; exact q
  refine k l' _ F2 _ (a2.trans (Rel.grow ex)) (s2.grow ex) (a2.t _ hl) upd_same (s2.ex.free hl) (not_own s2 hl) ⟨nofun, _, rfl, ?_⟩
  rw [List.map_append]
  exact z3.app g3
end
end Fw
end
section
set_option maxRecDepth 100000
namespace FwSet
open PySem L2 PySem.Spec PyProof.Rows
section
variable {P : Program} {w : World} {A : Around} {E : Value → Shared → Prop} {z : Shared}
abbrev set0 (w : World) : Obj := { cls := .type "set", dict := none, data := .set #[] 0 (.fresh 0 0 (!w.params.followText "set-order")) }
set_option maxHeartbeats 3200000 in
/-- set(xs) of a list of ints -/
theorem set_list {l : Addr} {xs : Array Value} (ns : List Int) {Q : Value → Shared → Prop} (calm : A.handled = none) (at_ : z.heap.IsList l xs) (iv : IntsAre xs.toList ns) (few : ns.length + 1 < scanBound)
    (go : ∀ (g : Heap) (tk c : Nat), SetR w g z.heap.objs.size (fun j => decide (j ∈ ns)) c → c ≤ ns.length → (∀ b o, z.heap.get? b = some o → g.get? b = some o) → Q (.ref z.heap.objs.size) { z with heap := g, toks := tk }) :
    wpAny (model P w) A (call (.type "set") [.ref l]) Q E z := by
  have sz : xs.size = ns.length := by have q := IntsAre.length iv; rwa [Array.length_toList] at q
  obtain ⟨c, tl, mro⟩ := F.called_set.mro
  have made := F.called_set.made; have sub := F.called_set.sub
  refine wpAny_call (codeAny_of_tree ?_)
  show wpAny _ _ (callAny (.type "set") _) _ _ _
  refine wpAny_pure ⟨Code.quiet_builtin _ (by decide +kernel), codeAny_builtin F.entry_type_call ?_⟩
  rw [Around.under_plain (weight_type_call_type "set" [.ref l] []) rfl]
  have h1 := F.called_set.notType; have h2 := F.called_set.canCreate; have h3 := F.typeCall_set_1 (.ref l)
  repeat (any_goals (first | assumption | wp_step))
  refine codeAny_mono (code_set_led1 (.ref l) (E := E) (Q₁ := fun o y => o = .ref z.heap.objs.size ∧ y = { z with heap := z.heap.push (set0 w) }) ⟨rfl, rfl⟩) fun r y hr => ?_
  match r, hr with
  | .error e, hr => exact hr
  | .ok (.ret o), hr =>
    obtain ⟨e1, e2⟩ := hr
    subst e1 e2
    have atS : (z.heap.push (set0 w)).get? z.heap.objs.size = some (set0 w) := Heap.get?_push_size _ rfl
    have hT : Shared.TypeIs { z with heap := z.heap.push (set0 w) } (.ref z.heap.objs.size) "set" := ⟨_, atS, rfl⟩
    have li := F.called_set.init.lookup; have bi := F.called_set.init.bind (.ref z.heap.objs.size)
    repeat (any_goals (first | assumption | wp_step))
    refine codeAny_mono (codeAny_call_builtin (R := wants (fun r y => r = .none ∧ ∃ g tk c, y = { z with heap := g, toks := tk } ∧ SetR w g z.heap.objs.size (fun j => decide (j ∈ ns)) c ∧ c ≤ ns.length ∧ (∀ b o, z.heap.get? b = some o → g.get? b = some o)) E) F.called_set.init.plain F.entry_set_init (check_set_init_1 hT ?_)) fun r y hr => ?_
    · obtain ⟨ob, at1, hc, n1, hd⟩ := at_
      obtain ⟨cl, dd, dt, sl⟩ := ob
      simp only at hc hd
      subst hc; subst hd
      have at2 : (z.heap.push (set0 w)).get? l = some { cls := .type "list", dict := dd, data := .seq xs n1, slots := sl } := Heap.get?_push_of_some _ at1
      have s1 := F.sub_list_set; have s2 := F.sub_list_frozenset
      have nd : (Value.type "list" == Value.type "dict") = false := by decide
      have L1 : (z.heap.push (set0 w)).IsList l xs := ⟨_, at2, rfl, n1, rfl⟩
      unfold Builtin.«set.__init__» noKeywords Builtin.Frozenset.updateFrom
      generalize eI : pyIter = PI
      wp_walk
      subst eI
      refine wpAny_pyIter_list L1 (wpAny_bind (wpAny_runValue ?_))
      have lt : l < z.heap.objs.size := Heap.lt_size at1
      have calm3 : A.in1.in1.in1.handled = none := by simp [calm]
      have nI : l ≠ (z.heap.push (set0 w)).objs.size := by rw [Heap.size_push]; exact Nat.ne_of_lt (Nat.lt_succ_of_lt lt)
      have nS : z.heap.objs.size ∉ [(z.heap.push (set0 w)).objs.size, l] := by
        rw [Heap.size_push]
        intro m
        rcases List.mem_cons.mp m with e | m
        · exact absurd e (Nat.ne_of_lt (Nat.lt_succ_self _))
        · exact absurd (List.mem_singleton.mp m) (Nat.ne_of_gt lt)
      have vals : ∀ (i : Nat) (v : Value), xs[i]? = some v → ∃ k t, ns[i]? = some k ∧ v = .int k t := fun i v hv => by
        have hi : i < ns.length := by rw [← sz]; exact (Array.getElem?_eq_some_iff.mp hv).1
        obtain ⟨t, e⟩ := PyProof.Rows.IntsAre.int_at iv i v (by rw [Array.getElem?_toList]; exact hv)
        refine ⟨ns[i], t, List.getElem?_eq_getElem hi, ?_⟩
        rw [e, List.getD_eq_getElem?_getD, List.getElem?_eq_getElem hi] <;> rfl
      have atS2 : ((z.heap.push (set0 w)).push { cls := .type "list_iterator", data := .fields #[.ref l, .int 0 0] }).get? z.heap.objs.size = some (set0 w) := Heap.get?_push_of_some _ atS
      refine set_update_ints ((Walks.list calm3 _ l nI xs).toS) z.heap.objs.size nS ns sz few vals (xs.size - 0) 0 _ (by omega) (Nat.zero_le _) ⟨⟨_, Heap.get?_push_size _ rfl, rfl, rfl⟩, (L1.push _)⟩ ⟨0, Nat.le_refl 0, setR_new_at atS2⟩ fun y c' mv hc' R => ?_
      obtain ⟨g, g2, d', tk', os'⟩ := y
      have q1 : g2 = z.gens := mv.gens
      have q2 : d' = z.drawn := mv.drawn
      have q3 : os' = z.os := mv.os
      subst q1; subst q2; subst q3
      show wpAny _ _ _ _ _ _
      refine wpAny_pure ?_
      show wpAny _ _ (ret Value.none) _ _ _
      rw [sz] at hc'
      refine wpAny_pure ⟨rfl, g, tk', c', rfl, R, hc', fun b o e => ?_⟩
      have b0 : b < z.heap.objs.size := Heap.lt_size e
      refine mv.heap b o (fun m => ?_) (Heap.get?_push_of_some _ (Heap.get?_push_of_some _ e))
      rcases List.mem_cons.mp m with e' | m
      · exact absurd e' (Nat.ne_of_lt b0)
      · have e' := List.mem_singleton.mp m
        rw [Heap.size_push] at e'
        exact absurd e' (Nat.ne_of_lt (Nat.lt_succ_of_lt b0))
    · match r, hr with
      | .error e, hr => exact hr
      | .ok (.ret r), hr =>
        obtain ⟨e1, g, tk, c, e2, R, hc, keep⟩ := hr
        subst e1 e2
        repeat (any_goals (first | assumption | wp_step))
        exact go _ _ _ R hc keep
      | .ok .next, hr => exact hr.elim
      | .ok .brk, hr => exact hr.elim
      | .ok .cont, hr => exact hr.elim
  | .ok .next, hr => exact hr.elim
  | .ok .brk, hr => exact hr.elim
  | .ok .cont, hr => exact hr.elim
end
end FwSet
end
section
set_option maxRecDepth 100000
namespace Fw
open PySem L2 PySem.Spec PyProof.Rows
section
variable {X : Cx}
def rSetL (K : PySem.W.Frag) (w : World) : List V → Hp → VK → Prop := fun xs H Q => ∃ (l : Addr) (ns : List Int), xs = [.ref l] ∧ SqL K H l (ns.map V.int) ∧ ns.length ≤ 60 ∧ ∀ p c, H p = none → c ≤ ns.length → Q (.ref p) (upd H p (SetO w p (fun j => decide (j ∈ ns)) c))
theorem cr_setL {K : PySem.W.Frag} {w : World} (hK : X.K = K) (hw : X.w = w) (hc : X.calm = true) : CallR X (.type "set") (rSetL K w) := by
  subst hK hw
  intro pins s σ H xs us Q I r h
  obtain ⟨l, ns, e, hs, few, q⟩ := h
  subst e
  obtain ⟨its, rv, at_, hz⟩ := I.list hs
  rw [Vals.ref1 r]
  refine FwSet.set_list ns (I.ok.hd hc) at_.isList (by simpa using ints_of_vals rv) (by unfold scanBound; omega) fun g tk c R hc' keep => ?_
  exact ⟨.ref s.heap.objs.size, _, I.laid keep (Nat.le_refl _) (setO_new R), rfl, q _ c (I.hok.fresh (Nat.le_refl _)) hc'⟩
theorem cr_sortedSetK {w : World} (hw : X.w = w) (hc : X.calm = true) : CallR X (.builtin "sorted") (rSortedSet w) := by subst hw; exact cr_sortedSet hc
end
/-- sorted, each once -/
def ssort (l : List Int) : List Int := (l.mergeSort (fun a b => decide (a ≤ b))).eraseDups
theorem strict_uniq : ∀ {l m : List Int}, l.Pairwise (· < ·) → m.Pairwise (· < ·) → (∀ k, k ∈ l ↔ k ∈ m) → l = m
  | [], [], _, _, _ => rfl
  | [], y :: m, _, _, h => absurd ((h y).mpr (List.mem_cons_self ..)) (by simp)
  | x :: l, [], _, _, h => absurd ((h x).mp (List.mem_cons_self ..)) (by simp)
  | x :: l, y :: m, h1, h2, h => by
    rw [List.pairwise_cons] at h1 h2
    have xy : x = y := by
      have a := (h x).mp (List.mem_cons_self ..)
      have b := (h y).mpr (List.mem_cons_self ..)
      rcases List.mem_cons.mp a with a | a
      · exact a
      · rcases List.mem_cons.mp b with b | b
        · exact b.symm
        · have := h2.1 x a; have := h1.1 y b; omega
    subst xy
    rw [strict_uniq h1.2 h2.2 fun k => ?_]
    constructor
    · intro hk
      have := (h k).mp (List.mem_cons_of_mem _ hk)
      rcases List.mem_cons.mp this with e | e
      · have := h1.1 k hk; omega
      · exact e
    · intro hk
      have := (h k).mpr (List.mem_cons_of_mem _ hk)
      rcases List.mem_cons.mp this with e | e
      · have := h2.1 k hk; omega
      · exact e
theorem ssort_mem {l : List Int} {k : Int} : k ∈ ssort l ↔ k ∈ l := by
  unfold ssort
  rw [List.mem_eraseDups, List.mem_mergeSort]
theorem nodup_eraseDups' : ∀ (n : Nat) (l : List Int), l.length ≤ n → l.Pairwise (· ≤ ·) → l.eraseDups.Pairwise (· < ·)
  | _, [], _, _ => by simp
  | n + 1, x :: l, hn, h => by
    rw [List.eraseDups_cons, List.pairwise_cons]
    rw [List.pairwise_cons] at h
    rw [List.length_cons] at hn
    refine ⟨fun y hy => ?_, nodup_eraseDups' n _ (Nat.le_trans (List.length_filter_le _ _) (by omega)) (h.2.filter _)⟩
    rw [List.mem_eraseDups, List.mem_filter] at hy
    have h1 := h.1 y hy.1
    have h2 : y ≠ x := by simpa using hy.2
    omega
theorem ssort_strict (l : List Int) : (ssort l).Pairwise (· < ·) := by
  refine nodup_eraseDups' _ _ (Nat.le_refl _) ?_
  have := List.pairwise_mergeSort (le := fun a b : Int => decide (a ≤ b)) (by intro a b c; simp; omega) (by intro a b; simp; omega) l
  exact this.imp fun h => of_decide_eq_true h
section
variable {W W1 : List Sl} {K : PySem.W.Frag} {w : World} {ta : TE}
/-- sorted(set(xs)) -/
theorem en_sortset {l : List Int} (ha : ES ta W W1 (eLs eI l)) (few : l.length ≤ 60) : ESN (tCB (rSortedSet w) (tCons (tCB (rSetL K w) (tCons ta tNil)) tNil)) W W1 (oL ((ssort l).map eI)) := fun F H σ Q s k =>
  ha F H σ _ s fun v F1 H1 a1 s1 ⟨p, xs, e1, e2, e3⟩ => by
    subst e1
    have ex : xs = l.map V.int := all2_ints e3
    subst ex
    refine ⟨p, l, rfl, .inl (.inl (s1.ex _ _ e2)), few, fun q c hq hc => ?_⟩
    have exq : Same H1 (upd H1 q (SetO w q (fun j => decide (j ∈ l)) c)) := fun a o z => by rw [upd_ne (ne_of_none z hq)]; exact z
    refine ⟨q, _, c, rfl, upd_same, by omega, fun ns r h1 h2 h3 hr => ?_⟩
    have en : ns = ssort l := strict_uniq h1 (ssort_strict l) fun k => by rw [h2 k, decide_eq_true_iff, ssort_mem]
    subst en
    have exr : Same (upd H1 q (SetO w q (fun j => decide (j ∈ l)) c)) (upd (upd H1 q (SetO w q (fun j => decide (j ∈ l)) c)) r (.lst ((ssort l).map V.int))) := fun a o z => by rw [upd_ne (ne_of_none z hr)]; exact z
    have s2 := s1.grow exq
    exact k r _ F1 _ (a1.trans ((Rel.grow exq).trans (Rel.grow exr))) (s2.grow exr) (((a1.trans (Rel.grow exq)).t _ hr)) upd_same (s2.ex.free hr) (not_own s2 hr) ⟨nofun, _, rfl, all2_of_ints _⟩
theorem et_andB {β : Type} {W : List Sl} {t u : TT} {a b : Bool} (mk : β → List Sl) (vT vF : β) (h : ET t W (mk vF) a) (h2 : a = true → ET u (mk vF) (mk vT) b) : ET (tAnd t u) W (mk (if a = true then vT else vF)) (a && b) := fun F H σ Q s k => h F H σ _ s fun F1 H1 a1 s1 => by
  cases a with
  | true =>
    rw [if_pos rfl]
    exact h2 rfl F1 H1 σ Q s1 fun F2 H2 a2 s2 => k F2 H2 (a1.trans a2) s2
  | false =>
    rw [if_neg Bool.false_ne_true]
    exact k F1 H1 a1 s1
end
end Fw
end
section
set_option maxRecDepth 100000
namespace FwDict
open PySem
open Sem (wp)
section
variable {prog : Program} {w : World} {K : Type} [DecidableEq K] {knd : KeyKind prog w K} {A : Around} {E : Value → Shared → Prop} {z : Shared}
/-- a pair is put in -/
theorem put_pair {d : Addr} {kvs : List (K × Value)} {k : K} {key v : Value} {Q : Unit → Shared → Prop} (is_ : knd.is k key = true) (at_ : z.heap.DictOf knd d kvs) (few : kvs.length ≤ sizeLine)
    (go : ∀ g, g.DictOf knd d (stored kvs k v) → Heap.SameBut d z.heap g → Q () { z with heap := g }) : wpAny (model prog w) A (dictPut d (knd.hash k) key v) Q E z := by
  obtain ⟨o, es, ep, h1, h2, h3, h4, h5, h6⟩ := at_
  have few' : es.size ≤ sizeLine := by
    have e1 := h5.length
    have e2 : es.toList.length = es.size := by simp
    omega
  unfold dictPut
  refine wpAny_bind (wpAny_dictFind_of is_ h1 h3 h4 ?_)
  have ix : (es.findIdx? fun e => knd.is k e.key) = kvs.findIdx? fun kv => decide (kv.1 = k) := by
    rw [← h5.findIdx k]; obtain ⟨l⟩ := es; simp
  cases hi : es.findIdx? fun e => knd.is k e.key with
  | some i =>
    refine wpAny_updateDict h1 h3 (go _ ⟨_, _, ep, Heap.get?_update_self _ h1 (Obj.isFreed_of_dict (Obj.data_mapDict h3 _)), h2.mapDict _, Obj.data_mapDict h3 _, h4.modify _ _, ?_, ?_⟩ (Heap.SameBut.update ..))
    · rw [stored, if_pos (any_of_findIdx_some (ix ▸ hi))]
      have hl : (es.toList.findIdx? fun e => knd.is k e.key) = some i := by rw [← hi]; obtain ⟨l⟩ := es; simp
      have q := h5.modify h6 hl v
      obtain ⟨l⟩ := es
      simpa using q
    · rw [stored, if_pos (any_of_findIdx_some (ix ▸ hi)), keys_map_store]; exact h6
  | none =>
    have out : k ∉ kvs.map (·.1) := not_mem_of_findIdx_none (ix ▸ hi)
    have none_ : ¬ (kvs.any fun kv => decide (kv.1 = k)) = true := fun y => by
      obtain ⟨kv, m, e⟩ := List.any_eq_true.mp y
      exact out (List.mem_map.mpr ⟨kv, m, of_decide_eq_true e⟩)
    refine wpAny_updateDictKeys (hz := few') h1 h3 (go _ ⟨_, _, ep + 1, Heap.get?_update_self _ h1 (Obj.isFreed_of_dict (Obj.data_mapDictKeys h3 _)), h2.mapDictKeys _, Obj.data_mapDictKeys h3 _, h4.push is_ _, ?_, ?_⟩ (Heap.SameBut.update ..))
    · rw [stored, if_neg none_]
      have q := h5.append is_ (knd.hash k) v
      obtain ⟨l⟩ := es
      simpa using q
    · rw [stored, if_neg none_, List.map_append, List.nodup_append]
      refine ⟨h6, by simp, fun a ha b hb e => ?_⟩
      have hb' : b = k := by simpa using hb
      exact out (by rw [← hb', ← e]; exact ha)
theorem not_ref {k : K} {v : Value} (h : knd.is k v = true) : ∀ a, v ≠ .ref a := fun a e => by
  have q := knd.byValue k v h
  rw [e] at q
  cases q
theorem merge_tail {d a : Addr} {kvs more : List (K × Value)} {Q : Unit → Shared → Prop} (ne : d ≠ a) (at_ : z.heap.DictOf knd d kvs) (src : z.heap.DictOf knd a more) (few : kvs.length + more.length ≤ sizeLine)
    (go : ∀ g, g.DictOf knd d (merged kvs more) → g.DictOf knd a more → Heap.SameBut d z.heap g → Q () { z with heap := g }) : wpAny (model prog w) A (do
      let l ← dictEntries a
      let epoch ← dictEpoch a
      forIn (List.range l.size) PUnit.unit fun i (_ : PUnit) => (do
          let l' ← dictEntries a
          match l'[i]? with
            | some e => do
              holding [e.key, e.val] (dictPut d e.hash e.key e.val)
              let ep' ← dictEpoch a
              if (ep' != epoch) = true then do
                  (unsupported "dict.changed-during-merge" : Sem PUnit)
                  pure (ForInStep.yield PUnit.unit)
                else pure (ForInStep.yield PUnit.unit)
            | _ => do
              (unsupported "dict.changed-during-merge" : Sem PUnit)
              pure (ForInStep.yield PUnit.unit) : Sem (ForInStep PUnit))
      pure ()) Q E z := by
  obtain ⟨oo, eso, epo, a1, a2, a3, a4, a5, a6⟩ := id src
  have sz : more.length = eso.size := by rw [← a5.length]; simp
  refine wpAny_bind (wpAny_dictEntries a1 a3 (wpAny_bind (wpAny_dictEpoch a1 a3 (wpAny_bind ?_))))
  rw [List.range_eq_range']
  refine wpAny_forIn_list _ (fun rest _ y => ∃ g i, y = { z with heap := g } ∧ rest = List.range' i (eso.size - i) ∧ i ≤ eso.size ∧ g.DictOf knd d (merged kvs (more.take i)) ∧ g.get? a = some oo ∧ Heap.SameBut d z.heap g) _ ?_ ?_ _ _
    ⟨z.heap, 0, rfl, by simp, Nat.zero_le _, by simpa [merged] using at_, a1, Heap.SameBut.refl _ _⟩
  · rintro x rest b y ⟨g, i, e1, er, hi, d1, a1', sb⟩
    subst e1
    have lt : i < eso.size := by
      rcases Nat.lt_or_ge i eso.size with h | h
      · exact h
      · rw [Nat.sub_eq_zero_of_le h] at er; simp at er
    have en : eso.size - i = (eso.size - (i + 1)) + 1 := by omega
    rw [en, List.range'_succ] at er
    obtain ⟨ex, er'⟩ := List.cons.inj er
    subst ex
    refine wpAny_bind (wpAny_dictEntries a1' a3 ?_)
    rw [Array.getElem?_eq_getElem lt]
    obtain ⟨kv, hkv⟩ : ∃ kv, more[x]? = some kv := ⟨more[x]'(by rw [sz]; exact lt), List.getElem?_eq_getElem _⟩
    obtain ⟨k, v⟩ := kv
    obtain ⟨ik, iv⟩ := a5.get? (e := eso[x]) (by simp [lt]) hkv
    obtain ⟨k2, ik2, hh⟩ := a4 eso[x] (Array.getElem_mem lt)
    have ek : k2 = k := knd.inj _ _ _ ik2 ik
    subst ek
    show wpAny _ _ (holding [eso[x].key, eso[x].val] (dictPut d eso[x].hash eso[x].key eso[x].val) >>= _) _ _ _
    rw [hh, iv]
    have few' : (merged kvs (more.take x)).length ≤ sizeLine := by
      have e1 := merged_length_le kvs (more.take x)
      have e2 : (more.take x).length ≤ more.length := by rw [List.length_take]; omega
      omega
    refine wpAny_bind (wpAny_holding (put_pair ik d1 few' fun g2 d2 sb2 => ?_))
    have a2' : g2.get? a = some oo := Eq.trans (sb2.2 a (Ne.symm ne)) a1'
    refine wpAny_bind (wpAny_dictEpoch a2' a3 ?_)
    rw [if_neg (by simp)]
    exact wpAny_pure ⟨g2, x + 1, rfl, er', lt, by rw [merged_take_succ kvs more x (k2, v) hkv]; exact d2, a2', sb.trans sb2⟩
  · rintro b y ⟨g, i, e1, er, hi, d1, a1', sb⟩
    subst e1
    have ei : i = eso.size := by
      rcases Nat.lt_or_ge i eso.size with h | h
      · have en : eso.size - i = (eso.size - (i + 1)) + 1 := by omega
        rw [en, List.range'_succ] at er; exact nomatch er
      · exact Nat.le_antisymm hi h
    refine wpAny_pure (go g ?_ ⟨oo, eso, epo, a1', a2, a3, a4, a5, a6⟩ sb)
    rw [ei, ← sz, List.take_length] at d1; exact d1
/-- all pairs of a plain dict are put into another one -/
theorem merge_plain {d a : Addr} {kvs more : List (K × Value)} {Q : Unit → Shared → Prop} (ne : d ≠ a) (nS : (a == sysModules) = false) (at_ : z.heap.DictOf knd d kvs) (src : z.heap.DictOf knd a more) (few : kvs.length + more.length ≤ sizeLine)
    (go : ∀ g, g.DictOf knd d (merged kvs more) → g.DictOf knd a more → Heap.SameBut d z.heap g → Q () { z with heap := g }) : wpAny (model prog w) A (mergeMapping d (.ref a) false) Q E z := by
  obtain ⟨od, esd, epd, d1, d2, d3, d4, d5, d6⟩ := id at_
  obtain ⟨oo, eso, epo, a1, a2, a3, a4, a5, a6⟩ := id src
  unfold mergeMapping
  refine wpAny_bind (wpAny_isInstance src.typeIs isSubtype_dict_dict ?_)
  simp only [if_true]
  refine wpAny_bind (wpAny_specialOf src.typeIs F.slot_dict_iter.lookup (wpAny_bind (wpAny_pure ?_)))
  simp only [beq_self_eq_true, nS, Bool.false_eq_true, if_false]
  refine wpAny_bind (wpAny_dictEntries d1 d3 ?_)
  split
  · refine wpAny_bind (wpAny_dictEntries a1 a3 (wpAny_bind (wpAny_forIn_array' _ (fun rest _ y => y = z ∧ ∀ e ∈ rest, e ∈ eso.toList) _ (fun e rest b y he => ?_) (fun b y he => ?_) _ _ ⟨rfl, fun e h => h⟩)))
    · obtain ⟨e1, mem⟩ := he
      subst e1
      obtain ⟨k, ik, _⟩ := a4 e (Array.mem_toList_iff.mp (mem e (List.mem_cons_self ..)))
      have nr := not_ref ik
      cases q : e.key with
      | ref x => exact absurd q (nr x)
      | _ => exact wpAny_pure ⟨rfl, fun u hu => mem u (List.mem_cons_of_mem _ hu)⟩
    · obtain ⟨e1, _⟩ := he
      subst e1
      exact merge_tail ne at_ src few go
  · exact merge_tail ne at_ src few go
end
end FwDict
end
section
set_option maxRecDepth 100000
namespace FwDict
open PySem
open Sem (wp)
section
variable {prog : Program} {w : World} {K : Type} [DecidableEq K] {knd : KeyKind prog w K} {A : Around} {E : Value → Shared → Prop} {z : Shared}
theorem display_union (m0 k1 v1 k2 v2 : Sem Value) : dictDisplay [(none, m0), (some k1, v1), (some k2, v2)] = (do
    let d ← alloc { cls := .type "dict", data := .dict #[] }
    let m ← holding [.ref d] m0
    (((holding [.ref d, m] (mergeMapping d m false)).onRaise fun x => do let _ ← holding [.ref d, m, x] (runValue (.builtin "proto.let_go" {}))).tryCatch fun e => do
        if ← isInstance e (.type "AttributeError") then
          rule "dict.display.not-a-mapping"; raiseError "TypeError" s!"'{← typeNameOf m}' object is not a mapping"
        throw e).onRaise fun x => do let _ ← holding [.ref d, x] (runValue (.builtin "proto.let_go" {}))
    let sub ← holding [.ref d] (subDict [(k1, v1), (k2, v2)])
    (holding [.ref d, .ref sub] (mergeMapping d (.ref sub) false)).onRaise fun x => do let _ ← holding [.ref d, x] (runValue (.builtin "proto.let_go" {}))
    pure (.ref d)) := by
  unfold dictDisplay
  simp only [List.forIn_cons, List.forIn_nil]
  simp
abbrev noPairs : Obj := { cls := .type "dict", data := .dict #[] }
/-- {**e, k1: v1, k2: v2} -/
theorem eval_union {env : Env} {e0 k1 v1 k2 v2 : Expr} {pos : Pos} {Q : Value → Shared → Prop} (text : (evalEachOpt [none, some k1, some k2] env).zip ((evalEach [e0, v1, v2] env).map fun v => do let x ← v; standAt pos; pure x) =
      [(none, do let x ← eval e0 env; standAt pos; pure x), (some (eval k1 env), do let x ← eval v1 env; standAt pos; pure x), (some (eval k2 env), do let x ← eval v2 env; standAt pos; pure x)])
    (h : wpAny (model prog w) A (eval e0 env) (fun m s1 => ∃ a more, m = .ref a ∧ z.heap.objs.size ≠ a ∧ (a == sysModules) = false ∧ s1.heap.DictOf knd z.heap.objs.size [] ∧ s1.heap.DictOf knd a more ∧ more.length ≤ 1000000 ∧
      ∀ g, g.DictOf knd z.heap.objs.size (merged [] more) → Heap.SameBut z.heap.objs.size s1.heap g →
        wpAny (model prog w) A (evalPairs [(eval k1 env, do let x ← eval v1 env; standAt pos; pure x), (eval k2 env, do let x ← eval v2 env; standAt pos; pure x)]) (fun vs s2 => ∃ kvs mid, Carries knd vs kvs ∧ kvs.length ≤ 15 ∧ s2.heap.DictOf knd g.objs.size [] ∧
          s2.heap.DictOf knd z.heap.objs.size mid ∧ mid.length ≤ 1000000 ∧ z.heap.objs.size ≠ g.objs.size ∧ (g.objs.size == sysModules) = false ∧
          ∀ g2 g3, g2.DictOf knd g.objs.size (merged [] kvs) → Heap.SameBut g.objs.size s2.heap g2 → g3.DictOf knd z.heap.objs.size (merged mid (merged [] kvs)) → Heap.SameBut z.heap.objs.size g2 g3 → Q (.ref z.heap.objs.size) { s2 with heap := g3, toks := s2.toks + vs.length }) E
          { s1 with heap := g.push noPairs }) E { z with heap := z.heap.push noPairs }) : wpAny (model prog w) A (eval (.Dict [none, some k1, some k2] [e0, v1, v2] pos) env) Q E z := by
  rw [arm_eval_Dict, text, display_union]
  refine wpAny_bind (wpAny_standAt (wpAny_bind (wpAny_alloc (wpAny_bind (wpAny_holding (wpAny_bind (wpAny_mono h (fun m s1 h1 => ?_) fun _ _ e => e)))))))
  obtain ⟨a, more, e1, ne, nS, d0, da, few, k⟩ := h1
  subst e1
  refine wpAny_bind (wpAny_standAt (wpAny_pure (wpAny_bind (wpAny_onRaise (wpAny_tryCatch (wpAny_onRaise (wpAny_holding (merge_plain ne nS d0 da (by rw [sizeLine_eq, List.length_nil]; omega) fun g dg _ sb => ?_))))))))
  refine wpAny_bind (wpAny_holding (wpAny_subDict (knd := knd) (by simp) (wpAny_mono (k g dg sb) (fun vs s2 h2 => ?_) fun _ _ e => e)))
  obtain ⟨kvs, mid, ca, few2, dn, dm, few3, ne2, nS2, q⟩ := h2
  refine ⟨kvs, ca, dn, fun g2 dg2 sb2 => ?_⟩
  have dm2 : g2.DictOf knd z.heap.objs.size mid := dm.sameBut sb2 ne2
  have l2 := merged_length_le ([] : List (K × Value)) kvs
  rw [List.length_nil] at l2
  refine wpAny_bind (wpAny_onRaise (wpAny_holding (merge_plain ne2 nS2 dm2 dg2 (by rw [sizeLine_eq]; omega) fun g3 d3 _ sb3 => wpAny_pure (q g2 g3 dg2 sb2 d3 sb3))))
end
end FwDict
end
section
set_option maxRecDepth 100000
namespace Fw
open PySem L2 PySem.Spec PyProof.Rows
section
variable {X : Cx} {e0 k1 v1 k2 v2 : Expr} {pos : Pos} {te : TE} {trs : List (TE × TE)}
/-- {**e, k1: v1, k2: v2} -/
def tUnion (te : TE) (trs : List (TE × TE)) : TE := fun σ H Q => ∀ p, H p = none → te σ (upd H p (.dK [])) fun x H1 => ∃ a more, x = .ref a ∧ H1 p = some (.dK []) ∧ H1 a = some (.dK more) ∧ p ≠ a ∧ more.length ≤ 1000000 ∧
  ∀ q, upd H1 p (.dK (mergeK [] more)) q = none → tPairs trs σ (upd (upd H1 p (.dK (mergeK [] more))) q (.dK [])) fun ps H2 => H2 q = some (.dK []) ∧ H2 p = some (.dK (mergeK [] more)) ∧ p ≠ q ∧
    ∃ kvs : List (Key × V), ps = kvs.map (fun kv => (kV kv.1, kv.2)) ∧ kvs.length ≤ 15 ∧ Q (.ref p) (upd (upd H2 q (.dK (mergeK [] kvs))) p (.dK (mergeK (mergeK [] more) (mergeK [] kvs))))
theorem pe_union (he : PE X e0 te) (h : PPs X pos [some k1, some k2] [v1, v2] trs) : PE X (.Dict [none, some k1, some k2] [e0, v1, v2] pos) (tUnion te trs) := by
  refine ⟨fun pins s σ H Q I k => ?_⟩
  have hn := I.hok.fresh (Nat.le_refl s.heap.objs.size)
  have I1 := I.laid (a := s.heap.objs.size) (o := .dK []) (h' := s.heap.push FwDict.noPairs) (t' := s.toks) (fun _ _ q => Heap.get?_push_of_some _ q) (Nat.le_refl _) (dk_empty s.heap I.big)
  refine FwDict.eval_union (knd := mixKind X.prog X.w) rfl (thn (he.run pins _ σ _ _ I1 (k _ hn)) fun u s1 ⟨x, H1, I2, rx, a, more, ex, hp, ha, ne, few, k'⟩ => ?_)
  subst ex
  cases (show u = Value.ref a from rx)
  obtain ⟨z1, hd1, vs1, r1, dd1⟩ := dk_of I2.hok hp
  cases r1
  obtain ⟨z2, hd2, vs2, r2, dd2⟩ := dk_of I2.hok ha
  refine ⟨a, vs2, rfl, ne, hd2, dd1, dd2, by rw [← r2.length]; exact few, fun g dg sb => ?_⟩
  have m1 : (mergeK [] more).length ≤ sizeLine := by
    have l1 := length_mergeK more []
    rw [List.length_nil] at l1
    rw [sizeLine_eq]; omega
  have there : ∃ o, g.get? s.heap.objs.size = some o := let ⟨o, _, _, y, _⟩ := dg; ⟨o, y⟩
  have I3 := d_write (t' := s1.toks) I2 (by rw [hp]; exact True.intro) sb there (dk_new m1 hd1 (r2.merge .nil) dg)
  have I4 := I3.laid (a := g.objs.size) (o := .dK []) (h' := g.push FwDict.noPairs) (t' := s1.toks) (fun _ _ q => Heap.get?_push_of_some _ q) (Nat.le_refl _) (dk_empty g I3.big)
  refine wpAny_mono (h.run pins _ σ _ _ I4 (k' _ (I3.hok.fresh (Nat.le_refl _)))) (fun ws s2 hs => ?_) fun _ _ y => y
  obtain ⟨ps, H2, I5, rel, hq, hp2, ne2, kvs, eps, few2, last⟩ := hs
  subst eps
  obtain ⟨rs, c, rk⟩ := carries_of (P := X.prog) (w := X.w) rel
  obtain ⟨z3, hd3, vs3, r3, dd3⟩ := dk_of I5.hok hq
  cases r3
  obtain ⟨z4, hd4, vs4, r4, dd4⟩ := dk_of I5.hok hp2
  have l4 := length_mergeK more []
  rw [List.length_nil] at l4
  have l5 := length_mergeK kvs []
  rw [List.length_nil] at l5
  have lr : rs.length = kvs.length := rk.length.symm
  refine ⟨rs, vs4, c, by omega, dd3, dd4, by rw [← r4.length]; omega, ne2, hd3, fun g2 g3 d2 sb2 d3 sb3 => ?_⟩
  have t2 : ∃ o, g2.get? g.objs.size = some o := let ⟨o, _, _, y, _⟩ := d2; ⟨o, y⟩
  have t3 : ∃ o, g3.get? s.heap.objs.size = some o := let ⟨o, _, _, y, _⟩ := d3; ⟨o, y⟩
  have I6 := d_write (t' := s2.toks) I5 (by rw [hq]; exact True.intro) sb2 t2 (dk_new (by rw [sizeLine_eq]; omega) hd3 (rk.merge .nil) d2)
  have hp3 : upd H2 g.objs.size (.dK (mergeK [] kvs)) s.heap.objs.size = some (.dK (mergeK [] more)) := by rw [upd_ne ne2]; exact hp2
  have l6 := length_mergeK (mergeK [] kvs) (mergeK [] more)
  have I7 := d_write (t' := s2.toks + ws.length) I6 (by rw [hp3]; exact True.intro) sb3 t3 (dk_new (kvs := mergeK (mergeK [] more) (mergeK [] kvs)) (by rw [sizeLine_eq]; omega) hd4 ((rk.merge .nil).merge r4) d3)
  exact ⟨.ref s.heap.objs.size, _, I7, rfl, last⟩
/-- a dict that was just made, held still (for its keys: pi_keys) -/
def tLock (te : TE) : TE := fun σ H Q => te σ H fun x H1 => ∃ d kvs, x = .ref d ∧ H1 d = some (.dK kvs) ∧ ∀ o, Q x (upd H1 d (.frz o (.dK kvs)))
theorem pe_lock {e : Expr} (he : PE X e te) : PE X e (tLock te) := ⟨fun pins s σ H Q I h => thn (he.run pins s σ H _ I h) fun u s1 ⟨x, H1, I1, rx, d, kvs, _, hd, q⟩ => by
  obtain ⟨od, I2⟩ := I1.lock hd True.intro
  exact ⟨x, _, I2, rx, q od⟩⟩
end
end Fw
end
section
set_option maxRecDepth 100000
namespace Fw
open PySem L2
/-! dicts of ints that a def owns -/
def gt (kvs : List (Int × Int)) (k : Int) : Option Int := (kvs.find? fun p => decide (p.1 = k)).map (·.2)
def pt (kvs : List (Int × Int)) (k v : Int) : List (Int × Int) := if (kvs.any fun p => decide (p.1 = k)) = true then kvs.map (fun p => if p.1 = k then (p.1, v) else p) else kvs ++ [(k, v)]
def kvV (kvs : List (Int × Int)) : List (Key × V) := kvs.map fun p => (Sum.inl p.1, V.int p.2)
theorem inl_eq {a b : Int} : decide ((Sum.inl a : Key) = Sum.inl b) = decide (a = b) := by
  by_cases h : a = b
  · subst h; simp
  · rw [decide_eq_false h, decide_eq_false (fun e => h (Sum.inl.inj e))]
theorem valV_kv (k : Int) : ∀ kvs : List (Int × Int), valV (kvV kvs) (Sum.inl k : Key) = (gt kvs k).map V.int
  | [] => rfl
  | (a, b) :: l => by
    have ih := valV_kv k l
    by_cases h : a = k
    · subst h
      have e1 : gt ((a, b) :: l) a = some b := by simp [gt, List.find?_cons]
      rw [e1]
      exact valV_pos rfl
    · have e1 : gt ((a, b) :: l) k = gt l k := by simp [gt, List.find?_cons, h]
      rw [e1, ← ih]
      exact valV_neg (fun e => h (Sum.inl.inj e))
theorem any_kv (k : Int) : ∀ kvs : List (Int × Int), ((kvV kvs).any fun kv => decide (kv.1 = (Sum.inl k : Key))) = kvs.any fun p => decide (p.1 = k)
  | [] => rfl
  | (a, b) :: l => by
    show (decide ((Sum.inl a : Key) = Sum.inl k) || (kvV l).any fun kv => decide (kv.1 = (Sum.inl k : Key))) = (decide (a = k) || l.any fun p => decide (p.1 = k))
    rw [inl_eq, any_kv k l]
theorem putK_kv (kvs : List (Int × Int)) (k v : Int) : putK (kvV kvs) (Sum.inl k : Key) (V.int v) = kvV (pt kvs k v) := by
  unfold putK pt
  rw [any_kv]
  by_cases h : (kvs.any fun p => decide (p.1 = k)) = true
  · rw [if_pos h, if_pos h]
    unfold kvV
    rw [List.map_map, List.map_map]
    refine List.map_congr_left fun p _ => ?_
    show (if (Sum.inl p.1 : Key) = Sum.inl k then ((Sum.inl p.1 : Key), V.int v) else (Sum.inl p.1, V.int p.2)) = (Sum.inl (if p.1 = k then (p.1, v) else p).1, V.int (if p.1 = k then (p.1, v) else p).2)
    by_cases e : p.1 = k
    · rw [if_pos e, if_pos (by rw [e])]
    · rw [if_neg e, if_neg (fun y => e (Sum.inl.inj y))]
  · rw [if_neg h, if_neg h]
    unfold kvV
    rw [List.map_append]; rfl
def oD (kvs : List (Int × Int)) : OC := ⟨fun _ _ o => o = .dK (kvV kvs), fun _ h => h, fun h xs e => by rw [h] at e; cases e⟩
section
variable {W W' W0 W1 W2 W3 : List Sl} {tk tx tv : TE} {P : Post}
theorem en_dnew : ESN tDNewK W W (oD []) := fun F H σ Q s k p hp => by
  have ex : Same H (upd H p (.dK [])) := fun a o z => by rw [upd_ne (ne_of_none z hp)]; exact z
  exact k p _ F _ (Rel.grow ex) (s.grow ex) hp upd_same (s.ex.free hp) (not_own s hp) rfl
theorem es_dget {kvs : List (Int × Int)} {i : Nat} {k x : Int} (h0 : W[i]? = some (.ow (oD kvs))) (hk : ES tk W W1 (eI k)) (hx : ES tx W1 W2 (eI x)) (h2 : W2[i]? = some (.ow (oD kvs))) : ES (tDGet2 (tVar i) tk tx) W W2 (eI ((gt kvs k).getD x)) := fun F H σ Q s c => by
  obtain ⟨p, o, e0, g1, _, eo⟩ := s.ow i _ h0
  have eo' : o = .dK (kvV kvs) := eo
  subst eo'
  refine ⟨.ref p, e0, p, rfl, .inl ⟨_, .inl g1⟩, hk F H σ _ s fun v F1 H1 a1 s1 e1 => hx F1 H1 σ _ s1 fun u F2 H2 a2 s2 e2 => ?_⟩
  cases (show v = V.int k from e1)
  cases (show u = V.int x from e2)
  obtain ⟨p', o', e0', z1, _, eo2⟩ := s2.ow i _ h2
  have eo2' : o' = .dK (kvV kvs) := eo2
  subst eo2'
  have ep : p' = p := by rw [e0] at e0'; cases e0'; rfl
  subst ep
  refine ⟨_, DGet.k (k := Sum.inl k) z1, ?_⟩
  rw [valV_kv]
  have q := c (V.int ((gt kvs k).getD x)) F2 H2 (a1.trans a2) s2 rfl
  cases e : gt kvs k with
  | none => rw [e] at q; exact q
  | some y => rw [e] at q; exact q
theorem ss_dput {kvs : List (Int × Int)} {i : Nat} {k v : Int} (hv : ES tv W W1 (eI v)) (h1 : W1[i]? = some (.ow (oD kvs))) (hk : ES tk W1 W2 (eI k)) (h2 : W2[i]? = some (.ow (oD kvs))) (few : kvs.length < 1000000) (c : P.nx (W2.set i (.ow (oD (pt kvs k v))))) :
    SS (sDPut (tVar i) tk tv) W P := fun F H σ D s kn _ _ _ =>
  hv F H σ _ s fun y F1 H1 a1 s1 e1 => by
    cases (show y = V.int v from e1)
    obtain ⟨p, o, e0, g1, _, eo⟩ := s1.ow i _ h1
    refine ⟨.ref p, e0, hk F1 H1 σ _ s1 fun u F2 H2 a2 s2 e2 => ?_⟩
    cases (show u = V.int k from e2)
    obtain ⟨p', o', e0', z1, z2, eo2⟩ := s2.ow i _ h2
    have eo2' : o' = .dK (kvV kvs) := eo2
    subst eo2'
    have ep : p' = p := by rw [e0] at e0'; cases e0'; rfl
    subst ep
    have fl : (kvV kvs).length < sizeLine := by
      unfold kvV
      rw [List.length_map, sizeLine_eq]; omega
    refine ⟨p', _, rfl, .inl ⟨_, Sum.inl k, z1, rfl, fl, rfl⟩, ?_⟩
    rw [putK_kv]
    refine kn _ _ _ _ c ((a1.trans a2).trans ⟨fun _ _ z => z, fun a u n z => ?_, fun _ _ z => .inl z, fun a z => ?_, fun a m => .inl ((Own.mut h2).mp m)⟩) (s2.mut h2 e0' rfl)
    · rw [upd_ne (fun q : a = p' => n (by rw [q]; exact ⟨i, _, h2, e0'⟩))]; exact z
    · by_cases q : a = p'
      · subst q; rw [upd_same] at z; cases z
      · rw [upd_ne q] at z; exact z
end
end Fw
end
section
set_option maxRecDepth 100000
namespace Fw
open PySem L2
def ptAll (acc more : List (Int × Int)) : List (Int × Int) := more.foldl (fun a p => pt a p.1 p.2) acc
theorem merge_kv : ∀ (more acc : List (Int × Int)), mergeK (kvV acc) (kvV more) = kvV (ptAll acc more)
  | [], _ => rfl
  | p :: l, acc => by
    show mergeK (putK (kvV acc) (Sum.inl p.1 : Key) (V.int p.2)) (kvV l) = kvV (ptAll (pt acc p.1 p.2) l)
    rw [putK_kv]
    exact merge_kv l _
/-- the keys of {**d, k1: v1, k2: v2} -/
def unionK (kvs : List (Int × Int)) (k1 v1 k2 v2 : Int) : List Int := (ptAll (ptAll [] kvs) (ptAll [] [(k1, v1), (k2, v2)])).map (·.1)
section
variable {W : List Sl} {F H : Hp} {σ : L2.St}
theorem Sat.set' {p : Addr} {o : HO} (s : Sat F H σ W) (fp : F p = none) (np : ¬ Own W σ p) : Sat F (upd H p o) σ W := by
  refine ⟨fun a u h => ?_, s.len, s.fz, fun i c h => ?_, s.ds⟩
  · rw [upd_ne (ne_of_none h fp)]; exact s.ex a u h
  · obtain ⟨a, u, h1, h2, h3, h4⟩ := s.ow i c h
    refine ⟨a, u, h1, ?_, h3, h4⟩
    rw [upd_ne (fun e => np (by rw [← e]; exact ⟨i, c, h, h1⟩))]; exact h2
variable {tk1 tv1 tk2 tv2 : TE}
theorem is_union {kvs : List (Int × Int)} {i : Nat} {k1 v1 k2 v2 : Int} (h0 : W[i]? = some (.ow (oD kvs))) (few : kvs.length ≤ 1000000) (a1 : ES tk1 W W (eI k1)) (b1 : ES tv1 W W (eI v1)) (a2 : ES tk2 W W (eI k2)) (b2 : ES tv2 W W (eI v2)) :
    IS (iKeys (tLock (tUnion (tVar i) [(tk1, tv1), (tk2, tv2)]))) W W ((unionK kvs k1 v1 k2 v2).map eI) := fun F H σ Q s k => by
  obtain ⟨a, ob, e0, g1, _, eo⟩ := s.ow i _ h0
  have eo' : ob = .dK (kvV kvs) := eo
  subst eo'
  intro p hp
  have npa : p ≠ a := fun e => by rw [e, g1] at hp; cases hp
  refine ⟨.ref a, e0, a, kvV kvs, rfl, upd_same, by rw [upd_ne npa.symm]; exact g1, npa, by unfold kvV; rw [List.length_map]; exact few, fun q hq => ?_⟩
  have nqp : q ≠ p := fun e => by subst e; rw [upd_same] at hq; cases hq
  have hq0 : H q = none := by rw [upd_ne nqp, upd_ne nqp] at hq; exact hq
  have fp : F p = none := s.ex.free hp
  have fq : F q = none := s.ex.free hq0
  have np : ¬ Own W σ p := not_own s hp
  have nq : ¬ Own W σ q := not_own s hq0
  have s3 : Sat F (upd (upd (upd H p (.dK [])) p (.dK (mergeK [] (kvV kvs)))) q (.dK [])) σ W := ((s.set' fp np).set' fp np).set' fq nq
  have h3p : (upd (upd (upd H p (.dK [])) p (.dK (mergeK [] (kvV kvs)))) q (.dK [])) p = some (.dK (mergeK [] (kvV kvs))) := by rw [upd_ne nqp.symm, upd_same]
  have h3q : (upd (upd (upd H p (.dK [])) p (.dK (mergeK [] (kvV kvs)))) q (.dK [])) q = some (.dK []) := upd_same
  generalize hH3 : upd (upd (upd H p (.dK [])) p (.dK (mergeK [] (kvV kvs)))) q (.dK []) = H3 at *
  refine a1 F H3 σ _ s3 fun x1 F4 H4 r4 s4 e1 => b1 F4 H4 σ _ s4 fun y1 F5 H5 r5 s5 e2 => a2 F5 H5 σ _ s5 fun x2 F6 H6 r6 s6 e3 => b2 F6 H6 σ _ s6 fun y2 F7 H7 r7 s7 e4 => ?_
  cases (show x1 = V.int k1 from e1)
  cases (show y1 = V.int v1 from e2)
  cases (show x2 = V.int k2 from e3)
  cases (show y2 = V.int v2 from e4)
  have r := ((r4.trans r5).trans r6).trans r7
  have h7p := r.h p _ np h3p
  have h7q := r.h q _ nq h3q
  have f7p := r.nof s7.ex fp h3p np (fun xs e => by cases e)
  have f7q := r.nof s7.ex fq h3q nq (fun xs e => by cases e)
  refine ⟨h7q, h7p, nqp.symm, kvV [(k1, v1), (k2, v2)], rfl, Nat.le_of_ble_eq_true rfl, p, _, rfl, upd_same, fun o => ?_⟩
  have ef : mergeK (mergeK [] (kvV kvs)) (mergeK [] (kvV [(k1, v1), (k2, v2)])) = kvV (ptAll (ptAll [] kvs) (ptAll [] [(k1, v1), (k2, v2)])) := by
    rw [show mergeK ([] : List (Key × V)) (kvV kvs) = kvV (ptAll [] kvs) from merge_kv kvs [], show mergeK ([] : List (Key × V)) (kvV [(k1, v1), (k2, v2)]) = kvV (ptAll [] [(k1, v1), (k2, v2)]) from merge_kv _ [], merge_kv]
  rw [ef]
  have eu : unionK kvs k1 v1 k2 v2 = (ptAll (ptAll [] kvs) (ptAll [] [(k1, v1), (k2, v2)])).map (·.1) := rfl
  rw [eu] at k
  generalize ptAll (ptAll [] kvs) (ptAll [] [(k1, v1), (k2, v2)]) = U at *
  have at3 : ∀ x, x ≠ p → x ≠ q → H3 x = H x := fun x n1 n2 => by rw [← hH3, upd_ne n2, upd_ne n1, upd_ne n1]
  refine ⟨p, o, rfl, .inl ⟨_, upd_same, k (Itk p o (kvV U)) (upd F7 p (.frz o (.dK (kvV U)))) _ ⟨fun x u h => ?_, fun x u n h => ?_, fun x u h => ?_, fun x h => ?_, fun _ h => .inl h⟩ ((((s7.set' f7q nq).set' f7p np).set' f7p np).freeze upd_same f7p np) fun j F' H' f1 f2 => ?_⟩⟩
  · have y := r.f x u h
    rw [upd_ne (ne_of_none y f7p)]; exact y
  · have n1 := ne_of_none h hp
    have n2 := ne_of_none h hq0
    rw [upd_ne n1, upd_ne n1, upd_ne n2]
    exact r.h x u n (by rw [at3 x n1 n2]; exact h)
  · by_cases e : x = p
    · subst e; exact .inr (.inl hp)
    · rw [upd_ne e] at h
      rcases r.n x u h with y | y | y | y
      · exact .inl y
      · by_cases e2 : x = q
        · subst e2; exact .inr (.inl hq0)
        · exact .inr (.inl (by rw [← at3 x e e2]; exact y))
      · exact .inr (.inr (.inl y))
      · exact .inr (.inr (.inr y))
  · by_cases e : x = p
    · subst e; exact hp
    · by_cases e2 : x = q
      · subst e2; exact hq0
      · rw [upd_ne e, upd_ne e, upd_ne e2] at h
        rw [← at3 x e e2]; exact r.t x h
  · have hd : H' p = some (.frz o (.dK (kvV U))) := f2 _ _ (f1 _ _ upd_same)
    have len : (kvV U).length = U.length := by unfold kvV; rw [List.length_map]
    refine ⟨fun rr hr => ?_, fun hl => ⟨hd, by rw [List.length_map, List.length_map] at hl; rw [len]; exact hl⟩⟩
    rw [List.getElem?_map, List.getElem?_map] at hr
    cases e : U[j]? with
    | none => rw [e] at hr; cases hr
    | some kv =>
      rw [e] at hr
      cases hr
      have hj := (List.getElem?_eq_some_iff.mp e).1
      refine ⟨⟨hd, by rw [len]; exact hj⟩, fun x H'' ⟨u1, kk, vv, u2, u3⟩ => ?_⟩
      subst u1
      have e2 : (kvV U)[j]? = some (Sum.inl kv.1, V.int kv.2) := by unfold kvV; rw [List.getElem?_map, e]; rfl
      rw [e2] at u2
      cases u2
      exact ⟨F', Rel.refl, f2, u3⟩
end
end Fw
namespace Fw
open PySem L2
/-- sorted -/
def isort (l : List Int) : List Int := l.mergeSort fun a b => decide (a ≤ b)
theorem sorted_uniq : ∀ {l m : List Int}, l.Perm m → l.Pairwise (· ≤ ·) → m.Pairwise (· ≤ ·) → l = m
  | [], m, p, _, _ => (List.Perm.nil_eq p)
  | x :: l, m, p, h1, h2 => by
    cases m with
    | nil => exact absurd p.length_eq (by simp)
    | cons y m =>
      rw [List.pairwise_cons] at h1 h2
      have xy : x = y := by
        have a : x ∈ y :: m := p.subset (List.mem_cons_self ..)
        have b : y ∈ x :: l := p.symm.subset (List.mem_cons_self ..)
        rcases List.mem_cons.mp a with a | a
        · exact a
        · rcases List.mem_cons.mp b with b | b
          · exact b.symm
          · have := h2.1 x a; have := h1.1 y b; omega
      subst xy
      rw [sorted_uniq (List.Perm.cons_inv p) h1.2 h2.2]
theorem isort_sorted (l : List Int) : (isort l).Pairwise (· ≤ ·) := by
  have := List.pairwise_mergeSort (le := fun a b : Int => decide (a ≤ b)) (by intro a b c; simp; omega) (by intro a b; simp; omega) l
  exact this.imp fun h => of_decide_eq_true h
theorem isort_perm (l : List Int) : (isort l).Perm l := List.mergeSort_perm l _
section
variable {W W1 : List Sl} {K : PySem.W.Frag} {ta : TE}
theorem en_sortI {l : List Int} (ha : ES ta W W1 (eLs eI l)) : ESN (tCB (rSortedI K) (tCons ta tNil)) W W1 (oL ((isort l).map eI)) := fun F H σ Q s k =>
  ha F H σ _ s fun v F1 H1 a1 s1 ⟨p, xs, e1, e2, e3⟩ => by
    subst e1
    have ex : xs = l.map V.int := all2_ints e3
    subst ex
    refine ⟨p, l, rfl, .inl (.inl (s1.ex _ _ e2)), fun ns r h1 h2 hr => ?_⟩
    have en : ns = isort l := sorted_uniq (h1.trans (isort_perm l).symm) h2 (isort_sorted l)
    subst en
    have exr : Same H1 (upd H1 r (.lst ((isort l).map V.int))) := fun a o z => by rw [upd_ne (ne_of_none z hr)]; exact z
    exact k r _ F1 _ (a1.trans (Rel.grow exr)) (s1.grow exr) (a1.t _ hr) upd_same (s1.ex.free hr) (not_own s1 hr) ⟨nofun, _, rfl, all2_of_ints _⟩
end
end Fw
end
section
set_option maxRecDepth 100000
namespace Fw
open PySem L2
section
variable {W W' W0 W1 W2 W3 : List Sl} {K : PySem.W.Frag} {ta tb : TE} {α : Type}
/-! the script: its length, an item -/
theorem es_lenQ {e : α → R} {l : List α} (ha : ES ta W W1 (eQ K e l)) : ES (tCB (fun xs H Q => ∃ p ys, xs = [.ref p] ∧ (SqL K H p ys ∨ SqT K H p ys) ∧ Q (.int ys.length) H) (tCons ta tNil)) W W1 (eI (l.length : Int)) := es_cbr ha fun F H v Q ex ⟨p, xs, h1, h2, h3⟩ q => by
  subst h1
  have el := h3.len
  rw [List.length_map] at el
  exact ⟨p, xs, rfl, .inl (Same.seq ex h2), by rw [el]; exact q⟩
theorem es_ixQ [Inhabited α] {e : α → R} {l : List α} {i : Int} (ha : ES ta W W1 (eQ K e l)) (hi : ES tb W1 W2 (eI i)) (h : 0 ≤ i ∧ i < l.length) : ES (tOp (rIxL K) ta tb) W W2 (e (nth l i)) := fun F H σ Q s k =>
  ha F H σ _ s fun v F1 H1 a1 s1 ⟨p, xs, h1, h2, h3⟩ => hi F1 H1 σ _ s1 fun w F2 H2 a2 s2 e2 => by
    subst h1
    cases (show w = V.int i from e2)
    obtain ⟨x, z1, z2⟩ := h3.get' (i := i.toNat) (r := e (nth l i)) (by rw [List.getElem?_map, nth_get h]; rfl)
    have hx := atI_k z1
    rw [Int.toNat_of_nonneg h.1] at hx
    exact ⟨p, xs, i, x, rfl, rfl, Same.seq s2.ex (Same.seq a2.f h2), hx, k x F2 H2 (a1.trans a2) s2 ((e (nth l i)).mono a2.f z2)⟩
theorem sn_seqTo {ts uu : TS} {c : List R} (W2 : List Sl) (h : SS ts W ⟨fun W' => Wk W' W2, fun _ _ => False, fun _ => False, fun _ => False⟩) (k : SSN uu W2 c) : SSN (tSeq ts uu) W c := fun F H σ D s kk =>
  h F H σ { D with nx := fun σ' H' => uu D σ' H' } s (fun W' σ' F' H' n a s' => k F' H' σ' D (s'.weak n) fun p o F2 H2 r ex hp ho fp hc => by
    have r1 := a.trans (M'' := Own W' σ') (b := ⟨r.f, fun x u m z => r.h x u (fun y => m (n.sub y)) z, fun x u z => (r.n x u z).imp id (Or.imp id (Or.imp (fun y => n.sub y) id)), r.t, fun x m => .inl m⟩)
    exact kk p o F2 H2 ⟨r1.f, r1.h, r1.n, r1.t, fun _ m => .inl m⟩ ex (a.t p hp) ho fp hc) (fun _ _ _ _ _ _ z => z.elim) (fun _ _ _ _ z => z.elim) fun _ _ _ _ z => z.elim
end
end Fw
end
section
set_option maxRecDepth 100000
namespace Fw
open PySem L2
section
variable {W W1 : List Sl} {ta : TE}
theorem es_bits {i : Int} (h : ES ta W W1 (eI i)) : ES (tBits ta) W W1 (eI (Builtin.Int.intBits i : Nat)) := fun F H σ Q s k =>
  h F H σ _ s fun v F1 H1 a1 s1 e1 => ⟨i, e1, k _ F1 H1 a1 s1 rfl⟩
end
end Fw
end
section
set_option maxRecDepth 100000
namespace Fw
open PySem L2
/-! sorted pairs -/
def ple (p q : Int × Int) : Bool := decide (p.1 < q.1) || (decide (p.1 = q.1) && decide (p.2 ≤ q.2))
theorem ple_iff {p q : Int × Int} : ple p q = true ↔ p.1 < q.1 ∨ (p.1 = q.1 ∧ p.2 ≤ q.2) := by unfold ple; simp
def psort (l : List (Int × Int)) : List (Int × Int) := l.mergeSort ple
theorem psort_perm (l : List (Int × Int)) : (psort l).Perm l := List.mergeSort_perm l _
theorem psort_sorted (l : List (Int × Int)) : (psort l).Pairwise fun p q => ple p q = true :=
  List.pairwise_mergeSort (le := ple) (by intro a b c; rw [ple_iff, ple_iff, ple_iff]; omega) (by intro a b; rw [Bool.or_eq_true, ple_iff, ple_iff]; omega) l
theorem psort_uniq {l m : List (Int × Int)} (p : l.Perm m) (h1 : l.Pairwise fun p q => ple p q = true) (h2 : m.Pairwise fun p q => ple p q = true) : l = m :=
  List.Perm.eq_of_pairwise (fun a b _ _ h h' => by
    rw [ple_iff] at h h'
    exact Prod.ext (by omega) (by omega)) h1 h2 p
section
variable {W W1 W2 W3 : List Sl} {K : PySem.W.Frag} {ta tk tv tx td : TE} {F H : Hp} {α κ κ' : Type}
/-- a tuple that stands may be frozen -/
theorem fr_tup {q : Addr} {xs : List V} (e : Same F H) (hq : H q = some (.tup xs)) : ∃ F', Rel F H Nob F' H Nob ∧ Same F' H ∧ F' q = some (.tup xs) := by
  refine ⟨upd F q (.tup xs), ⟨fun a u h => ?_, fun _ _ _ h => h, fun a u h => ?_, fun _ h => h, fun _ m => .inl m⟩, fun a u h => ?_, upd_same⟩
  · by_cases z : a = q
    · subst z
      have := e a u h
      rw [hq] at this; cases this
      exact upd_same
    · rw [upd_ne z]; exact h
  · by_cases z : a = q
    · subst z; rw [upd_same] at h; cases h; exact .inr (.inr (.inr ⟨xs, rfl⟩))
    · rw [upd_ne z] at h; exact .inl h
  · by_cases z : a = q
    · subst z; rw [upd_same] at h; cases h; exact hq
    · rw [upd_ne z] at h; exact e a u h
def PairF (F : Hp) (x : V) (p : Int × Int) : Prop := ∃ t, x = V.ref t ∧ F t = some (.tup [.int p.1, .int p.2])
theorem pairF {x : V} {p : Int × Int} : (eP2 K eI eI p).p F x ↔ PairF F x p := by
  constructor
  · rintro ⟨t, xs, e1, e2, e3⟩
    match xs, e3 with
    | [a, b], e3 =>
      have ea : a = V.int p.1 := e3.1
      have eb : b = V.int p.2 := e3.2.1
      subst ea eb
      exact ⟨t, e1, e2⟩
    | [], e3 => exact e3.elim
    | [_], e3 => exact e3.2.elim
    | _ :: _ :: _ :: _, e3 => exact e3.2.2.elim
  · rintro ⟨t, e1, e2⟩
    exact ⟨t, _, e1, e2, rfl, rfl, trivial⟩
theorem PairF.uniq {x : V} {p q : Int × Int} (h : PairF F x p) (g : PairF F x q) : p = q := by
  obtain ⟨t, e1, e2⟩ := h
  obtain ⟨u, f1, f2⟩ := g
  rw [e1] at f1; cases f1
  rw [e2] at f2
  injection f2 with f2
  injection f2 with f2
  injection f2 with f2 f3
  injection f3 with f3
  injection f2 with f2
  injection f3 with f3
  exact Prod.ext f2 f3
open Classical in
noncomputable def keyF (F : Hp) (x : V) : Int × Int := if h : ∃ p, PairF F x p then h.choose else (0, 0)
theorem keyF_eq {x : V} {p : Int × Int} (h : PairF F x p) : keyF F x = p := by
  unfold keyF
  have e : ∃ p, PairF F x p := ⟨p, h⟩
  rw [dif_pos e]
  exact e.choose_spec.uniq h
theorem all2_keys : ∀ {l : List (Int × Int)} {xs : List V}, All2 (l.map (eP2 K eI eI)) F xs → xs.map (keyF F) = l ∧ ∀ x ∈ xs, PairF F x (keyF F x)
  | [], [], _ => ⟨rfl, fun _ h => by cases h⟩
  | p :: l, x :: xs, h => by
    obtain ⟨h1, h2⟩ := all2_keys (l := l) h.2
    have a := keyF_eq (pairF.mp h.1)
    refine ⟨by rw [List.map_cons, a, h1], fun y hy => ?_⟩
    rcases List.mem_cons.mp hy with e | m
    · rw [e, a]; exact pairF.mp h.1
    · exact h2 y m
  | [], _ :: _, h => h.elim
  | _ :: _, [], h => h.elim
theorem all2_of_keys : ∀ {ys : List V}, (∀ y ∈ ys, PairF F y (keyF F y)) → All2 ((ys.map (keyF F)).map (eP2 K eI eI)) F ys
  | [], _ => trivial
  | y :: ys, h => ⟨pairF.mpr (h y (List.mem_cons_self ..)), all2_of_keys fun z hz => h z (List.mem_cons_of_mem _ hz)⟩
theorem sortP_core {l : List (Int × Int)} {xs : List V} {p : Addr} {F1 H1 : Hp} {σ : L2.St} {Q : VK} (s1 : Sat F1 H1 σ W1) (hp : H1 p = some (.lst xs)) (e3 : All2 (l.map (eP2 K eI eI)) F1 xs)
    (k : ∀ r ys, H1 r = none → Sat F1 (upd H1 r (.lst ys)) σ W1 → Same H1 (upd H1 r (.lst ys)) → F1 r = none → All2 ((psort l).map (eP2 K eI eI)) F1 ys → Q (.ref r) (upd H1 r (.lst ys))) : rSortedPO K [V.ref p] H1 Q := by
  obtain ⟨k1, k2⟩ := all2_keys e3
  refine ⟨p, xs, keyF F1, rfl, .inl (.inl hp), fun x hx => let ⟨t, t1, t2⟩ := k2 x hx; ⟨t, t1, s1.ex _ _ t2⟩, fun ys r h1 h2 hr => ?_⟩
  have pm := h2.perm
  have e : ys.map (keyF F1) = psort l := by
    refine psort_uniq ((pm.map _).trans ?_) ?_ (psort_sorted l)
    · rw [k1]; exact (psort_perm l).symm
    · refine List.pairwise_map.mpr (h1.imp fun {x y} h => ?_)
      rw [ple_iff]
      have := SrtO.lexB_no.mp h
      omega
  have al : All2 ((psort l).map (eP2 K eI eI)) F1 ys := by
    rw [← e]
    exact all2_of_keys fun y hy => k2 y (pm.mem_iff.mp hy)
  have exr : Same H1 (upd H1 r (.lst ys)) := fun a o z => by rw [upd_ne (ne_of_none z hr)]; exact z
  exact k r ys hr (s1.grow exr) exr (s1.ex.free hr) al
theorem en_sortP {l : List (Int × Int)} (ha : ES ta W W1 (eLs (eP2 K eI eI) l)) : ESN (tCB (rSortedPO K) (tCons ta tNil)) W W1 (oLs (eP2 K eI eI) (psort l)) := fun F H σ Q s k =>
  ha F H σ _ s fun v F1 H1 a1 s1 ⟨p, xs, e1, e2, e3⟩ => by
    subst e1
    exact sortP_core s1 (s1.ex _ _ e2) e3 fun r ys hr s2 exr fr al => k r _ F1 _ (a1.trans (Rel.grow exr)) s2 (a1.t _ hr) upd_same fr (not_own s1 hr) ⟨nofun, _, rfl, al⟩
theorem en_sortPO {l : List (Int × Int)} {i : Nat} {q : Option Addr} (h0 : W[i]? = some (.ow (oLq q (l.map (eP2 K eI eI))))) : ESN (tCB (rSortedPO K) (tCons (tVar i) tNil)) W W (oLs (eP2 K eI eI) (psort l)) := fun F H σ Q s k => by
  obtain ⟨p, o, e0, g1, g2, ⟨yq, xs, rfl, h3⟩⟩ := s.ow i _ h0
  exact ⟨.ref p, e0, sortP_core s g1 h3 fun r ys hr s2 exr fr al => k r _ F _ (Rel.grow exr) s2 hr upd_same fr (not_own s hr) ⟨nofun, _, rfl, al⟩⟩
/-! [*xs, ..] -/
theorem as_star {e : α → R} {l : List α} {t : TA} {rs : List R} (h : ES ta W W1 (eLs e l)) (hr : AS t W1 W2 rs) : AS (StX.tStar K ta t) W W2 (l.map e ++ rs) := fun F H σ Q s k =>
  h F H σ _ s fun v F1 H1 a1 s1 ⟨p, xs, e1, e2, e3⟩ => ⟨p, xs, e1, .inr (.inl (.inl (s1.ex _ _ e2))), hr F1 H1 σ _ s1 fun vs F2 H2 a2 s2 g => k _ F2 H2 (a1.trans a2) s2 ((e3.mono a2.f).app g)⟩
theorem en_lst' {tr : TA} {rs : List R} (h : AS tr W W1 rs) (hl : rs.length ≤ 100000) : ESN (tLst tr) W W1 (oL rs) := en_lst h hl
theorem en_star {e : α → R} {l m : List α} {tr : TA} (h : AS tr W W1 (l.map e ++ m.map e)) (hl : l.length + m.length ≤ 100000) : ESN (tLst tr) W W1 (oLs e (l ++ m)) := by
  have := en_lst' h (by rw [List.length_append, List.length_map, List.length_map]; exact hl)
  rw [← List.map_append] at this
  exact this
/-! xs.pop() -/
theorem all2_dropLast : ∀ {rs : List R} {xs : List V}, All2 rs F xs → All2 rs.dropLast F xs.dropLast
  | [], [], _ => trivial
  | [_], [_], _ => trivial
  | r :: q :: rs, x :: y :: xs, h => ⟨h.1, all2_dropLast (rs := q :: rs) (xs := y :: xs) h.2⟩
  | [], _ :: _, h => h.elim
  | [_], [], h => h.elim
  | [_], _ :: _ :: _, h => h.2.elim
  | _ :: _ :: _, [], h => h.elim
  | _ :: _ :: _, [_], h => h.2.elim
theorem es_popO [Inhabited α] {e : α → R} {l : List α} {i : Nat} {q : Option Addr} (h0 : W[i]? = some (.ow (oLq q (l.map e)))) (h : l ≠ []) :
    ES (tBM0 K "list" rPop (tVar i)) W (W.set i (.ow (oLq q (l.dropLast.map e)))) (e (nth l (l.length - 1))) := fun F H σ Q s k => by
  obtain ⟨p, o, e0, g1, g2, ⟨yq, xs, rfl, h3⟩⟩ := s.ow i _ h0
  have pos : 0 < l.length := List.length_pos_iff.mpr h
  have el := h3.len
  rw [List.length_map] at el
  have hn := nth_get (l := l) (i := (l.length : Int) - 1) (by omega)
  have hb : ((l.length : Int) - 1).toNat = l.length - 1 := by omega
  rw [hb] at hn
  obtain ⟨x, z1, z2⟩ := h3.get' (i := l.length - 1) (r := e (nth l (l.length - 1))) (by rw [List.getElem?_map, hn]; rfl)
  refine ⟨.ref p, e0, .inl ⟨rfl, xs, .inl (.inl g1)⟩, p, xs, x, rfl, rfl, g1, by rw [el]; exact z1, ?_⟩
  refine k x F _ ⟨fun _ _ z => z, fun a u n z => ?_, fun _ _ z => .inl z, fun a z => ?_, fun a m => .inl ((Own.mut h0).mp m)⟩ (s.mut h0 e0 ⟨yq, _, rfl, by rw [List.map_dropLast]; exact all2_dropLast h3⟩) z2
  · rw [upd_ne (fun q : a = p => n (by rw [q]; exact ⟨i, _, h0, e0⟩))]; exact z
  · by_cases q : a = p
    · subst q; rw [upd_same] at z; cases z
    · rw [upd_ne q] at z; exact z
/-! dicts with typed values -/
def DRel (tk : κ → κ') (e : α → R) (F : Hp) : List (κ × α) → List (κ' × V) → Prop
  | [], [] => True
  | kv :: l, w :: ws => w.1 = tk kv.1 ∧ (e kv.2).p F w.2 ∧ DRel tk e F l ws
  | _, _ => False
section
variable [DecidableEq κ] [DecidableEq κ']
def gtK (l : List (κ × α)) (k : κ) : Option α := (l.find? fun p => decide (p.1 = k)).map (·.2)
def ptK (l : List (κ × α)) (k : κ) (v : α) : List (κ × α) := if (l.any fun p => decide (p.1 = k)) = true then l.map (fun p => if p.1 = k then (p.1, v) else p) else l ++ [(k, v)]
def dpK (l : List (κ × α)) (k : κ) : List (κ × α) := l.filter fun p => decide (p.1 ≠ k)
end
variable {tk' : κ → κ'} {e : α → R}
theorem DRel.mono {F F' : Hp} (x : Same F F') : ∀ {l : List (κ × α)} {ws : List (κ' × V)}, DRel tk' e F l ws → DRel tk' e F' l ws
  | [], [], _ => trivial
  | kv :: l, w :: ws, h => ⟨h.1, (e kv.2).mono x h.2.1, DRel.mono x h.2.2⟩
  | [], _ :: _, h => h.elim
  | _ :: _, [], h => h.elim
theorem DRel.len : ∀ {l : List (κ × α)} {ws : List (κ' × V)}, DRel tk' e F l ws → ws.length = l.length
  | [], [], _ => rfl
  | kv :: l, w :: ws, h => congrArg (· + 1) (DRel.len h.2.2)
  | [], _ :: _, h => h.elim
  | _ :: _, [], h => h.elim
theorem DRel.at : ∀ {l : List (κ × α)} {ws : List (κ' × V)} {i : Nat} {kv : κ × α}, DRel tk' e F l ws → l[i]? = some kv → ∃ w, ws[i]? = some w ∧ w.1 = tk' kv.1 ∧ (e kv.2).p F w.2
  | kv :: l, w :: ws, 0, kv', h, z => by simp at z; subst z; exact ⟨w, rfl, h.1, h.2.1⟩
  | kv :: l, w :: ws, i + 1, kv', h, z => by
    obtain ⟨w', h1, h2⟩ := DRel.at (i := i) (kv := kv') h.2.2 (by simpa using z)
    exact ⟨w', by simpa using h1, h2⟩
  | [], [], _, _, _, z => by simp at z
  | [], _ :: _, _, _, h, _ => h.elim
  | _ :: _, [], _, _, h, _ => h.elim
theorem DRel.app : ∀ {l : List (κ × α)} {ws : List (κ' × V)} {kv : κ × α} {w : κ' × V}, DRel tk' e F l ws → w.1 = tk' kv.1 → (e kv.2).p F w.2 → DRel tk' e F (l ++ [kv]) (ws ++ [w])
  | [], [], _, _, _, h1, h2 => ⟨h1, h2, trivial⟩
  | _ :: _, _ :: _, _, _, h, h1, h2 => ⟨h.1, h.2.1, DRel.app h.2.2 h1 h2⟩
  | [], _ :: _, _, _, h, _, _ => h.elim
  | _ :: _, [], _, _, h, _, _ => h.elim
section
variable [DecidableEq κ] [DecidableEq κ'] (inj : ∀ a b, tk' a = tk' b → a = b)
include inj
theorem DRel.get (k : κ) : ∀ {l : List (κ × α)} {ws : List (κ' × V)}, DRel tk' e F l ws → (∀ v, gtK l k = some v → ∃ x, valV ws (tk' k) = some x ∧ (e v).p F x) ∧ (gtK l k = none → valV ws (tk' k) = none)
  | [], [], _ => ⟨fun v h => (by cases h), fun _ => rfl⟩
  | kv :: l, w :: ws, h => by
    have ih := DRel.get k h.2.2
    unfold gtK valV at *
    rw [List.find?_cons, List.find?_cons, h.1]
    by_cases z : kv.1 = k
    · rw [decide_eq_true z, decide_eq_true (by rw [z])]
      exact ⟨fun v hv => by cases hv; exact ⟨w.2, rfl, h.2.1⟩, fun hv => by cases hv⟩
    · rw [decide_eq_false z, decide_eq_false (fun y => z (inj _ _ y))]
      exact ih
  | [], _ :: _, h => h.elim
  | _ :: _, [], h => h.elim
theorem DRel.any (k : κ) : ∀ {l : List (κ × α)} {ws : List (κ' × V)}, DRel tk' e F l ws → (ws.any fun w => decide (w.1 = tk' k)) = l.any fun p => decide (p.1 = k)
  | [], [], _ => rfl
  | kv :: l, w :: ws, h => by
    rw [List.any_cons, List.any_cons, DRel.any k h.2.2, h.1]
    congr 1
    exact decide_eq_decide.mpr ⟨fun y => inj _ _ y, fun y => by rw [y]⟩
  | [], _ :: _, h => h.elim
  | _ :: _, [], h => h.elim
theorem DRel.rep (k : κ) {v : α} {x : V} (hx : (e v).p F x) : ∀ {l : List (κ × α)} {ws : List (κ' × V)}, DRel tk' e F l ws → DRel tk' e F (l.map fun p => if p.1 = k then (p.1, v) else p) (ws.map fun w => if w.1 = tk' k then (w.1, x) else w)
  | [], [], _ => trivial
  | kv :: l, w :: ws, h => by
    refine ⟨?_, ?_, DRel.rep k hx h.2.2⟩
    · show (if w.1 = tk' k then (w.1, x) else w).1 = tk' (if kv.1 = k then (kv.1, v) else kv).1
      have a : (if w.1 = tk' k then (w.1, x) else w).1 = w.1 := by split <;> rfl
      have b : (if kv.1 = k then (kv.1, v) else kv).1 = kv.1 := by split <;> rfl
      rw [a, b]; exact h.1
    · show (e (if kv.1 = k then (kv.1, v) else kv).2).p F (if w.1 = tk' k then (w.1, x) else w).2
      by_cases z : kv.1 = k
      · rw [if_pos z, if_pos (by rw [h.1, z])]; exact hx
      · rw [if_neg z, if_neg (by rw [h.1]; exact fun y => z (inj _ _ y))]; exact h.2.1
  | [], _ :: _, h => h.elim
  | _ :: _, [], h => h.elim
theorem DRel.put (k : κ) {v : α} {x : V} (hx : (e v).p F x) {l : List (κ × α)} {ws : List (κ' × V)} (h : DRel tk' e F l ws) : DRel tk' e F (ptK l k v) (putK ws (tk' k) x) := by
  unfold ptK putK
  rw [DRel.any inj k h]
  by_cases z : (l.any fun p => decide (p.1 = k)) = true
  · rw [if_pos z, if_pos z]; exact DRel.rep inj k hx h
  · rw [if_neg z, if_neg z]; exact h.app rfl hx
end
def tkey (k : Int × Int) : List Key := [Sum.inl k.1, Sum.inl k.2]
theorem tkey_inj (a b : Int × Int) (h : tkey a = tkey b) : a = b := by
  unfold tkey at h
  injection h with h1 h2
  injection h2 with h2
  exact Prod.ext (Sum.inl.inj h1) (Sum.inl.inj h2)
theorem tkey_V (k : Int × Int) : (tkey k).map kV = [V.int k.1, V.int k.2] := rfl
def oDT (e : α → R) (l : List ((Int × Int) × α)) : OC := ⟨fun F _ o => ∃ ws, o = .dT ws ∧ DRel tkey e F l ws, fun x ⟨ws, h1, h2⟩ => ⟨ws, h1, h2.mono x⟩, fun ⟨ws, h1, _⟩ xs h => by rw [h1] at h; cases h⟩
/-- such a dict, held still -/
def eDT (e : α → R) (l : List ((Int × Int) × α)) : R := ⟨fun F v => ∃ p o ws, v = .ref p ∧ F p = some (.frz o (.dT ws)) ∧ DRel tkey e F l ws, fun x ⟨p, o, ws, h1, h2, h3⟩ => ⟨p, o, ws, h1, x _ _ h2, h3.mono x⟩⟩
theorem en_dnewT {e : α → R} : ESN tDNewT W W (oDT e []) := fun F H σ Q s k p hp => by
  have ex : Same H (upd H p (.dT [])) := fun a o z => by rw [upd_ne (ne_of_none z hp)]; exact z
  exact k p _ F _ (Rel.grow ex) (s.grow ex) hp upd_same (s.ex.free hp) (not_own s hp) ⟨[], rfl, trivial⟩
theorem ss_dputT {e : α → R} {l : List ((Int × Int) × α)} {i : Nat} {k : Int × Int} {v : α} {P : Post} (hv : ES tv W W1 (e v)) (h1 : W1[i]? = some (.ow (oDT e l))) (hk : ES tk W1 W2 (eP2 K eI eI k)) (h2 : W2[i]? = some (.ow (oDT e l))) (few : l.length < 1000000)
    (c : P.nx (W2.set i (.ow (oDT e (ptK l k v))))) : SS (sDPut (tVar i) tk tv) W P := fun F H σ D s kn _ _ _ =>
  hv F H σ _ s fun y F1 H1 a1 s1 e1 => by
    obtain ⟨p, o, e0, g1, _, eo⟩ := s1.ow i _ h1
    refine ⟨.ref p, e0, hk F1 H1 σ _ s1 fun u F2 H2 a2 s2 e2 => ?_⟩
    obtain ⟨t, rfl, t2⟩ := pairF.mp e2
    obtain ⟨p', o', e0', z1, z2, ws, rfl, dr⟩ := s2.ow i _ h2
    have ep : p' = p := by rw [e0] at e0'; cases e0'; rfl
    subst ep
    have fl : ws.length < sizeLine := by rw [dr.len, sizeLine_eq]; omega
    refine ⟨p', _, rfl, DPut.t (k := tkey k) z1 (s2.ex _ _ t2) fl, ?_⟩
    have e1' := (e v).mono a2.f e1
    refine kn _ _ _ _ c ((a1.trans a2).trans ⟨fun _ _ z => z, fun a u n z => ?_, fun _ _ z => .inl z, fun a z => ?_, fun a m => .inl ((Own.mut h2).mp m)⟩) (s2.mut h2 e0' ⟨_, rfl, DRel.put tkey_inj k e1' dr⟩)
    · rw [upd_ne (fun q : a = p' => n (by rw [q]; exact ⟨i, _, h2, e0'⟩))]; exact z
    · by_cases q : a = p'
      · subst q; rw [upd_same] at z; cases z
      · rw [upd_ne q] at z; exact z
/-- a dict with tuples as keys, held still -/
def tLockT (te : TE) : TE := fun σ H Q => te σ H fun x H1 => ∃ d kvs, x = .ref d ∧ H1 d = some (.dT kvs) ∧ ∀ o, Q x (upd H1 d (.frz o (.dT kvs)))
theorem pe_lockT {X : Cx} {te : TE} {e : Expr} (he : PE X e te) : PE X e (tLockT te) := ⟨fun pins s σ H Q I h => thn (he.run pins s σ H _ I h) fun u s1 ⟨x, H1, I1, rx, d, kvs, _, hd, q⟩ => by
  obtain ⟨od, I2⟩ := I1.lock hd True.intro
  exact ⟨x, _, I2, rx, q od⟩⟩
theorem wk_no : ∀ (W : List Sl) (i : Nat), Wk W (W.set i .no) := fun W => by
  induction W with
  | nil => intro i; trivial
  | cons s W ih =>
    intro i
    cases i with
    | zero => exact ⟨.inl rfl, Wk.refl⟩
    | succ i => exact ⟨.inr rfl, ih i⟩
/-- an owned object whose content is replaced, then frozen -/
theorem own_frz {σ : L2.St} {i : Nat} {c : OC} {p : Addr} {o o' : HO} (s : Sat F H σ W) (h0 : W[i]? = some (.ow c)) (e0 : σ[i]? = some (some (.ref p))) (g1 : H p = some o) (g2 : F p = none) :
    Rel F H (Own W σ) (upd F p o') (upd H p o') (Own (W.set i .no) σ) ∧ Sat (upd F p o') (upd H p o') σ (W.set i .no) := by
  have hi : i < W.length := (List.getElem?_eq_some_iff.mp h0).1
  have wk := wk_no W i
  have ow : Own W σ p := ⟨i, _, h0, e0⟩
  have np : ¬ Own (W.set i .no) σ p := fun ⟨j, c, z1, z2⟩ => by
    by_cases e : i = j
    · subst e; rw [List.getElem?_set_self hi] at z1; cases z1
    · rw [List.getElem?_set_ne e] at z1
      exact e (s.ds i j _ _ p h0 z1 e0 z2)
  have s1 := (s.weak wk).set' g2 np (o := o')
  refine ⟨⟨fun a u h => ?_, fun a u n z => ?_, fun a u z => ?_, fun a z => ?_, fun a m => .inl (wk.sub m)⟩, s1.freeze upd_same g2 np⟩
  · rw [upd_ne (ne_of_none h g2)]; exact h
  · rw [upd_ne (fun q : a = p => n (by rw [q]; exact ow))]; exact z
  · by_cases q : a = p
    · subst q; exact .inr (.inr (.inl ow))
    · rw [upd_ne q] at z; exact .inl z
  · by_cases q : a = p
    · subst q; rw [upd_same] at z; cases z
    · rw [upd_ne q] at z; exact z
theorem es_lockT {e : α → R} {l : List ((Int × Int) × α)} {i : Nat} (h0 : W[i]? = some (.ow (oDT e l))) : ES (tLockT (tVar i)) W (W.set i .no) (eDT e l) := fun F H σ Q s k => by
  obtain ⟨p, ob, e0, g1, g2, ws, rfl, dr⟩ := s.ow i _ h0
  refine ⟨.ref p, e0, p, ws, rfl, g1, fun o => ?_⟩
  obtain ⟨r1, r2⟩ := own_frz (o' := .frz o (.dT ws)) s h0 e0 g1 g2
  exact k _ _ _ r1 r2 ⟨p, o, ws, rfl, upd_same, dr.mono r1.f⟩
theorem is_keysT {e : α → R} {l : List ((Int × Int) × α)} (h : ES td W W1 (eDT e l)) : IS (iKeys td) W W1 ((List.map Prod.fst l).map (eP2 K eI eI)) := fun F H σ Q s k =>
  h F H σ _ s fun v F1 H1 a1 s1 ⟨p, o, ws, e1, e2, dr⟩ => by
    refine ⟨p, o, e1, .inr ⟨ws, s1.ex _ _ e2, k (Itkt p o ws) F1 H1 a1 s1 fun i F' H' f1 f2 => ⟨fun r hr => ?_, fun hl => ?_⟩⟩⟩
    · rw [List.map_map, List.getElem?_map] at hr
      cases z : l[i]? with
      | none => rw [z] at hr; cases hr
      | some kv =>
        rw [z] at hr; cases hr
        obtain ⟨w, w1, w2, _⟩ := dr.at z
        refine ⟨⟨f2 _ _ (f1 _ _ e2), (List.getElem?_eq_some_iff.mp w1).1⟩, fun x H'' ⟨u1, kk, vv, q, u2, u3, u4⟩ => ?_⟩
        subst u1 u3
        rw [w1] at u2
        cases u2
        have w2' : kk = tkey kv.1 := w2
        subst w2'
        obtain ⟨F'', r1, r2, r3⟩ := fr_tup f2 u4
        exact ⟨F'', r1, r2, pairF.mpr ⟨q, rfl, r3⟩⟩
    · rw [List.length_map, List.length_map] at hl
      exact ⟨f2 _ _ (f1 _ _ e2), by rw [dr.len]; exact hl⟩
theorem es_dgetT [Inhabited α] {e : α → R} {l : List ((Int × Int) × α)} {k : Int × Int} (h : ES td W W1 (eDT e l)) (hk : ES tk W1 W2 (eP2 K eI eI k)) (hs : (gtK l k).isSome = true) : ES (tDGet td tk) W W2 (e (unO (gtK l k))) := fun F H σ Q s c =>
  h F H σ _ s fun v F1 H1 a1 s1 ⟨p, o, ws, e1, e2, dr⟩ => hk F1 H1 σ _ s1 fun u F2 H2 a2 s2 g => by
    obtain ⟨t, t1, t2⟩ := pairF.mp g
    have dr2 := dr.mono a2.f
    cases z : gtK l k with
    | none => rw [z] at hs; cases hs
    | some x =>
      obtain ⟨y, y1, y2⟩ := (DRel.get tkey_inj k dr2).1 x z
      rw [z] at c
      exact ⟨p, y, e1, .inr ⟨ws, tkey k, t, .inr ⟨o, s2.ex _ _ (a2.f _ _ e2)⟩, t1, s2.ex _ _ t2, y1.symm⟩, c y F2 H2 (a1.trans a2) s2 y2⟩
theorem es_dinT {e : α → R} {l : List ((Int × Int) × α)} {k : Int × Int} (hk : ES tk W W1 (eP2 K eI eI k)) (h : ES td W1 W2 (eDT e l)) : ES (tDIn tk td) W W2 (eB (gtK l k).isSome) := fun F H σ Q s c =>
  hk F H σ _ s fun u F1 H1 a1 s1 g => h F1 H1 σ _ s1 fun v F2 H2 a2 s2 ⟨p, o, ws, e1, e2, dr⟩ => by
    obtain ⟨t, t1, t2⟩ := pairF.mp g
    refine ⟨p, valV ws (tkey k), e1, .inr ⟨ws, tkey k, t, .inr ⟨o, s2.ex _ _ e2⟩, t1, s2.ex _ _ (a2.f _ _ t2), rfl⟩, ?_⟩
    have q := DRel.get tkey_inj k dr
    have eb : (valV ws (tkey k)).isSome = (gtK l k).isSome := by
      cases z : gtK l k with
      | none => rw [q.2 z]; rfl
      | some x => obtain ⟨y, y1, _⟩ := q.1 x z; rw [y1]; rfl
    rw [eb]
    exact c _ F2 H2 (a1.trans a2) s2 rfl
end
end Fw
end
section
set_option maxRecDepth 100000
namespace Fw
open PySem L2
section
variable {W W' W0 W1 W2 W3 : List Sl} {K : PySem.W.Frag} {ta tb te : TE} {α β : Type} {ts uu tA tB : TS} {tc' : TT} {a : Bool} {c : List R}
def CPowW (i j : Int) : Prop := 0 ≤ j ∧ (Builtin.Int.intBits i : Int) * j ≤ 2 ^ 27
theorem op_powW {X : Cx} : OpR X (binaryOp .Pow) (rI CPowW fun i j => .int (i ^ j.toNat)) := opI fun _ _ _ _ _ _ _ hc q => PyProof.Rows.pow_int hc.1 hc.2 q
theorem es_powW {i j : Int} (ha : ES ta W W1 (eI i)) (hb : ES tb W1 W2 (eI j)) (c : CPowW i j) : ES (tOp (rI CPowW fun i j => .int (i ^ j.toNat)) ta tb) W W2 (eI (i ^ j.toNat)) := es_op ha hb fun _ _ q => ⟨i, j, rfl, rfl, c, q⟩
abbrev SPost (W2 : List Sl) : Post := ⟨fun W' => Wk W' W2, fun _ _ => False, fun _ => False, fun _ => False⟩
theorem sn_seq1 (v1 : α) (mk : α → List Sl) (h : SS ts W (SPost (mk v1))) (k : ∀ x1, x1 = v1 → SSN uu (mk x1) c) : SSN (tSeq ts uu) W c := sn_seqTo (mk v1) h (k v1 rfl)
theorem sn_seq2 (v1 : α) (v2 : β) (mk : α → β → List Sl) (h : SS ts W (SPost (mk v1 v2))) (k : ∀ x1, x1 = v1 → ∀ x2, x2 = v2 → SSN uu (mk x1 x2) c) : SSN (tSeq ts uu) W c := sn_seqTo (mk v1 v2) h (k v1 rfl v2 rfl)
theorem sn_ifj (vA vB : α) (mk : α → List Sl) (h : ET tc' W W1 a) (hA : a = true → SS tA W1 (SPost (mk vA))) (hB : a = false → SS tB W1 (SPost (mk vB)))
    (k : ∀ x, x = (if a = true then vA else vB) → SSN uu (mk x) c) : SSN (tSeq (tIfS tc' tA tB) uu) W c := by
  refine sn_seqTo (mk (if a = true then vA else vB)) (ss_if h (fun q => ?_) fun q => ?_) (k _ rfl)
  · have e : (if a = true then vA else vB) = vA := if_pos q
    rw [e]; exact hA q
  · have e : (if a = true then vA else vB) = vB := if_neg (by rw [q]; exact Bool.false_ne_true)
    rw [e]; exact hB q
theorem en_starG {e : α → R} {l : List α} {tr : TA} {rs : List R} (h : AS tr W W1 rs) (hrs : rs = l.map e) (hl : l.length ≤ 100000) : ESN (tLst tr) W W1 (oLs e l) := by
  subst hrs
  exact en_lst' h (by rw [List.length_map]; exact hl)
theorem es_neNilO {e : α → R} [D : DatE K e] {l : List α} {i : Nat} {q : Option Addr} (h0 : W[i]? = some (.ow (oLq q (l.map e)))) (h : D.dep + 1 ≤ 64 := by decide) : ES (tOp (rNeD K) (tVar i) (tLst tNil)) W W (eB (!l.isEmpty)) := fun F H σ Q s k => by
  obtain ⟨p0, o, e0, g1, g2, ⟨yq, xs, rfl, h3⟩⟩ := s.ow i _ h0
  refine ⟨.ref p0, e0, Nat.zero_le _, fun p hp => ?_⟩
  have ex : Same H (upd H p (.lst [])) := fun a o z => by rw [upd_ne (ne_of_none z hp)]; exact z
  refine ⟨(datLs (K := K) (e := e)).d l, .list [], .lst (.inl (.inl (ex _ _ g1))) (dpAll (fun a o z => ex a o (s.ex a o z)) h3), .lst (.inl (.inl upd_same)) .nil, shp (K := K) (e := eLs e) h l, by decide +kernel, ?_⟩
  have eq : PyData.eqv ((datLs (K := K) (e := e)).d l) (.list []) = l.isEmpty := by
    show PyData.eqv (PyData.list (l.map D.d)) (.list []) = l.isEmpty
    rw [eqv_nil]
    cases l <;> rfl
  rw [eq]; exact k _ F _ (Rel.grow ex) (s.grow ex) rfl
theorem es_eqNilO {e : α → R} [D : DatE K e] {l : List α} {i : Nat} {q : Option Addr} (h0 : W[i]? = some (.ow (oLq q (l.map e)))) (h : D.dep + 1 ≤ 64 := by decide) : ES (tOp (rEqD K) (tVar i) (tLst tNil)) W W (eB (l.isEmpty)) := fun F H σ Q s k => by
  obtain ⟨p0, o, e0, g1, g2, ⟨yq, xs, rfl, h3⟩⟩ := s.ow i _ h0
  refine ⟨.ref p0, e0, Nat.zero_le _, fun p hp => ?_⟩
  have ex : Same H (upd H p (.lst [])) := fun a o z => by rw [upd_ne (ne_of_none z hp)]; exact z
  refine ⟨(datLs (K := K) (e := e)).d l, .list [], .lst (.inl (.inl (ex _ _ g1))) (dpAll (fun a o z => ex a o (s.ex a o z)) h3), .lst (.inl (.inl upd_same)) .nil, shp (K := K) (e := eLs e) h l, by decide +kernel, ?_⟩
  have eq : PyData.eqv ((datLs (K := K) (e := e)).d l) (.list []) = l.isEmpty := by
    show PyData.eqv (PyData.list (l.map D.d)) (.list []) = l.isEmpty
    rw [eqv_nil]
    cases l <;> rfl
  rw [eq]; exact k _ F _ (Rel.grow ex) (s.grow ex) rfl
/-- list(xs) -/
theorem en_listL {e : α → R} {l : List α} (ha : ES ta W W1 (eLs e l)) : ESN (tCB (fun xs H Q => ∃ p ys, xs = [.ref p] ∧ (SqL K H p ys ∨ SqT K H p ys) ∧ ∀ l, H l = none → Q (.ref l) (upd H l (.lst ys))) (tCons ta tNil)) W W1 (oLs e l) := fun F H σ Q s k =>
  ha F H σ _ s fun v F1 H1 a1 s1 ⟨p, xs, e1, e2, e3⟩ => by
    subst e1
    refine ⟨p, xs, rfl, .inl (.inl (.inl (s1.ex _ _ e2))), fun r hr => ?_⟩
    have exr : Same H1 (upd H1 r (.lst xs)) := fun a o z => by rw [upd_ne (ne_of_none z hr)]; exact z
    exact k r _ F1 _ (a1.trans (Rel.grow exr)) (s1.grow exr) (a1.t _ hr) upd_same (s1.ex.free hr) (not_own s1 hr) ⟨nofun, _, rfl, e3⟩
end
end Fw
end
section
set_option maxRecDepth 100000
namespace Fw
open PySem L2 PyProof.Rows PySem.Spec
/-- repr of any data -/
def rReprA (K : PySem.W.Frag) : List V → Hp → VK → Prop := fun xs H Q => ∃ x d, xs = [x] ∧ Dp K H x d ∧ d.showable = true ∧ d.hasDict = false ∧ d.depth ≤ 60 ∧ d.shown.length ≤ sizeLine ∧ Q (.str d.shown) H
theorem call_reprA {X : Cx} (hG : X.A.guards = some []) {k : Nat} (hr : Room k X.A) : CallR X (.builtin "repr") (rReprA X.K) := by
  intro pins s σ H xs us Q I r h
  obtain ⟨x, d, e, hd, h1, h2, h3, h4, q⟩ := h
  subst e
  cases hd with
  | non =>
    obtain ⟨u, e, ru⟩ := vals1 r
    subst e
    cases (show u = Value.none from ru)
    exact PySem.P.repr_of_none ⟨.str _, H, I.tok _, ⟨_, rfl⟩, q⟩
  | bl b =>
    obtain ⟨u, e, ru⟩ := vals1 r
    subst e
    cases (show u = Value.bool b from ru)
    exact PySem.P.repr_of_bool ⟨.str _, H, I.tok _, ⟨_, rfl⟩, q⟩
  | int i =>
    obtain ⟨u, e, t, ru⟩ := vals1 r
    subst e
    subst ru
    exact PySem.P.repr_of_int (of_decide_eq_true h1) ⟨.str _, H, I.tok _, ⟨_, rfl⟩, q⟩
  | str x =>
    obtain ⟨u, e, t, ru⟩ := vals1 r
    subst e
    subst ru
    exact PySem.P.repr_of_str ⟨.str _, H, I.tok _, ⟨_, rfl⟩, q⟩ h4
  | lst a b => exact call_reprD hG hr pins s σ H _ us Q I r ⟨_, _, rfl, .lst a b, h1, h2, h3, h4, q⟩
  | tup a b => exact call_reprD hG hr pins s σ H _ us Q I r ⟨_, _, rfl, .tup a b, h1, h2, h3, h4, q⟩
section
variable {W W' W0 W1 W2 W3 : List Sl} {K : PySem.W.Frag} {ta tb te : TE} {α β : Type} {tt : TS} {P : Post}
theorem es_reprA {e : α → R} [D : DatE K e] {x : α} {d : PyData} (ha : ES ta W W1 (e x)) (h : ReprF d) (hd : D.d x = d) (z : D.dep ≤ 60) : ES (tCB (rReprA K) (tCons ta tNil)) W W1 (eS (reprF d)) := by
  subst hd
  exact es_cbr ha fun F H v Q f hp q => ⟨v, D.d x, rfl, D.ok f hp, h.1, D.nod x, Nat.le_trans (D.dpt x) z, h.2, q⟩
@[reducible] def datO {e : α → R} (D : DatE K e) (h : ∀ x, PyData.eqv .none (D.d x) = false ∧ PyData.eqv (D.d x) .none = false) : DatE K (eO e) where
  d := fun o => optD D.d o
  dep := D.dep
  ok := fun {F H v x} f g => by
    cases x with
    | none =>
      cases (show v = V.non from g)
      exact .non
    | some x => exact D.ok f g
  lay := fun x => by
    cases x with
    | none => rfl
    | some x => exact D.lay x
  dpt := fun x => by
    cases x with
    | none => simp [optD, PyData.depth]
    | some x => exact D.dpt x
  eqv := fun x y => by
    cases x with
    | none =>
      cases y with
      | none => simp [optD, PyData.eqv]
      | some y =>
        show PyData.eqv .none (D.d y) = true ↔ _
        rw [(h y).1]; simp
    | some x =>
      cases y with
      | none =>
        show PyData.eqv (D.d x) .none = true ↔ _
        rw [(h x).2]; simp
      | some y =>
        show PyData.eqv (D.d x) (D.d y) = true ↔ _
        rw [D.eqv]; simp
  nod := fun x => by
    cases x with
    | none => rfl
    | some x => exact D.nod x
instance {a : α → R} {b : β → R} [DatE K a] [DatE K b] : DatE K (eO (eP2 K a b)) := datO inferInstance fun x => ⟨rfl, rfl⟩
instance {a : α → R} {b : β → R} : NotN (eP2 K a b) := ⟨fun F x v h e => by obtain ⟨p, _, h', _⟩ := h; rw [h'] at e; cases e⟩
theorem es_isN {e : α → R} [N : NotN e] {o : Option α} (h : ES te W W1 (eO e o)) : ES (tIsN te) W W1 (eB (!o.isSome)) := fun F H σ Q s k =>
  h F H σ _ s fun v F1 H1 a1 s1 e1 => by
    have eq : decide (v = .non) = (!o.isSome) := by
      cases o with
      | none => exact decide_eq_true (show v = .non from e1)
      | some x => exact decide_eq_false (N.no _ _ _ e1)
    rw [eq]; exact k _ F1 H1 a1 s1 rfl
theorem es_notN {e : α → R} [N : NotN e] {o : Option α} (h : ES te W W1 (eO e o)) : ES (tNotN te) W W1 (eB o.isSome) := fun F H σ Q s k =>
  h F H σ _ s fun v F1 H1 a1 s1 e1 => by
    have eq : (!decide (v = .non)) = o.isSome := by
      cases o with
      | none => rw [decide_eq_true (show v = .non from e1)]; rfl
      | some x => rw [decide_eq_false (N.no _ _ _ e1)]; rfl
    rw [eq]; exact k _ F1 H1 a1 s1 rfl
theorem es_ixLO [Inhabited α] {e : α → R} {l : List α} {i : Nat} {k : Int} {q q' : Option Addr} {rs : List R} (h0 : W[i]? = some (.ow (oLq q' rs))) (hk : ES tb W W1 (eI k)) (h1 : W1[i]? = some (.ow (oLq q (l.map e)))) (h : 0 ≤ k ∧ k < l.length) : ES (tOp (rIxL K) (tVar i) tb) W W1 (e (nth l k)) := fun F H σ Q s c => by
  obtain ⟨p, o, e0, g1, _, ⟨_, xs, rfl, h3⟩⟩ := s.ow i _ h0
  refine ⟨.ref p, e0, hk F H σ _ s fun v F1 H1 a1 s1 e1 => ?_⟩
  cases (show v = V.int k from e1)
  obtain ⟨p', o', e0', g1', _, ⟨_, ys, rfl, h3'⟩⟩ := s1.ow i _ h1
  rw [e0] at e0'; cases e0'
  obtain ⟨x, z1, z2⟩ := h3'.get' (i := k.toNat) (r := e (nth l k)) (by rw [List.getElem?_map, nth_get h]; rfl)
  have hx := atI_k z1
  rw [Int.toNat_of_nonneg h.1] at hx
  exact ⟨p, ys, k, x, rfl, rfl, .inl (.inl g1'), hx, c x F1 H1 a1 s1 z2⟩
/-- an owned list is frozen, nothing is run -/
theorem sat_frz {e : α → R} {l : List α} {i : Nat} {q : Option Addr} {F H : Hp} {σ : L2.St} (s : Sat F H σ W) (h0 : W[i]? = some (.ow (oLq q (l.map e)))) :
    ∃ F', Rel F H (Own W σ) F' H (Own (W.set i (.fz (eLs e l))) σ) ∧ Sat F' H σ (W.set i (.fz (eLs e l))) := by
  obtain ⟨p, o, e0, g1, g2, ⟨yq, xs, rfl, h3⟩⟩ := s.ow i _ h0
  have hi : i < W.length := (List.getElem?_eq_some_iff.mp h0).1
  have ow : Own W σ p := ⟨i, _, h0, e0⟩
  have wk := wk_no W i
  have np : ¬ Own (W.set i .no) σ p := fun ⟨j, c, z1, z2⟩ => by
    by_cases e : i = j
    · subst e; rw [List.getElem?_set_self hi] at z1; cases z1
    · rw [List.getElem?_set_ne e] at z1
      exact e (s.ds i j _ _ p h0 z1 e0 z2)
  have s1 := (s.weak wk).freeze g1 g2 np
  have s2 : Sat (upd F p (.lst xs)) H (σ.set i (some (.ref p))) ((W.set i .no).set i (.fz (eLs e l))) := s1.put ⟨p, xs, rfl, upd_same, h3.mono fun a o z => by rw [upd_ne (ne_of_none z g2)]; exact z⟩
  have es : σ.set i (some (.ref p)) = σ := by
    refine List.ext_getElem? fun j => ?_
    by_cases e : i = j
    · subst e
      rw [List.getElem?_set_self (by rw [s.len]; exact hi), e0]
    · rw [List.getElem?_set_ne e]
  have ew : (W.set i .no).set i (.fz (eLs e l)) = W.set i (.fz (eLs e l)) := by rw [List.set_set]
  rw [es, ew] at s2
  refine ⟨_, ⟨fun a u h => ?_, fun _ _ _ h => h, fun a u h => ?_, fun _ h => h, fun a m => .inl ?_⟩, s2⟩
  · rw [upd_ne (ne_of_none h g2)]; exact h
  · by_cases z : a = p
    · subst z; exact .inr (.inr (.inl ow))
    · rw [upd_ne z] at h; exact .inl h
  · obtain ⟨j, c, z1, z2⟩ := m
    by_cases e : i = j
    · subst e; rw [List.getElem?_set_self hi] at z1; cases z1
    · rw [List.getElem?_set_ne e] at z1
      exact ⟨j, c, z1, z2⟩
theorem ss_frz {e : α → R} {l : List α} (i : Nat) {q : Option Addr} (h0 : W[i]? = some (.ow (oLq q (l.map e)))) (h : SS tt (W.set i (.fz (eLs e l))) P) : SS tt W P := fun F H σ D s kn kr kb kc => by
  obtain ⟨F', r, s'⟩ := sat_frz s h0
  exact h F' H σ D s' (fun W2 σ2 F2 H2 n2 a2 s2 => kn W2 σ2 F2 H2 n2 (r.trans a2) s2) (fun W2 σ2 v' v F2 H2 n2 a2 s2 => kr W2 σ2 v' v F2 H2 n2 (r.trans a2) s2)
    (fun W2 σ2 F2 H2 n2 a2 s2 => kb W2 σ2 F2 H2 n2 (r.trans a2) s2) fun W2 σ2 F2 H2 n2 a2 s2 => kc W2 σ2 F2 H2 n2 (r.trans a2) s2
end
end Fw
end
section
set_option maxRecDepth 100000
namespace Fw
open PySem L2
section
variable {K : PySem.W.Frag} {α β γ δ ε : Type} {W W1 : List Sl} {te : TE}
theorem et_orB {β : Type} {W1 W2 : List Sl} {t u : TT} {a b : Bool} (mk : β → List Sl) (vT vF : β) (h : ET t W W1 a) (e1 : W1 = mk vT) (h2 : a = false → ET u W1 W2 b) (e2 : a = false → W2 = mk vF) : ET (tOr t u) W (mk (if a = true then vT else vF)) (a || b) := fun F H σ Q s k => h F H σ _ s fun F1 H1 a1 s1 => by
  cases a with
  | true =>
    rw [if_pos rfl]
    subst e1
    exact k F1 H1 a1 s1
  | false =>
    rw [if_neg Bool.false_ne_true]
    have e2' := e2 rfl
    subst e2'
    exact h2 rfl F1 H1 σ Q s1 fun F2 H2 a2 s2 => k F2 H2 (a1.trans a2) s2
theorem et_andC {β : Type} {W1 W2 : List Sl} {t u : TT} {a b : Bool} (mk : β → List Sl) (vT vF : β) (h : ET t W W1 a) (e1 : W1 = mk vF) (h2 : a = true → ET u W1 W2 b) (e2 : a = true → W2 = mk vT) : ET (tAnd t u) W (mk (if a = true then vT else vF)) (a && b) := fun F H σ Q s k => h F H σ _ s fun F1 H1 a1 s1 => by
  cases a with
  | true =>
    rw [if_pos rfl]
    have e2' := e2 rfl
    subst e2'
    exact h2 rfl F1 H1 σ Q s1 fun F2 H2 a2 s2 => k F2 H2 (a1.trans a2) s2
  | false =>
    rw [if_neg Bool.false_ne_true]
    subst e1
    exact k F1 H1 a1 s1
/-! lists of unlike things -/
def eM2 (a : α → R) (b : β → R) (x : α × β) : R := eL [a x.1, b x.2]
def eM3 (a : α → R) (b : β → R) (c : γ → R) (x : α × β × γ) : R := eL [a x.1, b x.2.1, c x.2.2]
def eM4 (a : α → R) (b : β → R) (c : γ → R) (d : δ → R) (x : α × β × γ × δ) : R := eL [a x.1, b x.2.1, c x.2.2.1, d x.2.2.2]
theorem rf_M {rs : List R} : ∀ F v, (eL rs).p F v → ∃ a, v = .ref a := fun F v ⟨p, _, h, _⟩ => ⟨p, h⟩
instance {e : α → R} {f : β → R} [D : DatE K e] [D' : DatE K f] : DatE K (eM2 e f) where
  d := fun x => .list [D.d x.1, D'.d x.2]
  dep := max D.dep D'.dep + 1
  ok := fun f ⟨p, xs, h1, h2, h3⟩ => by
    subst h1
    match xs, h3 with
    | [x, y], h3 => exact .lst (.inl (.inl (f _ _ h2))) (.cons (D.ok f h3.1) (.cons (D'.ok f h3.2.1) .nil))
    | [], h3 => exact h3.elim
    | [_], h3 => exact h3.2.elim
    | _ :: _ :: _ :: _, h3 => exact h3.2.2.elim
  lay := fun x => by simp [PyData.canLay0, PyData.canLayAll0, D.lay, D'.lay]
  dpt := fun x => by
    have h1 := D.dpt x.1
    have h2 := D'.dpt x.2
    simp only [PyData.depth, PyData.depthAll]
    omega
  eqv := fun x y => by
    obtain ⟨x1, x2⟩ := x
    obtain ⟨y1, y2⟩ := y
    simp [PyData.eqv, PyData.eqvAll, D.eqv, D'.eqv]
  nod := fun x => by simp [PyData.hasDict, PyData.hasDictAll, D.nod, D'.nod]
instance {e : α → R} {f : β → R} {g : γ → R} [D : DatE K e] [D' : DatE K f] [D'' : DatE K g] : DatE K (eM3 e f g) where
  d := fun x => .list [D.d x.1, D'.d x.2.1, D''.d x.2.2]
  dep := max D.dep (max D'.dep D''.dep) + 1
  ok := fun f ⟨p, xs, h1, h2, h3⟩ => by
    subst h1
    match xs, h3 with
    | [x, y, z], h3 => exact .lst (.inl (.inl (f _ _ h2))) (.cons (D.ok f h3.1) (.cons (D'.ok f h3.2.1) (.cons (D''.ok f h3.2.2.1) .nil)))
    | [], h3 => exact h3.elim
    | [_], h3 => exact h3.2.elim
    | [_, _], h3 => exact h3.2.2.elim
    | _ :: _ :: _ :: _ :: _, h3 => exact h3.2.2.2.elim
  lay := fun x => by simp [PyData.canLay0, PyData.canLayAll0, D.lay, D'.lay, D''.lay]
  dpt := fun x => by
    have h1 := D.dpt x.1
    have h2 := D'.dpt x.2.1
    have h3 := D''.dpt x.2.2
    simp only [PyData.depth, PyData.depthAll]
    omega
  eqv := fun x y => by
    obtain ⟨x1, x2, x3⟩ := x
    obtain ⟨y1, y2, y3⟩ := y
    simp [PyData.eqv, PyData.eqvAll, D.eqv, D'.eqv, D''.eqv]
  nod := fun x => by simp [PyData.hasDict, PyData.hasDictAll, D.nod, D'.nod, D''.nod]
instance {e : α → R} {f : β → R} {g : γ → R} {h : δ → R} [D : DatE K e] [D' : DatE K f] [D'' : DatE K g] [D3 : DatE K h] : DatE K (eM4 e f g h) where
  d := fun x => .list [D.d x.1, D'.d x.2.1, D''.d x.2.2.1, D3.d x.2.2.2]
  dep := max D.dep (max D'.dep (max D''.dep D3.dep)) + 1
  ok := fun f ⟨p, xs, h1, h2, h3⟩ => by
    subst h1
    match xs, h3 with
    | [x, y, z, w], h3 => exact .lst (.inl (.inl (f _ _ h2))) (.cons (D.ok f h3.1) (.cons (D'.ok f h3.2.1) (.cons (D''.ok f h3.2.2.1) (.cons (D3.ok f h3.2.2.2.1) .nil))))
    | [], h3 => exact h3.elim
    | [_], h3 => exact h3.2.elim
    | [_, _], h3 => exact h3.2.2.elim
    | [_, _, _], h3 => exact h3.2.2.2.elim
    | _ :: _ :: _ :: _ :: _ :: _, h3 => exact h3.2.2.2.2.elim
  lay := fun x => by simp [PyData.canLay0, PyData.canLayAll0, D.lay, D'.lay, D''.lay, D3.lay]
  dpt := fun x => by
    have h1 := D.dpt x.1
    have h2 := D'.dpt x.2.1
    have h3 := D''.dpt x.2.2.1
    have h4 := D3.dpt x.2.2.2
    simp only [PyData.depth, PyData.depthAll]
    omega
  eqv := fun x y => by
    obtain ⟨x1, x2, x3, x4⟩ := x
    obtain ⟨y1, y2, y3, y4⟩ := y
    simp [PyData.eqv, PyData.eqvAll, D.eqv, D'.eqv, D''.eqv, D3.eqv]
  nod := fun x => by simp [PyData.hasDict, PyData.hasDictAll, D.nod, D'.nod, D''.nod, D3.nod]
end
end Fw
end
section
set_option maxRecDepth 100000
set_option maxHeartbeats 2000000
/-! exceptions as values: made, asked for their class, read -/
namespace Fw
open PySem L2 PyProof.Rows PySem.Spec
/-- an exception: its class's number, what it holds -/
structure Xc where
  c : Nat
  f : Option (Option Int)
instance : Inhabited Xc := ⟨⟨0, none⟩⟩
def xfn (i : Nat) : Str := if i = 2 then "part" else if i = 3 then "total" else "item"
def XoN (C a : Addr) (F : Hp) : Prop := F a = some (ExO (.ref C) a)
def XoD (C a : Addr) (f : Str) (u : V) (F : Hp) : Prop := ∃ d, F a = some (exo a C (some d)) ∧ F d = some (exd d [(f, u)])
def eX (ad : Nat → Addr) (x : Xc) : R := ⟨fun F v => ∃ a, v = .ref a ∧ match x.f with
  | none => XoN (ad x.c) a F
  | some o => ∃ u, XoD (ad x.c) a (xfn x.c) u F ∧ (eO eI o).p F u, fun {F F' v} e h => by
    obtain ⟨a, h1, h2⟩ := h
    refine ⟨a, h1, ?_⟩
    cases q : x.f with
    | none => rw [q] at h2; exact e _ _ h2
    | some o =>
      rw [q] at h2
      obtain ⟨u, ⟨d, k1, k2⟩, k3⟩ := h2
      exact ⟨u, ⟨d, e _ _ k1, e _ _ k2⟩, (eO eI o).mono e k3⟩⟩
/-- what a class must say -/
structure XcC (K : PySem.W.Frag) (C : Addr) : Prop where
  cl : (PySem.W.clsIn K C).isSome = true
  ga : PySem.W.findIn K (.ref C) "__getattribute__" = some (some (.builtin "BaseException.__getattribute__"))
  gg : PySem.W.findIn K (.ref C) "__getattr__" = some none
  sb : PySem.W.subIn K (.ref C) (.type "BaseException") = some true
  hd : PySem.W.hasDictIn K C = true
  ha : PySem.W.findIn K (.ref C) "__class__" = some (some (.builtin "object.__class__"))
  hn : PySem.W.specialIn K (.builtin "object.__class__") "__get__" = some (some (.builtin "getset_descriptor.__get__"))
  ht : PySem.W.takesIn K (.builtin "object.__class__") = some true
  hm : PySem.W.mroIn K C (.type "object") = some true
/-- isinstance -/
def rIsX (K : PySem.W.Frag) : List V → Hp → VK → Prop := fun xs H Q => ∃ (a C : Addr) (c : V) (u : Value) (b : Bool), XcC K C ∧ xs = [.ref a, c] ∧ ClsV c u ∧ (XoN C a H ∨ ∃ f y, XoD C a f y H) ∧ PySem.W.kitOne K (.ref C) u = some b ∧ Q (.bl b) H
section
variable {X : Cx}
theorem call_isX : CallR X (.builtin "isinstance") (rIsX X.K) := by
  intro pins s σ H xs us Q I r h
  obtain ⟨a, C, c, u, b, T, rfl, k, hx, e, q⟩ := h
  obtain ⟨u1, u2, rfl, r1, r2⟩ := vals2 r
  have e2 := k.eq r2
  subst e2
  cases (show u1 = Value.ref a from r1)
  rcases hx with hx | ⟨f, y, d, ea, ed⟩
  · have x : ObjOk X.prog X.w H s.heap a (ExO (.ref C) a) := I.hok a _ hx
    obtain ⟨oe, vs, ho, ⟨hz1, hz2⟩, hd, _⟩ := x.1
    have J : PySem.W.InstAt s.heap a oe C none := by
      obtain ⟨oc, od, oda, osl⟩ := oe
      dsimp only at hz1 hz2 hd
      subst hz1 hz2 hd
      exact ⟨ho, rfl, rfl, trivial⟩
    exact PySem.W.kia_one (PySem.W.kitx_exc (x := a) (od := none) T.cl T.ga T.gg T.sb T.ha T.hn T.ht T.hm) I.kIn J e (fun z => nomatch z) fun tk => ⟨.bl b, H, I.tok tk, rfl, q⟩
  · obtain ⟨t0, ho⟩ := exo_at I.hok ea
    obtain ⟨mA, hns, rel⟩ := exd_at I.hok ed
    obtain ⟨od, hod, hl⟩ := lookIn_ns hns
    have J : PySem.W.InstAt s.heap a ({ cls := .ref C, dict := some d, data := .fields #[.ref t0, .none, .none, .none, .bool false, .none] } : Obj) C (some od) := ⟨ho, rfl, rfl, hod⟩
    exact PySem.W.kia_one (PySem.W.kitx_exc (x := a) (od := some od) T.cl T.ga T.gg T.sb T.ha T.hn T.ht T.hm) I.kIn J e (fun z => nomatch z) fun tk => ⟨.bl b, H, I.tok tk, rfl, q⟩
/-- e.f -/
def tXg (K : PySem.W.Frag) (f : Str) (te : TE) : TE := fun σ H Q => te σ H fun x H1 => ∃ (a C : Addr) (y : V), XcC K C ∧ PySem.W.findIn K (.ref C) f = some none ∧ x = .ref a ∧ XoD C a f y H1 ∧ Q y H1
theorem pe_xg {e : Expr} {te : TE} {pos : Pos} {n : Str} (he : PE X e te) (hb : attributeBase e n X.env (eval e X.env) = eval e X.env := by rfl) : PE X (.Attribute e n pos) (tXg X.K n te) := by
  refine ⟨fun pins s σ H Q I h => ?_⟩
  refine attr_of hb (thn (he.run pins s σ H _ I h) fun u s1 hh => ?_)
  obtain ⟨x, H1, I1, rx, a, C, y, T, hno, ex, ⟨d, ea, ed⟩, q⟩ := hh
  subst ex
  obtain rfl : u = Value.ref a := rx
  obtain ⟨t0, ho⟩ := exo_at I1.hok ea
  obtain ⟨mA, hns, rel⟩ := exd_at I1.hok ed
  obtain ⟨od, hod, hl⟩ := lookIn_ns hns
  obtain ⟨u, hu, ru⟩ := RelO.some_of (v := y) (o := mA n) (by have z := rel n; rw [show List.lookup n [(n, y)] = some y from by simp [List.lookup]] at z; exact z)
  have J : PySem.W.InstAt s1.heap a ({ cls := .ref C, dict := some d, data := .fields #[.ref t0, .none, .none, .none, .bool false, .none] } : Obj) C (some od) := ⟨ho, rfl, rfl, hod⟩
  exact PySem.HandSPX.exc_get I1.kIn J T.ga T.gg T.sb (PySem.W.findObj_own T.hd hno rfl (by rw [hl, hu])) (handed_of ru) ⟨y, H1, I1.tok _, ru, q⟩
/-- __init__ that stores its one value -/
def spXi (C : Addr) (f : Str) : Sp := fun vs H Q E => ∃ a y, vs = [.ref a, y] ∧ H a = some (exo a C none) ∧ ∀ dx, H dx = none → dx ≠ a → Q .non (upd (upd H dx (exd dx [(f, y)])) a (exo a C (some dx)))
def tMkX (C : Addr) (f : Str) (ta : TE) : TE := fun σ H Q => ta σ H fun y H1 => ∀ a dx, H1 a = none → H1 dx = none → dx ≠ a → Q (.ref a) (upd (upd (upd H1 a (exo a C none)) dx (exd dx [(f, y)])) a (exo a C (some dx)))
theorem pe_mkX {CX : CXT} {x f : Str} {C fI : Addr} {k : Nat} {fd : FuncData} {p1 : Str} {p pos : Pos} {e : Expr} {ta : TE} (T : OexC X.K C) (iC : PySem.W.findIn X.K (.ref C) "__init__" = some (some (.ref fI))) (tI : PySem.W.typeIn X.K (.ref fI) = some (.type "function"))
    (F1 : FnOk X.prog X.w X.K X.mg X.base CX k fI fd ["self", p1] (spXi C f)) (hr : Room (k + 1) X.A) (hb : Binds X.K fd ["self", p1] []) (hx : Passes CX X (fun _ _ _ => False)) (hg : Gl X x) (hm : X.mg x = some (.ref C)) (he : PE X e ta)
    (hs : starEach [e] X.env = (false, eval e X.env) :: starEach [] X.env := by rfl) (hdb : (x == ("__debug__" : Str)) = false := by decide) :
    PE X (.Call (.Name x p) [e] [] pos) (tMkX C f ta) := by
  refine ⟨fun pins s σ H Q I h => ?_⟩
  obtain ⟨nm, q, N, bs, bm, sn, sub, ab, col, dd, k0, k1, k2, k3, k5, hC, hbm⟩ := T.cls
  refine wpAny_Call_Name_kw (ld_glob I hg hm ?_ hdb)
  refine PySem.W.callWith_K (h₀ := X.base) I.ok.mod.kin T.kC ?_ hs (by rfl)
  rw [hs]
  show wpAny _ _ (spliced ((false, eval e X.env) :: backTo pos (starEach [] X.env))) _ _ s
  refine Calls.spliced_cons (thn (he.run pins s σ H _ I h) fun u s1 ⟨v, H1, I1, r1, q1⟩ => ?_)
  refine Calls.spliced_nil ⟨I1.kIn, ?_⟩
  show wpAny _ _ (call (.ref C) [u]) _ _ _
  obtain ⟨hp, g, dr, tk, os⟩ := s1
  have hsz : hp.objs.size ≤ hp.objs.size + 1 := Nat.le_succ _
  have hn : H1 (hp.objs.size + 1) = none := I1.hok.fresh hsz
  have kk : ∀ b o, hp.get? b = some o → ((hp.push (PySem.W.kdv_tup [u])).push (PySem.HandSPX.excO C hp.objs.size)).get? b = some o := fun b o e => Heap.get?_push_of_some _ (Heap.get?_push_of_some _ e)
  have hget : ((hp.push (PySem.W.kdv_tup [u])).push (PySem.HandSPX.excO C hp.objs.size)).get? (hp.objs.size + 1) = some (PySem.HandSPX.excO C hp.objs.size) := by heap_get
  have I2 : Inv X pins σ (upd H1 (hp.objs.size + 1) (exo (hp.objs.size + 1) C none)) ⟨(hp.push (PySem.W.kdv_tup [u])).push (PySem.HandSPX.excO C hp.objs.size), g, dr, tk, os⟩ :=
    I1.laid (t' := tk) (a := hp.objs.size + 1) (o := exo (hp.objs.size + 1) C none) (h' := (hp.push (PySem.W.kdv_tup [u])).push (PySem.HandSPX.excO C hp.objs.size)) kk hsz (exo_ok hget)
  have r2 : Vals [V.ref (hp.objs.size + 1), v] [Value.ref (hp.objs.size + 1), u] := .cons rfl (.cons r1 .nil)
  have hq : spXi C f [.ref (hp.objs.size + 1), v] (upd H1 (hp.objs.size + 1) (exo (hp.objs.size + 1) C none)) (fun z H2 => z = .non ∧ Q (.ref (hp.objs.size + 1)) H2) (fun _ _ _ => False) :=
    ⟨_, v, rfl, upd_same, fun dx n ne => ⟨rfl, q1 _ dx hn (by rw [upd_ne ne] at n; exact n) ne⟩⟩
  refine wpAny_call (PySem.HandSPX.call_own F.excBase_ValueError (fun Y => PySem.HandSPX.refsVE_contains Y bm hbm) (I1.kIn _ _ hC) (PySem.W.looks_findIn I1.kIn iC) (fun self => PySem.W.bind_fn I1.kIn self tI) (by show 1 ≤ sizeLine; rw [sizeLine_eq]; omega)
    (codeAny_mono (F1.run _ X.stack _ _ ⟨[Value.ref (hp.objs.size + 1), u], []⟩ [Value.ref (hp.objs.size + 1), u] _ _ (fun _ _ _ => False) (hr.make C [u] []) (I2.env0.make C [u] []) (hb _ [Value.ref (hp.objs.size + 1), u] I2.kIn rfl) r2 hq) fun r s' hq' => ?_))
  cases r with
  | error er => exact hx pins σ _ _ er s' I2 hq'
  | ok fl =>
    cases fl with
    | ret u2 =>
      obtain ⟨v2, H3, I3, r3, e3, q3⟩ := I2.after hq'
      subst e3
      exact ⟨r3, .ref _, H3, I3, rfl, q3⟩
    | next => exact False.elim hq'
    | brk => exact False.elim hq'
    | cont => exact False.elim hq'
end
theorem fn_xi {CX : CXT} {P : Program} {w : World} {K : PySem.W.Frag} {mg : Str → Option Value} {base : Heap} {k : Nat} {fa C : Addr} {name qual f p1 : Str} {params : Arguments} {body : List Stmt} {scope : Scope} {dV kV doc pm cdv ct oc : Value} {an od : Option Addr}
    {osl : Array (Option Value)} {N : List Str} {q1 q2 q3 q4 : Pos} (lk : K.lookup fa = some ⟨oc, od, .func (PySem.W.fnOf name qual params body scope dV kV doc pm an cdv ct), osl⟩) (hcd : PySem.W.codeIn K cdv qual = true) (S : FnScope N ["self", p1] scope)
    (hN : N = [("self" : Str), p1]) (hb : body = [.Assign [.Attribute (.Name "self" q1) f q2] (.Name p1 q3) q4]) (T : OexC K C) (hno : PySem.W.findIn K (.ref C) f = some none) (d1 : (p1 == ("__debug__" : Str)) = false := by decide) (d2 : (p1 == ("__classdict__" : Str)) = false := by decide) :
    FnOk P w K mg base CX (k + 1) fa (PySem.W.fnOf name qual params body scope dV kV doc pm an cdv ct) ["self", p1] (spXi C f) := by
  refine fn_of lk hcd S (fun vs H Q E h => ?_) (fun A outer s H vs Q E hr h => ?_)
  · obtain ⟨a, y, e, _⟩ := h
    rw [e]
    rfl
  · obtain ⟨a, y, e, ea, q⟩ := h
    subst e
    subst hb
    subst hN
    refine ⟨_, pss_one (ps_ost (pe_var (i := 0) rfl ((S.par "self" (List.Mem.head _)).elim (fun z => .inl z) (fun z => .inr (.inl z)))) (pe_var (i := 1) rfl ((S.par p1 (List.Mem.tail _ (List.Mem.head _))).elim (fun z => .inl z) (fun z => .inr (.inl z))) d1 d2) rfl), ?_⟩
    exact ⟨y, rfl, .ref a, rfl, a, C, rfl, T, hno, .inl ⟨ea, fun dx n ne => q dx n ne⟩⟩

section
variable {W W' W1 : List Sl} {K : PySem.W.Frag} {ta : TE} {r : R} {ad : Nat → Addr}
theorem es_excN {i : Nat} (h : ES ta W W1 r) : ES (fun σ H Q => ta σ H fun _ H1 => ∀ a, H1 a = none → Q (.ref a) (upd H1 a (ExO (.ref (ad i)) a))) W W1 (eX ad ⟨i, none⟩) := fun F H σ Q s k =>
  h F H σ _ s fun v F1 H1 a1 s1 e1 => fun a ha => k _ _ _ (a1.trans (Rel.lay s1.ex ha)) (s1.lay ha) ⟨a, rfl, upd_same⟩
theorem es_excD {i : Nat} {o : Option Int} (h : ES ta W W1 (eO eI o)) : ES (tMkX (ad i) (xfn i) ta) W W1 (eX ad ⟨i, some o⟩) := fun F H σ Q s k =>
  h F H σ _ s fun v F1 H1 a1 s1 e1 => fun a dx ha hd ne => by
    have e : upd (upd (upd H1 a (exo a (ad i) none)) dx (exd dx [(xfn i, v)])) a (exo a (ad i) (some dx)) = upd (upd H1 dx (exd dx [(xfn i, v)])) a (exo a (ad i) (some dx)) := by
      funext b
      by_cases hb : b = a
      · rw [hb, upd_same, upd_same]
      · rw [upd_ne hb, upd_ne hb]
        by_cases hc : b = dx
        · rw [hc, upd_same, upd_same]
        · rw [upd_ne hc, upd_ne hc, upd_ne hb]
    rw [e]
    have q1 := Rel.lay (M := Own W1 σ) (o := exd dx [(xfn i, v)]) s1.ex hd
    have s2 := s1.lay (o := exd dx [(xfn i, v)]) hd
    have ha2 : upd H1 dx (exd dx [(xfn i, v)]) a = none := by rw [upd_ne (Ne.symm ne)]; exact ha
    have q2 := Rel.lay (M := Own W1 σ) (o := exo a (ad i) (some dx)) s2.ex ha2
    refine k _ _ _ ((a1.trans q1).trans q2) (s2.lay ha2) ⟨a, rfl, v, ⟨dx, upd_same, by rw [upd_ne ne]; exact upd_same⟩, ?_⟩
    exact (eO eI o).mono (fun b u z => (q1.trans q2).f b u z) e1
def isX (x : Xc) (j : Nat) : Bool := decide (x.c = j) || decide (j = 17)
/-- what is said of the classes -/
structure XT (K : PySem.W.Frag) (ad : Nat → Addr) : Prop where
  cls : ∀ i, i < 18 → XcC K (ad i)
  sub : ∀ i, i < 18 → ∀ j, j < 18 → PySem.W.kitOne K (.ref (ad i)) (.ref (ad j)) = some (decide (i = j) || decide (j = 17))
  val : ∀ i, i < 18 → PySem.W.kitOne K (.ref (ad i)) (.type "ValueError") = some true
  nof : ∀ i, i < 4 → PySem.W.findIn K (.ref (ad i)) (xfn i) = some none
theorem es_isXb {x : Xc} {c : V} {u : Value} {b : Bool} (T : XT K ad) (h : ES ta W W1 (eX ad x)) (hx : x.c < 18) (hc : ClsV c u) (hk : PySem.W.kitOne K (.ref (ad x.c)) u = some b) : ES (tCB (rIsX K) (tCons ta (tCons (tC c) tNil))) W W1 (eB b) := fun F H σ Q s k =>
  h F H σ _ s fun v F1 H1 a1 s1 e1 => by
    obtain ⟨a, ev, e2⟩ := id e1
    refine ⟨a, ad x.c, c, u, b, T.cls _ hx, by rw [ev], hc, ?_, hk, k _ F1 H1 a1 s1 rfl⟩
    cases q : x.f with
    | none => rw [q] at e2; exact .inl (s1.ex _ _ e2)
    | some o =>
      rw [q] at e2
      obtain ⟨y, ⟨d, k1, k2⟩, _⟩ := e2
      exact .inr ⟨_, _, d, s1.ex _ _ k1, s1.ex _ _ k2⟩
theorem es_isX {x : Xc} {j : Nat} (T : XT K ad) (h : ES ta W W1 (eX ad x)) (hx : x.c < 18) (hj : j < 18) : ES (tCB (rIsX K) (tCons ta (tCons (tC (.ref (ad j))) tNil))) W W1 (eB (isX x j)) :=
  es_isXb T h hx (.own _) (T.sub _ hx _ hj)
theorem es_isV {x : Xc} (T : XT K ad) (h : ES ta W W1 (eX ad x)) (hx : x.c < 18) : ES (tCB (rIsX K) (tCons ta (tCons (tC (.ty "ValueError")) tNil))) W W1 (eB true) :=
  es_isXb T h hx (.ty _) (T.val _ hx)
def xget (x : Xc) : Option Int := x.f.getD none
theorem es_xget {x : Xc} {n : Str} (T : XT K ad) (h : ES ta W W1 (eX ad x)) (g : x.c < 4 ∧ x.f.isSome = true ∧ xfn x.c = n) : ES (tXg K n ta) W W1 (eO eI (xget x)) := fun F H σ Q s k =>
  h F H σ _ s fun v F1 H1 a1 s1 e1 => by
    obtain ⟨g1, g2, g3⟩ := g
    obtain ⟨a, ev, e2⟩ := id e1
    obtain ⟨o, q⟩ := Option.isSome_iff_exists.mp g2
    rw [q] at e2
    obtain ⟨y, ⟨d, k1, k2⟩, k3⟩ := e2
    subst g3
    have e3 : xget x = o := by unfold xget; rw [q]; rfl
    exact ⟨a, ad x.c, y, T.cls _ (by omega), T.nof _ g1, ev, ⟨d, s1.ex _ _ k1, s1.ex _ _ k2⟩, k _ F1 H1 a1 s1 (by rw [e3]; exact k3)⟩
/-- a class whose __init__ stores its one value -/
structure XDs (P : Program) (w : World) (K : PySem.W.Frag) (mg : Str → Option Value) (base : Heap) (ad : Nat → Addr) (i : Nat) (fI : Addr) (fd : FuncData) (p : Str) : Prop where
  T : OexC K (ad i)
  iC : PySem.W.findIn K (.ref (ad i)) "__init__" = some (some (.ref fI))
  tI : PySem.W.typeIn K (.ref fI) = some (.type "function")
  F : FnOk P w K mg base CX0 1 fI fd ["self", p] (spXi (ad i) (xfn i))
  hb : Binds K fd ["self", p] []
end
end Fw
end
section
set_option maxRecDepth 100000
/-! a list times a number; not in a list -/
namespace Fw
open PySem L2 PyProof.Rows PySem.Spec
theorem All2.rep {F : Hp} {rs : List R} {xs : List V} (h : All2 rs F xs) : ∀ n : Nat, All2 (List.replicate n rs).flatten F (List.replicate n xs).flatten
  | 0 => trivial
  | n + 1 => by
    rw [List.replicate_succ, List.replicate_succ, List.flatten_cons, List.flatten_cons]
    exact h.app (All2.rep h n)
theorem u65 {k : Nat} {A : Around} (r : Room k A) : A.units + 65 < cLine := by have := r.un; omega
section
variable {W W' W1 W2 : List Sl} {K : PySem.W.Frag} {ta tb : TE} {α : Type} {e : α → R}
theorem en_rep {l : List α} {k : Int} (ha : ES ta W W1 (eLs e l)) (hb : ES tb W1 W2 (eI k)) (g : 0 ≤ k ∧ k ≤ 1000 ∧ l.length ≤ 1000) : ESN (tOp rRep ta tb) W W2 (oLs e (List.replicate k.toNat l).flatten) := fun F H σ Q s kk =>
  ha F H σ _ s fun v F1 H1 a1 s1 e1 => hb F1 H1 σ _ s1 fun y F2 H2 a2 s2 e2 => by
    obtain ⟨p, xs, h1, h2, h3⟩ := (eLs e l).mono a2.f e1
    have ey : y = V.int k := e2
    subst h1 ey
    obtain ⟨g1, g2, g3⟩ := g
    have hl : xs.length = l.length := by rw [h3.len, List.length_map]
    refine ⟨p, k, xs, rfl, rfl, s2.ex _ _ h2, by omega, by omega, ?_, fun r hr => ?_⟩
    · have : xs.length * k.toNat ≤ 1000 * 1000 := Nat.mul_le_mul (by omega) (by omega)
      rw [sizeLine_eq]; omega
    have exr : Same H2 (upd H2 r (.lst (List.replicate k.toNat xs).flatten)) := fun a o z => by rw [upd_ne (ne_of_none z hr)]; exact z
    refine kk r _ F2 _ ((a1.trans a2).trans (Rel.grow exr)) (s2.grow exr) (a1.t _ (a2.t _ hr)) upd_same (s2.ex.free hr) (not_own s2 hr) ⟨nofun, _, rfl, ?_⟩
    have z := All2.rep h3 k.toNat
    rw [List.map_flatten, List.map_replicate]
    exact z
theorem es_notInD [D : DatE K e] [DecidableEq α] {x : α} {l : List α} (ha : ES ta W W1 (e x)) (hb : ES tb W1 W2 (eLs e l)) (h : D.dep + 1 ≤ 64) : ES (tOp (rNotInD K) ta tb) W W2 (eB (!decide (x ∈ l))) := fun F H σ Q s k =>
  ha F H σ _ s fun v F1 H1 a1 s1 e1 => hb F1 H1 σ _ s1 fun w F2 H2 a2 s2 e2 => by
    have eq : ((l.map D.d).any fun z => PyData.eqv z (D.d x)) = decide (x ∈ l) := by
      rw [Bool.eq_iff_iff, List.any_eq_true, decide_eq_true_iff]
      constructor
      · rintro ⟨z, hz, q⟩
        obtain ⟨y, hy, rfl⟩ := List.mem_map.mp hz
        rw [(D.eqv y x).mp q] at hy
        exact hy
      · intro hx
        exact ⟨_, List.mem_map.mpr ⟨x, hx, rfl⟩, (D.eqv x x).mpr rfl⟩
    refine ⟨D.d x, l.map D.d, D.ok s2.ex ((e x).mono a2.f e1), (datLs (K := K) (e := e)).ok s2.ex e2, shp (by omega) x, shp (K := K) (e := eLs e) (D := datLs) h l, ?_⟩
    rw [eq]; exact k _ F2 H2 (a1.trans a2) s2 rfl
end
end Fw
end
section
set_option maxRecDepth 100000
/-! the law's list, as it lies: the law's list + a list -/
namespace Fw
open PySem L2 PyProof.Rows PySem.Spec
def SqL2 (K : PySem.W.Frag) (H : Hp) (a : Addr) (xs : List V) : Prop :=
  Rd H a (.lst xs) ∨ ∃ (its : Array Value) (n : Nat), K.lookup a = some { cls := .type "list", data := .seq its n } ∧ its.size ≤ sizeLine ∧ Vals xs its.toList
theorem SqL2.same {K : PySem.W.Frag} {F H : Hp} {a : Addr} {xs : List V} (e : Same F H) (h : SqL2 K F a xs) : SqL2 K H a xs := by
  rcases h with (h | ⟨o, h⟩) | h
  · exact .inl (.inl (e _ _ h))
  · exact .inl (.inr ⟨o, e _ _ h⟩)
  · exact .inr h
def eQ2 {α : Type} (K : PySem.W.Frag) (e : α → R) (l : List α) : R := ⟨fun F v => ∃ p xs, v = .ref p ∧ SqL2 K F p xs ∧ All2 (l.map e) F xs, fun e ⟨p, xs, h1, h2, h3⟩ => ⟨p, xs, h1, h2.same e, h3.mono e⟩⟩
def rCatQ (K : PySem.W.Frag) : R2 := fun x y H Q => ∃ l b xs zs, x = .ref l ∧ y = .ref b ∧ SqL2 K H l xs ∧ H b = some (.lst zs) ∧ xs.length + zs.length ≤ sizeLine ∧ ∀ p, H p = none → Q (.ref p) (upd H p (.lst (xs ++ zs)))
theorem op_catQ {X : Cx} : OpR X (binaryOp .Add) (rCatQ X.K) := by
  intro pins s σ H x y v u Q I rx ry h
  obtain ⟨l, b, xs, zs, rfl, rfl, hH, hB, hz, q⟩ := h
  cases rx
  cases ry
  obtain ⟨z2, its2, n2, r2, hl2, e2⟩ := I.lstM hB
  have key : ∃ (its : List Value) (n : Nat), Vals xs its ∧ s.heap.get? l = some { cls := .type "list", data := .seq its.toArray n } := by
    rcases hH with h | ⟨its, n, hk, hs, r⟩
    · obtain ⟨z, its, n, r, e⟩ := h.ok I.hok
      exact ⟨its, n, r, e⟩
    · exact ⟨its.toList, n, r, by rw [Array.toArray_toList]; exact I.kIn _ _ hk⟩
  obtain ⟨its, n, r, e⟩ := key
  have hl := r.length
  refine PySem.P.add_list e e2 ?_ (by rw [List.size_toArray, List.size_toArray]; omega)
  have ea : its.toArray ++ its2.toArray = (its ++ its2).toArray := by simp
  rw [ea]
  exact ⟨.ref _, _, I.lnew (t' := s.toks) (r.append r2) (by rw [List.length_append]; omega), rfl, q _ I.fresh⟩
theorem en_catQ {α : Type} {W W1 W2 : List Sl} {K : PySem.W.Frag} {ta tb : TE} {e : α → R} {l m : List α} (ha : ES ta W W1 (eQ2 K e l)) (hb : ES tb W1 W2 (eLs e m)) (c : l.length + m.length ≤ 16000000) : ESN (tOp (rCatQ K) ta tb) W W2 (oL ((l ++ m).map e)) := fun F H σ Q s k =>
  ha F H σ _ s fun v F1 H1 a1 s1 ⟨p, xs, h1, h2, h3⟩ => hb F1 H1 σ _ s1 fun w F2 H2 a2 s2 ⟨q, ys, g1, g2, g3⟩ => by
    subst h1 g1
    have e1 := h3.len
    have e2 := g3.len
    rw [List.length_map] at e1 e2
    refine ⟨p, q, xs, ys, rfl, rfl, (h2.same a2.f).same s2.ex, s2.ex _ _ g2, Nat.le_trans (by rw [e1, e2]; exact c) (by decide), fun l' hl => ?_⟩
    have ex : Same H2 (upd H2 l' (.lst (xs ++ ys))) := fun a o q => by rw [upd_ne (ne_of_none q hl)]; exact q
    refine k l' _ F2 _ ((a1.trans a2).trans (Rel.grow ex)) (s2.grow ex) ((a1.trans a2).t _ hl) upd_same (s2.ex.free hl) (not_own s2 hl) ⟨nofun, _, rfl, ?_⟩
    rw [List.map_append]
    exact (h3.mono a2.f).app g3
section
variable {P : Program} {w : World} {K : PySem.W.Frag} {mg mb : Str → Option Value} {CX : CXT} {k : Nat} {fa a : Addr} {fd : FuncData} {x : Str} {sp : Sp} {t : Shared} {us : List Value} {ns : List Int}
theorem lawG2 {mb : Str → Option Value} (KX : K.In t.heap) (nG : t.heap.Ns mainGlobals mg) (nB : t.heap.Ns builtinsNs mb) (nb : ∀ x : Str, x ≠ "__name__" → mb x = bootBuiltins x) (nl : t.heap.NoLimit) (g0 : t.gens = #[])
    (at_ : t.heap.get? a = some { cls := .type "list", data := .seq us.toArray }) (iv : IntsAre us ns) (short : ns.length ≤ sizeLine) (room : Room k callerA)
    (F : ∀ base : Heap, K.In base → base.Ns mainGlobals mg → FnG P w K mg base CX k fa fd [x] sp) (bind : ∀ (s : Shared) (u : Value), BindsTo s fd ⟨[u], []⟩ [(x, u)])
    (pr : ∀ H : Hp, SqL2 K H a (ns.map V.int) → sp [.ref a] H (fun v _ => v = .bl true) fun _ _ _ => False) (noX : ∀ H e s', CX [] H t (fun _ _ _ => False) e s' → False) :
    codeAny (model P w) callerA (.call (.ref fa) ⟨[.ref a], []⟩) (fun r s' => r = .ok (.ret (.bool true)) ∧ OldK t.heap s'.heap ∧ s'.os = t.os ∧ AllBare s'.gens) t := by
  have rv := vals_ints iv
  cases hk : K.lookup a with
  | some o =>
    cases at_.symm.trans (KX a o hk)
    refine lawG_core (H := fun _ => none) KX nG nB nb nl g0 at_ room F bind (pr _ (.inr ⟨us.toArray, _, hk, ?_, ?_⟩)) noX (fun _ => .inl rfl) (fun b u z => nomatch z) (fun b z => absurd rfl z) fun z => absurd rfl z
    · rw [List.size_toArray, iv.length]; exact short
    · simpa using rv
  | none =>
    let ob : Obj := { cls := .type "list", data := .seq us.toArray }
    let G : Hp := fun b => if b = a then some (.frz ob (.lst (ns.map V.int))) else none
    have yes : G a = some (.frz ob (.lst (ns.map V.int))) := if_pos rfl
    have no : ∀ b, b ≠ a → G b = none := fun b h => if_neg h
    refine lawG_core (H := G) KX nG nB nb nl g0 at_ room F bind (pr _ (.inl (.inr ⟨ob, yes⟩))) noX (fun b => ?_) (fun b u z => ?_) (fun b z => ?_) fun _ => hk
    · by_cases h : b = a
      · subst h; exact .inr ⟨_, _, yes⟩
      · exact .inl (no b h)
    · by_cases h : b = a
      · subst h
        cases yes.symm.trans z
        exact ⟨at_, by rw [List.length_map]; exact short, us, _, rv, at_⟩
      · rw [no b h] at z; exact nomatch z
    · by_cases h : b = a
      · exact h
      · exact absurd (no b h) z
end
theorem walk_ofG2 {l : PySem.W.OpenLaw} {n k : Nat} {q : Program} {loose : List Str} {XP : (Str → Option Value) → Heap → Prop} {YP : World → Heap → Prop} {d : DefRec} {K : Params → PySem.W.Frag} {sp : PySem.W.Frag → Sp} {x : Str}
    (hn : l.most = some n) (hn2 : n ≤ sizeLine) (hdf : d.params.defaults = []) (hr : Room k callerA) (hY : ∀ (w : World) (h : Heap), YP w h → (K w.params).In h)
    (F : ∀ (w : World) (mg : Str → Option Value) (fa : Addr) (h : Heap), (K w.params).In h → h.Ns mainGlobals mg → mg d.name = some (.ref fa) →
      ∃ fd : FuncData, (∀ (s : Shared) (u : Value), BindsTo s fd ⟨[u], []⟩ [(x, u)]) ∧ ∀ base : Heap, (K w.params).In base → base.Ns mainGlobals mg → FnG l.prog w (K w.params) mg base CX0 k fa fd [x] (sp (K w.params)))
    (pr : ∀ (K : PySem.W.Frag) (H : Hp) (a : Addr) (ns : List Int), ns.length ≤ n → (∀ z ∈ ns, Builtin.Int.intBits z ≤ 1048576) → SqL2 K H a (ns.map V.int) → sp K [.ref a] H (fun v _ => v = .bl true) fun _ _ _ => False) :
    PySem.W.WalkO q loose XP YP l.row.toRowW d [] (fun f vs => PySem.call f vs) := by
  refine Att.attach_callB hn hdf fun w s₀ t mg mb fa o pm cd doc a us ns G Y ho hd hcd hmg at_ iv len bits g0 => ?_
  have KX := hY w _ Y
  obtain ⟨fd, bd, FG⟩ := F w mg fa _ KX G.T.g hmg
  exact lawG2 KX G.T.g G.T.b G.T.builtins G.T.nolimit g0 at_ iv (Nat.le_trans len hn2) hr FG bd (fun H S => pr (K w.params) H a ns len bits S) fun _ _ _ z => z
/-- the promise of a law that reads its script -/
theorem law_pr2 {K : PySem.W.Frag} {H : Hp} {a : Addr} {ns : List Int} {ok : List Int → Prop} {m : List Int → Bool} (S : SqL2 K H a (ns.map V.int)) (h1 : ok ns) (h2 : m ns = true) :
    spF (ι := List Int) (fun d => [eQ2 K eI d]) (fun d => ok d) (fun d => eB (m d)) [.ref a] H (fun v _ => v = .bl true) fun _ _ _ => False := by
  refine ⟨ns, H, h1, fun _ _ z => z, ⟨⟨a, ns.map V.int, rfl, S, ?_⟩, trivial⟩, fun v F' H' _ _ hv => ?_⟩
  · induction ns with
    | nil => trivial
    | cons z l ih => exact ⟨rfl, ih2 l⟩
  · have e : v = V.bl (m ns) := hv
    rw [e, h2]
where ih2 {F : Hp} : ∀ l : List Int, All2 (l.map eI) F (l.map V.int)
  | [] => trivial
  | _ :: l => ⟨rfl, ih2 l⟩
theorem kit_refs {K : PySem.W.Frag} {C D : Addr} {b : Bool} (cl : PySem.W.isClsIn K C = true) (ty : PySem.W.typeIn K (.ref C) = some (.type "type")) (s : PySem.W.subIn K (.ref D) (.ref C) = some b) (r : PySem.W.subIn K (.ref D) (.ref D) = some true) : PySem.W.kitOne K (.ref D) (.ref C) = some b := by
  unfold PySem.W.kitOne
  by_cases h : (Value.ref D == Value.ref C) = true
  · have e : D = C := Value.ref.inj (beq_iff_eq.mp h)
    subst e
    rw [if_pos h]
    exact r.symm.trans s
  · rw [if_neg h]
    unfold PySem.W.kitCls
    dsimp only
    have hc : (PySem.W.clsIn K C).isSome = true := cl
    rw [hc, ty, if_pos (by simp)]
    exact s
theorem kit_type {K : PySem.W.Frag} {D : Addr} {n : String} {b : Bool} (hm : PySem.W.kitMeta n = true) (s : PySem.W.subIn K (.ref D) (.type n) = some b) : PySem.W.kitOne K (.ref D) (.type n) = some b := by
  unfold PySem.W.kitOne
  by_cases h : (Value.ref D == Value.type n) = true
  · cases beq_iff_eq.mp h
  · rw [if_neg h]
    unfold PySem.W.kitCls
    dsimp only
    rw [if_pos hm]
    exact s
end Fw
end
section
set_option maxRecDepth 100000
/-! texts: str(int), int(text), join, split, signs; a def's own list handed out -/
namespace Fw
open PySem L2 PyProof.Rows PySem.Spec
def strI (i : Int) : Str := (toString i : String)
def intS (a : Str) : Int := (PySem.intText? a).getD 0
def chr (c : Nat) : Str := ⟨#[c]⟩
def signs (x : Str) : List Str := x.cps.toList.map chr
def inS (i j : Str) : Bool := !(Builtin.Str.occurrences j i 0 j.length 1).isEmpty
def ixS (z : Str) (i : Int) : Str := chr ((atI z.cps.toList i).getD 0)
section
variable {W W' W0 W1 W2 W3 : List Sl} {K : PySem.W.Frag} {ta tb te to tl : TE} {r : R} {α : Type} {e : α → R} {F H F' H' : Hp} {σ : L2.St} {ts uu : TS} {ι : Type} {E : XK}
theorem es_strI {i : Int} (ha : ES ta W W1 (eI i)) (g : i.natAbs.log2 < 1920) : ES (tCB (fun xs H Q => ∃ i : Int, xs = [.int i] ∧ i.natAbs.log2 < 1920 ∧ Q (.str (toString i)) H) (tCons ta tNil)) W W1 (eS (strI i)) :=
  es_cbr ha fun F H v Q f hp q => ⟨i, by rw [show v = V.int i from hp], g, q⟩
theorem es_intS {a : Str} (ha : ES ta W W1 (eS a)) (g : (PySem.intText? a).isSome = true ∧ a.length ≤ 640) : ES (tCB (fun xs H Q => ∃ a n, xs = [.str a] ∧ PySem.intText? a = some n ∧ a.length ≤ 640 ∧ Q (.int n) H) (tCons ta tNil)) W W1 (eI (intS a)) :=
  es_cbr ha fun F H v Q f hp q => by
    obtain ⟨n, hn⟩ := Option.isSome_iff_exists.mp g.1
    refine ⟨a, n, by rw [show v = V.str a from hp], hn, g.2, ?_⟩
    have e : intS a = n := by unfold intS; rw [hn]; rfl
    rw [← e]; exact q
theorem all_bl {F : Hp} : ∀ {l : List Bool} {xs : List V}, All2 (l.map eB) F xs → xs = l.map V.bl
  | [], [], _ => rfl
  | a :: l, x :: xs, h => by rw [show x = V.bl a from h.1, all_bl h.2]; rfl
  | [], _ :: _, h => h.elim
  | _ :: _, [], h => h.elim
theorem es_all {l : List Bool} (ha : ES ta W W1 (eLs eB l)) : ES (tCB (rAll K) (tCons ta tNil)) W W1 (eB (l.all id)) := es_cbr ha fun F H v Q f ⟨p, xs, h1, h2, h3⟩ q => by
  subst h1
  have ev := all_bl h3
  subst ev
  exact ⟨p, l, rfl, .inl (.inl (f _ _ h2)), q⟩
theorem all_str {F : Hp} : ∀ {l : List Str} {xs : List V}, All2 (l.map eS) F xs → xs = l.map V.str
  | [], [], _ => rfl
  | a :: l, x :: xs, h => by rw [show x = V.str a from h.1, all_str h.2]; rfl
  | [], _ :: _, h => h.elim
  | _ :: _, [], h => h.elim
theorem str_all {F : Hp} : ∀ l : List Str, All2 (l.map eS) F (l.map V.str)
  | [] => trivial
  | _ :: l => ⟨rfl, str_all l⟩
theorem es_join {a : Str} {ys : List Str} (hs : ES to W W1 (eS a)) (hl : ES te W1 W2 (eLs eS ys)) (g : (ys.map (·.length)).sum + ys.length * a.length ≤ 16777216) :
    ES (tM1 (fun x xs H Q => ∃ a p, ∃ ys : List Str, x = .str a ∧ xs = [.ref p] ∧ (SqL K H p (ys.map V.str) ∨ SqT K H p (ys.map V.str)) ∧ (ys.map (·.length)).sum + ys.length * a.length ≤ 16777216 ∧ Q (.str (Txt.join a ys)) H) to te) W W2 (eS (Txt.join a ys)) := fun F H σ Q s k =>
  hs F H σ _ s fun v F1 H1 a1 s1 e1 => ⟨⟨a, e1⟩, hl F1 H1 σ _ s1 fun w F2 H2 a2 s2 ⟨p, xs, h1, h2, h3⟩ => by
    subst h1
    have ev := all_str h3
    subst ev
    exact ⟨a, p, ys, e1, rfl, .inl (.inl (.inl (s2.ex _ _ h2))), g, k _ F2 H2 (a1.trans a2) s2 rfl⟩⟩
theorem en_split {a b : Str} (hs : ES to W W1 (eS a)) (hb : ES te W1 W2 (eS b)) (g : (b.length == 0) = false ∧ a.length + 2 ≤ sizeLine) :
    ESN (tM1 (fun x xs H Q => ∃ a b, x = .str a ∧ xs = [.str b] ∧ (b.length == 0) = false ∧ a.length + 2 ≤ sizeLine ∧ rNewStrs (Txt.split a b) H Q) to te) W W2 (oLs eS (Txt.split a b)) := fun F H σ Q s k =>
  hs F H σ _ s fun v F1 H1 a1 s1 e1 => ⟨⟨a, e1⟩, hb F1 H1 σ _ s1 fun w F2 H2 a2 s2 e2 => by
    refine ⟨a, b, e1, by rw [show w = V.str b from e2], g.1, g.2, fun p hp => ?_⟩
    have exr : Same H2 (upd H2 p (.lst ((Txt.split a b).map V.str))) := fun a o z => by rw [upd_ne (ne_of_none z hp)]; exact z
    exact k p _ F2 _ ((a1.trans a2).trans (Rel.grow exr)) (s2.grow exr) (a1.t _ (a2.t _ hp)) upd_same (s2.ex.free hp) (not_own s2 hp) ⟨nofun, _, rfl, str_all _⟩⟩
theorem is_str {x : Str} (h : ES te W W1 (eS x)) : IS (iStr te) W W1 ((signs x).map eS) := fun F H σ Q s k =>
  h F H σ _ s fun v F1 H1 a1 s1 e1 => by
    refine ⟨x, e1, k (Its x) F1 H1 a1 s1 fun i F' H' f1 f2 => ⟨fun r hr => ?_, fun hl => ?_⟩⟩
    · rw [List.getElem?_map] at hr
      unfold signs at hr
      rw [List.getElem?_map, Array.getElem?_toList] at hr
      cases hc : x.cps[i]? with
      | none => rw [hc] at hr; cases hr
      | some c =>
        rw [hc] at hr
        have er : r = eS (chr c) := (Option.some.inj hr).symm
        subst er
        refine ⟨(Array.getElem?_eq_some_iff.mp hc).1, fun y H'' ⟨u1, c2, u2, u3⟩ => ?_⟩
        subst u1
        rw [hc] at u2
        cases u2
        exact ⟨F', Rel.refl, f2, u3⟩
    · show x.cps.size ≤ i
      unfold signs at hl
      simpa using hl
theorem es_inS {a b : Str} (ha : ES ta W W1 (eS a)) (hb : ES tb W1 W2 (eS b)) : ES (tOp (fun x y H Q => ∃ i j, x = .str i ∧ y = .str j ∧ Q (.bl (!(Builtin.Str.occurrences j i 0 j.length 1).isEmpty)) H) ta tb) W W2 (eB (inS a b)) := fun F H σ Q s k =>
  ha F H σ _ s fun v F1 H1 a1 s1 e1 => hb F1 H1 σ _ s1 fun w F2 H2 a2 s2 e2 => ⟨a, b, e1, e2, k _ F2 H2 (a1.trans a2) s2 rfl⟩
theorem es_ixS {a : Str} {i : Int} (ha : ES ta W W1 (eS a)) (hb : ES tb W1 W2 (eI i)) (g : a.length ≤ sizeLine ∧ (atI a.cps.toList i).isSome = true) : ES (tOp rIxS ta tb) W W2 (eS (ixS a i)) := fun F H σ Q s k =>
  ha F H σ _ s fun v F1 H1 a1 s1 e1 => hb F1 H1 σ _ s1 fun w F2 H2 a2 s2 e2 => by
    obtain ⟨c, hc⟩ := Option.isSome_iff_exists.mp g.2
    exact ⟨a, i, c, e1, e2, g.1, hc, k _ F2 H2 (a1.trans a2) s2 (by show V.str _ = V.str (ixS a i); unfold ixS; rw [hc]; rfl)⟩
/-- a def's own list, handed out -/
def LP (e : α → R) (j : Nat) (l : List α) : Post := ⟨fun _ => False, fun W' r => ∃ p, r = eV (.ref p) ∧ W'[j]? = some (.ow (oLq (some p) (l.map e))), fun _ => False, fun _ => False⟩
theorem sat_tell {j : Nat} {rs : List R} (s : Sat F H σ W) (h : W[j]? = some (.ow (oL rs))) : ∃ p, σ[j]? = some (some (.ref p)) ∧ Sat F H σ (W.set j (.ow (oLq (some p) rs))) ∧ ∀ a, Own (W.set j (.ow (oLq (some p) rs))) σ a ↔ Own W σ a := by
  obtain ⟨p, o, h1, h2, h3, _, xs, h4, h5⟩ := s.ow j _ h
  have hj : j < W.length := (List.getElem?_eq_some_iff.mp h).1
  have other : ∀ {i : Nat}, i ≠ j → (W.set j (.ow (oLq (some p) rs)))[i]? = W[i]? := fun {i} n => List.getElem?_set_ne (Ne.symm n)
  have same : (W.set j (.ow (oLq (some p) rs)))[j]? = some (.ow (oLq (some p) rs)) := List.getElem?_set_self hj
  have back : ∀ {i : Nat} {c : OC}, (W.set j (.ow (oLq (some p) rs)))[i]? = some (.ow c) → ∃ d, W[i]? = some (.ow d) := fun {i c} z => by
    by_cases e : i = j
    · subst e; exact ⟨_, h⟩
    · rw [other e] at z; exact ⟨c, z⟩
  have forth : ∀ {i : Nat} {c : OC}, W[i]? = some (.ow c) → ∃ d, (W.set j (.ow (oLq (some p) rs)))[i]? = some (.ow d) := fun {i c} z => by
    by_cases e : i = j
    · subst e; exact ⟨_, same⟩
    · rw [← other e] at z; exact ⟨c, z⟩
  refine ⟨p, h1, ⟨s.ex, by rw [List.length_set]; exact s.len, fun i r z => ?_, fun i c z => ?_, fun i k c d q z1 z2 => ?_⟩, fun a => ⟨fun ⟨i, c, z, y⟩ => ?_, fun ⟨i, c, z, y⟩ => ?_⟩⟩
  · by_cases e : i = j
    · subst e; rw [same] at z; cases z
    · rw [other e] at z; exact s.fz i r z
  · by_cases e : i = j
    · subst e
      rw [same] at z
      cases z
      exact ⟨p, o, h1, h2, h3, fun q hq => by cases hq; rfl, xs, h4, h5⟩
    · rw [other e] at z; exact s.ow i c z
  · obtain ⟨c', w1⟩ := back z1
    obtain ⟨d', w2⟩ := back z2
    exact s.ds i k c' d' q w1 w2
  · obtain ⟨d, w⟩ := back z
    exact ⟨i, d, w, y⟩
  · obtain ⟨d, w⟩ := forth z
    exact ⟨i, d, w, y⟩
theorem ss_retL {l : List α} {j : Nat} (h : W[j]? = some (.ow (oLs e l))) : SS (tSeq (tRet (tVar j)) uu) W (LP e j l) := fun F H σ D s _ kr _ _ => by
  obtain ⟨p, h1, s2, io⟩ := sat_tell s h
  have hj : j < W.length := (List.getElem?_eq_some_iff.mp h).1
  refine ⟨.ref p, h1, kr (W.set j (.ow (oLq (some p) (l.map e)))) σ (eV (.ref p)) (.ref p) F H ⟨p, rfl, List.getElem?_set_self hj⟩ ?_ s2 rfl⟩
  exact ⟨fun _ _ z => z, fun _ _ _ z => z, fun _ _ z => .inl z, fun _ z => z, fun a m => .inl ((io a).mp m)⟩
theorem def_L {β : Type} {as : β → List R} {ok : β → Prop} {c : β → List α} {N : List Str} {vs : List V} {H : Hp} {Q : VK} {j : Nat} (h : spN as ok (fun d => (c d).map e) vs H Q E) (hN : ∀ d, (as d).length ≤ N.length)
    (k : ∀ d, ok d → SS ts (slF (as d) N.length) (LP e j (c d))) : ts { nx := fun _ H' => Q .non H', rt := Q } (L2.start N vs) H := by
  obtain ⟨d, F, hok, ex, ha, hq⟩ := h
  have el := ha.len
  have s : Sat F H (L2.start N vs) (slF (as d) N.length) := by
    refine ⟨ex, ?_, fun i r h => ?_, fun i c h => (slF_ow h).elim, fun i j c e p h => (slF_ow h).elim⟩
    · unfold L2.start slF; simp [el]
    · obtain ⟨x, z1, z2⟩ := ha.get' (slF_fz h)
      exact ⟨x, start_at z1, z2⟩
  have own0 : ∀ a, ¬ Own (slF (as d) N.length) (L2.start N vs) a := fun a ⟨i, c, h, _⟩ => slF_ow h
  refine k d hok F H (L2.start N vs) _ s (fun W' σ' F' H' z a s' => z.elim) (fun W' σ' r v F' H' z a s' hv => ?_) (fun _ _ _ _ z => z.elim) fun _ _ _ _ z => z.elim
  obtain ⟨p, er, hw⟩ := z
  subst er
  have ev : v = V.ref p := hv
  subst ev
  obtain ⟨p2, o, h1, h2, h3, h4, xs, h5, h6⟩ := s'.ow j _ hw
  have ep := h4 p rfl
  subst ep
  subst h5
  have hp : H p2 = none := (a.o p2 ⟨j, _, hw, h1⟩).elim (fun m => (own0 _ m).elim) id
  exact hq p2 xs F' H' ⟨a.f, fun x o n h => a.h x o (own0 x) h, fun x o h => (a.n x o h).imp id (Or.imp id (Or.imp (fun m => own0 x m) id)), a.t, fun x m => m.elim⟩ s'.ex hp h2 h3 h6
theorem en_upO {l : List α} (h : ESN te W W1 (oLs e l)) : ESN te W W1 (oLs (eO e) (l.map some)) := by
  have : (l.map some).map (eO e) = l.map e := by rw [List.map_map]; rfl
  show ESN te W W1 (oL ((l.map some).map (eO e)))
  rw [this]
  exact h
theorem es_tupO2 {l : List (Option Int)} (ha : ES ta W W1 (eLs (eO eI) l)) (g : l.length = 2 ∧ (nth l 0).isSome = true ∧ (nth l 1).isSome = true) :
    ES (tCB (fun xs H Q => ∃ p ys, xs = [.ref p] ∧ ((SqL K H p ys ∧ ∀ l, H l = none → Q (.ref l) (upd H l (.tup ys))) ∨ (SqT K H p ys ∧ Q (.ref p) H))) (tCons ta tNil)) W W1 (eP2 K eI eI (unO (nth l 0), unO (nth l 1))) := fun F H σ Q s k =>
  ha F H σ _ s fun v F1 H1 a1 s1 ⟨p, xs, h1, h2, h3⟩ => by
    subst h1
    obtain ⟨g1, g2, g3⟩ := g
    match l, g1, g2, g3, h3 with
    | [some x, some y], _, _, _, h3 =>
      refine ⟨p, xs, rfl, .inl ⟨.inl (.inl (s1.ex _ _ h2)), fun q hq => k _ _ _ (a1.trans (Rel.lay s1.ex hq)) (s1.lay hq) ⟨q, xs, rfl, upd_same, ?_⟩⟩⟩
      have same : Same F1 (upd F1 q (.tup xs)) := fun a o z => by rw [upd_ne (ne_of_none z (s1.ex.free hq))]; exact z
      exact (show All2 [eI x, eI y] F1 xs from h3).mono same
    | [none, _], _, g2, _, _ => cases g2
    | [some _, none], _, _, g3, _ => cases g3
theorem es_addS {a b : Str} (ha : ES ta W W1 (eS a)) (hb : ES tb W1 W2 (eS b)) (g : a.length + b.length ≤ 16000000) : ES (tOp (fun x y H Q => ∃ i j : Str, x = .str i ∧ y = .str j ∧ i.length + j.length ≤ sizeLine ∧ Q (.str (i ++ j)) H) ta tb) W W2 (eS (a ++ b)) := fun F H σ Q s k =>
  ha F H σ _ s fun v F1 H1 a1 s1 e1 => hb F1 H1 σ _ s1 fun w F2 H2 a2 s2 e2 => ⟨a, b, e1, e2, Nat.le_trans g (by rw [sizeLine_eq]; decide), k _ F2 H2 (a1.trans a2) s2 rfl⟩
theorem es_eqM3S {β γ : Type} {f : β → R} {g : γ → R} [D' : DatE K f] [D'' : DatE K g] [DecidableEq β] [DecidableEq γ] {x y : Str × β × γ} (ha : ES ta W W1 (eM3 eS f g x)) (hb : ES tb W1 W2 (eM3 eS f g y)) (hx : PyData.canLay0 (.str x.1) = true ∧ PyData.canLay0 (.str y.1) = true) (h : max D'.dep D''.dep + 1 ≤ 64) :
    ES (tOp (rEqD K) ta tb) W W2 (eB (decide (x = y))) := fun F H σ Q s k =>
  ha F H σ _ s fun v F1 H1 a1 s1 e1 => hb F1 H1 σ _ s1 fun w F2 H2 a2 s2 e2 => by
    have dp : ∀ (v : V) (z : Str × β × γ), (eM3 eS f g z).p F2 v → Dp K H2 v (.list [.str z.1, D'.d z.2.1, D''.d z.2.2]) := fun v z ⟨p, xs, h1, h2, h3⟩ => by
      subst h1
      match xs, h3 with
      | [a, b, c], h3 =>
        have ea : a = V.str z.1 := h3.1
        subst ea
        exact .lst (.inl (.inl (s2.ex _ _ h2))) (.cons (.str _) (.cons (D'.ok s2.ex h3.2.1) (.cons (D''.ok s2.ex h3.2.2.1) .nil)))
      | [], h3 => exact h3.elim
      | [_], h3 => exact h3.2.elim
      | [_, _], h3 => exact h3.2.2.elim
      | _ :: _ :: _ :: _ :: _, h3 => exact h3.2.2.2.elim
    have sh : ∀ z : Str × β × γ, PyData.canLay0 (.str z.1) = true → SeqAt.shaped (.list [.str z.1, D'.d z.2.1, D''.d z.2.2]) = true := fun z hz => by
      have h2 := D'.dpt z.2.1
      have h3 := D''.dpt z.2.2
      unfold SeqAt.shaped
      have q1 : (PyData.list [.str z.1, D'.d z.2.1, D''.d z.2.2]).canLay0 = true := by
        have := hz
        simp only [PyData.canLay0, PyData.canLayAll0, D'.lay, D''.lay, Bool.and_true] at *
        exact this
      have q2 : (PyData.list [.str z.1, D'.d z.2.1, D''.d z.2.2]).depth ≤ 64 := by
        simp only [PyData.depth, PyData.depthAll]
        omega
      rw [q1, decide_eq_true q2]; rfl
    have eq : PyData.eqv (.list [.str x.1, D'.d x.2.1, D''.d x.2.2]) (.list [.str y.1, D'.d y.2.1, D''.d y.2.2]) = decide (x = y) := by
      obtain ⟨x1, x2, x3⟩ := x
      obtain ⟨y1, y2, y3⟩ := y
      rw [Bool.eq_iff_iff, decide_eq_true_iff]
      simp [PyData.eqv, PyData.eqvAll, D'.eqv, D''.eqv]
    refine ⟨_, _, dp v x ((eM3 eS f g x).mono a2.f e1), dp w y e2, sh x hx.1, sh y hx.2, ?_⟩
    rw [eq]; exact k _ F2 H2 (a1.trans a2) s2 rfl
end
end Fw
end
section
/-! four in a tuple -/
namespace Fw
open PySem L2
def eP4 {α β γ δ : Type} (K : PySem.W.Frag) (a : α → R) (b : β → R) (c : γ → R) (d : δ → R) (x : α × β × γ × δ) : R := eT K [a x.1, b x.2.1, c x.2.2.1, d x.2.2.2]
theorem ix_tupK {X : Cx} {K : PySem.W.Frag} (h : X.K = K) : IxR X (rIxT K) := by subst h; exact ix_tup
end Fw
end
section
set_option maxRecDepth 100000
/-! dicts of ints that are handed out: frozen; their items -/
namespace Fw
open PySem L2
def eDI (kvs : List (Int × Int)) : R := ⟨fun F v => ∃ p o, v = .ref p ∧ F p = some (.frz o (.dK (kvV kvs))), fun e ⟨p, o, h1, h2⟩ => ⟨p, o, h1, e _ _ h2⟩⟩
section
variable {W W' W0 W1 W2 W3 : List Sl} {K : PySem.W.Frag} {tk tx tv td : TE} {P : Post}
theorem es_lockI {kvs : List (Int × Int)} {i : Nat} (h0 : W[i]? = some (.ow (oD kvs))) : ES (tLock (tVar i)) W (W.set i .no) (eDI kvs) := fun F H σ Q s k => by
  obtain ⟨p, ob, e0, g1, g2, eo⟩ := s.ow i _ h0
  have eo' : ob = .dK (kvV kvs) := eo
  subst eo'
  refine ⟨.ref p, e0, p, _, rfl, g1, fun o => ?_⟩
  obtain ⟨r1, r2⟩ := own_frz (o' := .frz o (.dK (kvV kvs))) s h0 e0 g1 g2
  exact k _ _ _ r1 r2 ⟨p, o, rfl, upd_same⟩
theorem is_itemsI {kvs : List (Int × Int)} (h : ES td W W1 (eDI kvs)) : IS (iItems td) W W1 (kvs.map (eP2 K eI eI)) := fun F H σ Q s k =>
  h F H σ _ s fun v F1 H1 a1 s1 ⟨p, o, e1, e2⟩ => by
    refine ⟨p, o, kvV kvs, e1, s1.ex _ _ e2, k (Iti p o (kvV kvs)) F1 H1 a1 s1 fun i F' H' f1 f2 => ⟨fun r hr => ?_, fun hl => ?_⟩⟩
    · rw [List.getElem?_map] at hr
      cases z : kvs[i]? with
      | none => rw [z] at hr; cases hr
      | some kv =>
        rw [z] at hr; cases hr
        have zz : (kvV kvs)[i]? = some (Sum.inl kv.1, V.int kv.2) := by unfold kvV; rw [List.getElem?_map, z]; rfl
        refine ⟨⟨f2 _ _ (f1 _ _ e2), (List.getElem?_eq_some_iff.mp zz).1⟩, fun x H'' ⟨T, kk, vv, u1, u2, u3, u4⟩ => ?_⟩
        rw [zz] at u1
        cases u1
        subst u2 u4
        have fT : F' T = none := f2.free u3
        refine ⟨upd F' T (.tup [kV (Sum.inl kv.1), V.int kv.2]), Rel.lay f2 u3, fun a o z => ?_, T, _, rfl, upd_same, rfl, rfl, trivial⟩
        by_cases q : a = T
        · subst q; rw [upd_same] at z ⊢; exact z
        · rw [upd_ne q] at z ⊢; exact f2 a o z
    · refine ⟨f2 _ _ (f1 _ _ e2), ?_⟩
      unfold kvV
      rw [List.length_map]
      rw [List.length_map] at hl
      exact hl
end
end Fw
end
section
set_option maxRecDepth 100000
set_option maxHeartbeats 2000000
/-! sorted(d.items()), d a dict of ints -/
namespace Fw
open PySem L2 L2.DX PySem.Spec PyProof.Rows
theorem pairs_get {prog : Program} {w : World} {κ : Type} [DecidableEq κ] {knd : KeyKind prog w κ} : ∀ {es : List DictEntry} {kvs : List (κ × Value)} {j : Nat} {e : DictEntry}, Pairs knd es kvs → es[j]? = some e → ∃ kv, kvs[j]? = some kv ∧ knd.is kv.1 e.key = true ∧ e.val = kv.2
  | _, _, j, e, .nil, h => by simp at h
  | _, _, 0, e, .cons a b _, h => by
    simp only [List.getElem?_cons_zero] at h
    cases h
    exact ⟨_, rfl, a, b⟩
  | _, _, j + 1, e, .cons _ _ c, h => by
    simp only [List.getElem?_cons_succ] at h
    obtain ⟨kv, h1, h2⟩ := pairs_get c h
    exact ⟨kv, by simpa using h1, h2⟩
section
variable {X : Cx}
theorem sort_at {A : Around} {E : Value → Shared → Prop} {pins : List (Addr × Obj)} {σ : L2.St} {H : Hp} {s : Shared} {a : Addr} {ys : List V} {k : V → Int × Int} {Q : Shared → Prop} (I : Inv X pins σ H s) (ha : H a = some (.lst ys))
    (hx : ∀ y ∈ ys, ∃ t, y = V.ref t ∧ H t = some (.tup [.int (k y).1, .int (k y).2]))
    (q : ∀ zs s', SrtO.Srtd (ltP k) zs → SrtO.Stb (ltP k) zs ys → Inv X pins σ (upd H a (.lst zs)) s' → Q s') : wpAny (model X.prog X.w) A (call (.builtin "list.sort") [.ref a]) (fun _ s' => Q s') E s := by
  obtain ⟨hz, its, n, rv, hob⟩ := I.hok a _ ha
  obtain ⟨e1, e2⟩ := refs_back rv fun x m => by
    obtain ⟨t, e, _⟩ := hx x m
    exact ⟨t, e⟩
  have hp : ∀ v ∈ its, Srt.IsPair s.heap v (k (backV v)).1 (k (backV v)).2 := fun v hv => by
    obtain ⟨t, rfl⟩ := e2 v hv
    have hm : V.ref t ∈ ys := by rw [e1]; exact List.mem_map.mpr ⟨_, hv, rfl⟩
    obtain ⟨t', e, ht⟩ := hx _ hm
    cases e
    obtain ⟨_, its2, r2, o, ho, hc, n, hd⟩ := I.hok _ _ ht
    obtain ⟨u1, u2, rfl, ri, rj⟩ := vals2 r2
    obtain ⟨t1, rfl⟩ := ri
    obtain ⟨t2, rfl⟩ := rj
    exact ⟨t, o, t1, t2, n, rfl, ho, hc, hd⟩
  refine wpAny_call_entry PyProof.Rows.slot_list_sort ⟨_, hob, rfl⟩ PyProof.Rows.entry_list_sort
    (SrtO.list_sort_ord (SrtO.swo_lex fun u => k (backV u)) hob (by rw [← rv.length]; exact hz) (fun h2 => SrtO.pairs_sortableO (by omega) hp fun o e => ?_) fun out h1 h2 => ⟨.none, rfl, ?_⟩) (PyProof.Rows.args_list_sort _)
  · have e' : some o = some (seqObj "list" its.toArray n) := e.symm.trans hob
    cases e'
    intro c
    exact absurd (Value.type.inj c) (by decide)
  · have h3 : ∀ u ∈ out, ∃ a, u = Value.ref a := fun u hu => e2 u (h2.perm.mem_iff.mp hu)
    obtain ⟨ep, he'⟩ := PyProof.Rows.sortedHeap_at (vs := its) (out := out.toArray) hob
    have hb : SrtO.Stb (ltP k) (out.map backV) ys := by
      rw [e1]
      exact SrtO.Stb.map (ltP_swo k) backV h2
    have hlen : (out.map backV).length ≤ sizeLine := by
      rw [hb.len]
      exact hz
    refine q _ _ (SrtO.srtd_map h1) hb (I.write (e := a) (t' := s.toks) (by rw [ha]; trivial) (.inl rfl) (fun b u hb hu => ?_) ⟨_, he'⟩ ⟨hlen, out, ep, vals_back h3, he'⟩)
    rw [PyProof.Rows.sortedHeap_old hb (Heap.lt_size hu)]; exact hu
def rSortItI : List V → Hp → VK → Prop := fun vs H Q => ∃ (p a : Addr) (kvs : List (Int × Int)), vs = [.ref p] ∧ H p = some (itemsO p a) ∧ Rd H a (.dK (kvV kvs)) ∧
  ∀ (H' : Hp) (l : Addr) (zs : List V) (k : V → Int × Int), (∀ b o, H b = some o → H' b = some o) → H l = none → H' l = some (.lst zs) → SrtO.Srtd (ltP k) zs → (zs.map k).Perm kvs →
    (∀ y ∈ zs, ∃ t, y = V.ref t ∧ H t = none ∧ H' t = some (.tup [.int (k y).1, .int (k y).2])) → Q (.ref l) H'
theorem cr_sortedItI (hc : X.calm = true) : CallR X (.builtin "sorted") rSortItI := by
  intro pins s σ H xs us Q I r h
  obtain ⟨p, a, kvs, rfl, hp, ha, q⟩ := h
  obtain rfl := Vals.ref1 r
  have view : s.heap.IsItemsView p a := (show ObjOk X.prog X.w H s.heap p (itemsO p a) from I.hok p _ hp).1
  obtain ⟨z, hd, vs, rel, o, es, ep, ho, hx, hdat, hks, hpr, hn⟩ := dk_rd I.hok ha
  have hh : X.A.handled = none := I.ok.hd hc
  have l1 : (kvV kvs).length = vs.length := Paired.length rel
  have l2 : es.toList.length = vs.length := hpr.length
  have l3 : (kvV kvs).length = kvs.length := by unfold kvV; rw [List.length_map]
  have les : es.size = kvs.length := by rw [Array.length_toList] at l2; omega
  refine DT.sortedI (es := es) (ep := ep) hh view ⟨o, ho, hx, hdat⟩ (by omega) fun h' tk as hk hlt hl hG => ?_
  have lak : as.length = kvs.length := by omega
  have nd : as.Nodup := List.Pairwise.imp (fun h => Nat.ne_of_lt h) hG.rise
  have pr : ∀ (j : Nat) (b : Addr), as[j]? = some b → ∃ (kv : Int × Int) (t w : Tok), kvs[j]? = some kv ∧ h'.get? b = some { cls := .type "tuple", data := .seq #[Value.int kv.1 t, Value.int kv.2 w] } := by
    intro j b hj
    obtain ⟨en, he, hg⟩ := hG.pairs j b hj
    rw [← Array.getElem?_toList] at he
    obtain ⟨⟨kk, vv⟩, hv1, hv2, hv3⟩ := pairs_get hpr he
    obtain ⟨e0, he0, r1, r2⟩ := pget rel hv1
    unfold kvV at he0
    rw [List.getElem?_map] at he0
    cases hkj : kvs[j]? with
    | none => rw [hkj] at he0; cases he0
    | some kv =>
      rw [hkj] at he0
      have ee : (Sum.inl kv.1, V.int kv.2) = e0 := Option.some.inj he0
      subst ee
      have ek : Sum.inl kv.1 = kk := r1
      subst ek
      obtain ⟨t, et⟩ : RelV (kV (Sum.inl kv.1)) en.key := relV_key hv2
      obtain ⟨w, ew⟩ : RelV (V.int kv.2) vv := r2
      refine ⟨kv, t, w, rfl, ?_⟩
      rw [hg, et, hv3, ew]
  -- the heap of the sort
  have hob : (h'.push { cls := .type "list", data := .seq (as.map Value.ref).toArray }).get? h'.objs.size = some (seqObj "list" (as.map Value.ref).toArray 0) := Heap.get?_push_size _ rfl
  have kb : ∀ b o, s.heap.get? b = some o → (h'.push { cls := .type "list", data := .seq (as.map Value.ref).toArray }).get? b = some o := fun b o e => Heap.get?_push_of_some _ (hk b o e)
  have ka : ∀ b o, h'.get? b = some o → (h'.push { cls := .type "list", data := .seq (as.map Value.ref).toArray }).get? b = some o := fun b o e => Heap.get?_push_of_some _ e
  have ne0 : ∀ b o, h'.get? b = some o → b ≠ h'.objs.size := fun b o e => Nat.ne_of_lt (Heap.lt_size e)
  have hn0 : H h'.objs.size = none := I.hok.fresh (Nat.le_of_lt hlt)
  have I1 : Inv X pins σ H { s with heap := h'.push { cls := .type "list", data := .seq (as.map Value.ref).toArray }, toks := tk } := I.kept (t' := tk) kb
  have rv : Vals (as.map fun z => V.ref z) (as.map Value.ref) := vals_maps (fun z : Addr => V.ref z) (fun z => Value.ref z) as fun _ _ => rfl
  have I2 : Inv X pins σ (upd H h'.objs.size (.lst (as.map V.ref))) { s with heap := h'.push { cls := .type "list", data := .seq (as.map Value.ref).toArray }, toks := tk } :=
    I1.take (t' := tk) (fun b ob _ e => e) (I.fpOk (Nat.le_of_lt hlt) hn0) ⟨by rw [List.length_map]; omega, as.map Value.ref, 0, rv, hob⟩
  obtain ⟨H2, I3, g, qt⟩ := takeT (P := fun b vs => ∃ (j : Nat) (kv : Int × Int), as[j]? = some b ∧ kvs[j]? = some kv ∧ vs = [.int kv.1, .int kv.2]) I as _ I2 nd fun b hb => by
    obtain ⟨j, hj⟩ := List.mem_iff_getElem?.mp hb
    obtain ⟨kv, t, w, he, hg⟩ := pr j b hj
    have hbl : s.heap.objs.size ≤ b := Nat.le_of_lt (hG.above b hb)
    refine ⟨hbl, ?_, [.int kv.1, .int kv.2], ⟨j, kv, hj, he, rfl⟩, fun H3 => ⟨(by rw [sizeLine_eq]; show 2 ≤ 16777216; omega), [Value.int kv.1 t, Value.int kv.2 w], .cons ⟨t, rfl⟩ (.cons ⟨w, rfl⟩ .nil), ⟨_, ka _ _ hg, rfl, 0, rfl⟩⟩⟩
    rw [upd_ne (ne0 _ _ hg)]
    exact I.hok.fresh hbl
  have gr : ∀ b o, H b = some o → H2 b = some o := fun b o e => g b o (by rw [upd_ne (ne_of_none e hn0)]; exact e)
  have hl2 : H2 h'.objs.size = some (.lst (as.map V.ref)) := g _ _ upd_same
  have kf : ∀ (j : Nat) (b : Addr), as[j]? = some b → ∃ kv, kvs[j]? = some kv ∧ H2 b = some (.tup [.int kv.1, .int kv.2]) ∧ keyF H2 (V.ref b) = kv := by
    intro j b hj
    obtain ⟨vs', ⟨j2, kv, k1, k2, k3⟩, hH⟩ := qt b (List.mem_of_getElem? hj)
    have eij : j = j2 := (List.getElem?_inj (List.getElem?_eq_some_iff.mp hj).1 nd).mp (hj.trans k1.symm)
    subst eij
    subst k3
    exact ⟨kv, k2, hH, keyF_eq ⟨b, rfl, hH⟩⟩
  have hkeys : (as.map V.ref).map (keyF H2) = kvs := by
    refine List.ext_getElem? fun j => ?_
    rw [List.map_map, List.getElem?_map]
    cases hj : as[j]? with
    | none =>
      have : as.length ≤ j := List.getElem?_eq_none_iff.mp hj
      rw [List.getElem?_eq_none (by omega)]; rfl
    | some b =>
      obtain ⟨kv, k1, _, k3⟩ := kf j b hj
      rw [k1]
      show some (keyF H2 (V.ref b)) = some kv
      rw [k3]
  refine wpAny_mono (sort_at (k := keyF H2) (Q := fun s' => EP X pins σ Q (.ref h'.objs.size) s') I3 hl2 (fun y hy => ?_) fun zs s' h1 h2 I4 => ?_) (fun _ _ x => x) fun _ _ e => e
  · obtain ⟨b, hb, rfl⟩ := List.mem_map.mp hy
    obtain ⟨j, hj⟩ := List.mem_iff_getElem?.mp hb
    obtain ⟨kv, k1, k2, k3⟩ := kf j b hj
    exact ⟨b, rfl, by rw [k3]; exact k2⟩
  · have pm := h2.perm
    refine ⟨.ref h'.objs.size, _, I4, rfl, q _ h'.objs.size zs (keyF H2) (fun b o e => ?_) hn0 upd_same h1 ?_ fun y hy => ?_⟩
    · rw [upd_ne (ne_of_none e hn0)]; exact gr b o e
    · rw [← hkeys]; exact pm.map _
    · obtain ⟨b, hb, rfl⟩ := List.mem_map.mp (pm.mem_iff.mp hy)
      obtain ⟨j, hj⟩ := List.mem_iff_getElem?.mp hb
      obtain ⟨kv, k1, k2, k3⟩ := kf j b hj
      obtain ⟨_, _, _, _, hg⟩ := pr j b hj
      refine ⟨b, rfl, I.hok.fresh (Nat.le_of_lt (hG.above b hb)), ?_⟩
      rw [upd_ne (ne0 _ _ hg), k3]; exact k2
end
end Fw
end
section
set_option maxRecDepth 100000
/-! sorted(d.items()), typed -/
namespace Fw
open PySem L2 L2.DX
def rItemsI : V → List V → Hp → VK → Prop := fun x xs H Q => ∃ (a : Addr) (kvs : List (Int × Int)), x = .ref a ∧ xs = [] ∧ Rd H a (.dK (kvV kvs)) ∧ ∀ p, H p = none → Q (.ref p) (upd H p (itemsO p a))
theorem mt_itemsI {X : Cx} : MtR X "dict.items" rItemsI := by
  intro pins s σ H x xs v us Q I rx rxs h
  obtain ⟨a, kvs, rfl, rfl, ha, q⟩ := h
  cases rx
  cases rxs
  obtain ⟨z, hd, vs, rel, o, es, ep, ho, hx, hdat, _⟩ := dk_rd I.hok ha
  refine DT.callItems (es := es) (ep := ep) hd ⟨o, ho, hx, hdat⟩ ?_
  have hf : H s.heap.objs.size = none := I.hok.fresh (Nat.le_refl _)
  exact ⟨.ref s.heap.objs.size, upd H s.heap.objs.size (itemsO s.heap.objs.size a), I.laid (t' := s.toks) (fun b u e => Heap.get?_push_of_some _ e) (Nat.le_refl _) (itemsO_ok (Heap.get?_push_size _ rfl)), rfl, q _ hf⟩
def tItI (to : TE) : TE := fun σ H Q => to σ H fun x H1 => rItemsI x [] H1 Q
theorem pe_itemsI {X : Cx} {o : Expr} {to : TE} {apos cpos : Pos} (ho : PE X o to) (hbase : attributeBase o "items" X.env (eval o X.env) = eval o X.env := by rfl) (hline : (apos.endLine == cpos.line) = true := by rfl) : PE X (.Call (.Attribute o "items" apos) [] [] cpos) (tItI to) := by
  refine ⟨fun pins s σ H Q I h => ?_⟩
  refine wpAny_Call_method0_late hbase hline (thn (ho.run pins s σ H _ I h) fun v s1 ⟨x, H1, I1, r1, q1⟩ => ?_)
  obtain ⟨a, kvs, ex, _, ha, _⟩ := id q1
  subst ex
  obtain rfl : v = Value.ref a := r1
  obtain ⟨_, _, vs, _, od, es, ep, hob, hx, _⟩ := dk_rd I1.hok ha
  exact ⟨"dict", "dict.items", PySem.F.plainAttrs_dict, PySem.F.slot_dict_items, PySem.F.type_dict_items, ⟨od, hob, hx.1⟩, fun b e => by cases e; exact ⟨od, hob, hx.2.1⟩, PySem.Calls.callWith_builtin rfl (PySem.evalArgs_none (mt_itemsI pins s1 σ H1 (.ref a) [] _ [] Q I1 rfl .nil q1))⟩
/-- the frozen part, and all tuples of the heap -/
def frT (F H : Hp) : Hp := fun a => match F a with
  | some o => some o
  | none => match H a with
    | some (.tup xs) => some (.tup xs)
    | _ => none
theorem frT_f {F H : Hp} : Same F (frT F H) := fun a o z => by unfold frT; rw [z]
theorem frT_cases {F H : Hp} {a : Addr} {o : HO} (h : frT F H a = some o) : F a = some o ∨ (F a = none ∧ H a = some o ∧ ∃ xs, o = .tup xs) := by
  unfold frT at h
  cases f : F a with
  | some u => rw [f] at h; exact .inl h
  | none =>
    rw [f] at h
    dsimp only at h
    split at h
    · rename_i xs e
      cases h
      exact .inr ⟨rfl, e, xs, rfl⟩
    · cases h
theorem frT_t {F H : Hp} {a : Addr} {xs : List V} (ex : Same F H) (h : H a = some (.tup xs)) : frT F H a = some (.tup xs) := by
  unfold frT
  cases f : F a with
  | some u =>
    have := ex a u f
    rw [h] at this
    cases this; rfl
  | none => dsimp only; rw [h]
theorem sat_more {F H H' : Hp} {σ : L2.St} {W : List Sl} (s : Sat F H σ W) (g : ∀ b o, H b = some o → H' b = some o) : Rel F H (Own W σ) (frT F H') H' (Own W σ) ∧ Sat (frT F H') H' σ W := by
  have ex' : Same F H' := fun a o z => g a o (s.ex a o z)
  refine ⟨⟨frT_f, fun a o _ z => g a o z, fun a o z => ?_, fun a z => ?_, fun a m => .inl m⟩, ⟨fun a o z => ?_, s.len, fun i r h => ?_, fun i c h => ?_, s.ds⟩⟩
  · rcases frT_cases z with k | ⟨_, _, k⟩
    · exact .inl k
    · exact .inr (.inr (.inr k))
  · cases q : H a with
    | none => rfl
    | some o => rw [g a o q] at z; cases z
  · rcases frT_cases z with k | ⟨_, k, _⟩
    · exact ex' a o k
    · exact k
  · obtain ⟨v, z1, z2⟩ := s.fz i r h
    exact ⟨v, z1, r.mono frT_f z2⟩
  · obtain ⟨p, o, z1, z2, z3, z4⟩ := s.ow i c h
    refine ⟨p, o, z1, g p o z2, ?_, c.mono frT_f z4⟩
    cases q : frT F H' p with
    | none => rfl
    | some u =>
      rcases frT_cases q with k | ⟨_, k, xs, e⟩
      · rw [z3] at k; cases k
      · rw [g p o z2] at k
        cases k
        exact (c.nt z4 xs e).elim
section
variable {W W' W0 W1 W2 W3 : List Sl} {K : PySem.W.Frag} {td : TE}
theorem sortItems_core {kvs : List (Int × Int)} {F1 H1 : Hp} {σ : L2.St} {Q : VK} {p : Addr} (s1 : Sat F1 H1 σ W1) (hd : Rd H1 p (.dK (kvV kvs)))
    (k : ∀ (l : Addr) (zs : List V) (F' H' : Hp), Rel F1 H1 (Own W1 σ) F' H' (Own W1 σ) → Sat F' H' σ W1 → H1 l = none → H' l = some (.lst zs) → F' l = none → ¬ Own W1 σ l → All2 ((psort kvs).map (eP2 K eI eI)) F' zs → Q (.ref l) H') :
    rItemsI (.ref p) [] H1 fun x H2 => rSortItI [x] H2 Q := by
  refine ⟨p, kvs, rfl, rfl, hd, fun r hr => ?_⟩
  have exr : Same H1 (upd H1 r (itemsO r p)) := fun a o z => by rw [upd_ne (ne_of_none z hr)]; exact z
  have hd2 : Rd (upd H1 r (itemsO r p)) p (.dK (kvV kvs)) := by
    rcases hd with z | ⟨o, z⟩
    · exact .inl (exr _ _ z)
    · exact .inr ⟨o, exr _ _ z⟩
  refine ⟨r, p, kvs, rfl, upd_same, hd2, fun H' l zs kf g hl hz hs hp hy => ?_⟩
  have g1 : ∀ b o, H1 b = some o → H' b = some o := fun b o z => g b o (exr b o z)
  obtain ⟨q1, s2⟩ := sat_more s1 g1
  have hl1 : H1 l = none := exr.free hl
  have fl : frT F1 H' l = none := by
    cases q : frT F1 H' l with
    | none => rfl
    | some u =>
      rcases frT_cases q with z | ⟨_, z, xs, e⟩
      · have := s1.ex l u z
        rw [hl1] at this; cases this
      · rw [hz] at z; cases z; cases e
  refine k l zs (frT F1 H') H' q1 s2 hl1 hz fl (fun ow => ?_) ?_
  · obtain ⟨i, c, w1, w2⟩ := ow
    obtain ⟨p', o', z1, z2, _, _⟩ := s1.ow i c w1
    rw [w2] at z1
    cases z1
    rw [hl1] at z2; cases z2
  · have pf : ∀ y ∈ zs, PairF (frT F1 H') y (kf y) := fun y hy' => by
      obtain ⟨t, t1, _, t3⟩ := hy y hy'
      exact ⟨t, t1, frT_t (fun a o z => g1 a o (s1.ex a o z)) t3⟩
    have ke : zs.map kf = psort kvs := by
      refine psort_uniq (hp.trans (psort_perm kvs).symm) ?_ (psort_sorted kvs)
      refine List.pairwise_map.mpr (hs.imp fun {x y} h => ?_)
      rw [ple_iff]
      have := SrtO.lexB_no.mp h
      omega
    have kk : zs.map (keyF (frT F1 H')) = zs.map kf := List.map_congr_left fun y hy' => keyF_eq (pf y hy')
    rw [← ke, ← kk]
    exact all2_of_keys fun y hy' => by rw [keyF_eq (pf y hy')]; exact pf y hy'
theorem en_sortItems {kvs : List (Int × Int)} (h : ES td W W1 (eDI kvs)) : ESN (tCB rSortItI (tCons (tItI td) tNil)) W W1 (oLs (eP2 K eI eI) (psort kvs)) := fun F H σ Q s k =>
  h F H σ _ s fun v F1 H1 a1 s1 ⟨p, o, e1, e2⟩ => by
    subst e1
    exact sortItems_core s1 (.inr ⟨o, s1.ex _ _ e2⟩) fun l zs F' H' q1 s2 hl hz fl no al => k l _ F' H' (a1.trans q1) s2 (a1.t _ hl) hz fl no ⟨nofun, zs, rfl, al⟩
theorem en_sortItemsO {kvs : List (Int × Int)} {i : Nat} (h0 : W[i]? = some (.ow (oD kvs))) : ESN (tCB rSortItI (tCons (tItI (tVar i)) tNil)) W W (oLs (eP2 K eI eI) (psort kvs)) := fun F H σ Q s k => by
  obtain ⟨p, o, e0, g1, _, eo⟩ := s.ow i _ h0
  have eo' : o = .dK (kvV kvs) := eo
  subst eo'
  exact ⟨.ref p, e0, sortItems_core s (.inl g1) fun l zs F' H' q1 s2 hl hz fl no al => k l _ F' H' q1 s2 hl hz fl no ⟨nofun, zs, rfl, al⟩⟩
theorem es_getI {kvs : List (Int × Int)} {tk tx : TE} {k x : Int} (h : ES td W W1 (eDI kvs)) (hk : ES tk W1 W2 (eI k)) (hx : ES tx W2 W3 (eI x)) : ES (tDGet2 td tk tx) W W3 (eI ((gt kvs k).getD x)) := fun F H σ Q s c =>
  h F H σ _ s fun v F1 H1 a1 s1 ⟨p, o, e1, e2⟩ => by
    subst e1
    refine ⟨p, rfl, .inl ⟨_, .inr ⟨o, s1.ex _ _ e2⟩⟩, hk F1 H1 σ _ s1 fun v F2 H2 a2 s2 g1 => hx F2 H2 σ _ s2 fun u F3 H3 a3 s3 g2 => ?_⟩
    cases (show v = V.int k from g1)
    cases (show u = V.int x from g2)
    have e3 : H3 p = some (.frz o (.dK (kvV kvs))) := s3.ex _ _ (a3.f _ _ (a2.f _ _ e2))
    refine ⟨_, .inl ⟨_, Sum.inl k, .inr ⟨o, e3⟩, rfl, rfl⟩, ?_⟩
    rw [valV_kv]
    have q := c (V.int ((gt kvs k).getD x)) F3 H3 ((a1.trans a2).trans a3) s3 rfl
    cases e : gt kvs k with
    | none => rw [e] at q; exact q
    | some y => rw [e] at q; exact q
theorem es_reprAO {α : Type} {e : α → R} [D : DatE K e] {l : List α} {d : PyData} {i : Nat} (h0 : W[i]? = some (.ow (oLs e l))) (h : ReprF d) (hd : PyData.list (l.map D.d) = d) (z : D.dep + 1 ≤ 60) : ES (tCB (rReprA K) (tCons (tVar i) tNil)) W W (eS (reprF d)) := fun F H σ Q s k => by
  subst hd
  obtain ⟨p, o, e0, g1, g2, ⟨yq, xs, rfl, h3⟩⟩ := s.ow i _ h0
  have dd := datLs (K := K) (e := e)
  refine ⟨.ref p, e0, .ref p, _, rfl, .lst (.inl (.inl g1)) (dpAll s.ex h3), h.1, (datLs (K := K) (e := e)).nod l, Nat.le_trans ((datLs (K := K) (e := e)).dpt l) z, h.2, k _ F H Rel.refl s rfl⟩
theorem all_int {F : Hp} : ∀ {l : List Int} {xs : List V}, All2 (l.map eI) F xs → xs = l.map V.int
  | [], [], _ => rfl
  | a :: l, x :: xs, h => by rw [show x = V.int a from h.1, all_int h.2]; rfl
  | [], _ :: _, h => h.elim
  | _ :: _, [], h => h.elim
theorem es_count {l : List Int} {k : Int} {ta tb : TE} (ha : ES ta W W1 (eLs eI l)) (hb : ES tb W1 W2 (eI k)) : ES (tBM K "list" (rCntI K) ta (tCons tb tNil)) W W2 (eI ((l.count k : Nat) : Int)) := fun F H σ Q s c =>
  ha F H σ _ s fun v F1 H1 a1 s1 ⟨p, xs, e1, e2, e3⟩ => by
    subst e1
    have ev := all_int e3
    subst ev
    refine ⟨.inl ⟨rfl, _, .inl (.inl (s1.ex _ _ e2))⟩, hb F1 H1 σ _ s1 fun u F2 H2 a2 s2 g => ?_⟩
    cases (show u = V.int k from g)
    exact ⟨p, l, k, rfl, rfl, .inl (.inl (s2.ex _ _ (a2.f _ _ e2))), c _ F2 H2 (a1.trans a2) s2 rfl⟩
end
end Fw
end
section
set_option maxRecDepth 100000
set_option maxHeartbeats 2000000
/-! max(d.items()), d a dict of ints -/
namespace Fw
open PySem L2 L2.DX PySem.Spec PyProof.Rows PySem.W
/-- the pair at a -/
def PAt (h : Heap) (a : Addr) (p : Int × Int) : Prop := ∃ t w, h.get? a = some { cls := .type "tuple", data := .seq #[Value.int p.1 t, Value.int p.2 w] }
theorem PAt.holds {h : Heap} {a : Addr} {p : Int × Int} (x : PAt h a p) : Holds h (.ref a) p := by
  obtain ⟨t, w, e⟩ := x
  exact holds_pair (x := p.1) (y := p.2) ⟨_, e, rfl, 0, rfl⟩ (holds_int p.1 t) (holds_int p.2 w)
def btI (kvs : List (Int × Int)) (i j : Nat) : Bool := DatumOrd.lt (kvs.getD j (0, 0)) (kvs.getD i (0, 0))
section
variable {prog : Program} {w : World} {A : Around} {s : Shared} {R : Result → Shared → Prop} {es : Array DictEntry} {ep : Nat}
theorem maxLoopI {S I d : Addr} (hh : A.handled = none) (hu : A.units + 64 < cLine) (hne : S ≠ I) (hSd : d ≠ S) (hId : d ≠ I) {kvs : List (Int × Int)} (hes : ∀ (j : Nat) (h : j < es.size), ∃ t w, es[j].key = .int (kvs.getD j (0, 0)).1 t ∧ es[j].val = .int (kvs.getD j (0, 0)).2 w) {h₁ : Heap} (hb1 : I < h₁.objs.size) (hb2 : S < h₁.objs.size)
    (hR : ∀ h' tk a, (∀ b o, b ≠ S → b ≠ I → h₁.get? b = some o → h'.get? b = some o) → h₁.objs.size ≤ a → PAt h' a (kvs.getD (argBest (btI kvs) (es.size - 1)) (0, 0)) → R (.ok (.ret (.ref a))) { s with heap := h', toks := tk }) :
    ∀ (k j : Nat) (h : Heap) (tk c : Nat) (a : Addr), es.size - (j + 1) = k → j + 1 ≤ es.size → KdxSt h I d S (j + 1) es.size ep → DT.Raw h d es ep → (∀ b o, b ≠ S → b ≠ I → h₁.get? b = some o → h.get? b = some o) →
      h.get? S = some { cls := .type "list", dict := none, data := .seq #[.ref a, .ref a] c, slots := #[] } → PAt h a (kvs.getD (argBest (btI kvs) j) (0, 0)) → h₁.objs.size ≤ a → h₁.objs.size ≤ h.objs.size →
      codeAny (model prog w) A (.builtin "max.loop" ⟨[.ref I, .none, .ref S], []⟩) R { s with heap := h, toks := tk } := by
  have hname : (toString "max" ++ toString ".loop" : String) = "max.loop" := by decide
  have hu2 : A.in1.units + Datum.depth (Int × Int) < cLine := by
    show A.units + 1 + Datum.depth (Int × Int) < cLine
    have : Datum.depth (Int × Int) ≤ 10 := by decide
    omega
  intro k
  induction k with
  | zero =>
    intro j h tk c a hk hj hst hD hkeep hS ha hal hsz
    have hin : j = es.size - 1 := by omega
    refine codeAny_builtin PySem.F.entry_max_loop ?_
    rw [Around.under_plainId PySem.F.plain_max_loop _]
    show wpAny _ A.in1 (seqItems? (.ref S) >>= _) _ _ _
    refine wpAny_bind (wpAny_seqItems hS rfl ?_)
    show wpAny _ A.in1 (tryCatch (pyNext (.ref I)) _ >>= _) _ _ _
    refine wpAny_bind (wpAny_tryCatch (DT.finI (s := { s with heap := h, toks := tk }) (A := A.in1) hh hst hD (by omega) fun h' he => ?_))
    have hS' := he S _ hne hS
    show wpAny _ A.in1 (updateSeq S (fun _ => #[]) >>= _) _ _ _
    refine wpAny_bind ?_
    refine wpAny_updateSeq hS' rfl (wpAny_bind (wpAny_letGo (wpAny_pure ?_)))
    refine hR _ tk a (fun b o h1 h2 e => (Heap.get?_update_other _ _ (Ne.symm h1)).trans (he b o h2 (hkeep b o h1 h2 e))) hal ?_
    obtain ⟨t, w, e⟩ := ha
    rw [← hin]
    exact ⟨t, w, (Heap.get?_update_other _ _ (Ne.symm (Nat.ne_of_gt (Nat.lt_of_lt_of_le hb2 hal)))).trans (he a _ (Nat.ne_of_gt (Nat.lt_of_lt_of_le hb1 hal)) e)⟩
  | succ k ih =>
    intro j h tk c a hk hj hst hD hkeep hS ha hal hsz
    have hlt : j + 1 < es.size := by omega
    refine codeAny_builtin PySem.F.entry_max_loop ?_
    rw [Around.under_plainId PySem.F.plain_max_loop _]
    show wpAny _ A.in1 (seqItems? (.ref S) >>= _) _ _ _
    refine wpAny_bind (wpAny_seqItems hS rfl ?_)
    show wpAny _ A.in1 (tryCatch (pyNext (.ref I)) _ >>= _) _ _ _
    refine wpAny_bind (wpAny_tryCatch (DT.nxtI (s := { s with heap := h, toks := tk }) (S := S) hst (Heap.lt_size hS) hD hlt fun h' hst' ht hz hkp => ?_))
    dsimp only at ht hz hkp ⊢
    have hS' := hkp S _ hne hS
    have ha' : PAt h' a (kvs.getD (argBest (btI kvs) j) (0, 0)) := by
      obtain ⟨t, w, e⟩ := ha
      exact ⟨t, w, hkp a _ (Nat.ne_of_gt (Nat.lt_of_lt_of_le hb1 hal)) e⟩
    have hn' : PAt h' h.objs.size (kvs.getD (j + 1) (0, 0)) := by
      obtain ⟨t, w, e1, e2⟩ := hes (j + 1) hlt
      exact ⟨t, w, by rw [ht, e1, e2]⟩
    have upH : ∀ b o, b ≠ S → h'.get? b = some o → (h'.update S (Obj.mapSeq (fun _ => #[Value.ref h.objs.size, Value.ref h.objs.size]))).get? b = some o := fun b o hb e => (Heap.get?_update_other _ _ (Ne.symm hb)).trans e
    show wpAny _ A.in1 (tryCatch (holding [.ref h.objs.size, .ref h.objs.size] (richCompare .Gt (.ref h.objs.size) (.ref a) >>= _)) _ >>= _) _ _ _
    refine wpAny_bind (wpAny_tryCatch (wpAny_holding (wpAny_bind (show wpAny _ _ (compareOp .Gt (.ref h.objs.size) (.ref a)) _ _ _ from gt_datum (s := { s with heap := h', toks := tk }) hn'.holds ha'.holds hu2 ?_))))
    refine wpAny_bind (wpAny_holding (wpAny_truthy_bool ?_))
    refine wpAny_bind (wpAny_letGo (wpAny_pure ?_))
    cases hb : DatumOrd.lt (kvs.getD (argBest (btI kvs) j) (0, 0)) (kvs.getD (j + 1) (0, 0)) with
    | true =>
      simp only [if_true]
      refine wpAny_bind ?_
      refine wpAny_updateSeq hS' rfl (wpAny_bind (wpAny_letGo ?_))
      rw [hname]
      refine wpAny_pure ⟨plainId_quiet PySem.F.plain_max_loop _, ih (j + 1) _ tk _ h.objs.size (by omega) hlt (hst'.keep upH (Ne.symm hne)) (hD.at' fun o e => upH d o hSd (hkp d o hId e)) (fun b o h1 h2 e => upH b o h1 (hkp b o h2 (hkeep b o h1 h2 e))) (Heap.get?_update_self _ hS' rfl) ?_ hsz ?_⟩
      · have ea : argBest (btI kvs) (j + 1) = j + 1 := if_pos hb
        rw [ea]
        obtain ⟨t, w, e⟩ := hn'
        exact ⟨t, w, upH _ _ (Nat.ne_of_gt (Nat.lt_of_lt_of_le hb2 hsz)) e⟩
      · rw [Heap.size_update, hz]; omega
    | false =>
      simp only [Bool.false_eq_true, if_false]
      refine wpAny_bind (wpAny_letGo ?_)
      rw [hname]
      refine wpAny_pure ⟨plainId_quiet PySem.F.plain_max_loop _, ih (j + 1) _ tk _ a (by omega) hlt hst' (hD.at' fun o e => hkp d o hId e) (fun b o h1 h2 e => hkp b o h2 (hkeep b o h1 h2 e)) hS' ?_ hal ?_⟩
      · have ea : argBest (btI kvs) (j + 1) = argBest (btI kvs) j := if_neg (show ¬ (DatumOrd.lt (kvs.getD (argBest (btI kvs) j) (0, 0)) (kvs.getD (j + 1) (0, 0)) = true) by rw [hb]; exact Bool.false_ne_true)
        rw [ea]; exact ha'
      · rw [hz]; omega
theorem maxLoopI0 {S I d : Addr} (hh : A.handled = none) (hu : A.units + 64 < cLine) (hne : S ≠ I) (hSd : d ≠ S) (hId : d ≠ I) {kvs : List (Int × Int)} (hes : ∀ (j : Nat) (h : j < es.size), ∃ t w, es[j].key = .int (kvs.getD j (0, 0)).1 t ∧ es[j].val = .int (kvs.getD j (0, 0)).2 w) {h : Heap} (hb1 : I < h.objs.size) (hn : 0 < es.size)
    (hR : ∀ h' tk a, (∀ b o, b ≠ S → b ≠ I → h.get? b = some o → h'.get? b = some o) → h.objs.size ≤ a → PAt h' a (kvs.getD (argBest (btI kvs) (es.size - 1)) (0, 0)) → R (.ok (.ret (.ref a))) { s with heap := h', toks := tk })
    {tk c : Nat} (hst : KdxSt h I d S 0 es.size ep) (hD : DT.Raw h d es ep) (hS : h.get? S = some { cls := .type "list", dict := none, data := .seq #[] c, slots := #[] }) :
      codeAny (model prog w) A (.builtin "max.loop" ⟨[.ref I, .none, .ref S], []⟩) R { s with heap := h, toks := tk } := by
  have hname : (toString "max" ++ toString ".loop" : String) = "max.loop" := by decide
  have hb2 := Heap.lt_size hS
  refine codeAny_builtin PySem.F.entry_max_loop ?_
  rw [Around.under_plainId PySem.F.plain_max_loop _]
  show wpAny _ A.in1 (seqItems? (.ref S) >>= _) _ _ _
  refine wpAny_bind (wpAny_seqItems hS rfl ?_)
  show wpAny _ A.in1 (tryCatch (pyNext (.ref I)) _ >>= _) _ _ _
  refine wpAny_bind (wpAny_tryCatch (DT.nxtI (s := { s with heap := h, toks := tk }) (S := S) hst hb2 hD hn fun h' hst' ht hz hkp => ?_))
  dsimp only at ht hz hkp ⊢
  have hS' := hkp S _ hne hS
  have upH : ∀ b o, b ≠ S → h'.get? b = some o → (h'.update S (Obj.mapSeq (fun _ => #[Value.ref h.objs.size, Value.ref h.objs.size]))).get? b = some o := fun b o hb e => (Heap.get?_update_other _ _ (Ne.symm hb)).trans e
  show wpAny _ A.in1 (updateSeq S (fun _ => #[.ref h.objs.size, .ref h.objs.size]) >>= _) _ _ _
  refine wpAny_bind ?_
  refine wpAny_updateSeq hS' rfl ?_
  rw [hname]
  refine wpAny_pure ⟨plainId_quiet PySem.F.plain_max_loop _, maxLoopI (h₁ := h) hh hu hne hSd hId hes hb1 hb2 hR _ 0 _ tk _ h.objs.size rfl hn (hst'.keep upH (Ne.symm hne)) (hD.at' fun o e => upH d o hSd (hkp d o hId e)) (fun b o h1 h2 e => upH b o h1 (hkp b o h2 e)) (Heap.get?_update_self _ hS' rfl) ?_ (Nat.le_refl _) ?_⟩
  · obtain ⟨t, w, e1, e2⟩ := hes 0 hn
    exact ⟨t, w, upH _ _ (Nat.ne_of_gt hb2) (by rw [ht, e1, e2]; rfl)⟩
  · rw [Heap.size_update, hz]; omega
theorem callMaxI {E : Value → Shared → Prop} {r d : Addr} {Q : Value → Shared → Prop} (hh : A.handled = none) (hu : A.units + 64 < cLine) (hv : s.heap.IsItemsView r d) (hm : DT.Raw s.heap d es ep) {kvs : List (Int × Int)} (hes : ∀ (j : Nat) (h : j < es.size), ∃ t w, es[j].key = .int (kvs.getD j (0, 0)).1 t ∧ es[j].val = .int (kvs.getD j (0, 0)).2 w) (hn : 0 < es.size)
    (hQ : ∀ h' tk a, (∀ b o, s.heap.get? b = some o → h'.get? b = some o) → s.heap.objs.size ≤ a → PAt h' a (kvs.getD (argBest (btI kvs) (es.size - 1)) (0, 0)) → Q (.ref a) { s with heap := h', toks := tk }) :
    wpAny (model prog w) A (call (.builtin "max") [.ref r]) Q E s := by
  have hname : (toString "max" ++ toString ".loop" : String) = "max.loop" := by decide
  refine call_function_tree F.kind_max F.plain_max F.entry_max (F.args_max1 _) ?_
  show wpAny _ A.in1 (Builtin.Builtins.bindParams "max" ["key", "default"] 0 ⟨[], []⟩ >>= _) _ _ s
  refine wpAny_bind (wpAny_of_eq (show Builtin.Builtins.bindParams "max" ["key", "default"] 0 ⟨[], []⟩ = pure [none, none] from rfl) ?_)
  refine wpAny_bind (wpAny_pure ?_)
  refine wpAny_bind (DT.iterI hv hm ?_)
  refine wpAny_bind (wpAny_newObj_type ?_)
  rw [hname]
  have hI : (s.heap.push { cls := .type "dict_itemiterator", data := .fields #[.none, .bool false, .ref d, .int 0 0, .int es.size 0, .int ep 0, .none, .none] }).get? s.heap.objs.size = some { cls := .type "dict_itemiterator", data := .fields #[.none, .bool false, .ref d, .int 0 0, .int es.size 0, .int ep 0, .none, .none] } := Heap.get?_push_size _ rfl
  have hdl := hm.lt
  have sz : (s.heap.push { cls := .type "dict_itemiterator", data := .fields #[.none, .bool false, .ref d, .int 0 0, .int es.size 0, .int ep 0, .none, .none] }).objs.size = s.heap.objs.size + 1 := Heap.size_push ..
  refine wpAny_pure ⟨plainId_quiet F.plain_max_loop _, maxLoopI0 (ep := ep) hh hu (I := s.heap.objs.size) (d := d) ?_ ?_ ?_ hes ?_ hn (fun h' tk a k1 k2 k3 => ?_) (.inl ⟨rfl, .none, .none, Heap.get?_push_of_some _ hI⟩) ((hm.push _).push _) (Heap.get?_push_size _ rfl)⟩
  · exact Nat.ne_of_gt (by rw [sz]; exact Nat.lt_succ_self _)
  · exact Nat.ne_of_lt (by rw [sz]; exact Nat.lt_succ_of_lt hdl)
  · exact Nat.ne_of_lt hdl
  · rw [Heap.size_push, sz]; exact Nat.lt_succ_of_lt (Nat.lt_succ_self _)
  · refine hQ h' tk a (fun b o e => ?_) ?_ k3
    · have hb := Heap.lt_size e
      exact k1 b o (Nat.ne_of_lt (by rw [sz]; exact Nat.lt_succ_of_lt hb)) (Nat.ne_of_lt hb) (Heap.get?_push_of_some _ (Heap.get?_push_of_some _ e))
    · rw [Heap.size_push, sz] at k2
      exact Nat.le_trans (Nat.le_succ _) (Nat.le_trans (Nat.le_succ _) k2)
end
/-- the greatest pair -/
def maxI (kvs : List (Int × Int)) : Int × Int := match kvs with
  | [] => (0, 0)
  | x :: xs => xs.foldl (fun a y => if (if a.1 = y.1 then decide (a.2 < y.2) else decide (a.1 < y.1)) = true then y else a) x
theorem maxI_best : ∀ (kvs : List (Int × Int)), kvs ≠ [] → kvs.getD (argBest (btI kvs) (kvs.length - 1)) (0, 0) = maxI kvs
  | [], h => absurd rfl h
  | x :: xs, _ => by
    have q := (argBest_fold (fun y a => DatumOrd.lt a y) ((0, 0) : Int × Int) x xs xs.length (Nat.le_refl _)).2
    have e : (x :: xs).length - 1 = xs.length := by simp
    rw [e]
    refine q.trans ?_
    rw [List.take_length]
    rfl
section
variable {X : Cx}
def rMaxItI : List V → Hp → VK → Prop := fun vs H Q => ∃ (p a : Addr) (kvs : List (Int × Int)), vs = [.ref p] ∧ H p = some (itemsO p a) ∧ Rd H a (.dK (kvV kvs)) ∧ kvs ≠ [] ∧
  ∀ (t : Addr), H t = none → Q (.ref t) (upd H t (.tup [.int (maxI kvs).1, .int (maxI kvs).2]))
theorem cr_maxItI (hc : X.calm = true) (hu : X.A.units + 64 < cLine) : CallR X (.builtin "max") rMaxItI := by
  intro pins s σ H xs us Q I r h
  obtain ⟨p, a, kvs, rfl, hp, ha, hne, q⟩ := h
  obtain rfl := Vals.ref1 r
  have view : s.heap.IsItemsView p a := (show ObjOk X.prog X.w H s.heap p (itemsO p a) from I.hok p _ hp).1
  obtain ⟨z, hd, vs, rel, o, es, ep, ho, hx, hdat, hks, hpr, hn⟩ := dk_rd I.hok ha
  have hh : X.A.handled = none := I.ok.hd hc
  have l1 : (kvV kvs).length = vs.length := Paired.length rel
  have l2 : es.toList.length = vs.length := hpr.length
  have l3 : (kvV kvs).length = kvs.length := by unfold kvV; rw [List.length_map]
  have les : es.size = kvs.length := by rw [Array.length_toList] at l2; omega
  have pos : 0 < kvs.length := List.length_pos_iff.mpr hne
  refine callMaxI (es := es) (ep := ep) hh hu view ⟨o, ho, hx, hdat⟩ (kvs := kvs) (fun j hj => ?_) (by omega) fun h' tk t hk hlt hP => ?_
  · have hj2 : j < kvs.length := by omega
    have he : es.toList[j]? = some es[j] := by rw [Array.getElem?_toList, Array.getElem?_eq_getElem hj]
    obtain ⟨⟨kk, vv⟩, hv1, hv2, hv3⟩ := pairs_get hpr he
    obtain ⟨e0, he0, r1, r2⟩ := pget rel hv1
    unfold kvV at he0
    rw [List.getElem?_map, List.getElem?_eq_getElem hj2] at he0
    have ee : (Sum.inl kvs[j].1, V.int kvs[j].2) = e0 := Option.some.inj he0
    subst ee
    have ek : Sum.inl kvs[j].1 = kk := r1
    subst ek
    obtain ⟨t, et⟩ : RelV (kV (Sum.inl kvs[j].1)) es[j].key := relV_key hv2
    obtain ⟨w, ew⟩ : RelV (V.int kvs[j].2) vv := r2
    have gd : kvs.getD j (0, 0) = kvs[j] := by rw [List.getD_eq_getElem?_getD, List.getElem?_eq_getElem hj2]; rfl
    exact ⟨t, w, by rw [gd]; exact et, by rw [gd, hv3]; exact ew⟩
  · rw [les, maxI_best kvs hne] at hP
    obtain ⟨x, w, e⟩ := hP
    have ht : H t = none := I.hok.fresh hlt
    have I1 : Inv X pins σ H { s with heap := h', toks := tk } := I.kept (t' := tk) hk
    have I2 : Inv X pins σ (upd H t (.tup [.int (maxI kvs).1, .int (maxI kvs).2])) { s with heap := h', toks := tk } :=
      I1.take (t' := tk) (fun b ob _ e => e) (I.fpOk hlt ht) ⟨(by rw [sizeLine_eq]; show 2 ≤ 16777216; omega), [Value.int (maxI kvs).1 x, Value.int (maxI kvs).2 w], .cons ⟨x, rfl⟩ (.cons ⟨w, rfl⟩ .nil), ⟨_, e, rfl, 0, rfl⟩⟩
    exact ⟨.ref t, _, I2, rfl, q t ht⟩
end
/-! typed -/
section
variable {W W' W0 W1 W2 W3 : List Sl} {K : PySem.W.Frag} {td : TE}
theorem es_maxItems {kvs : List (Int × Int)} (h : ES td W W1 (eDI kvs)) (hne : kvs ≠ []) : ES (tCB rMaxItI (tCons (tItI td) tNil)) W W1 (eP2 K eI eI (maxI kvs)) := fun F H σ Q s k =>
  h F H σ _ s fun v F1 H1 a1 s1 ⟨p, o, e1, e2⟩ => by
    subst e1
    have hd : Rd H1 p (.dK (kvV kvs)) := .inr ⟨o, s1.ex _ _ e2⟩
    refine ⟨p, kvs, rfl, rfl, hd, fun r hr => ?_⟩
    have exr : Same H1 (upd H1 r (itemsO r p)) := fun a o z => by rw [upd_ne (ne_of_none z hr)]; exact z
    have hd2 : Rd (upd H1 r (itemsO r p)) p (.dK (kvV kvs)) := .inr ⟨o, exr _ _ (s1.ex _ _ e2)⟩
    refine ⟨r, p, kvs, rfl, upd_same, hd2, hne, fun t ht => ?_⟩
    have ext : Same H1 (upd (upd H1 r (itemsO r p)) t (.tup [.int (maxI kvs).1, .int (maxI kvs).2])) := fun a o z => by
      rw [upd_ne (ne_of_none (exr a o z) ht)]; exact exr a o z
    obtain ⟨q1, s2⟩ := sat_more s1 ext
    exact k _ _ _ (a1.trans q1) s2 (pairF.mpr ⟨t, rfl, frT_t (fun a o z => ext a o (s1.ex a o z)) upd_same⟩)
end
end Fw
end
section
set_option maxRecDepth 100000
/-! lists of five unlike things: a list and a list of two more -/
namespace Fw
open PySem L2 L2.DX
section
variable {W W' W0 W1 W2 W3 : List Sl} {K : PySem.W.Frag} {ta tb : TE} {α β γ δ ε : Type}
theorem en_catG {rs rs' : List R} (ha : ES ta W W1 (eL rs)) (hb : ES tb W1 W2 (eL rs')) (c : rs.length + rs'.length ≤ 16000000) : ESN (tOp rCat ta tb) W W2 (oL (rs ++ rs')) := fun F H σ Q s k =>
  ha F H σ _ s fun v F1 H1 a1 s1 ⟨p, xs, h1, h2, h3⟩ => hb F1 H1 σ _ s1 fun w F2 H2 a2 s2 ⟨q, ys, g1, g2, g3⟩ => by
    subst h1 g1
    have e1 := h3.len
    have e2 := g3.len
    refine ⟨p, q, xs, ys, rfl, rfl, s2.ex _ _ (a2.f _ _ h2), s2.ex _ _ g2, Nat.le_trans (by rw [e1, e2]; exact c) (by decide), fun l' hl => ?_⟩
    have ex : Same H2 (upd H2 l' (.lst (xs ++ ys))) := fun a o q => by rw [upd_ne (ne_of_none q hl)]; exact q
    refine k l' _ F2 _ ((a1.trans a2).trans (Rel.grow ex)) (s2.grow ex) ((a1.trans a2).t _ hl) upd_same (s2.ex.free hl) (not_own s2 hl) ⟨nofun, _, rfl, ?_⟩
    exact (h3.mono a2.f).app g3
def eM5 (a : α → R) (b : β → R) (c : γ → R) (d : δ → R) (e : ε → R) (x : α × β × γ × δ × ε) : R := eL [a x.1, b x.2.1, c x.2.2.1, d x.2.2.2.1, e x.2.2.2.2]
instance {e : α → R} {f : β → R} {g : γ → R} {h : δ → R} {i : ε → R} [D : DatE K e] [D' : DatE K f] [D'' : DatE K g] [D3 : DatE K h] [D4 : DatE K i] : DatE K (eM5 e f g h i) where
  d := fun x => .list [D.d x.1, D'.d x.2.1, D''.d x.2.2.1, D3.d x.2.2.2.1, D4.d x.2.2.2.2]
  dep := max D.dep (max D'.dep (max D''.dep (max D3.dep D4.dep))) + 1
  ok := fun f ⟨p, xs, h1, h2, h3⟩ => by
    subst h1
    match xs, h3 with
    | [x, y, z, w, v], h3 => exact .lst (.inl (.inl (f _ _ h2))) (.cons (D.ok f h3.1) (.cons (D'.ok f h3.2.1) (.cons (D''.ok f h3.2.2.1) (.cons (D3.ok f h3.2.2.2.1) (.cons (D4.ok f h3.2.2.2.2.1) .nil)))))
    | [], h3 => exact h3.elim
    | [_], h3 => exact h3.2.elim
    | [_, _], h3 => exact h3.2.2.elim
    | [_, _, _], h3 => exact h3.2.2.2.elim
    | [_, _, _, _], h3 => exact h3.2.2.2.2.elim
    | _ :: _ :: _ :: _ :: _ :: _ :: _, h3 => exact h3.2.2.2.2.2.elim
  lay := fun x => by simp [PyData.canLay0, PyData.canLayAll0, D.lay, D'.lay, D''.lay, D3.lay, D4.lay]
  dpt := fun x => by
    have h1 := D.dpt x.1
    have h2 := D'.dpt x.2.1
    have h3 := D''.dpt x.2.2.1
    have h4 := D3.dpt x.2.2.2.1
    have h5 := D4.dpt x.2.2.2.2
    simp only [PyData.depth, PyData.depthAll]
    omega
  eqv := fun x y => by
    obtain ⟨x1, x2, x3, x4, x5⟩ := x
    obtain ⟨y1, y2, y3, y4, y5⟩ := y
    simp [PyData.eqv, PyData.eqvAll, D.eqv, D'.eqv, D''.eqv, D3.eqv, D4.eqv]
  nod := fun x => by simp [PyData.hasDict, PyData.hasDictAll, D.nod, D'.nod, D''.nod, D3.nod, D4.nod]
theorem es_cat32 [Inhabited α] {e : α → R} {f : β → R} {g : γ → R} {l : List α} {m : β × γ} (ha : ES ta W W1 (eLs e l)) (hb : ES tb W1 W2 (eM2 f g m)) (hl : l.length = 3) :
    ES (tOp rCat ta tb) W W2 (eM5 e e e f g (nth l 0, nth l 1, nth l 2, m.1, m.2)) := by
  match l, hl with
  | [x, y, z], _ => exact es_fr (en_catG ha hb (Nat.le_of_ble_eq_true rfl))
end
end Fw
end
section
set_option maxRecDepth 100000
/-! dict(pairs of ints), frozen; in, not in -/
namespace Fw
open PySem L2 L2.DX
def rDictP (K : PySem.W.Frag) : List V → Hp → VK → Prop := fun xs H Q => ∃ (a : Addr) (ps : List Addr) (kvs : List (Key × V)), xs = [.ref a] ∧ SqL K H a (ps.map V.ref) ∧ Paired (fun p kv => SqT K H p [kV kv.1, kv.2]) ps kvs ∧
    ∀ p, H p = none → Q (.ref p) (upd H p (.dK (mergeK [] kvs)))
theorem cr_dictP {X : Cx} {K : PySem.W.Frag} (hc : X.calm = true) (h : X.K = K) : CallR X (.type "dict") (rDictP K) := by
  subst h
  exact call_dictP hc
theorem refs_pairs {K : PySem.W.Frag} {F H : Hp} (ex : Same F H) : ∀ {l : List (Int × Int)} {xs : List V}, All2 (l.map (eP2 K eI eI)) F xs → ∃ ps : List Addr, xs = ps.map V.ref ∧ Paired (fun p kv => SqT K H p [kV kv.1, kv.2]) ps (kvV l)
  | [], [], _ => ⟨[], rfl, .nil⟩
  | p :: l, x :: xs, h => by
    obtain ⟨t, t1, t2⟩ := pairF.mp h.1
    obtain ⟨ps, e1, e2⟩ := refs_pairs ex h.2
    exact ⟨t :: ps, by rw [t1, e1]; rfl, .cons (.inl (.inl (ex _ _ t2))) e2⟩
  | [], _ :: _, h => h.elim
  | _ :: _, [], h => h.elim
theorem ix_listK {X : Cx} {K : PySem.W.Frag} (h : X.K = K) : IxR X (rIxL K) := by
  subst h
  exact ix_list
theorem call_len_seqK {X : Cx} {K : PySem.W.Frag} (h : X.K = K) : CallR X (.builtin "len") (fun xs H Q => ∃ p ys, xs = [.ref p] ∧ (SqL K H p ys ∨ SqT K H p ys) ∧ Q (.int (ys.length : Nat)) H) := by
  subst h
  exact call_len_seq
section
variable {W W' W0 W1 W2 W3 : List Sl} {K : PySem.W.Frag} {td te tk tx : TE}
theorem es_dictP {l : List (Int × Int)} (h : ES te W W1 (eLs (eP2 K eI eI) l)) : ES (tLock (tCB (rDictP K) (tCons te tNil))) W W1 (eDI (ptAll [] l)) := fun F H σ Q s k =>
  h F H σ _ s fun v F1 H1 a1 s1 ⟨p, xs, e1, e2, e3⟩ => by
    subst e1
    obtain ⟨ps, e4, e5⟩ := refs_pairs (K := K) s1.ex e3
    subst e4
    refine ⟨p, ps, kvV l, rfl, .inl (.inl (s1.ex _ _ e2)), e5, fun d hd => ⟨d, _, rfl, upd_same, fun o => ?_⟩⟩
    rw [upd_upd, show mergeK ([] : List (Key × V)) (kvV l) = kvV (ptAll [] l) from merge_kv l []]
    exact k _ _ _ (a1.trans (Rel.lay s1.ex hd)) (s1.lay hd) ⟨d, o, rfl, upd_same⟩
theorem es_andG {a b : Bool} {ta tb : TE} (h : ES ta W W1 (eB a)) (g : a = true) (h2 : ES tb W1 W2 (eB b)) : ES (tAndV ta tb) W W2 (eB b) := fun F H σ Q s k => h F H σ _ s fun v F1 H1 a1 s1 e1 => ⟨a, e1, by
  subst g
  rw [if_pos rfl]
  exact h2 F1 H1 σ Q s1 fun w F2 H2 a2 s2 e2 => k w F2 H2 (a1.trans a2) s2 e2⟩
theorem es_xor {i j : Int} {ta tb : TE} (ha : ES ta W W1 (eI i)) (hb : ES tb W1 W2 (eI j)) : ES (tOp (rI0 fun i j => .int (Builtin.bitXor i j)) ta tb) W W2 (eI (Builtin.bitXor i j)) := es_op ha hb fun _ _ q => ⟨i, j, rfl, rfl, q⟩
theorem val_kv {kvs : List (Int × Int)} {k : Int} : (valV (kvV kvs) (Sum.inl k : Key)).isSome = (gt kvs k).isSome := by
  rw [valV_kv]
  cases gt kvs k <;> rfl
theorem es_dinI {kvs : List (Int × Int)} {k : Int} (hk : ES tk W W1 (eI k)) (h : ES td W1 W2 (eDI kvs)) : ES (tDIn tk td) W W2 (eB (gt kvs k).isSome) := fun F H σ Q s c =>
  hk F H σ _ s fun u F1 H1 a1 s1 g => h F1 H1 σ _ s1 fun v F2 H2 a2 s2 ⟨p, o, e1, e2⟩ => by
    cases (show u = V.int k from g)
    refine ⟨p, valV (kvV kvs) (Sum.inl k : Key), e1, .inl ⟨kvV kvs, Sum.inl k, .inr ⟨o, s2.ex _ _ e2⟩, rfl, rfl⟩, ?_⟩
    rw [val_kv]
    exact c _ F2 H2 (a1.trans a2) s2 rfl
theorem es_dninI {kvs : List (Int × Int)} {k : Int} (hk : ES tk W W1 (eI k)) (h : ES td W1 W2 (eDI kvs)) : ES (tDNotIn tk td) W W2 (eB (!(gt kvs k).isSome)) := fun F H σ Q s c =>
  hk F H σ _ s fun u F1 H1 a1 s1 g => h F1 H1 σ _ s1 fun v F2 H2 a2 s2 ⟨p, o, e1, e2⟩ => by
    cases (show u = V.int k from g)
    refine ⟨p, valV (kvV kvs) (Sum.inl k : Key), e1, .inl ⟨kvV kvs, Sum.inl k, .inr ⟨o, s2.ex _ _ e2⟩, rfl, rfl⟩, ?_⟩
    rw [val_kv]
    exact c _ F2 H2 (a1.trans a2) s2 rfl
end
end Fw
end
section
set_option maxRecDepth 100000
/-! range with a step, xs[i] = v, list(d) of a dict with tuple keys -/
namespace Fw
open PySem L2 L2.DX
def rgN (lo hi c : Int) : Nat := (Builtin.Range.rangeSize lo hi c).toNat
@[irreducible] def rgS (lo hi c : Int) : List Int := (List.range (rgN lo hi c)).map fun (k : Nat) => lo + (k : Int) * c
theorem rgS_len {lo hi c : Int} : (rgS lo hi c).length = rgN lo hi c := by unfold rgS; simp
theorem rgS_at {lo hi c : Int} {i : Nat} (h : i < rgN lo hi c) : (rgS lo hi c)[i]? = some (lo + (i : Int) * c) := by
  unfold rgS
  rw [List.getElem?_map, List.getElem?_range h]; rfl
section
variable {W W' W0 W1 W2 W3 : List Sl} {K : PySem.W.Frag} {te td tk : TE} {tr : TA} {P : Post} {α : Type} {F : Hp}
theorem wlk_rgS {lo hi c : Int} : Wlk (Itc lo c (rgN lo hi c)) F ((rgS lo hi c).map eI) := fun i F' H' f1 f2 => ⟨fun r hr => by
  rw [List.getElem?_map] at hr
  have hi : i < rgN lo hi c := by
    cases q : (rgS lo hi c)[i]? with
    | none => rw [q] at hr; cases hr
    | some x => rw [← rgS_len]; exact (List.getElem?_eq_some_iff.mp q).1
  rw [rgS_at hi] at hr
  cases hr
  refine ⟨hi, fun x H'' ⟨u1, u2⟩ => ?_⟩
  subst u1
  exact ⟨F', Rel.refl, f2, u2⟩, fun hl => by rw [List.length_map, rgS_len] at hl; exact hl⟩
theorem is_rng3 {lo hi c : Int} (h : AS tr W W1 [eI lo, eI hi, eI c]) (hn : RgC lo hi c (rgN lo hi c)) : IS (iRng3 tr) W W1 ((rgS lo hi c).map eI) := fun F H σ Q s k =>
  h F H σ _ s fun vs F1 H1 a1 s1 e1 => by
    match vs, e1 with
    | [v, w, u], e1 =>
      have e : v = V.int lo := e1.1
      have e' : w = V.int hi := e1.2.1
      have e'' : u = V.int c := e1.2.2.1
      subst e e' e''
      exact ⟨lo, hi, c, rgN lo hi c, rfl, hn, k _ F1 H1 a1 s1 wlk_rgS⟩
    | [], e1 => exact e1.elim
    | [_], e1 => exact e1.2.elim
    | [_, _], e1 => exact e1.2.2.elim
    | _ :: _ :: _ :: _ :: _, e1 => exact e1.2.2.2.elim
/-- xs[j] = e, xs owned -/
def setAt (l : List α) (j : Int) (x : α) : List α := l.set j.toNat x
theorem ss_seti {e : α → R} {x : α} {l : List α} {i : Nat} {j : Int} {q1 : Option Addr} (h : ES te W W1 (e x)) (h1 : W1[i]? = some (.ow (oLq q1 (l.map e)))) (hk : ES tk W1 W2 (eI j)) (h2 : W2[i]? = some (.ow (oLq q1 (l.map e)))) (hj : 0 ≤ j ∧ j < l.length) (n : P.nx (W2.set i (.ow (oLq q1 ((setAt l j x).map e))))) :
    SS (tAsg te (gSub (tVar i) tk L2.rSetL)) W P := fun F H σ D s kn _ _ _ =>
  h F H σ _ s fun v F1 H1 a1 s1 e1 => by
    obtain ⟨p, o, e0, _, _, _⟩ := s1.ow i _ h1
    refine ⟨.ref p, e0, hk F1 H1 σ _ s1 fun u F2 H2 a2 s2 g => ?_⟩
    cases (show u = V.int j from g)
    obtain ⟨p', o', e0', y1, y2, ⟨yq, ys, rfl, y3⟩⟩ := s2.ow i _ h2
    rw [e0] at e0'; cases e0'
    have el := y3.len
    rw [List.length_map] at el
    unfold setAt at n
    rw [List.map_set] at n
    refine ⟨p, ys, j, j.toNat, rfl, rfl, y1, ?_, kn _ _ _ _ n ((a1.trans a2).trans ⟨fun _ _ z => z, fun a u n z => ?_, fun _ _ z => .inl z, fun a z => ?_, fun a m => .inl ((Own.mut h2).mp m)⟩) (s2.mut h2 e0 ⟨yq, _, rfl, y3.set ((e x).mono a2.f e1) _⟩)⟩
    · unfold ixN
      rw [if_pos hj.1, if_pos (by omega)]
    · rw [upd_ne (fun q : a = p => n (by rw [q]; exact ⟨i, _, h2, e0⟩))]; exact z
    · by_cases q : a = p
      · subst q; rw [upd_same] at z; cases z
      · rw [upd_ne q] at z; exact z
/-- list(d) -/
def rListT : List V → Hp → VK → Prop := fun xs H Q => ∃ d kvs, xs = [V.ref d] ∧ Rd H d (.dT kvs) ∧ ∀ p bs, H p = none → IsKeys H kvs bs → Q (.ref p) (upd H p (.lst (bs.map V.ref)))
theorem cr_listT {X : Cx} (hc : X.calm = true) : CallR X (.type "list") rListT := call_list_dT hc
theorem isKeys_up {H H2 : Hp} (ex : Same H H2) {ws : List (List Key × V)} {bs : List Addr} (h : IsKeys H ws bs) : IsKeys H2 ws bs := by
  unfold IsKeys at h ⊢
  induction h with
  | nil => exact Paired.nil
  | cons h t ih => exact Paired.cons (ex _ _ h) ih
theorem keys_all {F H : Hp} {e : α → R} (ex : Same F H) : ∀ {l : List ((Int × Int) × α)} {ws : List (List Key × V)} {bs : List Addr}, DRel tkey e F l ws → IsKeys H ws bs → All2 ((List.map Prod.fst l).map (eP2 K eI eI)) (frT F H) (bs.map V.ref)
  | [], [], _, _, ik => by
    cases ik
    trivial
  | kv :: l, w :: ws, _, dr, ik => by
    cases ik with
    | cons h t =>
      refine ⟨pairF.mpr ⟨_, rfl, ?_⟩, keys_all ex dr.2.2 t⟩
      rw [dr.1] at h
      exact frT_t ex h
  | [], _ :: _, _, dr, _ => dr.elim
  | _ :: _, [], _, dr, _ => dr.elim
theorem en_listT {e : α → R} {l : List ((Int × Int) × α)} (h : ES td W W1 (eDT e l)) : ESN (tCB rListT (tCons td tNil)) W W1 (oLs (eP2 K eI eI) (List.map Prod.fst l)) := fun F H σ Q s k =>
  h F H σ _ s fun v F1 H1 a1 s1 ⟨p, o, ws, e1, e2, dr⟩ => by
    subst e1
    refine ⟨p, ws, rfl, .inr ⟨o, s1.ex _ _ e2⟩, fun q bs hq ik => ?_⟩
    have exq : Same H1 (upd H1 q (.lst (bs.map V.ref))) := fun a o z => by rw [upd_ne (ne_of_none z hq)]; exact z
    obtain ⟨q1, s2⟩ := sat_more s1 exq
    have fq : frT F1 (upd H1 q (.lst (bs.map V.ref))) q = none := by
      cases z : frT F1 (upd H1 q (.lst (bs.map V.ref))) q with
      | none => rfl
      | some u =>
        rcases frT_cases z with w | ⟨_, w, xs, ew⟩
        · have := s1.ex q u w
          rw [hq] at this; cases this
        · rw [upd_same] at w; cases w; cases ew
    have no : ¬ Own W1 σ q := not_own s1 hq
    refine k q _ _ _ (a1.trans q1) s2 (a1.t _ hq) upd_same fq no ⟨nofun, _, rfl, ?_⟩
    have ik2 := isKeys_up exq ik
    exact keys_all (K := K) (fun a o z => exq a o (s1.ex a o z)) dr ik2
end
end Fw
end
section
set_option maxRecDepth 100000
set_option maxHeartbeats 2000000
/-! an own list read while it is built; sorted(set(xs)) of any length; lists of unlike things put together -/
namespace Fw
open PySem L2 L2.DX PySem.Spec PyProof.Rows
def hid : Sl → Sl
  | .ow _ => .no
  | s => s
def thawW (W : List Sl) (i : Nat) (r : R) : List Sl := (W.map hid).set i (.fz r)
theorem no_own (W : List Sl) (i : Nat) (r : R) (j : Nat) (c : OC) (h : (thawW W i r)[j]? = some (.ow c)) : False := by
  unfold thawW at h
  rw [List.getElem?_set] at h
  split at h
  · split at h <;> cases h
  · rw [List.getElem?_map] at h
    cases q : W[j]? with
    | none => rw [q] at h; cases h
    | some s =>
      rw [q] at h
      cases s <;> (simp [hid] at h)
section
variable {W W' W0 W1 W2 W3 : List Sl} {K : PySem.W.Frag} {w : World} {te ta tb : TE} {α β γ δ : Type}
theorem es_thaw {e : α → R} {l : List α} {i : Nat} {v : Int} {q : Option Addr} (h0 : W[i]? = some (.ow (oLq q (l.map e)))) (hW : thawW W i (eLs e l) = W0) (h : ES te W0 W0 (eI v)) : ES te W W (eI v) := fun F H σ Q s k => by
  subst hW
  obtain ⟨p, o, e0, g1, g2, ⟨_, xs, rfl, al⟩⟩ := s.ow i _ h0
  have hi : i < W.length := (List.getElem?_eq_some_iff.mp h0).1
  have exF : Same F (upd F p (.lst xs)) := fun a u z => by rw [upd_ne (ne_of_none z g2)]; exact z
  have s0 : Sat (upd F p (.lst xs)) H σ (thawW W i (eLs e l)) := by
    refine ⟨fun a u z => ?_, ?_, fun j r z => ?_, fun j c z => (no_own W i _ j c z).elim, fun j _ c _ _ z => (no_own W i _ j c z).elim⟩
    · by_cases y : a = p
      · subst y; rw [upd_same] at z; cases z; exact g1
      · rw [upd_ne y] at z; exact s.ex a u z
    · rw [s.len]; unfold thawW; simp
    · unfold thawW at z
      rw [List.getElem?_set] at z
      split at z
      · rename_i y
        subst y
        split at z
        · cases z
          exact ⟨.ref p, e0, p, xs, rfl, upd_same, al.mono exF⟩
        · cases z
      · rw [List.getElem?_map] at z
        cases y : W[j]? with
        | none => rw [y] at z; cases z
        | some u =>
          rw [y] at z
          cases u with
          | no => simp [hid] at z
          | ow c => simp [hid] at z
          | fz r' =>
            have : r' = r := by simpa [hid] using z
            subst this
            obtain ⟨v, z1, z2⟩ := s.fz j r' y
            exact ⟨v, z1, r'.mono exF z2⟩
  have none_own : ∀ a, ¬ Own (thawW W i (eLs e l)) σ a := fun a ⟨j, c, z, _⟩ => no_own W i _ j c z
  refine h (upd F p (.lst xs)) H σ Q s0 fun x F1 H1 a1 s1 g => ?_
  have keep : ∀ a o, H a = some o → H1 a = some o := fun a o z => a1.h a o (none_own a) z
  refine k x F H1 ⟨fun _ _ z => z, fun a o _ z => keep a o z, fun _ _ z => .inl z, a1.t, fun _ z => .inl z⟩ ⟨fun a o z => keep a o (s.ex a o z), s.len, s.fz, fun j c z => ?_, s.ds⟩ g
  obtain ⟨p', o', y1, y2, y3, y4⟩ := s.ow j c z
  exact ⟨p', o', y1, keep p' o' y2, y3, y4⟩
/-! lists of two unlike things and one more -/
theorem es_cat21 {f : α → R} {g : β → R} {h : γ → R} {m : α × β} {x : γ} (ha : ES ta W W1 (eM2 f g m)) (hb : ES tb W1 W2 (eLs h [x])) : ES (tOp rCat ta tb) W W2 (eM3 f g h (m.1, m.2, x)) :=
  es_fr (en_catG ha hb (Nat.le_of_ble_eq_true rfl))
end
section
variable {X : Cx} {K : PySem.W.Frag} {o e : Expr} {es : List Expr} {to : TE} {t : TA} {apos cpos : Pos}
theorem pe_countK (h : X.K = K) (ho : PE X o to) (ha : PA X (e :: es) t)
    (hbase : attributeBase o "count" X.env (eval o X.env) = eval o X.env := by rfl)
    (hfew : ((backTo cpos (starEach (e :: es) X.env)).all (fun x => !x.1) && (backToKw cpos (keywordEach [] X.env)).all (fun x => x.1.isSome)
      && decide ((e :: es).length + ([] : List Keyword).length + (if ([] : List Keyword).isEmpty then 0 else 1) < 30)) = true := by rfl)
    (hline : (apos.endLine == cpos.line) = true := by rfl) (hs : starEach (e :: es) X.env = (false, eval e X.env) :: starEach es X.env := by rfl) (hplain : (backTo cpos (starEach es X.env)).any (·.1) = false := by rfl) :
    PE X (.Call (.Attribute o "count" apos) (e :: es) [] cpos) (tBM K "list" (rCntI K) to t) := by
  subst h
  exact pe_bm PySem.F.plainAttrs_list PySem.F.slot_list_count PySem.F.type_list_count mt_lcount ho ha hbase hfew hline hs hplain
end
/-! sorted(set(xs)) -/
section
variable {P : Program} {w : World} {A : Around} {E : Value → Shared → Prop} {s : Shared} {a : Addr}
theorem sorted_setB {S : Int → Bool} {n : Nat} {Q : Value → Shared → Prop} (R : SetR w s.heap a S n) (hh : A.handled = none) (hz : n ≤ sizeLine)
    (hQ : ∀ s' p (out : Array Value) (c : Nat) (ns : List Int), (∀ b o, s.heap.get? b = some o → s'.heap.get? b = some o) → s'.gens = s.gens → s'.os = s.os → s.heap.objs.size ≤ p →
      s'.heap.get? p = some (seqObj "list" out c) → IntsAre out.toList ns → ns.Pairwise (· < ·) → (∀ k, k ∈ ns ↔ S k = true) → ns.length = n → Q (.ref p) s') :
    wpAny (model P w) A (call (.builtin "sorted") [.ref a]) Q E s := by
  obtain ⟨o, es, ep, t, ho, hex, hd, g, nd, hm, hb, hf, hn, hr, hl⟩ := R
  refine Calls.call_function_entry kind_sorted plain_sorted entry_sorted (args_sorted1 _) ?_
  unfold Builtin.«sorted»
  refine wpAny_bind (m := checkCount "sorted" 1 1 _) (wpAny_pure ?_)
  refine wpAny_bind (collect_set (A := A.in1) hh ⟨o, ho, hex.1, hd⟩ hf hb hr hl fun s1 vs k1 hs1 g1 o1 pm => ?_)
  have hvl : vs.length = n := by rw [pm.length_eq, List.length_map, Array.length_toList]; exact hn
  have hI : IntsAre vs (vs.map Builtin.Re.reRawOf) := ints_of vs fun v hv => by
    obtain ⟨e, he, q⟩ := List.mem_map.mp (pm.mem_iff.mp hv)
    obtain ⟨k, tk, h1, _⟩ := g e he
    exact ⟨k, tk, by rw [← q]; exact h1⟩
  have pk : (vs.map Builtin.Re.reRawOf).Perm (es.toList.map keyOf) := by
    have q := pm.map Builtin.Re.reRawOf
    rw [List.map_map] at q
    exact q
  refine wpAny_bind (wpAny_newList ?_ (by rw [hvl]; exact hz))
  have hoL : (s1.heap.push (seqObj "list" vs.toArray 0)).get? s1.heap.objs.size = some (seqObj "list" vs.toArray 0) := Heap.get?_push_size _ rfl
  refine wpAny_bind (wpAny_holding (wpAny_call_entry slot_list_sort ⟨_, hoL, rfl⟩ entry_list_sort
    (SrtO.list_sort_ord SrtO.swo_int hoL (by rw [hvl]; exact hz) (fun h2 => SrtO.ints_sortable hI h2) fun out h1 h2 => ⟨_, rfl, ?_⟩) (args_list_sort _)))
  obtain ⟨q1, q2, q3⟩ := SrtO.ints_out hI h1 h2
  obtain ⟨c, hc⟩ := sortedHeap_at (vs := vs) (out := out.toArray) hoL
  have pn : (out.map SrtO.iv).Perm (es.toList.map keyOf) := q2.trans pk
  refine wpAny_pure ⟨_, rfl, hQ _ s1.heap.objs.size out.toArray c (out.map SrtO.iv) (fun b u e => ?_) g1 o1 hs1 hc q1 (lt_of_le_nodup _ q3 (pn.nodup_iff.mpr nd)) (fun k => by rw [pn.mem_iff, ← hm k]) ?_⟩
  · have q := k1 b u e
    have hlt := Heap.lt_size q
    rw [sortedHeap_old (Nat.ne_of_lt hlt) (by rw [size_push']; exact Nat.lt_succ_of_lt hlt)]
    exact Heap.get?_push_of_some _ q
  · rw [pn.length_eq, List.length_map, Array.length_toList]; exact hn
end
section
variable {X : Cx}
def rSetB (K : PySem.W.Frag) (w : World) : List V → Hp → VK → Prop := fun xs H Q => ∃ (l : Addr) (ns : List Int), xs = [.ref l] ∧ SqL K H l (ns.map V.int) ∧ ns.length ≤ 4000 ∧ ∀ p c, H p = none → c ≤ ns.length → Q (.ref p) (upd H p (SetO w p (fun j => decide (j ∈ ns)) c))
theorem cr_setB {K : PySem.W.Frag} {w : World} (hK : X.K = K) (hw : X.w = w) (hc : X.calm = true) : CallR X (.type "set") (rSetB K w) := by
  subst hK hw
  intro pins s σ H xs us Q I r h
  obtain ⟨l, ns, e, hs, few, q⟩ := h
  subst e
  obtain ⟨its, rv, at_, hz⟩ := I.list hs
  rw [Vals.ref1 r]
  refine FwSet.set_list ns (I.ok.hd hc) at_.isList (by simpa using ints_of_vals rv) (by unfold scanBound; omega) fun g tk c R hc' keep => ?_
  exact ⟨.ref s.heap.objs.size, _, I.laid keep (Nat.le_refl _) (setO_new R), rfl, q _ c (I.hok.fresh (Nat.le_refl _)) hc'⟩
def rSortedSetB (w : World) : List V → Hp → VK → Prop := fun vs H Q => ∃ (a : Addr) (S : Int → Bool) (n : Nat), vs = [V.ref a] ∧ H a = some (SetO w a S n) ∧ n ≤ 4000 ∧
  ∀ (ns : List Int) (p : Addr), ns.Pairwise (· < ·) → (∀ k : Int, k ∈ ns ↔ S k = true) → ns.length = n → H p = none → Q (.ref p) (upd H p (.lst (ns.map V.int)))
theorem cr_sortedSetB {w : World} (hw : X.w = w) (hc : X.calm = true) : CallR X (.builtin "sorted") (rSortedSetB w) := by
  subst hw
  intro pins s σ H vs us Q I r h
  obtain ⟨a, S, n, rfl, ha, few, q⟩ := h
  have R := setO_get I ha
  rw [Vals.ref1 r]
  refine sorted_setB R (I.ok.hd hc) (by rw [sizeLine_eq]; omega) fun s' p out c ns k g o hp hg hi hs hm hl => ?_
  have hlen : (ns.map V.int).length ≤ sizeLine := by rw [List.length_map, hl, sizeLine_eq]; omega
  have hn : H p = none := I.hok.fresh hp
  have J : Inv X pins σ (upd H p (.lst (ns.map V.int))) { s with heap := s'.heap, gens := s'.gens, drawn := s'.drawn, toks := s'.toks } :=
    I.call (ch := []) (Un.laid k hp hn) (I.hok.laid k hp ⟨hlen, out.toList, c, vals_of_ints hi, hg⟩) (by rw [g]; exact I.bare) (fun _ z => nomatch z)
  have e : s' = { s with heap := s'.heap, gens := s'.gens, drawn := s'.drawn, toks := s'.toks } := by
    cases s'
    cases s
    cases o
    rfl
  rw [e]
  exact ⟨.ref p, _, J, rfl, q ns p hs hm hl hn⟩
end
section
variable {W W1 : List Sl} {K : PySem.W.Frag} {w : World} {ta : TE}
theorem en_sortsetB {l : List Int} (ha : ES ta W W1 (eLs eI l)) (few : l.length ≤ 4000) : ESN (tCB (rSortedSetB w) (tCons (tCB (rSetB K w) (tCons ta tNil)) tNil)) W W1 (oL ((ssort l).map eI)) := fun F H σ Q s k =>
  ha F H σ _ s fun v F1 H1 a1 s1 ⟨p, xs, e1, e2, e3⟩ => by
    subst e1
    have ex : xs = l.map V.int := all2_ints e3
    subst ex
    refine ⟨p, l, rfl, .inl (.inl (s1.ex _ _ e2)), few, fun q c hq hc => ?_⟩
    have exq : Same H1 (upd H1 q (SetO w q (fun j => decide (j ∈ l)) c)) := fun a o z => by rw [upd_ne (ne_of_none z hq)]; exact z
    refine ⟨q, _, c, rfl, upd_same, by omega, fun ns r h1 h2 h3 hr => ?_⟩
    have en : ns = ssort l := strict_uniq h1 (ssort_strict l) fun k => by rw [h2 k, decide_eq_true_iff, ssort_mem]
    subst en
    have exr : Same (upd H1 q (SetO w q (fun j => decide (j ∈ l)) c)) (upd (upd H1 q (SetO w q (fun j => decide (j ∈ l)) c)) r (.lst ((ssort l).map V.int))) := fun a o z => by rw [upd_ne (ne_of_none z hr)]; exact z
    have s2 := s1.grow exq
    exact k r _ F1 _ (a1.trans ((Rel.grow exq).trans (Rel.grow exr))) (s2.grow exr) (((a1.trans (Rel.grow exq)).t _ hr)) upd_same (s2.ex.free hr) (not_own s2 hr) ⟨nofun, _, rfl, all2_of_ints _⟩
end
end Fw
end
section
set_option maxRecDepth 100000
/-! a while that is broken where it would end -/
namespace Fw
open PySem L2
theorem wRun_stop {β : Type} {c : β → Bool} {bd : β → β} {s : β} (h : c s = false) : ∀ n : Nat, wRun c bd n s = s
  | 0 => rfl
  | n + 1 => by show (if c s = true then _ else _) = _; rw [h, if_neg Bool.false_ne_true]
section
variable {β : Type} {W : List Sl} {tc' : TT} {ts : TS} {P : Post}
theorem sf_whileB (mk : β → List Sl) (c : β → Bool) (bd : β → β) (okc okb : β → Prop) (n : Nat) (s0 : β) (w : Wk W (mk s0)) (hg : wOk c bd okc okb n s0)
    (hc : ∀ s, okc s → ET tc' (mk s) (mk s) (c s)) (hs : ∀ s, c s = true → okb s → SS ts (mk s) ⟨fun W' => Wk W' (mk (bd s)), P.rt, fun W' => Wk W' (mk (bd s)) ∧ c (bd s) = false, fun W' => Wk W' (mk (bd s))⟩)
    (hd : ∀ W', Wk W' (mk (wRun c bd n s0)) → P.nx W') : SS (tWhile tc' ts) W P := fun F H σ D s kn kr kb kc => by
  refine ⟨fun m σ' H' => ∃ t W' F', wOk c bd okc okb m t ∧ wRun c bd m t = wRun c bd n s0 ∧ Wk W' (mk t) ∧ Rel F H (Own W σ) F' H' (Own W' σ') ∧ Sat F' H' σ' W', ⟨n, s0, W, F, hg, rfl, w, Rel.refl, s⟩, ?_⟩
  rintro m σ' H' ⟨t, W', F', g1, g2, g3, g4, g5⟩
  have okc' : okc t := by cases m with
    | zero => exact g1.1
    | succ m => exact g1.1
  refine hc t okc' F' H' σ' _ (g5.weak g3) fun F1 H1 a1 s1 => ?_
  have a1' : Rel F H (Own W σ) F1 H1 (Own (mk t) σ') := (g4.sub fun _ o => g3.sub o).trans a1
  cases q : c t with
  | true =>
    rw [if_pos rfl]
    cases m with
    | zero => rw [g1.2] at q; cases q
    | succ m =>
      obtain ⟨y1, y2⟩ := g1.2 q
      have er : wRun c bd m (bd t) = wRun c bd n s0 := by rw [← g2]; show _ = if c t = true then _ else _; rw [if_pos q]
      refine ⟨fun σ2 H2 => ∃ t W' F', wOk c bd okc okb m t ∧ wRun c bd m t = wRun c bd n s0 ∧ Wk W' (mk t) ∧ Rel F H (Own W σ) F' H2 (Own W' σ2) ∧ Sat F' H2 σ2 W', fun σ2 H2 z => ⟨m, Nat.lt_succ_self m, z⟩, ?_⟩
      refine hs t q y1 F1 H1 σ' _ s1 (fun W2 σ2 F2 H2 n2 a2 s2 => ⟨_, W2, F2, y2, er, n2, a1'.trans a2, s2⟩) (fun W2 σ2 r v F2 H2 n2 a2 s2 => kr W2 σ2 r v F2 H2 n2 (a1'.trans a2) s2)
        (fun W2 σ2 F2 H2 n2 a2 s2 => kn W2 σ2 F2 H2 (hd W2 (by rw [← er, wRun_stop n2.2]; exact n2.1)) (a1'.trans a2) s2)
        fun W2 σ2 F2 H2 n2 a2 s2 => ⟨_, W2, F2, y2, er, n2, a1'.trans a2, s2⟩
  | false =>
    rw [if_neg Bool.false_ne_true]
    have er : t = wRun c bd n s0 := by
      rw [← g2]
      cases m with
      | zero => rfl
      | succ m => show t = if c t = true then _ else _; rw [if_neg (by rw [q]; exact Bool.false_ne_true)]
    exact kn (mk t) σ' F1 H1 (hd _ (by rw [← er]; exact Wk.refl)) a1' s1
end
section
variable {α β γ δ ε : Type} {W : List Sl} {ts uu : TS} {P : Post}
theorem ss_seq5 (v1 : α) (v2 : β) (v3 : γ) (v4 : δ) (v5 : ε) (mk : α → β → γ → δ → ε → List Sl) (h : SS ts W ⟨fun W' => Wk W' (mk v1 v2 v3 v4 v5), P.rt, P.bk, P.ct⟩) (k : ∀ x1, x1 = v1 → ∀ x2, x2 = v2 → ∀ x3, x3 = v3 → ∀ x4, x4 = v4 → ∀ x5, x5 = v5 → SS uu (mk x1 x2 x3 x4 x5) P) :
    SS (tSeq ts uu) W P := ss_seqTo (mk v1 v2 v3 v4 v5) h (k v1 rfl v2 rfl v3 rfl v4 rfl v5 rfl)
end
end Fw
end
section
set_option maxRecDepth 100000
/-! a list of Options that are all there -/
namespace Fw
open PySem L2
theorem map_unO {α : Type} [Inhabited α] {e : α → R} : ∀ {l : List (Option α)}, (∀ x ∈ l, x.isSome = true) → l.map (eO e) = (l.map unO).map e
  | [], _ => rfl
  | x :: l, g => by
    have ih := map_unO (e := e) (l := l) fun y hy => g y (List.mem_cons_of_mem _ hy)
    have h := g x (List.mem_cons_self ..)
    rw [List.map_cons, List.map_cons, List.map_cons, ih]
    congr 1
    cases x with
    | none => cases h
    | some x => rfl
section
variable {W W1 : List Sl} {te : TE}
theorem es_unOL {α : Type} [Inhabited α] {e : α → R} {l : List (Option α)} (h : ES te W W1 (eLs (eO e) l)) (g : ∀ x ∈ l, x.isSome = true) : ES te W W1 (eLs e (l.map unO)) := by
  unfold eLs at h ⊢
  rw [← map_unO g]; exact h
end
end Fw
end
section
set_option maxRecDepth 100000
set_option maxHeartbeats 2000000
/-! a caught exception that is kept -/
namespace Fw
open PySem L2 PyProof.Rows PySem.Spec
/-- at a: an exception of the class cls that was raised and caught, its dict at d -/
def xcO (a : Addr) (cls : Value) (d : Option Addr) : HO := .ext fun h => ∃ (oe : Obj) (vs : Array Value), h.get? a = some oe ∧ Zc cls d oe ∧ oe.data = .fields vs
theorem xcO_ok {P : Program} {w : World} {H : Hp} {h : Heap} {a : Addr} {cls : Value} {d : Option Addr} {oe : Obj} {vs : Array Value} (e : h.get? a = some oe) (z : Zc cls d oe) (dd : oe.data = .fields vs) : ObjOk P w H h a (xcO a cls d) :=
  ⟨⟨oe, vs, e, z, dd⟩, ⟨oe, e⟩, fun _ _ ⟨o, v, q, r⟩ k => ⟨o, v, k o q, r⟩⟩
theorem trackX {X : Cx} {pins : List (Addr × Obj)} {σ : L2.St} {H : Hp} {s : Shared} {a : Addr} {oe : Obj} {vs : Array Value} {cls : Value} {d : Option Addr} (I : Inv X pins σ H s) (ha : s.heap.get? a = some oe) (z : Zc cls d oe) (hd : oe.data = .fields vs)
    (n0 : X.s_0.heap.get? a = none) (na : H a = none) (nL : a ≠ X.env.locals) (np : ∀ p ∈ X.pn ++ pins, p.1 ≠ a) : Inv X pins σ (upd H a (xcO a cls d)) s := by
  have neN : ∀ b u, H b = some u → b ≠ a := fun b u e q => by rw [q, na] at e; cases e
  refine ⟨I.ok, I.os, I.bare, ⟨I.base.keep, I.base.slot, fun b o e n hb => ?_, I.base.there, fun b xs e => ?_, fun b o u e => ?_, fun b ps e => ?_⟩, I.loc, I.cell, ?_, fun x c e => ?_, fun p hp => ?_, fun b u e => ?_, I.len⟩
  · rw [upd_ne (fun q => by rw [q, n0] at e; cases e)]
    exact I.base.free b o e n hb
  · have q := I.base.tups b xs e
    rw [upd_ne (neN b _ q)]; exact q
  · have q := I.base.frzs b o u e
    rw [upd_ne (neN b _ q)]; exact q
  · obtain ⟨m, q⟩ := I.base.tbls b ps e
    exact ⟨m, by rw [upd_ne (neN b _ q)]; exact q⟩
  · rw [upd_ne (Ne.symm nL)]; exact I.free
  · obtain ⟨v, o, ho, hc⟩ := I.cell x c e
    rw [upd_ne (fun q => by rw [q, ha] at ho; cases ho; rw [hd] at hc; cases hc)]
    exact I.freeC x c e
  · obtain ⟨h1, h2, h3⟩ := I.pin p hp
    exact ⟨h1, by rw [upd_ne (np p hp)]; exact h2, h3⟩
  · by_cases hb : b = a
    · subst hb
      rw [upd_same] at e
      cases e
      exact xcO_ok ha z hd
    · rw [upd_ne hb] at e
      exact (I.hok b u e).stay (fun c v _ q => q) (fun c q => by rw [upd_ne (neN c _ q)]; exact q) fun c xs q => by rw [upd_ne (neN c _ q)]; exact q
/-- try: body except X as n: suite, where what is caught is kept -/
def wAsK (K : PySem.W.Frag) (c : Value) (i : Nat) (ts : Addr → Value → Option Addr → TS) (Wout : WX) (D : Ends) : WX := fun cls d σ H =>
  ∃ b, PySem.W.exmOne K cls c = some b ∧ (b = true → ∀ a, H a = none → ts a cls d { nx := fun σ' H' => H' a = none ∧ D.nx (σ'.set i none) (upd H' a (xcO a cls d)), rt := fun _ _ => False, bk := fun _ _ => False, ct := fun _ _ => False } (σ.set i (some (.ref a))) H) ∧
    (b = false → Wout cls d σ H)
section
variable {X : Cx} {x n : Str} {c : Value} {i : Nat} {body suite : List Stmt} {b₀ : Stmt} {np pos pos' : Pos} {tb : WX → TS} {ts : Addr → Value → Option Addr → TS} {Wout : WX}
theorem ps_try_keep (hs : X.stack = X.env :: X.outer) (hf : X.env.frame = some X.env.locals) (hN : X.N.Nodup) (hi : X.N[i]? = some n) (hln : X.env.kindOf n = some .local) (hex : X.ex = []) (hc : Names X x c) (tk : Takes X Wout)
    (hb : ∀ (W : WX) (pn : List (Addr × Obj)) (xe : Value → Shared → Prop), Takes (X.tr pn xe) W → PassesOwn (model X.prog X.w) X.A X.env xe → PSs (X.tr pn xe) body (tb W))
    (hsu : ∀ (a : Addr) (oe : Obj) (cls : Value) (d : Option Addr) (pn : List (Addr × Obj)), Zc cls d oe → (∃ vs, oe.data = .fields vs) → PSs (X.suite a ((a, oe) :: pn)) (b₀ :: suite) (ts a cls d)) :
    PS X (.Try body [.ExceptHandler (some (.Name x np)) (some n) (b₀ :: suite) pos'] [] [] pos) (fun D σ H => tb (wAsK X.K c i ts Wout D) D σ H) := by
  refine ⟨fun pins s σ H D I h => ?_⟩
  have ok := I.ok
  have hfr : X.A.frames = some (X.env :: X.outer) := by rw [ok.frames, hs]
  have hloc : Loc X.env.scope n := .inl hln
  refine wpAny_Try_except ?_
  refine wpAny_mono ((hb (wAsK X.K c i ts Wout D) (X.pn ++ pins) (fun e s₁ => wpAny (model X.prog X.w) X.A (noteFrame e X.env) (fun _ s₂ => wpAny (model X.prog X.w) X.A (setFlight e none) (fun _ s₃ =>
    wpAny (model X.prog X.w) X.A (handleBy e X.env [.ExceptHandler (some (.Name x np)) (some n) (b₀ :: suite) pos']) (SP X pins D) X.xe s₃) X.xe s₂) X.xe s₁) (fun u s' xx => ?_) PassesOwn.looking).run [] s σ H D (I.toTry _) h) (fun f s1 hsp => ?_) (fun e s1 he => he)
  · obtain ⟨a, B, sI, pins', σ', H', cls, d, rfl, J', nb, up, sky, na, os, ag, b, hb1, hyes, hno⟩ := xx
    have J : Inv X pins σ' H' sI := J'.ofTry ok
    have sky' : Sky B (X.env :: X.outer) a (Zc cls d) X.env.locals s'.heap := by rw [← hs]; exact sky
    show wpAny (model X.prog X.w) X.A (noteFrame (.ref a) X.env) _ _ _
    refine Sky.land Zc.steady hfr hf sky' fun h3 fl3 up3 => ?_
    have J3 : Inv X pins σ' H' { s' with heap := h3 } := J.landed nb fl3.1 (up.trans up3) os ag
    obtain ⟨oe3, vs3, he3, hz3, hd3⟩ := fl3.there
    have notFr : ∀ {h : Heap} {o : Obj} {vs : Array Value}, h.FunFrames B (X.env :: X.outer) → h.get? a = some o → o.data = .fields vs → a ∉ frs (X.env :: X.outer) := fun {h o vs} ff e dd hm => by
      obtain ⟨_, o', e', hnf⟩ := ff.mem hm
      rw [e] at e'; cases e'
      exact hnf _ dd
    have nfr := notFr fl3.2.2.1 he3 hd3
    have nL : a ≠ X.env.locals := fun z => nfr (List.mem_filterMap.mpr ⟨X.env, List.mem_cons_self, by rw [hf, z]⟩)
    have nF : a ∉ X.fs := fun hm => by
      obtain ⟨e, he, q⟩ := List.mem_filterMap.mp hm
      exact nfr (List.mem_filterMap.mpr ⟨e, List.mem_cons_of_mem _ he, q⟩)
    have nI : sI.heap.get? a = none := by
      cases q : sI.heap.get? a with
      | none => rfl
      | some o =>
        have z := nb a o q (by rw [hs]; exact nfr)
        have z2 : B.get? a = none := fl3.2.1
        rw [z2] at z; cases z
    have n0 : X.s_0.heap.get? a = none := by
      cases q : X.s_0.heap.get? a with
      | none => rfl
      | some o =>
        obtain ⟨o', z⟩ := J.base.there a o q (by rw [hex]; exact fun w => nomatch w)
        rw [nI] at z; cases z
    have npn : ∀ p ∈ X.pn ++ pins, p.1 ≠ a := fun p hp q => by
      have z := (J.pin p hp).1
      rw [q, nI] at z; cases z
    have S3 := J3.suite he3 hd3 na nL nF
    refine wpAny_handleBy_cons (codeAny_handlers_test ?_) (by intro q; cases q)
    have LT : PySem.W.Looks (model X.prog X.w) h3 (typeOf (.ref a)) cls := fun A Q E s k q => wpAny_typeOf_ref (k _ _ he3) (by rw [hz3.1]; exact q)
    have LM := PySem.W.exm_one (M := model X.prog X.w) (J3.kIn) LT hb1
    have test : ∀ {Q : Value → Shared → Prop} {E : Value → Shared → Prop}, Q c { s' with heap := h3 } → wpAny (model X.prog X.w) (X.A.mark (some (.ref a))) (eval (.Name x np) X.env) Q E { s' with heap := h3 } := fun {Q E} q => by
      obtain ⟨hg, hdbg, hm | ⟨hm, hv, hnn⟩⟩ := hc
      · exact ld_glob (X := X.suite a ((a, oe3) :: (X.pn ++ pins))) S3 hg hm q hdbg
      · exact ld_blt (X := X.suite a ((a, oe3) :: (X.pn ++ pins))) S3 hg hm hv q hnn hdbg
    refine test (LM.here ?_)
    cases b with
    | true =>
      refine codeAny_handlers_suite_as ?_
      refine HandSPX.lands_againZ fl3 fun h4 fl4 up4 => ?_
      have J4 : Inv X pins σ' H' { s' with heap := h4 } := J.landed nb fl4.1 ((up.trans up3).trans up4) os ag
      obtain ⟨oe4, vs4, he4, hz4, hd4⟩ := fl4.there
      have S4 := J4.suite he4 hd4 na nL nF
      refine store_ok (X := X.suite a ((a, oe4) :: (X.pn ++ pins))) (v := .ref a) S4 hN hi hloc rfl (fun s5 S5 => ?_) (.inr hln)
      refine wpAny_mono ((hsu a oe4 cls d (X.pn ++ pins) hz4 ⟨_, hd4⟩).run [] s5 _ H' _ S5 (hyes rfl a na)) (fun f s6 hsp => ?_) (fun _ _ z => False.elim z)
      cases f with
      | next =>
        obtain ⟨σ6, H6, S6, n6, q6⟩ := hsp
        refine gone_ok (X := X.suite a ((a, oe4) :: (X.pn ++ pins))) S6 hN hi hln fun s7 S7 => ?_
        have pa := S7.pin (a, oe4) (List.mem_append_left _ (List.mem_cons_self ..))
        exact ⟨_, _, trackX (S7.unsuite ok) pa.1 hz4 hd4 n0 n6 nL npn, q6⟩
      | brk => exact hsp.elim fun _ z => z.elim fun _ z => z.2.elim
      | cont => exact hsp.elim fun _ z => z.elim fun _ z => z.2.elim
      | ret u =>
        obtain ⟨v6, σ6, H6, S6, r6, q6⟩ := hsp
        exact q6.elim
    | false =>
      show wpAny _ X.A (handleBy (.ref a) X.env []) _ _ _
      refine wpAny_handleBy_nil ?_
      obtain ⟨k1, k2, k3, oe, vs, T, oT, ts', he, hz, hd, h1, hr⟩ := id fl3
      unfold PySem.passOn
      refine wpAny_bind (wpAny_field he hd h1 ?_)
      rw [if_neg (show ¬ ((Value.ref T == Value.none) = true) from by simp)]
      have fin : wpAny (model X.prog X.w) X.A (setFlight (.ref a) X.env.frame) (fun _ s4 => wpAny (model X.prog X.w) X.A (throw (.ref a) : Sem Flow) (SP X pins D) X.xe s4) X.xe { s' with heap := h3 } := by
        rw [hf]
        refine HandSPX.setFlight_upZ fl3 fun h4 hh4 up4 => wpAny_throw (tk _ _ ?_)
        exact ⟨a, B, sI, pins, σ', H', cls, d, rfl, J, nb, (up.trans up3).trans up4, .inr (.inr (by rw [hs]; exact hh4)), na, os, ag, hno rfl⟩
      first
        | exact wpAny_bind (wpAny_pure (wpAny_bind fin))
        | exact wpAny_bind fin
  · cases f with
    | next =>
      obtain ⟨σ', H', J', q⟩ := hsp
      exact wpAny_execs_nil ⟨σ', H', J'.ofTry ok, q⟩
    | brk =>
      obtain ⟨σ', H', J', q⟩ := hsp
      exact ⟨σ', H', J'.ofTry ok, q⟩
    | cont =>
      obtain ⟨σ', H', J', q⟩ := hsp
      exact ⟨σ', H', J'.ofTry ok, q⟩
    | ret u =>
      obtain ⟨v, σ', H', J', r, q⟩ := hsp
      exact ⟨v, σ', H', J'.ofTry ok, r, q⟩
/-- isinstance of a caught one -/
def rIsC (K : PySem.W.Frag) : List V → Hp → VK → Prop := fun xs H Q => ∃ (a C : Addr) (c : V) (u : Value) (b : Bool) (d : Option Addr), XcC K C ∧ xs = [.ref a, c] ∧ ClsV c u ∧ H a = some (xcO a (.ref C) d) ∧ (∀ dd, d = some dd → ∃ fs, H dd = some (.xd fs)) ∧ PySem.W.kitOne K (.ref C) u = some b ∧ Q (.bl b) H
theorem call_isC : CallR X (.builtin "isinstance") (rIsC X.K) := by
  intro pins s σ H xs us Q I r h
  obtain ⟨a, C, c, u, b, d, T, rfl, k, ea, ed, e, q⟩ := h
  obtain ⟨u1, u2, rfl, r1, r2⟩ := vals2 r
  have e2 := k.eq r2
  subst e2
  cases (show u1 = Value.ref a from r1)
  have x : ObjOk X.prog X.w H s.heap a (xcO a (.ref C) d) := I.hok a _ ea
  obtain ⟨oe, vs, ho, ⟨hz1, hz2⟩, hd⟩ := x.1
  cases d with
  | none =>
    have J : PySem.W.InstAt s.heap a oe C none := by
      obtain ⟨oc, od, oda, osl⟩ := oe
      dsimp only at hz1 hz2 hd
      subst hz1 hz2 hd
      exact ⟨ho, rfl, rfl, trivial⟩
    exact PySem.W.kia_one (PySem.W.kitx_exc (x := a) (od := none) T.cl T.ga T.gg T.sb T.ha T.hn T.ht T.hm) I.kIn J e (fun z => nomatch z) fun tk => ⟨.bl b, H, I.tok tk, rfl, q⟩
  | some dd =>
    obtain ⟨fs, hf⟩ := ed dd rfl
    obtain ⟨mA, hns, rel⟩ := (show ObjOk X.prog X.w H s.heap dd (.xd fs) from I.hok dd _ hf)
    obtain ⟨od, hod, hl⟩ := lookIn_ns hns
    have J : PySem.W.InstAt s.heap a oe C (some od) := by
      obtain ⟨oc, odi, oda, osl⟩ := oe
      dsimp only at hz1 hz2 hd
      subst hz1 hz2 hd
      exact ⟨ho, rfl, rfl, hod⟩
    exact PySem.W.kia_one (PySem.W.kitx_exc (x := a) (od := some od) T.cl T.ga T.gg T.sb T.ha T.hn T.ht T.hm) I.kIn J e (fun z => nomatch z) fun tk => ⟨.bl b, H, I.tok tk, rfl, q⟩
/-- e.f -/
def tCg (K : PySem.W.Frag) (f : Str) (te : TE) : TE := fun σ H Q => te σ H fun x H1 => ∃ (a C : Addr) (y : V) (dd : Addr), XcC K C ∧ PySem.W.findIn K (.ref C) f = some none ∧ x = .ref a ∧ H1 a = some (xcO a (.ref C) (some dd)) ∧ H1 dd = some (.xd [(f, y)]) ∧ Q y H1
theorem pe_cg {e : Expr} {te : TE} {pos : Pos} {n : Str} (he : PE X e te) (hb : attributeBase e n X.env (eval e X.env) = eval e X.env := by rfl) : PE X (.Attribute e n pos) (tCg X.K n te) := by
  refine ⟨fun pins s σ H Q I h => ?_⟩
  refine attr_of hb (thn (he.run pins s σ H _ I h) fun u s1 hh => ?_)
  obtain ⟨x, H1, I1, rx, a, C, y, dd, T, hno, ex, ea, ed, q⟩ := hh
  subst ex
  obtain rfl : u = Value.ref a := rx
  have x : ObjOk X.prog X.w H1 s1.heap a (xcO a (.ref C) (some dd)) := I1.hok a _ ea
  obtain ⟨oe, vs, ho, ⟨hz1, hz2⟩, hd⟩ := x.1
  obtain ⟨mA, hns, rel⟩ := (show ObjOk X.prog X.w H1 s1.heap dd (.xd [(n, y)]) from I1.hok dd _ ed)
  obtain ⟨od, hod, hl⟩ := lookIn_ns hns
  obtain ⟨u, hu, ru⟩ := RelO.some_of (v := y) (o := mA n) (by have z := rel n; rw [show List.lookup n [(n, y)] = some y from by simp [List.lookup]] at z; exact z)
  have J : PySem.W.InstAt s1.heap a oe C (some od) := by
    obtain ⟨oc, odi, oda, osl⟩ := oe
    dsimp only at hz1 hz2 hd
    subst hz1 hz2 hd
    exact ⟨ho, rfl, rfl, hod⟩
  exact PySem.HandSPX.exc_get I1.kIn J T.ga T.gg T.sb (PySem.W.findObj_own T.hd hno rfl (by rw [hl, hu])) (handed_of ru) ⟨y, H1, I1.tok _, ru, q⟩
end
end Fw
end
section
set_option maxRecDepth 100000
set_option maxHeartbeats 2000000
/-! defs that raise -/
namespace Fw
open PySem L2 PyProof.Rows PySem.Spec
/-- what is kept of the heap up to a raise -/
structure An where
  p : Hp → Prop
  mono : ∀ {F F' : Hp}, Same F F' → p F → p F'
def eAt (A : An) (r : R) : R := ⟨fun F v => A.p F ∧ r.p F v, fun e h => ⟨A.mono e h.1, r.mono e h.2⟩⟩
def xV : Option Int → V
  | none => .non
  | some i => .int i
/-- the exception that comes out: its class, its dict -/
def exH (ad : Nat → Addr) (x : Xc) (cls : Value) (d : Option Addr) (F H : Hp) : Prop := cls = .ref (ad x.c) ∧ match x.f with
  | none => d = none
  | some o => ∃ dd, d = some dd ∧ H dd = some (.xd [(xfn x.c, xV o)]) ∧ F dd = none
def HE (ad : Nat → Addr) (A : An) (E : XK) (x : Xc) : Prop := ∀ cls dd F' H', A.p F' → Same F' H' → exH ad x cls dd F' H' → E cls dd H'
/-- a promise of a def that answers or raises -/
def spX {ι β : Type} (ad : Nat → Addr) (as : ι → List R) (ok : ι → Prop) (m : ι → Xc ⊕ β) (res : β → R) : Sp := fun vs H Q E => ∃ (d : ι) (F : Hp), ok d ∧ Same F H ∧ All2 (as d) F vs ∧
  (∀ b, m d = .inr b → ∀ v F' H', Rel F H Nob F' H' Nob → Same F' H' → (res b).p F' v → Q v H') ∧
  (∀ x, m d = .inl x → ∀ cls dd H', Same H H' → exH ad x cls dd H H' → E cls dd H')
def FPX {β : Type} (res : β → R) (v : Xc ⊕ β) : Post := ⟨fun _ => ∃ b, v = .inr b ∧ res b = eN, fun _ r => ∃ b, v = .inr b ∧ r = res b, fun _ => False, fun _ => False⟩
theorem spX.len {ι β : Type} {ad : Nat → Addr} {as : ι → List R} {ok : ι → Prop} {m : ι → Xc ⊕ β} {res : β → R} {vs : List V} {H : Hp} {Q : VK} {E : XK} {n : Nat} (h : spX ad as ok m res vs H Q E) (hn : ∀ d, (as d).length = n) : vs.length = n := by
  obtain ⟨d, F, _, _, ha, _⟩ := h
  rw [ha.len, hn]
section
variable {W W' W1 W2 : List Sl} {K : PySem.W.Frag} {ad : Nat → Addr} {A : An} {E : XK} {r : R} {P : Post} {ts uu : TS} {ta te : TE} {ι β γ δ : Type}
theorem es_at (h : ES te W W1 (eAt A r)) : ES te W W1 r := h.imp fun _ _ z => z.2
theorem def_X {as : ι → List R} {ok : ι → Prop} {m : ι → Xc ⊕ β} {res : β → R} {N : List Str} {vs : List V} {H : Hp} {Q : VK} (h : spX ad as ok m res vs H Q E) (hN : ∀ d, (as d).length ≤ N.length)
    (k : ∀ d, ok d → ∀ A : An, (∀ x, m d = .inl x → HE ad A E x) → SS ts (slF ((as d).map (eAt A)) N.length) (FPX res (m d))) : ts { nx := fun _ H' => Q .non H', rt := Q } (L2.start N vs) H := by
  obtain ⟨d, F, hok, ex, ha, hq, he⟩ := h
  have main : ∀ (A : An) (F0 : Hp), Same F0 H → Same F F0 → A.p F0 → (∀ x, m d = .inl x → HE ad A E x) → (∀ b, m d = .inr b → F0 = F) → ts { nx := fun _ H' => Q .non H', rt := Q } (L2.start N vs) H := by
    intro A F0 ex0 up0 hA hE hF
    have ha0 : All2 ((as d).map (eAt A)) F0 vs := by
      have := ha.mono up0
      clear hq he hE hF ha
      generalize as d = rs at *
      induction rs generalizing vs with
      | nil => exact this
      | cons r rs ih =>
        cases vs with
        | nil => exact this.elim
        | cons v vs => exact ⟨⟨hA, this.1⟩, ih this.2⟩
    have el := ha0.len
    have s : Sat F0 H (L2.start N vs) (slF ((as d).map (eAt A)) N.length) := by
      refine ⟨ex0, ?_, fun i r h => ?_, fun i c h => (slF_ow h).elim, fun i j c e p h => (slF_ow h).elim⟩
      · unfold L2.start slF; simp at el; simp [el]
      · obtain ⟨x, z1, z2⟩ := ha0.get' (slF_fz h)
        exact ⟨x, start_at z1, z2⟩
    have own0 : ∀ a, ¬ Own (slF ((as d).map (eAt A)) N.length) (L2.start N vs) a := fun a ⟨i, c, h, _⟩ => slF_ow h
    have up : ∀ {F' H' : Hp} {M : Addr → Prop}, Rel F0 H (Own (slF ((as d).map (eAt A)) N.length) (L2.start N vs)) F' H' M → Rel F0 H Nob F' H' Nob := fun a =>
      ⟨a.f, fun x o n h => a.h x o (own0 x) h, fun x o h => (a.n x o h).imp id (Or.imp id (Or.imp (fun m => own0 x m) id)), a.t, fun x m => m.elim⟩
    refine k d hok A hE F0 H (L2.start N vs) _ s (fun W' σ' F' H' z a s' => ?_) (fun W' σ' r v F' H' z a s' hv => ?_) (fun _ _ _ _ z => z.elim) fun _ _ _ _ z => z.elim
    · obtain ⟨b, e1, e2⟩ := z
      have e := hF b e1
      subst e
      exact hq b e1 .non F' H' (up a) s'.ex (by rw [e2]; rfl)
    · obtain ⟨b, e1, e2⟩ := z
      have e := hF b e1
      subst e e2
      exact hq b e1 v F' H' (up a) s'.ex hv
  cases hm : m d with
  | inl x =>
    refine main ⟨fun F' => Same H F', fun e h a o z => e a o (h a o z)⟩ H (fun _ _ z => z) ex (fun _ _ z => z) (fun y hy cls dd F' H' hA hs hx => ?_) (fun b hb => by rw [hm] at hb; cases hb)
    rw [hm] at hy
    cases hy
    refine he x hm cls dd H' (fun a o z => hs a o (hA a o z)) ⟨hx.1, ?_⟩
    have h2 := hx.2
    cases q : x.f with
    | none => rw [q] at h2; exact h2
    | some o =>
      rw [q] at h2
      obtain ⟨d1, k1, k2, k3⟩ := h2
      refine ⟨d1, k1, k2, ?_⟩
      cases z : H d1 with
      | none => rfl
      | some u =>
        have := hA d1 u z
        rw [k3] at this; cases this
  | inr b => exact main ⟨fun _ => True, fun _ _ => trivial⟩ F ex (fun _ _ z => z) trivial (fun x hx => by rw [hm] at hx; cases hx) fun _ _ => rfl
/-- in a branch -/
theorem HEt {δ : Type} {c : Xc → δ} {a : Bool} {vA vB : δ} {G : Xc → Prop} (q : a = true) (h : ∀ x, (if a = true then vA else vB) = c x → G x) : ∀ x, vA = c x → G x := fun x e => h x (by rw [if_pos q]; exact e)
theorem HEf {δ : Type} {c : Xc → δ} {a : Bool} {vA vB : δ} {G : Xc → Prop} (q : a = false) (h : ∀ x, (if a = true then vA else vB) = c x → G x) : ∀ x, vB = c x → G x := fun x e => h x (by rw [if_neg (by rw [q]; exact Bool.false_ne_true)]; exact e)
/-- raise -/
theorem ss_raiseN {i c : Nat} (hi : W[i]? = some (.fz (eAt A r))) (hE : HE ad A E ⟨c, none⟩) : SS (fun _ σ H => E (.ref (ad c)) none H) W P := fun F H σ D s _ _ _ _ => by
  obtain ⟨v, _, h2⟩ := s.fz i _ hi
  exact hE _ _ F H h2.1 s.ex ⟨rfl, rfl⟩
theorem ss_raiseD {i c : Nat} {o : Option Int} (hi : W1[i]? = some (.fz (eAt A r))) (h : ES ta W W1 (eO eI o)) (hE : HE ad A E ⟨c, some o⟩) :
    SS (fun _ σ H => tMkO (ad c) (spXi (ad c) (xfn c)) [] (tCons ta tNil) σ H fun cls d H' => E cls d H') W P := fun F H σ D s _ _ _ _ =>
  h F H σ _ s fun v F1 H1 a1 s1 e1 => by
    obtain ⟨w, _, h2⟩ := s1.fz i _ hi
    show [v].length ≤ 1000 ∧ _
    refine ⟨Nat.le_of_ble_eq_true rfl, fun a ha => ⟨a, v, rfl, upd_same, fun dx hd ne => ⟨rfl, dx, [(xfn c, v)], upd_same, ?_, ?_, ?_⟩⟩⟩
    · rw [upd_ne ne]; exact upd_same
    · rw [upd_ne ne] at hd; exact hd
    · have hd1 : H1 dx = none := by rw [upd_ne ne] at hd; exact hd
      have ev : v = xV o := by
        cases o with
        | none => exact e1
        | some j => exact e1
      have f1 : ∀ {b : Addr}, H1 b = none → F1 b = none := fun {b} z => by
        cases q : F1 b with
        | none => rfl
        | some u => have := s1.ex b u q; rw [z] at this; cases this
      refine hE _ _ F1 _ h2.1 (fun b u z => ?_) ⟨rfl, dx, rfl, by rw [upd_same, ev], f1 hd1⟩
      have hb := s1.ex b u z
      have n1 : b ≠ a := fun q => by rw [q, ha] at hb; cases hb
      have n2 : b ≠ dx := fun q => by rw [q, hd1] at hb; cases hb
      rw [upd_ne n2, del_ne n1, upd_ne n1, upd_ne n2, upd_ne n1]
      exact hb
/-- a call of a def that may raise -/
def xbind (m : Xc ⊕ β) (k : β → Xc ⊕ γ) : Xc ⊕ γ := match m with
  | .inl x => .inl x
  | .inr b => k b
theorem es_callXr {as : ι → List R} {ok : ι → Prop} {m : ι → Xc ⊕ β} {res : β → R} {tr : TA} (d : ι) {b : β} (h : AS tr W W1 (as d)) (g : ok d) (hm : m d = .inr b) : ES (tCall (spX ad as ok m res) [] E tr) W W1 (res b) := fun F H σ Q s k =>
  h F H σ _ s fun vs F1 H1 a1 s1 e1 => by
    rw [List.append_nil]
    refine ⟨d, F1, g, s1.ex, e1, fun b' hb v F2 H2 q e2 hv => ?_, fun x hx => by rw [hm] at hx; cases hx⟩
    rw [hm] at hb
    cases hb
    exact k v F2 H2 (a1.trans q.pure) (s1.pure q e2) hv
theorem es_callXl {as : ι → List R} {ok : ι → Prop} {m : ι → Xc ⊕ β} {res : β → R} {tr : TA} (d : ι) {x : Xc} {i : Nat} {r1 : R} {W2 : List Sl} (h : AS tr W W1 (as d)) (g : ok d) (hm : m d = .inl x) (hi : W1[i]? = some (.fz (eAt A r))) (hE : HE ad A E x) :
    ES (tCall (spX ad as ok m res) [] E tr) W W2 r1 := fun F H σ Q s k =>
  h F H σ _ s fun vs F1 H1 a1 s1 e1 => by
    rw [List.append_nil]
    refine ⟨d, F1, g, s1.ex, e1, fun b' hb => (by rw [hm] at hb; cases hb), fun y hy cls dd H' sm hx => ?_⟩
    rw [hm] at hy
    cases hy
    obtain ⟨w, _, h2⟩ := s1.fz i _ hi
    refine hE cls dd F1 H' h2.1 (fun a o z => sm a o (s1.ex a o z)) ⟨hx.1, ?_⟩
    have h3 := hx.2
    cases q : x.f with
    | none => rw [q] at h3; exact h3
    | some o =>
      rw [q] at h3
      obtain ⟨d1, k1, k2, k3⟩ := h3
      refine ⟨d1, k1, k2, ?_⟩
      cases z : F1 d1 with
      | none => rfl
      | some u => have := s1.ex d1 u z; rw [k3] at this; cases this
/-- f(..) as a statement -/
theorem ss_exX {as : ι → List R} {ok : ι → Prop} {m : ι → Xc ⊕ β} {res : β → R} {tr : TA} {G : Xc ⊕ γ → Post} {kk : β → Xc ⊕ γ} {i : Nat} (d : ι) (hi : W1[i]? = some (.fz (eAt A r))) (h : AS tr W W1 (as d)) (g : ok d) (hE : ∀ x, xbind (m d) kk = .inl x → HE ad A E x)
    (k : ∀ b, m d = .inr b → (∀ x, kk b = .inl x → HE ad A E x) → SS uu W1 (G (kk b))) : SS (tSeq (tDrop (tCall (spX ad as ok m res) [] E tr)) uu) W (G (xbind (m d) kk)) := by
  cases hm : m d with
  | inl x =>
    rw [hm] at hE
    exact fun F H σ D s kn kr kb kc => es_callXl (r1 := ⟨fun _ _ => False, fun _ h => h⟩) (W2 := W1) d h g hm hi (hE x rfl) F H σ _ s fun _ _ _ _ _ hv => hv.elim
  | inr b =>
    rw [hm] at hE
    exact ss_seqTo W1 (ss_drop (es_callXr d h g hm) Wk.refl) (k b hm hE)
/-- a loop with return or raise in its body -/
theorem sf_SRX {ρ : Type} {wi : TI} {g : TG} {e : α → R} {l : List α} (mk : β → List Sl) (bd : β → α → ρ ⊕ β) (ok : β → α → Prop) (s0 : β) (Q : γ → Post) (vR : ρ → γ) (vN : β → γ) {c : Xc → γ} {G : Xc → Prop} (hE : ∀ x, sumC vR vN (loopR bd s0 l) = c x → G x)
    (h : IS wi W W1 (l.map e)) (w : Wk W1 (mk s0)) (hg : okR ok bd s0 l)
    (hs : ∀ s x, x ∈ l → ok s x → (∀ y z, bd s x = .inl z → vR z = c y → G y) → ∃ W2 is, GS g (e x) (mk s) W2 is ∧ SS ts W2 (LQ mk Q vR (bd s x))) (hd : ∀ s, loopR bd s0 l = .inr s → (∀ x, vN s = c x → G x) → SS uu (mk s) (Q (vN s))) :
    SS (tSeq (tFor wi g ts) uu) W (Q (sumC vR vN (loopR bd s0 l))) := by
  refine ss_seq (fun W' => ∃ s, loopR bd s0 l = .inr s ∧ Wk W' (mk s)) ?_ (fun W' ⟨s, e1, e2⟩ => by rw [e1]; exact (hd s e1 (fun x hx => hE x (by rw [e1]; exact hx))).weak e2)
  refine ss_forS (fun i W' => ∃ s, Wk W' (mk s) ∧ loopR bd s (l.drop i) = loopR bd s0 l ∧ okR ok bd s (l.drop i)) h ⟨s0, w, rfl, hg⟩ (fun i r W' hr ⟨s, z1, z2, z3⟩ => ?_) fun W' ⟨s, z1, z2, _⟩ => ⟨s, by rw [List.length_map, List.drop_length] at z2; exact z2.symm, z1⟩
  rw [List.getElem?_map] at hr
  cases q : l[i]? with
  | none => rw [q] at hr; cases hr
  | some x =>
    rw [q] at hr
    have er : e x = r := Option.some.inj hr
    subst er
    have ed : l.drop i = x :: l.drop (i + 1) := by
      have hi := (List.getElem?_eq_some_iff.mp q).1
      rw [List.drop_eq_getElem_cons hi]
      rw [List.getElem?_eq_getElem hi] at q
      cases q; rfl
    rw [ed] at z2 z3
    have hE2 : ∀ y z, bd s x = .inl z → vR z = c y → G y := fun y z hb hv => by
      simp only [loopR, hb] at z2
      exact hE y (by rw [← z2]; exact hv)
    obtain ⟨W2, is, h1, h2⟩ := hs s x (List.mem_of_getElem? q) z3.1 hE2
    refine ⟨W2, is, fun F H σ v Q s hv k => h1 F H σ v Q (s.weak z1) hv fun σ' o s' d => k σ' (fun a z => z1.sub (o a z)) s' d, ?_⟩
    have z4 := z3.2
    cases eb : bd s x with
    | inl r =>
      rw [eb] at h2
      simp only [loopR, eb] at z2
      refine h2.imp (fun _ z => z.elim) (fun W' r' z => ?_) (fun W' z => z.elim) fun W' z => z.elim
      show (Q (sumC vR vN (loopR bd s0 l))).rt W' r'
      rw [← z2]; exact z
    | inr s' =>
      rw [eb] at h2
      simp only [loopR, eb] at z2
      simp only [eb] at z4
      exact h2.imp (fun _ z => ⟨s', z, z2, z4⟩) (fun _ _ z => z.elim) (fun _ z => z.elim) fun _ z => ⟨s', z, z2, z4⟩
end
section
open PySem.Spec
variable {P : Program} {w : World} {K : PySem.W.Frag} {mg : Str → Option Value} {base : Heap} {k : Nat} {f : Addr} {fd : FuncData} {ps : List Str} {sp : Sp}
theorem Fun.okGX {x qual : Str} {st : Stmt} {N : List Str} (F : L2.Fun K x qual st f fd) (S : FnScope N ps (defScope st)) (len : ∀ vs H Q E, sp vs H Q E → vs.length = ps.length)
    (hbody : ∀ (cdv : Value) (A : Around) (outer : List Env) (s : Shared) (H : Hp) (vs : List V) (Q : VK) (E : XK), A.guards = some [] → Room k (A.deeper (envOfC qual (defScope st) s.heap.objs.size f cdv)) → sp vs H Q E →
      ∃ t, PSs (cxOf (L2.CX P w) P w K mg base N qual (defScope st) f cdv A outer s H E) (defBody st) t ∧ t { nx := fun _ H' => Q .non H', rt := Q } (start N vs) H) : FnG P w K mg base (L2.CX P w) (k + 1) f fd ps sp := by
  obtain ⟨oc, od, kV, doc, pm, an, cdv, ct, osl, e, lk, hcd⟩ := F.ex
  subst e
  exact fng_of lk hcd S len fun A outer s H vs Q E hg hr hsp => hbody cdv A outer s H vs Q E hg hr hsp
end
section
variable {X : Cx} {CX : CXT} {k : Nat} {f C p g : Addr} {fd : FuncData} {ps : List Str} {sp : Sp} {dvs : List V} {ds : List Value} {E : L2.St → XK} {x m : Str} {pp pos apos : Pos} {e o : Expr} {es : List Expr} {ta : TE} {t : TA}
/-- in a try: f(e, ..) -/
theorem pg_callS (F : FnG X.prog X.w X.K X.mg X.base CX k f fd ps sp) (hG : X.A.guards = some []) (hr : Room k X.A) (hg : Gl X x) (hm : X.mg x = some (.ref f)) (hk : PySem.W.keepIn X.K (.ref f) = true) (hb : Binds X.K fd ps ds) (hd : Vals dvs ds) (hx : ∀ σ, PassesAt CX X σ (E σ))
    (ha : PA X (e :: es) t) (hdb : (x == ("__debug__" : Str)) = false := by decide) (he : starEach (e :: es) X.env = (false, eval e X.env) :: starEach es X.env := by rfl) (hpl : (backTo pos (starEach es X.env)).any (·.1) = false := by rfl) :
    PE X (.Call (.Name x pp) (e :: es) [] pos) (tCallSD sp dvs E t) := by
  refine ⟨fun pins s σ H Q I h => wpAny_Call_Name_kw (ld_glob I hg hm (PySem.W.callWith_K (h₀ := X.base) I.ok.mod.kin hk
    (thn (ha.run pos pins s σ H _ I h) fun us s1 ⟨vs, H1, I1, r, q⟩ => ⟨I1.kIn, ?_⟩) he hpl) hdb)⟩
  have r2 := r.append hd
  refine wpAny_call (codeAny_mono (F.run X.A X.stack s1 H1 ⟨us, []⟩ _ _ Q (E σ) hG hr I1.env0 (hb s1 us I1.kIn (r2.length.symm.trans (F.len _ _ _ _ q))) r2 q) fun r' s' hq => ?_)
  match r', hq with
  | .error e, hq => exact hx σ pins H1 s1 e s' I1 hq
  | .ok (.ret u), hq => exact I1.after hq
  | .ok .next, hq => exact hq.elim
  | .ok .brk, hq => exact hq.elim
  | .ok .cont, hq => exact hq.elim
end
/-! try -/
/-- a try's body: ends without an exception, or with x -/
def SB (ad : Nat → Addr) (tb : WX → TS) (W : List Sl) (m : Option Xc) : Prop := ∀ (F H : Hp) (σ : L2.St) (D : Ends) (Wx : WX), Sat F H σ W →
  (m = none → ∀ F' H', Rel F H (Own W σ) F' H' (Own W σ) → Sat F' H' σ W → D.nx σ H') →
  (∀ x, m = some x → ∀ cls dd F' H', Rel F H (Own W σ) F' H' (Own W σ) → Sat F' H' σ W → (∀ d1, dd = some d1 → H d1 = none) → exH ad x cls dd F' H' → Wx cls dd σ H') → tb Wx D σ H
def xOf {β : Type} : Xc ⊕ β → Option Xc
  | .inl x => some x
  | .inr _ => none
section
variable {W : List Sl} {K : PySem.W.Frag} {ad : Nat → Addr} {ι β : Type} {tt : TT} {a : Bool} {m1 m2 : Option Xc} {t1 t2 : WX → TS}
theorem sb_if (h : ET tt W W a) (h1 : a = true → SB ad t1 W m1) (h2 : a = false → SB ad t2 W m2) : SB ad (fun Wx => tIfS tt (t1 Wx) (t2 Wx)) W (if a = true then m1 else m2) := fun F H σ D Wx s kn kx =>
  h F H σ _ s fun F1 H1 a1 s1 => by
    cases a with
    | true =>
      rw [if_pos rfl] at kn kx ⊢
      exact h1 rfl F1 H1 σ D Wx s1 (fun e F' H' q s' => kn e F' H' (a1.trans q) s') fun x e cls dd F' H' q s' hn hx => kx x e cls dd F' H' (a1.trans q) s' (fun d1 e1 => a1.t _ (hn d1 e1)) hx
    | false =>
      rw [if_neg Bool.false_ne_true] at kn kx ⊢
      exact h2 rfl F1 H1 σ D Wx s1 (fun e F' H' q s' => kn e F' H' (a1.trans q) s') fun x e cls dd F' H' q s' hn hx => kx x e cls dd F' H' (a1.trans q) s' (fun d1 e1 => a1.t _ (hn d1 e1)) hx
theorem sb_call {as : ι → List R} {ok : ι → Prop} {m : ι → Xc ⊕ β} {res : β → R} {tr : TA} (d : ι) (h : AS tr W W (as d)) (g : ok d) : SB ad (fun Wx => tSeq (tDrop (tCallSD (spX ad as ok m res) [] (fun σ => WE Wx σ) tr)) tNext) W (xOf (m d)) := fun F H σ D Wx s kn kx =>
  h F H σ _ s fun vs F1 H1 a1 s1 e1 => by
    rw [List.append_nil]
    refine ⟨d, F1, g, s1.ex, e1, fun b hb v F2 H2 q e2 hv => ?_, fun x hx cls dd H' sm hH => ?_⟩
    · exact kn (by rw [hb]; rfl) F2 H2 (a1.trans q.pure) (s1.pure q e2)
    · refine kx x (by rw [hx]; rfl) cls dd F1 H' (a1.trans (Rel.grow sm)) (s1.grow sm) (fun d1 e1 => ?_) ⟨hH.1, ?_⟩
      · have h3 := hH.2
        cases q : x.f with
        | none => rw [q] at h3; rw [h3] at e1; cases e1
        | some o =>
          rw [q] at h3
          obtain ⟨d2, k1, k2, k3⟩ := h3
          rw [k1] at e1
          cases e1
          exact a1.t _ k3
      have h3 := hH.2
      cases q : x.f with
      | none => rw [q] at h3; exact h3
      | some o =>
        rw [q] at h3
        obtain ⟨d1, k1, k2, k3⟩ := h3
        refine ⟨d1, k1, k2, ?_⟩
        cases z : F1 d1 with
        | none => rfl
        | some u => have := s1.ex d1 u z; rw [k3] at this; cases this
/-- a caught exception -/
def eC (ad : Nat → Addr) (x : Xc) : R := ⟨fun F v => ∃ a, v = .ref a ∧ match x.f with
  | none => F a = some (xcO a (.ref (ad x.c)) none)
  | some o => ∃ dd, F a = some (xcO a (.ref (ad x.c)) (some dd)) ∧ F dd = some (.xd [(xfn x.c, xV o)]), fun {F F' v} e h => by
    obtain ⟨a, h1, h2⟩ := h
    refine ⟨a, h1, ?_⟩
    cases q : x.f with
    | none => rw [q] at h2; exact e _ _ h2
    | some o =>
      rw [q] at h2
      obtain ⟨dd, k1, k2⟩ := h2
      exact ⟨dd, e _ _ k1, e _ _ k2⟩⟩
instance : NotN (eC ad) := ⟨fun F x v h e => by obtain ⟨a, h1, _⟩ := h; rw [h1] at e; cases e⟩
/-- try: .. except X as n: c = n -/
theorem ss_try {tb : WX → TS} {i j : Nat} {m : Option Xc} {c : Value} {P : Post} (hij : i ≠ j) (h : SB ad tb W m) (hi : W[i]? = some .no) (hj : W[j]? = some (.fz eN)) (hl : i < W.length) (hc : ∀ x, m = some x → PySem.W.exmOne K (.ref (ad x.c)) c = some true)
    (k : P.nx (W.set j (.fz (eO (eC ad) m)))) :
    SS (fun D σ H => tb (wAsK K c i (fun _ _ _ => tSeq (fun D σ H => tVar i σ H fun v H1 => D.nx (σ.set j (some v)) H1) tNext) (fun _ _ _ _ => False) D) D σ H) W P := fun F H σ D s kn _ _ _ => by
  refine h F H σ D _ s (fun e F' H' q s' => ?_) fun x e cls dd F' H' q s' hdn hx => ?_
  · subst e
    have ew : W.set j (.fz (eO (eC ad) none)) = W := by
      refine List.ext_getElem? fun n => ?_
      by_cases hn : j = n
      · subst hn
        rw [List.getElem?_set_self (List.getElem?_eq_some_iff.mp hj).1, hj]; rfl
      · rw [List.getElem?_set_ne hn]
    rw [ew] at k
    exact kn W σ F' H' k q s'
  · subst e
    obtain ⟨ec, hx2⟩ := hx
    subst ec
    refine ⟨true, hc x rfl, fun _ a na => ?_, fun z => by cases z⟩
    have len := s'.len
    have hli : i < σ.length := by rw [len]; exact hl
    have hlj : j < σ.length := by rw [len]; exact (List.getElem?_eq_some_iff.mp hj).1
    have hlw : j < W.length := (List.getElem?_eq_some_iff.mp hj).1
    show tVar i (σ.set i (some (.ref a))) H' _
    refine ⟨.ref a, List.getElem?_set_self hli, na, ?_⟩
    have fa : F' a = none := s'.ex.free na
    have eσ : (((σ.set i (some (V.ref a))).set j (some (.ref a))).set i none) = ((σ.set i none).set j (some (.ref a))) := by
      rw [List.set_comm _ _ hij, List.set_set, List.set_comm _ _ (Ne.symm hij)]
    rw [eσ]
    have own2 : ∀ b, Own (W.set j (.fz (eO (eC ad) (some x)))) ((σ.set i none).set j (some (.ref a))) b → Own W σ b := fun b o => by
      have o' := Own.put (W := W) (σ := σ.set i none) (i := j) o
      obtain ⟨n, cn, h1, h2⟩ := o'
      have hni : i ≠ n := fun z => by rw [← z, hi] at h1; cases h1
      rw [List.getElem?_set_ne hni] at h2
      exact ⟨n, cn, h1, h2⟩
    have sat : ∀ F2 : Hp, Same F' F2 → Same F2 (upd H' a (xcO a (.ref (ad x.c)) dd)) → (∀ p, Own W σ p → F' p = none → F2 p = none) → (eC ad x).p F2 (.ref a) →
        Sat F2 (upd H' a (xcO a (.ref (ad x.c)) dd)) ((σ.set i none).set j (some (.ref a))) (W.set j (.fz (eO (eC ad) (some x)))) := fun F2 up ex2 fr hp => by
      refine Sat.put (r := eO (eC ad) (some x)) ⟨ex2, by simpa using len, fun n r hr => ?_, fun n cn hcn => ?_, fun n1 n2 c1 c2 p h1 h2 h3 h4 => ?_⟩ hp
      · have hni : i ≠ n := fun z => by rw [← z, hi] at hr; cases hr
        obtain ⟨v, h1, h2⟩ := s'.fz n r hr
        exact ⟨v, by rw [List.getElem?_set_ne hni]; exact h1, r.mono up h2⟩
      · have hni : i ≠ n := fun z => by rw [← z, hi] at hcn; cases hcn
        obtain ⟨p, o, h1, h2, h3, h4⟩ := s'.ow n cn hcn
        have pa : p ≠ a := fun z => by rw [z, na] at h2; cases h2
        exact ⟨p, o, by rw [List.getElem?_set_ne hni]; exact h1, by rw [upd_ne pa]; exact h2, fr p ⟨n, cn, hcn, h1⟩ h3, cn.mono up h4⟩
      · have hn1 : i ≠ n1 := fun z => by rw [← z, hi] at h1; cases h1
        have hn2 : i ≠ n2 := fun z => by rw [← z, hi] at h2; cases h2
        rw [List.getElem?_set_ne hn1] at h3
        rw [List.getElem?_set_ne hn2] at h4
        exact s'.ds n1 n2 c1 c2 p h1 h2 h3 h4
    have rel : ∀ F2 : Hp, Same F' F2 → (∀ b o, F2 b = some o → F' b = some o ∨ b = a ∨ H b = none) → Rel F H (Own W σ) F2 (upd H' a (xcO a (.ref (ad x.c)) dd)) (Own (W.set j (.fz (eO (eC ad) (some x)))) ((σ.set i none).set j (some (.ref a)))) := fun F2 up back =>
      ⟨fun b o z => up b o (q.f b o z), fun b o nm z => by
        have := q.h b o nm z
        rw [upd_ne (fun e => by rw [e, na] at this; cases this)]; exact this, fun b o z => by
        rcases back b o z with e | e | e
        · exact q.n b o e
        · rw [e]; exact .inr (.inl (q.t a na))
        · exact .inr (.inl e), fun b z => by
        by_cases e : b = a
        · rw [e]; exact q.t a na
        · rw [upd_ne e] at z; exact q.t b z, fun b o => .inl (own2 b o)⟩
    have ownH : ∀ p, Own W σ p → ∃ u, H p = some u := fun p o => o.lt s
    cases hq : x.f with
    | none =>
      rw [hq] at hx2
      have hx3 : dd = none := hx2
      subst hx3
      have up : Same F' (upd F' a (xcO a (.ref (ad x.c)) none)) := fun b u z => by rw [upd_ne (fun e => by rw [e, fa] at z; cases z)]; exact z
      refine kn _ _ (upd F' a (xcO a (.ref (ad x.c)) none)) _ k (rel _ up fun b o z => ?_) (sat _ up (fun b o z => ?_) (fun p o z => ?_) ⟨a, rfl, ?_⟩)
      · by_cases e : b = a
        · exact .inr (.inl e)
        · rw [upd_ne e] at z; exact .inl z
      · by_cases e : b = a
        · rw [e, upd_same] at z; rw [e, upd_same]; exact z
        · rw [upd_ne e] at z; rw [upd_ne e]; exact s'.ex b o z
      · obtain ⟨u, hu⟩ := ownH p o
        rw [upd_ne (fun e => by rw [e, q.t a na] at hu; cases hu)]; exact z
      · rw [hq]; exact upd_same
    | some o0 =>
      rw [hq] at hx2
      obtain ⟨d1, k1, k2, k3⟩ := hx2
      subst k1
      have hd1 := hdn d1 rfl
      have da : d1 ≠ a := fun e => by rw [e, na] at k2; cases k2
      have up : Same F' (upd (upd F' d1 (.xd [(xfn x.c, xV o0)])) a (xcO a (.ref (ad x.c)) (some d1))) := fun b u z => by
        rw [upd_ne (fun e => by rw [e, fa] at z; cases z), upd_ne (fun e => by rw [e, k3] at z; cases z)]; exact z
      refine kn _ _ (upd (upd F' d1 (.xd [(xfn x.c, xV o0)])) a (xcO a (.ref (ad x.c)) (some d1))) _ k (rel _ up fun b o z => ?_) (sat _ up (fun b o z => ?_) (fun p o z => ?_) ⟨a, rfl, ?_⟩)
      · by_cases e : b = a
        · exact .inr (.inl e)
        · rw [upd_ne e] at z
          by_cases e2 : b = d1
          · rw [e2]; exact .inr (.inr hd1)
          · rw [upd_ne e2] at z; exact .inl z
      · by_cases e : b = a
        · rw [e, upd_same] at z; rw [e, upd_same]; exact z
        · rw [upd_ne e] at z; rw [upd_ne e]
          by_cases e2 : b = d1
          · rw [e2, upd_same] at z; rw [e2, k2]; exact z
          · rw [upd_ne e2] at z; exact s'.ex b o z
      · obtain ⟨u, hu⟩ := ownH p o
        rw [upd_ne (fun e => by rw [e, q.t a na] at hu; cases hu), upd_ne (fun e => by rw [e, hd1] at hu; cases hu)]; exact z
      · rw [hq]; exact ⟨d1, upd_same, by rw [upd_ne da]; exact upd_same⟩
end
section
variable {W W1 : List Sl} {K : PySem.W.Frag} {ad : Nat → Addr} {ta : TE}
theorem es_isCb {x : Xc} {c : V} {u : Value} {b : Bool} (T : XT K ad) (h : ES ta W W1 (eC ad x)) (hx : x.c < 18) (hc : ClsV c u) (hk : PySem.W.kitOne K (.ref (ad x.c)) u = some b) : ES (tCB (rIsC K) (tCons ta (tCons (tC c) tNil))) W W1 (eB b) := fun F H σ Q s k =>
  h F H σ _ s fun v F1 H1 a1 s1 e1 => by
    obtain ⟨a, ev, e2⟩ := id e1
    cases q : x.f with
    | none =>
      rw [q] at e2
      exact ⟨a, ad x.c, c, u, b, none, T.cls _ hx, by rw [ev], hc, s1.ex _ _ e2, fun _ z => (by cases z), hk, k _ F1 H1 a1 s1 rfl⟩
    | some o =>
      rw [q] at e2
      obtain ⟨dd, k1, k2⟩ := e2
      exact ⟨a, ad x.c, c, u, b, some dd, T.cls _ hx, by rw [ev], hc, s1.ex _ _ k1, fun _ z => (by cases z; exact ⟨_, s1.ex _ _ k2⟩), hk, k _ F1 H1 a1 s1 rfl⟩
theorem es_isC {x : Xc} {j : Nat} (T : XT K ad) (h : ES ta W W1 (eC ad x)) (hx : x.c < 18) (hj : j < 18) : ES (tCB (rIsC K) (tCons ta (tCons (tC (.ref (ad j))) tNil))) W W1 (eB (isX x j)) :=
  es_isCb T h hx (.own _) (T.sub _ hx _ hj)
theorem es_isCV {x : Xc} (T : XT K ad) (h : ES ta W W1 (eC ad x)) (hx : x.c < 18) : ES (tCB (rIsC K) (tCons ta (tCons (tC (.ty "ValueError")) tNil))) W W1 (eB true) :=
  es_isCb T h hx (.ty _) (T.val _ hx)
theorem es_cget {x : Xc} {n : Str} (T : XT K ad) (h : ES ta W W1 (eC ad x)) (g : x.c < 4 ∧ x.f.isSome = true ∧ xfn x.c = n) : ES (tCg K n ta) W W1 (eO eI (xget x)) := fun F H σ Q s k =>
  h F H σ _ s fun v F1 H1 a1 s1 e1 => by
    obtain ⟨g1, g2, g3⟩ := g
    obtain ⟨a, ev, e2⟩ := id e1
    obtain ⟨o, q⟩ := Option.isSome_iff_exists.mp g2
    rw [q] at e2
    obtain ⟨dd, k1, k2⟩ := e2
    subst g3
    have e3 : xget x = o := by unfold xget; rw [q]; rfl
    refine ⟨a, ad x.c, xV o, dd, T.cls _ (by omega), T.nof _ g1, ev, s1.ex _ _ k1, s1.ex _ _ k2, k _ F1 H1 a1 s1 ?_⟩
    rw [e3]
    cases o with
    | none => exact rfl
    | some i => exact rfl
end
end Fw
end
section
set_option maxRecDepth 100000
set_option maxHeartbeats 2000000
/-! values of any kind -/
namespace Fw
open PySem L2 PyProof.Rows PySem.Spec
inductive U where
  | non
  | int (i : Int)
  | bl (b : Bool)
  | str (s : Str)
  | tup (l : List U)
  | lst (l : List U)
  | dic
  | tbl (t : Tbl)
instance : Inhabited U := ⟨.non⟩
abbrev eTbl' (C : Addr) (t : Tbl) : R := eIns C [("own_capacity", eI t.capacity), ("own_rate", eI t.rate), ("own_shift", eI t.shift)]
mutual
def uP (C : Addr) (F : Hp) : U → V → Prop
  | .non, v => v = .non
  | .int i, v => v = .int i
  | .bl b, v => v = .bl b
  | .str s, v => v = .str s
  | .tup l, v => ∃ p xs, v = .ref p ∧ F p = some (.tup xs) ∧ uPs C F l xs
  | .lst l, v => ∃ p xs, v = .ref p ∧ F p = some (.lst xs) ∧ uPs C F l xs
  | .dic, v => eD0.p F v
  | .tbl t, v => (eTbl' C t).p F v
def uPs (C : Addr) (F : Hp) : List U → List V → Prop
  | [], xs => xs = []
  | u :: l, xs => ∃ x ys, xs = x :: ys ∧ uP C F u x ∧ uPs C F l ys
end
mutual
theorem uP_mono {C : Addr} {F F' : Hp} (e : Same F F') : ∀ (u : U) (v : V), uP C F u v → uP C F' u v
  | .non, _, h => h
  | .int _, _, h => h
  | .bl _, _, h => h
  | .str _, _, h => h
  | .tup l, v, h => by
    unfold uP at h ⊢
    obtain ⟨p, xs, h1, h2, h3⟩ := h
    exact ⟨p, xs, h1, e _ _ h2, uPs_mono e l xs h3⟩
  | .lst l, v, h => by
    unfold uP at h ⊢
    obtain ⟨p, xs, h1, h2, h3⟩ := h
    exact ⟨p, xs, h1, e _ _ h2, uPs_mono e l xs h3⟩
  | .dic, v, h => by unfold uP at h ⊢; exact eD0.mono e h
  | .tbl t, v, h => by unfold uP at h ⊢; exact (eTbl' C t).mono e h
theorem uPs_mono {C : Addr} {F F' : Hp} (e : Same F F') : ∀ (l : List U) (xs : List V), uPs C F l xs → uPs C F' l xs
  | [], _, h => h
  | u :: l, xs, h => by
    unfold uPs at h ⊢
    obtain ⟨x, ys, h1, h2, h3⟩ := h
    exact ⟨x, ys, h1, uP_mono e u x h2, uPs_mono e l ys h3⟩
end
def eU (C : Addr) (u : U) : R := ⟨fun F v => uP C F u v, fun e h => uP_mono e u _ h⟩
theorem uPs_all {C : Addr} {F : Hp} : ∀ {l : List U} {xs : List V}, uPs C F l xs ↔ All2 (l.map (eU C)) F xs
  | [], xs => by
    unfold uPs
    constructor
    · rintro rfl; trivial
    · intro h
      cases xs with
      | nil => rfl
      | cons x xs => exact h.elim
  | u :: l, xs => by
    unfold uPs
    constructor
    · rintro ⟨x, ys, rfl, h1, h2⟩
      exact ⟨h1, uPs_all.mp h2⟩
    · intro h
      cases xs with
      | nil => exact h.elim
      | cons x xs => exact ⟨x, xs, rfl, h.1, uPs_all.mpr h.2⟩
section
variable {W W1 W2 : List Sl} {K : PySem.W.Frag} {C : Addr} {te ta tb : TE} {F : Hp} {v : V} {α : Type}
/-! from and to U -/
theorem eU_lst {l : List U} : (eU C (.lst l)).p F v ↔ (eLs (eU C) l).p F v := by
  show uP C F (.lst l) v ↔ _
  unfold uP
  constructor
  · rintro ⟨p, xs, h1, h2, h3⟩
    exact ⟨p, xs, h1, h2, uPs_all.mp h3⟩
  · rintro ⟨p, xs, h1, h2, h3⟩
    exact ⟨p, xs, h1, h2, uPs_all.mpr h3⟩
theorem eU_tup {l : List U} : (eU C (.tup l)).p F v ↔ (eT K (l.map (eU C))).p F v := by
  show uP C F (.tup l) v ↔ _
  unfold uP
  constructor
  · rintro ⟨p, xs, h1, h2, h3⟩
    exact ⟨p, xs, h1, h2, uPs_all.mp h3⟩
  · rintro ⟨p, xs, h1, h2, h3⟩
    exact ⟨p, xs, h1, h2, uPs_all.mpr h3⟩
class UE (K : PySem.W.Frag) (C : Addr) {α : Type} (e : α → R) where
  u : α → U
  ok : ∀ F v x, (e x).p F v ↔ uP C F (u x) v
instance : UE K C (α := Int) eI := ⟨U.int, fun F v x => by unfold uP; exact Iff.rfl⟩
instance : UE K C (α := Bool) eB := ⟨U.bl, fun F v x => by unfold uP; exact Iff.rfl⟩
instance : UE K C (α := Str) eS := ⟨U.str, fun F v x => by unfold uP; exact Iff.rfl⟩
instance : UE K C (α := Tbl) (eTbl' C) := ⟨U.tbl, fun F v x => by unfold uP; exact Iff.rfl⟩
instance : UE K C (α := U) (eU C) := ⟨id, fun F v x => Iff.rfl⟩
theorem All2.iff {e : α → R} {f : α → R} (h : ∀ F v x, (e x).p F v ↔ (f x).p F v) {F : Hp} : ∀ {l : List α} {xs : List V}, All2 (l.map e) F xs ↔ All2 (l.map f) F xs
  | [], [] => Iff.rfl
  | [], _ :: _ => Iff.rfl
  | _ :: _, [] => Iff.rfl
  | a :: l, x :: xs => by
    show (_ ∧ _) ↔ (_ ∧ _)
    rw [h F x a]
    exact and_congr Iff.rfl (All2.iff h)
instance {e : α → R} [E : UE K C e] : UE K C (eLs e) := ⟨fun l => U.lst (l.map E.u), fun F v l => by
  have h := eU_lst (C := C) (F := F) (v := v) (l := l.map E.u)
  refine Iff.trans ?_ h.symm
  unfold eLs
  rw [List.map_map]
  exact exists_congr fun p => exists_congr fun xs => and_congr Iff.rfl (and_congr Iff.rfl (All2.iff (f := fun x => eU C (E.u x)) E.ok))⟩
instance {β : Type} {a : α → R} {b : β → R} [A : UE K C a] [B : UE K C b] : UE K C (eP2 K a b) := ⟨fun x => U.tup [A.u x.1, B.u x.2], fun F v x => by
  refine Iff.trans ?_ (eU_tup (K := K) (C := C) (F := F) (v := v) (l := [A.u x.1, B.u x.2])).symm
  refine exists_congr fun p => exists_congr fun xs => and_congr Iff.rfl (and_congr Iff.rfl ?_)
  match xs with
  | [] => exact Iff.rfl
  | [_] => exact and_congr (A.ok ..) Iff.rfl
  | [_, _] => exact and_congr (A.ok ..) (and_congr (B.ok ..) Iff.rfl)
  | _ :: _ :: _ :: _ => exact and_congr (A.ok ..) (and_congr (B.ok ..) Iff.rfl)⟩
instance {β γ : Type} {a : α → R} {b : β → R} {c : γ → R} [A : UE K C a] [B : UE K C b] [D : UE K C c] : UE K C (eP3 K a b c) := ⟨fun x => U.tup [A.u x.1, B.u x.2.1, D.u x.2.2], fun F v x => by
  refine Iff.trans ?_ (eU_tup (K := K) (C := C) (F := F) (v := v) (l := [A.u x.1, B.u x.2.1, D.u x.2.2])).symm
  refine exists_congr fun p => exists_congr fun xs => and_congr Iff.rfl (and_congr Iff.rfl ?_)
  match xs with
  | [] => exact Iff.rfl
  | [_] => exact and_congr (A.ok ..) Iff.rfl
  | [_, _] => exact and_congr (A.ok ..) (and_congr (B.ok ..) Iff.rfl)
  | [_, _, _] => exact and_congr (A.ok ..) (and_congr (B.ok ..) (and_congr (D.ok ..) Iff.rfl))
  | _ :: _ :: _ :: _ :: _ => exact and_congr (A.ok ..) (and_congr (B.ok ..) (and_congr (D.ok ..) Iff.rfl))⟩
theorem es_toU {e : α → R} [E : UE K C e] {x : α} (h : ES te W W1 (e x)) : ES te W W1 (eU C (E.u x)) := h.imp fun F v z => (E.ok F v x).mp z
theorem es_nonU (h : ES te W W1 eN) : ES te W W1 (eU C .non) := h.imp fun F v z => by show uP C F .non v; unfold uP; exact z
theorem es_dicU (h : ES te W W1 eD0) : ES te W W1 (eU C .dic) := h.imp fun F v z => by show uP C F .dic v; unfold uP; exact z
theorem es_ofU (K : PySem.W.Frag) {e : α → R} [E : UE K C e] {u : U} {x : α} (h : ES te W W1 (eU C u)) (g : u = E.u x) : ES te W W1 (e x) := h.imp fun F v z => (E.ok F v x).mpr (by rw [← g]; exact z)
theorem es_tupU {l : List U} (h : ES te W W1 (eT K (l.map (eU C)))) : ES te W W1 (eU C (.tup l)) := h.imp fun F v z => eU_tup.mpr z
/-! views -/
def U.unI : U → Int
  | .int i => i
  | _ => 0
def U.unL : U → List U
  | .lst l => l
  | _ => []
def U.unTb : U → Tbl
  | .tbl t => t
  | _ => default
def U.unS : U → Str
  | .str s => s
  | _ => default
def U.els' : U → List U
  | .tup l => l
  | .lst l => l
  | _ => []
def U.ty : U → Nat
  | .non => 0
  | .int _ => 1
  | .bl _ => 2
  | .str _ => 3
  | .tup _ => 4
  | .lst _ => 5
  | .dic => 6
  | .tbl _ => 7
theorem es_unI {u : U} (h : ES te W W1 (eU C u)) (g : u.ty = 1) : ES te W W1 (eI u.unI) := by
  cases u with
  | int i => exact h.imp fun F v z => by (have z' : uP C F (.int i) v := z); unfold uP at z'; exact z'
  | _ => cases g
theorem es_unS {u : U} (h : ES te W W1 (eU C u)) (g : u.ty = 3) : ES te W W1 (eS u.unS) := by
  cases u with
  | str i => exact h.imp fun F v z => by (have z' : uP C F (.str i) v := z); unfold uP at z'; exact z'
  | _ => cases g
theorem es_unL {u : U} (h : ES te W W1 (eU C u)) (g : u.ty = 5) : ES te W W1 (eLs (eU C) u.unL) := by
  cases u with
  | lst l => exact h.imp fun F v z => eU_lst.mp z
  | _ => cases g
theorem es_unTb {u : U} (h : ES te W W1 (eU C u)) (g : u.ty = 7) : ES te W W1 (eTbl' C u.unTb) := by
  cases u with
  | tbl t => exact h.imp fun F v z => by (have z' : uP C F (.tbl t) v := z); unfold uP at z'; exact z'
  | _ => cases g
def U.unSp (u : U) : List (Int × Int) := u.unL.map fun p => (U.unI (nth (U.els' p) 0), U.unI (nth (U.els' p) 1))
def U.ofSp (l : List (Int × Int)) : U := U.lst (l.map fun y => U.tup [U.int y.1, U.int y.2])
/-! isinstance -/
def U.isT (u : U) (n : Nat) : Bool := decide (u.ty = n) || (decide (n = 1) && decide (u.ty = 2))
def tyN : Nat → String
  | 0 => "NoneType"
  | 1 => "int"
  | 2 => "bool"
  | 3 => "str"
  | 4 => "tuple"
  | 5 => "list"
  | _ => "dict"
structure TbTy (K : PySem.W.Frag) (C : Addr) : Prop where
  ty : ∀ (t : Tbl) (F H : Hp) (v : V), Same F H → (eTbl' C t).p F v → TyX K H v (.ref C)
  no : ∀ n, n < 7 → PySem.W.kitOne K (.ref C) (.type (tyN n)) = some false
  odd : OddNo K C
  self : PySem.W.kitOne K (.ref C) (.ref C) = some true
theorem ty_U : ∀ (u : U) (F H : Hp) (v : V), Same F H → (eU C u).p F v → u.ty < 7 → TyX K H v (.type (tyN u.ty))
  | .non, F, H, v, e, h, _ => ty_non F H v e (by (have z : uP C F .non v := h); unfold uP at z; exact z)
  | .int i, F, H, v, e, h, _ => ty_int (i := i) F H v e (by (have z : uP C F (.int i) v := h); unfold uP at z; exact z)
  | .bl b, F, H, v, e, h, _ => ty_bl (i := b) F H v e (by (have z : uP C F (.bl b) v := h); unfold uP at z; exact z)
  | .str s, F, H, v, e, h, _ => ty_str (i := s) F H v e (by (have z : uP C F (.str s) v := h); unfold uP at z; exact z)
  | .tup l, F, H, v, e, h, _ => ty_tup F H v e (eU_tup.mp h)
  | .lst l, F, H, v, e, h, _ => ty_lst F H v e (eU_lst.mp h)
  | .dic, F, H, v, e, h, _ => ty_dn F H v e (by (have z : uP C F .dic v := h); unfold uP at z; exact z)
  | .tbl t, _, _, _, _, _, h => absurd h (by show ¬ 7 < 7; decide)
theorem kit_tyN : ∀ n, n < 7 → ∀ m, m < 7 → PySem.W.kitOne K (.type (tyN n)) (.type (tyN m)) = some (decide (n = m) || (decide (m = 1) && decide (n = 2))) := by
  intro n hn m hm
  have hn' : n = 0 ∨ n = 1 ∨ n = 2 ∨ n = 3 ∨ n = 4 ∨ n = 5 ∨ n = 6 := by omega
  have hm' : m = 0 ∨ m = 1 ∨ m = 2 ∨ m = 3 ∨ m = 4 ∨ m = 5 ∨ m = 6 := by omega
  rcases hn' with rfl | rfl | rfl | rfl | rfl | rfl | rfl <;> rcases hm' with rfl | rfl | rfl | rfl | rfl | rfl | rfl <;> exact kit_ty (by decide +kernel)
theorem es_isU (T : TbTy K C) {u : U} {n : Nat} (hn : n < 7) (h : ES te W W1 (eU C u)) : ES (tCB (rIsi K) (tCons te (tCons (tC (.ty (tyN n))) tNil))) W W1 (eB (u.isT n)) := by
  by_cases q : u.ty < 7
  · exact es_isi h (.ty _) (fun F H v e z => ty_U u F H v e z q) (kit_tyN u.ty q n hn)
  · cases u with
    | tbl t =>
      have e : (U.tbl t).isT n = false := by
        unfold U.isT
        rw [decide_eq_false (show ¬ (U.tbl t).ty = n by show ¬ 7 = n; omega), decide_eq_false (show ¬ (U.tbl t).ty = 2 by show ¬ 7 = 2; decide), Bool.and_false]; rfl
      rw [e]
      exact es_isi h (.ty _) (fun F H v ex z => T.ty t F H v ex (by (have z' : uP C F (.tbl t) v := z); unfold uP at z'; exact z')) (T.no n hn)
    | _ => exact absurd (Nat.le_of_ble_eq_true rfl) q
theorem OddNo.subN (N : OddNo K C) : ∀ n, n < 7 → PySem.W.subIn K (.type (tyN n)) (.ref C) = some false := by
  intro n hn
  have hn' : n = 0 ∨ n = 1 ∨ n = 2 ∨ n = 3 ∨ n = 4 ∨ n = 5 ∨ n = 6 := by omega
  rcases hn' with rfl | rfl | rfl | rfl | rfl | rfl | rfl
  · exact N.s0
  · exact N.s1
  · exact N.s2
  · exact N.s3
  · exact N.s4
  · exact N.s5
  · exact N.s6
theorem kit_N (N : OddNo K C) {n : Nat} (hn : n < 7) : PySem.W.kitOne K (.type (tyN n)) (.ref C) = some false := by
  have h : PySem.W.kitCls K (.type (tyN n)) (.ref C) = some false := by
    unfold PySem.W.kitCls
    dsimp only
    have hc : (PySem.W.clsIn K C).isSome = true := N.cls
    rw [hc, N.typ, if_pos (by simp)]
    exact N.subN n hn
  show (if (Value.type (tyN n) == Value.ref C) = true then some true else PySem.W.kitCls K (.type (tyN n)) (.ref C)) = some false
  rw [h]; rfl
theorem es_isUT (T : TbTy K C) {u : U} (h : ES te W W1 (eU C u)) : ES (tCB (rIsi K) (tCons te (tCons (tC (.ref C)) tNil))) W W1 (eB (decide (u.ty = 7))) := by
  by_cases q : u.ty < 7
  · rw [decide_eq_false (by omega)]
    exact es_isi h (.own _) (fun F H v e z => ty_U u F H v e z q) (kit_N T.odd q)
  · cases u with
    | tbl t => exact es_isi h (.own _) (fun F H v ex z => T.ty t F H v ex (by (have z' : uP C F (.tbl t) v := z); unfold uP at z'; exact z')) T.self
    | _ => exact absurd (Nat.le_of_ble_eq_true rfl) q
/-! len, items -/
abbrev U.els (u : U) : List U := U.els' u
theorem es_lenU {u : U} (h : ES te W W1 (eU C u)) (g : u.ty = 4 ∨ u.ty = 5) : ES (tCB (fun xs H Q => ∃ p ys, xs = [.ref p] ∧ (SqL K H p ys ∨ SqT K H p ys) ∧ Q (.int (ys.length : Nat)) H) (tCons te tNil)) W W1 (eI (u.els.length : Int)) := fun F H σ Q s k =>
  h F H σ _ s fun v F1 H1 a1 s1 e1 => by
    cases u with
    | lst l =>
      obtain ⟨p, xs, h1, h2, h3⟩ := eU_lst.mp e1
      subst h1
      have el := h3.len
      rw [List.length_map] at el
      exact ⟨p, xs, rfl, .inl (.inl (.inl (s1.ex _ _ h2))), k _ F1 H1 a1 s1 (by show V.int _ = _; rw [el]; rfl)⟩
    | tup l =>
      obtain ⟨p, xs, h1, h2, h3⟩ := (eU_tup (K := K)).mp e1
      subst h1
      have el := h3.len
      rw [List.length_map] at el
      exact ⟨p, xs, rfl, .inr (sqT_up s1.ex h2), k _ F1 H1 a1 s1 (by show V.int _ = _; rw [el]; rfl)⟩
    | _ => rcases g with g | g <;> cases g
theorem es_ixU {u : U} {k : Nat} (h : ES te W W1 (eU C u)) (g : u.ty = 4 ∧ k < u.els.length) : ES (tOp (rIxT K) te (tC (.int (k : Int)))) W W1 (eU C (nth u.els k)) := by
  cases u with
  | tup l =>
    have hk : (l.map (eU C))[k]? = some (eU C (nth l k)) := by
      rw [List.getElem?_map]
      have hk' : k < l.length := g.2
      rw [List.getElem?_eq_getElem hk']
      unfold nth
      rw [Int.toNat_natCast, List.getD_eq_getElem?_getD, List.getElem?_eq_getElem hk']
      rfl
    exact es_ixT (rs := l.map (eU C)) (h.imp fun F v z => eU_tup.mp z) hk
  | _ => cases g.1
/-! the body of a try -/
theorem sb_seq {ad : Nat → Addr} {W : List Sl} {t : WX → TS} {m : Option Xc} (h : SB ad t W m) : SB ad (fun Wx => tSeq (t Wx) tNext) W m := h
end
end Fw
end
section
set_option maxRecDepth 100000
set_option maxHeartbeats 2000000
/-! values of any kind: shown -/
namespace Fw
open PySem L2 PyProof.Rows PySem.Spec
mutual
def U.d : U → PyData
  | .non => .none
  | .int i => .int i
  | .bl b => .bool b
  | .str s => .str s
  | .tup l => .tuple (U.ds l)
  | .lst l => .list (U.ds l)
  | .dic => .dict []
  | .tbl _ => .none
def U.ds : List U → List PyData
  | [] => []
  | u :: l => u.d :: U.ds l
end
mutual
def U.pure : U → Bool
  | .tup l => U.pures l
  | .lst l => U.pures l
  | .tbl _ => false
  | _ => true
def U.pures : List U → Bool
  | [] => true
  | u :: l => u.pure && U.pures l
end
section
variable {X : Cx} {pins : List (Addr × Obj)} {σ : L2.St} {H F : Hp} {s : Shared} {C : Addr}
mutual
theorem uP_reads (I : Inv X pins σ H s) (sm : H sysModules = none) (ex : Same F H) : ∀ (u : U) (v : V) (x : Value), u.pure = true → uP C F u v → RelV v x → ∃ as, Reads s.heap x u.d as ∧ sysModules ∉ as
  | .non, v, x, _, h, r => by
    unfold uP at h
    subst h
    cases (show x = Value.none from r)
    exact ⟨_, Reads.none, by simp⟩
  | .bl b, v, x, _, h, r => by
    unfold uP at h
    subst h
    cases (show x = Value.bool b from r)
    exact ⟨_, Reads.bool b, by simp⟩
  | .int i, v, x, _, h, r => by
    unfold uP at h
    subst h
    obtain ⟨t, rfl⟩ := (show ∃ t, x = Value.int i t from r)
    exact ⟨_, Reads.int i t, by simp⟩
  | .str z, v, x, _, h, r => by
    unfold uP at h
    subst h
    obtain ⟨t, rfl⟩ := (show ∃ t, x = Value.str z t from r)
    exact ⟨_, Reads.str z t, by simp⟩
  | .lst l, v, x, hp, h, r => by
    unfold uP at h
    obtain ⟨p, xs, rfl, h2, h3⟩ := h
    cases (show x = Value.ref p from r)
    have hl := ex _ _ h2
    obtain ⟨its, rv, ⟨o, n, ho, hc, _, hd⟩, _⟩ := I.list (.inl (.inl hl))
    obtain ⟨as, hr, hn⟩ := uPs_reads I sm ex l xs its (by unfold U.pure at hp; exact hp) h3 rv
    refine ⟨_, Reads.list ho hc hd hr, ?_⟩
    rw [List.mem_cons]
    rintro (e | e)
    · rw [e, hl] at sm; cases sm
    · exact hn e
  | .tup l, v, x, hp, h, r => by
    unfold uP at h
    obtain ⟨p, xs, rfl, h2, h3⟩ := h
    cases (show x = Value.ref p from r)
    obtain ⟨its, rv, ⟨o, ho, hc, n, hd⟩, _⟩ := I.tuple (sqT_up (K := X.K) ex h2)
    obtain ⟨as, hr, hn⟩ := uPs_reads I sm ex l xs its (by unfold U.pure at hp; exact hp) h3 rv
    exact ⟨_, Reads.tuple ho hc hd hr, hn⟩
  | .dic, v, x, _, h, r => by
    unfold uP at h
    obtain ⟨p, rfl, h2⟩ := h
    cases (show x = Value.ref p from r)
    have hk := ex _ _ h2
    obtain ⟨_, hsm, vs, rel, o, es, ep, ho, hx, hd, he⟩ := dk_of I.hok hk
    have hvs : vs = [] := by
      cases rel with
      | nil => rfl
    subst hvs
    have hes : es.toList = [] := by
      have hl := he.2.1.length
      exact List.length_eq_zero_iff.mp hl
    refine ⟨_, Reads.dict (as := []) (bs := []) ho hx.1 hd (by rw [hes]; exact ReadsAll.nil) (by rw [hes]; exact ReadsAll.nil), ?_⟩
    simp only [List.append_nil, List.mem_singleton]
    intro e
    rw [e, beq_self_eq_true] at hsm
    cases hsm
  | .tbl t, _, _, hp, _, _ => by unfold U.pure at hp; cases hp
theorem uPs_reads (I : Inv X pins σ H s) (sm : H sysModules = none) (ex : Same F H) : ∀ (l : List U) (vs : List V) (xs : List Value), U.pures l = true → uPs C F l vs → Vals vs xs → ∃ as, ReadsAll s.heap xs (U.ds l) as ∧ sysModules ∉ as
  | [], vs, xs, _, h, r => by
    unfold uPs at h
    subst h
    cases r
    exact ⟨_, ReadsAll.nil, by simp⟩
  | u :: l, vs, xs, hp, h, r => by
    unfold uPs at h
    obtain ⟨v, ws, rfl, h1, h2⟩ := h
    unfold U.pures at hp
    rw [Bool.and_eq_true] at hp
    cases r with
    | cons r1 r2 =>
      obtain ⟨as, q1, n1⟩ := uP_reads I sm ex u v _ hp.1 h1 r1
      obtain ⟨bs, q2, n2⟩ := uPs_reads I sm ex l ws _ hp.2 h2 r2
      exact ⟨_, ReadsAll.cons q1 q2, fun m => (List.mem_append.mp m).elim n1 n2⟩
end
def rReprU (C : Addr) : List V → Hp → VK → Prop := fun xs H Q => ∃ (u : U) (v : V) (F : Hp), xs = [v] ∧ Same F H ∧ uP C F u v ∧ u.pure = true ∧ u.d.showable = true ∧ u.d.depth ≤ 60 ∧ u.d.shown.length ≤ sizeLine ∧ Q (.str u.d.shown) H
theorem call_reprU (hG : X.A.guards = some []) {k : Nat} (hr : Room k X.A) (SM : ∃ mm, X.base.Ns sysModules mm) : CallR X (.builtin "repr") (rReprU C) := by
  intro pins s σ H xs us Q I r h
  obtain ⟨u, v, F, rfl, ex, hu, hp, h1, h3, h4, q⟩ := h
  have sm : H sysModules = none := by
    obtain ⟨mm, o, es, ep, ho, _⟩ := SM
    exact (I.bs sysModules o ho).2
  obtain ⟨x, rfl, rx⟩ := vals1 r
  obtain ⟨as, rd, hn⟩ := uP_reads I sm ex u v x hp hu rx
  have hun := hr.un
  have big : ∀ a, x = .ref a → wpAny (model X.prog X.w) X.A (call (.builtin "repr") [x]) (fun v' s' => ∃ (w : V) (H' : Hp), Inv X pins σ H' s' ∧ RelV w v' ∧ Q w H') X.xe s := fun a e => by
    subst e
    exact repr_of_reads' rd h1 (fun _ => hn) hG (by omega) (fun _ _ z => z) (fun h' u' tk hk => ⟨.str u.d.shown, H, I.kept (t' := tk) hk, ⟨_, rfl⟩, q⟩) h4
  cases u with
  | non =>
    unfold uP at hu
    subst hu
    cases (show x = Value.none from rx)
    exact PySem.P.repr_of_none ⟨.str _, H, I.tok _, ⟨_, rfl⟩, q⟩
  | bl b =>
    unfold uP at hu
    subst hu
    cases (show x = Value.bool b from rx)
    exact PySem.P.repr_of_bool ⟨.str _, H, I.tok _, ⟨_, rfl⟩, q⟩
  | int i =>
    unfold uP at hu
    subst hu
    obtain ⟨t, rfl⟩ := (show ∃ t, x = Value.int i t from rx)
    exact PySem.P.repr_of_int (of_decide_eq_true h1) ⟨.str _, H, I.tok _, ⟨_, rfl⟩, q⟩
  | str z =>
    unfold uP at hu
    subst hu
    obtain ⟨t, rfl⟩ := (show ∃ t, x = Value.str z t from rx)
    exact PySem.P.repr_of_str ⟨.str _, H, I.tok _, ⟨_, rfl⟩, q⟩ h4
  | lst l =>
    unfold uP at hu
    obtain ⟨p, xs, rfl, _, _⟩ := hu
    exact big p rx
  | tup l =>
    unfold uP at hu
    obtain ⟨p, xs, rfl, _, _⟩ := hu
    exact big p rx
  | dic =>
    unfold uP at hu
    obtain ⟨p, rfl, _⟩ := hu
    exact big p rx
  | tbl t => unfold U.pure at hp; cases hp
end
section
variable {W W1 : List Sl} {K : PySem.W.Frag} {C : Addr} {te : TE}
def ReprU (u : U) : Prop := u.pure = true ∧ u.d.showable = true ∧ u.d.depth ≤ 60 ∧ u.d.shown.length ≤ sizeLine
def reprU (u : U) : Str := u.d.shown
theorem es_reprU {u : U} (h : ES te W W1 (eU C u)) (g : ReprU u) : ES (tCB (rReprU C) (tCons te tNil)) W W1 (eS (reprU u)) := fun F H σ Q s k =>
  h F H σ _ s fun v F1 H1 a1 s1 e1 => ⟨u, v, F1, rfl, s1.ex, e1, g.1, g.2.1, g.2.2.1, g.2.2.2, k _ F1 H1 a1 s1 rfl⟩
instance : UE K C (α := Unit) (fun _ => eN) := ⟨fun _ => U.non, fun F v x => by unfold uP; exact Iff.rfl⟩
/-- tuple(xs) -/
theorem es_tupLU {α : Type} {e : α → R} [E : UE K C e] {l : List α} (h : ES te W W1 (eLs e l)) :
    ES (tCB (fun xs H Q => ∃ p ys, xs = [.ref p] ∧ ((SqL K H p ys ∧ ∀ l, H l = none → Q (.ref l) (upd H l (.tup ys))) ∨ (SqT K H p ys ∧ Q (.ref p) H))) (tCons te tNil)) W W1 (eU C (.tup (l.map E.u))) := fun F H σ Q s k =>
  h F H σ _ s fun v F1 H1 a1 s1 ⟨p, xs, h1, h2, h3⟩ => by
    subst h1
    refine ⟨p, xs, rfl, .inl ⟨.inl (.inl (s1.ex _ _ h2)), fun q hq => k _ _ _ (a1.trans (Rel.lay s1.ex hq)) (s1.lay hq) ?_⟩⟩
    have same : Same F1 (upd F1 q (.tup xs)) := fun a o z => by rw [upd_ne (ne_of_none z (s1.ex.free hq))]; exact z
    refine (eU_tup (K := K)).mpr ⟨q, xs, rfl, upd_same, ?_⟩
    have h4 : All2 (l.map fun x => eU C (E.u x)) F1 xs := (All2.iff E.ok).mp h3
    rw [List.map_map]
    exact h4.mono same
/-- list(t) of a triple -/
theorem es_lstT3U {x : Int × Int × Int} (h : ES te W W1 (eP3 K eI eI eI x)) :
    ES (tCB (fun xs H Q => ∃ p ys, xs = [.ref p] ∧ (SqL K H p ys ∨ SqT K H p ys) ∧ ∀ l, H l = none → Q (.ref l) (upd H l (.lst ys))) (tCons te tNil)) W W1 (eU C (.lst [U.int x.1, U.int x.2.1, U.int x.2.2])) := fun F H σ Q s k =>
  h F H σ _ s fun v F1 H1 a1 s1 ⟨p, xs, h1, h2, h3⟩ => by
    subst h1
    refine ⟨p, xs, rfl, .inr (sqT_up s1.ex h2), fun q hq => k _ _ _ (a1.trans (Rel.lay s1.ex hq)) (s1.lay hq) ?_⟩
    have same : Same F1 (upd F1 q (.lst xs)) := fun a o z => by rw [upd_ne (ne_of_none z (s1.ex.free hq))]; exact z
    refine eU_lst.mpr ⟨q, xs, rfl, upd_same, ?_⟩
    have h4 : All2 ([U.int x.1, U.int x.2.1, U.int x.2.2].map (eU C)) F1 xs := by
      match xs, h3 with
      | [a, b, c], h3 =>
        refine ⟨?_, ?_, ?_, trivial⟩
        · show uP C F1 (.int _) a; unfold uP; exact h3.1
        · show uP C F1 (.int _) b; unfold uP; exact h3.2.1
        · show uP C F1 (.int _) c; unfold uP; exact h3.2.2.1
      | [], h3 => exact h3.elim
      | [_], h3 => exact h3.2.elim
      | [_, _], h3 => exact h3.2.2.elim
      | _ :: _ :: _ :: _ :: _, h3 => exact h3.2.2.2.elim
    exact h4.mono same
end
/-! the walk, where the table of modules is told -/
section
variable {P : Program} {w : World} {K : PySem.W.Frag} {mg mb : Str → Option Value} {CX : CXT} {k : Nat} {fa a : Addr} {fd : FuncData} {x : Str} {sp : Sp} {t : Shared} {us : List Value} {ns : List Int}
theorem lawG_core3 {H : Hp} (SM : ∃ mm, t.heap.Ns sysModules mm) (KX : K.In t.heap) (nG : t.heap.Ns mainGlobals mg) (nB : t.heap.Ns builtinsNs mb) (nb : ∀ x : Str, x ≠ "__name__" → mb x = bootBuiltins x) (nl : t.heap.NoLimit) (g0 : t.gens = #[])
    (at_ : t.heap.get? a = some { cls := .type "list", data := .seq us.toArray }) (room : Room k callerA)
    (F : ∀ base : Heap, K.In base → base.Ns mainGlobals mg → (∃ mm, base.Ns sysModules mm) → FnG P w K mg base CX k fa fd [x] sp) (bind : ∀ (s : Shared) (u : Value), BindsTo s fd ⟨[u], []⟩ [(x, u)])
    (pr : sp [.ref a] H (fun v _ => v = .bl true) fun _ _ _ => False) (noX : ∀ H e s', CX [] H t (fun _ _ _ => False) e s' → False)
    (only : Only H) (ok : HOk P w H t.heap) (one : ∀ b, H b ≠ none → b = a) (away : H a ≠ none → K.lookup a = none) :
    codeAny (model P w) callerA (.call (.ref fa) ⟨[.ref a], []⟩) (fun r s' => r = .ok (.ret (.bool true)) ∧ OldK t.heap s'.heap ∧ s'.os = t.os ∧ AllBare s'.gens) t := by
  have up : ∀ {b : Addr} {o : Obj}, t.heap.get? b = some o → H b = none → (hidT t.heap H).get? b = some o := fun h n => hidT_get h n
  have free : ∀ {b : Addr} {o : Obj} {es : Array DictEntry} {n : Nat}, t.heap.get? b = some o → o.data = .dict es n → H b = none := fun {b o es n} h d => by
    by_cases q : H b = none
    · exact q
    · obtain rfl := one b q
      cases at_.symm.trans h
      have d' : Data.seq us.toArray _ = Data.dict es n := d
      exact nomatch d'
  have nsUp : ∀ {b : Addr} {m : Str → Option Value}, t.heap.Ns b m → (hidT t.heap H).Ns b m := fun ⟨o, es, n, h, d, r⟩ => ⟨o, es, n, up h (free h d), d, r⟩
  have kUp : K.In (hidT t.heap H) := fun b o h => up (KX b o h) (by
    by_cases q : H b = none
    · exact q
    · obtain rfl := one b q
      rw [away q] at h; exact nomatch h)
  have md : Mod K mg (hidT t.heap H) := ⟨kUp, nsUp nG, ⟨mb, nsUp nB, nb⟩, nl.elim fun mc z => ⟨mc, nsUp z.1, z.2⟩⟩
  have env : Env0 P w K mg (hidT t.heap H) callerA [] t H := ⟨rfl, md, fun _ _ h => of_hidT h, Nat.le_of_eq (hidT_size _ _), trivial, fun b hb => (by cases hb), ok, .of_eq g0⟩
  have run := (F _ kUp (nsUp nG) (SM.imp fun _ z => nsUp z)).run callerA [] t H ⟨[.ref a], []⟩ [.ref a] [.ref a] _ _ rfl room env (bind t (.ref a)) (.cons rfl .nil) pr
  refine codeAny_mono run fun r s' h => ?_
  match r, h with
  | .error e, h => exact (noX H e s' h).elim
  | .ok (.ret u), h =>
    obtain ⟨v, H2, os, bare, un, ok2, rel, q⟩ := h
    obtain rfl : v = .bl true := q
    obtain rfl : u = Value.bool true := rel
    refine ⟨rfl, OldK.of_keep fun b o h => ?_, os, bare⟩
    rcases only b with z | ⟨ob, xs, z⟩
    · exact un.keep b o h z (fun m => by cases m) (by simp)
    · have e1 := (ok b _ z).1
      have e2 := (ok2 b _ (un.frzs b ob _ z)).1
      exact (Option.some.inj (h.symm.trans e1)) ▸ e2
theorem lawG3 {mb : Str → Option Value} (SM : ∃ mm, t.heap.Ns sysModules mm) (KX : K.In t.heap) (nG : t.heap.Ns mainGlobals mg) (nB : t.heap.Ns builtinsNs mb) (nb : ∀ x : Str, x ≠ "__name__" → mb x = bootBuiltins x) (nl : t.heap.NoLimit) (g0 : t.gens = #[])
    (at_ : t.heap.get? a = some { cls := .type "list", data := .seq us.toArray }) (iv : IntsAre us ns) (short : ns.length ≤ sizeLine) (room : Room k callerA)
    (F : ∀ base : Heap, K.In base → base.Ns mainGlobals mg → (∃ mm, base.Ns sysModules mm) → FnG P w K mg base CX k fa fd [x] sp) (bind : ∀ (s : Shared) (u : Value), BindsTo s fd ⟨[u], []⟩ [(x, u)])
    (pr : ∀ H : Hp, SqL K H a (ns.map V.int) → sp [.ref a] H (fun v _ => v = .bl true) fun _ _ _ => False) (noX : ∀ H e s', CX [] H t (fun _ _ _ => False) e s' → False) :
    codeAny (model P w) callerA (.call (.ref fa) ⟨[.ref a], []⟩) (fun r s' => r = .ok (.ret (.bool true)) ∧ OldK t.heap s'.heap ∧ s'.os = t.os ∧ AllBare s'.gens) t := by
  have rv := vals_ints iv
  cases hk : K.lookup a with
  | some o =>
    cases at_.symm.trans (KX a o hk)
    refine lawG_core3 (H := fun _ => none) SM KX nG nB nb nl g0 at_ room F bind (pr _ (.inr ⟨_, us.toArray, _, hk, rfl, rfl, rfl, ?_, ?_⟩)) noX (fun _ => .inl rfl) (fun b u z => nomatch z) (fun b z => absurd rfl z) fun z => absurd rfl z
    · rw [List.size_toArray, iv.length]; exact short
    · simpa using rv
  | none =>
    let ob : Obj := { cls := .type "list", data := .seq us.toArray }
    let G : Hp := fun b => if b = a then some (.frz ob (.lst (ns.map V.int))) else none
    have yes : G a = some (.frz ob (.lst (ns.map V.int))) := if_pos rfl
    have no : ∀ b, b ≠ a → G b = none := fun b h => if_neg h
    refine lawG_core3 (H := G) SM KX nG nB nb nl g0 at_ room F bind (pr _ (.inl (.inr ⟨ob, yes⟩))) noX (fun b => ?_) (fun b u z => ?_) (fun b z => ?_) fun _ => hk
    · by_cases h : b = a
      · subst h; exact .inr ⟨_, _, yes⟩
      · exact .inl (no b h)
    · by_cases h : b = a
      · subst h
        cases yes.symm.trans z
        exact ⟨at_, by rw [List.length_map]; exact short, us, _, rv, at_⟩
      · rw [no b h] at z; exact nomatch z
    · by_cases h : b = a
      · exact h
      · exact absurd (no b h) z
end
theorem walk_ofG3 {l : PySem.W.OpenLaw} {n k : Nat} {q : Program} {loose : List Str} {XP : (Str → Option Value) → Heap → Prop} {YP : World → Heap → Prop} {d : DefRec} {K : Params → PySem.W.Frag} {sp : PySem.W.Frag → Sp} {x : Str}
    (hn : l.most = some n) (hn2 : n ≤ sizeLine) (hdf : d.params.defaults = []) (hr : Room k callerA) (hi : importsNone q = true) (hY : ∀ (w : World) (h : Heap), YP w h → (K w.params).In h)
    (F : ∀ (w : World) (mg : Str → Option Value) (fa : Addr) (h : Heap), (K w.params).In h → h.Ns mainGlobals mg → mg d.name = some (.ref fa) →
      ∃ fd : FuncData, (∀ (s : Shared) (u : Value), BindsTo s fd ⟨[u], []⟩ [(x, u)]) ∧ ∀ base : Heap, (K w.params).In base → base.Ns mainGlobals mg → (∃ mm, base.Ns sysModules mm) → FnG l.prog w (K w.params) mg base CX0 k fa fd [x] (sp (K w.params)))
    (pr : ∀ (K : PySem.W.Frag) (H : Hp) (a : Addr) (ns : List Int), ns.length ≤ n → (∀ z ∈ ns, Builtin.Int.intBits z ≤ 1048576) → SqL K H a (ns.map V.int) → sp K [.ref a] H (fun v _ => v = .bl true) fun _ _ _ => False) :
    PySem.W.WalkO q loose XP YP l.row.toRowW d [] (fun f vs => PySem.call f vs) := by
  refine Att.attach_callB hn hdf fun w s₀ t mg mb fa o pm cd doc a us ns G Y ho hd hcd hmg at_ iv len bits g0 => ?_
  have KX := hY w _ Y
  obtain ⟨fd, bd, FG⟩ := F w mg fa _ KX G.T.g hmg
  have SM : ∃ mm, t.heap.Ns sysModules mm := let ⟨mm, z, _⟩ := (G.T.seer hi).mods; ⟨mm, z⟩
  exact lawG3 SM KX G.T.g G.T.b G.T.builtins G.T.nolimit g0 at_ iv (Nat.le_trans len hn2) hr FG bd (fun H S => pr (K w.params) H a ns len bits S) fun _ _ _ z => z
end Fw
end
section
set_option maxRecDepth 100000
namespace Fw
open PySem L2 PyProof.Rows PySem.Spec
theorem exm_of {K : PySem.W.Frag} {C D : Addr} {b : Bool} (h1 : PySem.W.subIn K (.ref C) (.type "BaseException") = some true) (h2 : PySem.W.isClsIn K C = true) (h3 : PySem.W.typeIn K (.ref C) = some (.type "type")) (h4 : PySem.W.subIn K (.ref D) (.ref C) = some b) : PySem.W.exmOne K (.ref D) (.ref C) = some b := by
  unfold PySem.W.exmOne
  rw [h1, if_pos (by simp)]
  unfold PySem.W.kitCls
  dsimp only
  have hc : (PySem.W.clsIn K C).isSome = true := h2
  rw [hc, h3, if_pos (by simp)]
  exact h4
theorem op_in_seqK {X : Cx} {K : PySem.W.Frag} (h : X.K = K) : OpR X (compareOp .In) (rIn K false) := by subst h; exact op_in_seq
section
variable {W W1 W2 : List Sl} {K : PySem.W.Frag} {C : Addr} {te ta tb : TE} {α : Type}
theorem es_upU {e : α → R} [E : UE K C e] {l : List α} (h : ES te W W1 (eLs e l)) : ES te W W1 (eLs (eU C) (l.map E.u)) := h.imp fun F v ⟨p, xs, h1, h2, h3⟩ => ⟨p, xs, h1, h2, by
  rw [List.map_map]
  exact (All2.iff (f := fun x => eU C (E.u x)) E.ok).mp h3⟩
theorem strs_flat {F : Hp} : ∀ {l : List Str} {xs : List V}, All2 (l.map fun s => eS s) F xs → xs = l.map V.str
  | [], [], _ => rfl
  | s :: l, x :: xs, h => by
    have e : x = V.str s := h.1
    rw [e, strs_flat h.2]; rfl
  | [], _ :: _, h => h.elim
  | _ :: _, [], h => h.elim
/-- x in ("a", ..) -/
theorem es_inTS {x : Str} {l : List Str} (ha : ES ta W W1 (eS x)) (hb : ES tb W1 W2 (eT K (l.map fun s => eS s))) : ES (tOp (rIn K false) ta tb) W W2 (eB (decide (x ∈ l))) := fun F H σ Q s k =>
  ha F H σ _ s fun v F1 H1 a1 s1 e1 => hb F1 H1 σ _ s1 fun w F2 H2 a2 s2 ⟨p, xs, h1, h2, h3⟩ => by
    have e1' : v = V.str x := e1
    subst e1' h1
    have ex := strs_flat h3
    subst ex
    refine ⟨p, _, rfl, .inr (sqT_up s2.ex h2), rfl, ?_, ?_⟩
    · rw [List.all_eq_true]
      intro y hy
      obtain ⟨z, _, rfl⟩ := List.mem_map.mp hy
      rfl
    · have e : inV (V.str x) (l.map V.str) = decide (x ∈ l) := by
        unfold inV
        rw [Bool.eq_iff_iff, List.any_eq_true, decide_eq_true_iff]
        constructor
        · rintro ⟨y, hy, q⟩
          obtain ⟨z, hz, rfl⟩ := List.mem_map.mp hy
          have : z = x := by simpa [eqV] using q
          rw [← this]; exact hz
        · intro hx
          exact ⟨_, List.mem_map.mpr ⟨x, hx, rfl⟩, by simp [eqV]⟩
      show Q (.bl (inV (V.str x) (l.map V.str))) H2
      rw [e]
      exact k _ F2 H2 (a1.trans a2) s2 rfl
theorem es_toU2 {e : α → R} [E : UE K C e] {x : α} {u : U} (h : ES te W W1 (e x)) (g : E.u x = u) : ES te W W1 (eU C u) := g ▸ es_toU h
theorem es_upU2 {e : α → R} [E : UE K C e] {l : List α} {m : List U} (h : ES te W W1 (eLs e l)) (g : l.map E.u = m) : ES te W W1 (eLs (eU C) m) := g ▸ es_upU h
theorem es_tupLU2 {e : α → R} [E : UE K C e] {l : List α} {u : U} (h : ES te W W1 (eLs e l)) (g : U.tup (l.map E.u) = u) :
    ES (tCB (fun xs H Q => ∃ p ys, xs = [.ref p] ∧ ((SqL K H p ys ∧ ∀ l, H l = none → Q (.ref l) (upd H l (.tup ys))) ∨ (SqT K H p ys ∧ Q (.ref p) H))) (tCons te tNil)) W W1 (eU C u) := g ▸ es_tupLU h
/-! lists of texts compared -/
def StrsOk (l : List Str) : Prop := (PyData.list (l.map PyData.str)).canLay0 = true
theorem depth_strs : ∀ l : List Str, PyData.depthAll (l.map PyData.str) = 0
  | [] => rfl
  | x :: l => by simp [PyData.depthAll, PyData.depth, depth_strs l]
theorem shp_strs {l : List Str} (h : StrsOk l) : SeqAt.shaped (.list (l.map PyData.str)) = true := by
  unfold SeqAt.shaped
  have q : (PyData.list (l.map PyData.str)).depth ≤ 64 := by
    simp only [PyData.depth, depth_strs]; decide
  rw [h, decide_eq_true q]; rfl
theorem eqv_strs : ∀ l m : List Str, PyData.eqvAll (l.map PyData.str) (m.map PyData.str) = decide (l = m)
  | [], [] => by simp [PyData.eqvAll]
  | [], _ :: _ => by simp [PyData.eqvAll]
  | _ :: _, [] => by simp [PyData.eqvAll]
  | x :: l, y :: m => by
    have ih := eqv_strs l m
    simp only [List.map_cons, PyData.eqvAll, PyData.eqv, ih]
    rw [Bool.eq_iff_iff]
    simp
theorem dp_strs {F H : Hp} (ex : Same F H) {l : List Str} {v : V} (h : (eLs eS l).p F v) : Dp K H v (.list (l.map PyData.str)) := by
  obtain ⟨p, xs, rfl, h2, h3⟩ := h
  have e := strs_flat h3
  subst e
  refine .lst (.inl (.inl (ex _ _ h2))) ?_
  clear h2 h3
  induction l with
  | nil => exact .nil
  | cons x l ih => exact .cons (.str x) ih
theorem es_eqLS {l m : List Str} (ha : ES ta W W1 (eLs eS l)) (hb : ES tb W1 W2 (eLs eS m)) (g : StrsOk l ∧ StrsOk m) : ES (tOp (rEqD K) ta tb) W W2 (eB (decide (l = m))) := fun F H σ Q s k =>
  ha F H σ _ s fun v F1 H1 a1 s1 e1 => hb F1 H1 σ _ s1 fun w F2 H2 a2 s2 e2 => by
    refine ⟨_, _, dp_strs s2.ex ((eLs eS l).mono a2.f e1), dp_strs s2.ex e2, shp_strs g.1, shp_strs g.2, ?_⟩
    rw [show PyData.eqv (.list (l.map PyData.str)) (.list (m.map PyData.str)) = decide (l = m) by simp only [PyData.eqv]; exact eqv_strs l m]
    exact k _ F2 H2 (a1.trans a2) s2 rfl
theorem es_neLS {l m : List Str} (ha : ES ta W W1 (eLs eS l)) (hb : ES tb W1 W2 (eLs eS m)) (g : StrsOk l ∧ StrsOk m) : ES (tOp (rNeD K) ta tb) W W2 (eB (!decide (l = m))) := fun F H σ Q s k =>
  ha F H σ _ s fun v F1 H1 a1 s1 e1 => hb F1 H1 σ _ s1 fun w F2 H2 a2 s2 e2 => by
    refine ⟨_, _, dp_strs s2.ex ((eLs eS l).mono a2.f e1), dp_strs s2.ex e2, shp_strs g.1, shp_strs g.2, ?_⟩
    rw [show PyData.eqv (.list (l.map PyData.str)) (.list (m.map PyData.str)) = decide (l = m) by simp only [PyData.eqv]; exact eqv_strs l m]
    exact k _ F2 H2 (a1.trans a2) s2 rfl
end
end Fw
end
section
set_option maxRecDepth 100000
set_option maxHeartbeats 2000000
/-! a comprehension whose turns change owned objects -/
namespace Fw
open PySem L2 PyProof.Rows PySem.Spec
def compB {α β γ : Type} (f : β → α → γ × β) : β → List α → List γ × β
  | s, [] => ([], s)
  | s, x :: l => ((f s x).1 :: (compB f (f s x).2 l).1, (compB f (f s x).2 l).2)
theorem compB_take {α β γ : Type} {f : β → α → γ × β} : ∀ {l : List α} {s : β} {i : Nat} {x : α}, l[i]? = some x →
    compB f s (l.take (i + 1)) = ((compB f s (l.take i)).1 ++ [(f (compB f s (l.take i)).2 x).1], (f (compB f s (l.take i)).2 x).2)
  | [], s, i, x, h => by cases h
  | y :: l, s, 0, x, h => by cases h; rfl
  | y :: l, s, i + 1, x, h => by
    have ih := compB_take (f := f) (l := l) (s := (f s y).2) (i := i) (x := x) h
    rw [List.take_succ_cons, List.take_succ_cons]
    simp only [compB]
    rw [ih]; rfl
theorem compB_len {α β γ : Type} {f : β → α → γ × β} : ∀ {l : List α} {s : β}, (compB f s l).1.length = l.length
  | [], _ => rfl
  | x :: l, s => congrArg (· + 1) (compB_len (l := l))
theorem compB_fold {α β γ : Type} {f : β → α → γ × β} : ∀ {l : List α} {s : β}, (compB f s l).2 = l.foldl (fun s x => (f s x).2) s
  | [], _ => rfl
  | x :: l, s => compB_fold (l := l)
theorem okF_atB {α β : Type} {ok : β → α → Prop} {b : β → α → β} : ∀ {l : List α} {s : β} {i : Nat} {x : α}, okF ok b s l → l[i]? = some x → ok ((l.take i).foldl b s) x
  | [], s, i, x, _, h => by cases h
  | y :: l, s, 0, x, g, h => by cases h; exact g.1
  | y :: l, s, i + 1, x, g, h => okF_atB (l := l) g.2 h
theorem wipeW_len : ∀ (W : List Sl) (vs : List Nat), (wipeW W vs).length = W.length
  | W, [] => rfl
  | W, v :: vs => by unfold wipeW; rw [List.length_set]; exact wipeW_len W vs
theorem wipeW_out {W : List Sl} {i : Nat} : ∀ {vs : List Nat}, i ∉ vs → (wipeW W vs)[i]? = W[i]?
  | [], _ => rfl
  | v :: vs, h => by
    unfold wipeW
    rw [List.getElem?_set_ne (fun e => h (by rw [e]; exact List.mem_cons_self ..))]
    exact wipeW_out fun z => h (List.mem_cons_of_mem _ z)
section
variable {W W' W0 W1 : List Sl} {K : PySem.W.Frag} {te : TE} {tt : TT} {g : TG} {wi : TI} {α β γ : Type}
/-- back from a comprehension's frame -/
theorem back_frame {F0 H0 F H : Hp} {σ σ2 : L2.St} {Wa Wb W3 : List Sl} {vs : List Nat} (s0 : Sat F0 H0 σ Wa) (ef : Same F0 F) (s3 : Sat F H σ2 W3) (hw : L2.wipe σ2 vs = L2.wipe σ vs) (hb : wipeW W3 vs = wipeW Wb vs)
    (hv : ∀ j ∈ vs, Wb[j]? = Wa[j]? ∧ ∀ c, Wa[j]? ≠ some (.ow c)) : Sat F H σ Wb ∧ ∀ a, Own Wb σ a → Own W3 σ2 a := by
  have nv : ∀ {j : Nat} {c : OC}, Wb[j]? = some (.ow c) → j ∉ vs := fun {j c} h m => (hv j m).2 c ((hv j m).1 ▸ h)
  have eW : ∀ {j : Nat}, j ∉ vs → W3[j]? = Wb[j]? := fun {j} m => by rw [← wipeW_out m, hb, wipeW_out m]
  have eS : ∀ {j : Nat}, j ∉ vs → σ2[j]? = σ[j]? := fun {j} m => by rw [← wipe_out' m, hw, wipe_out' m]
  have lW : W3.length = Wb.length := by rw [← wipeW_len W3 vs, hb, wipeW_len]
  have lS : σ2.length = σ.length := by rw [← wipe_length σ2 vs, hw, wipe_length]
  refine ⟨⟨s3.ex, by rw [← lS, ← lW]; exact s3.len, fun i r h => ?_, fun i c h => ?_, fun i j c d p h1 h2 h3 h4 => ?_⟩, fun a ⟨i, c, h1, h2⟩ => ?_⟩
  · by_cases m : i ∈ vs
    · rw [(hv i m).1] at h
      obtain ⟨v, z1, z2⟩ := s0.fz i r h
      exact ⟨v, z1, r.mono ef z2⟩
    · rw [← eW m] at h
      obtain ⟨v, z1, z2⟩ := s3.fz i r h
      exact ⟨v, by rw [← eS m]; exact z1, z2⟩
  · have m := nv h
    rw [← eW m] at h
    obtain ⟨p, o, z1, z2⟩ := s3.ow i c h
    exact ⟨p, o, by rw [← eS m]; exact z1, z2⟩
  · have m1 := nv h1
    have m2 := nv h2
    exact s3.ds i j c d p (by rw [eW m1]; exact h1) (by rw [eW m2]; exact h2) (by rw [eS m1]; exact h3) (by rw [eS m2]; exact h4)
  · have m := nv h1
    exact ⟨i, c, by rw [eW m]; exact h1, by rw [eS m]; exact h2⟩
theorem en_lcB {e : α → R} {l : List α} {vs is : List Nat} (mk : β → List Sl) (f : β → α → γ × β) (r : γ → R) (ok : β → α → Prop) (s0 : β) (W2 W3 : β → α → List Sl)
    (h : IS wi W (mk s0) (l.map e)) (hz : l.length < 16000000) (his : ∀ j ∈ is, j ∈ vs) (hok : okF ok (fun s x => (f s x).2) s0 l)
    (hg : ∀ s x, GS g (e x) (wipeW (mk s) vs) (W2 s x) is) (ht : ∀ s x, ET tt (W2 s x) (W2 s x) true) (he : ∀ s x, x ∈ l → ok s x → ES te (W2 s x) (W3 s x) (r (f s x).1))
    (hb : ∀ s x, wipeW (W3 s x) vs = wipeW (mk (f s x).2) vs) (hv : ∀ s s' j, j ∈ vs → (mk s)[j]? = (mk s')[j]? ∧ ∀ c, (mk s')[j]? ≠ some (.ow c)) :
    ESN (tLc wi g tt te vs) W (mk (compB f s0 l).2) (oL ((compB f s0 l).1.map r)) := fun F H σ Q s k =>
  h F H σ _ s fun J F1 H1 a1 s1 hw D hD => by
    have fD : F1 D = none := s1.ex.free hD
    have nD : ¬ Own (mk s0) σ D := fun o => by
      obtain ⟨u, z⟩ := o.lt s1
      rw [hD] at z; cases z
    refine ⟨fun i m H' => m = l.length - i ∧ i ≤ l.length ∧ ∃ F' acc, Rel F1 H1 (Own (mk s0) σ) F' H' (Own (mk (compB f s0 (l.take i)).2) σ) ∧ Sat F' H' σ (mk (compB f s0 (l.take i)).2) ∧ F' D = none ∧ H' D = some (.lst acc) ∧ ¬ Own (mk (compB f s0 (l.take i)).2) σ D ∧ All2 ((compB f s0 (l.take i)).1.map r) F' acc,
      ⟨l.length, by simp, Nat.zero_le _, F1, [], Rel.grow fun a o h => ?_, s1.grow fun a o h => ?_, fD, upd_same, nD, by simp [compB, All2]⟩, ?_⟩
    · rw [upd_ne (ne_of_none h hD)]; exact h
    · rw [upd_ne (ne_of_none h hD)]; exact h
    rintro i m H' ⟨rfl, hi, F', acc, q, sS, f', hDl, nO, ha⟩
    have ex := sS.ex
    have q0 : Same F1 F' := q.f
    obtain ⟨w1, w2⟩ := hw i F' H' q.f ex
    by_cases hlt : i < l.length
    · have hy : l[i]? = some l[i] := List.getElem?_eq_getElem hlt
      have my := List.mem_of_getElem? hy
      obtain ⟨go, yl⟩ := w1 (e l[i]) (by rw [List.getElem?_map, hy]; rfl)
      have ce := compB_take (f := f) (s := s0) hy
      generalize hst : compB f s0 (l.take i) = st at *
      obtain ⟨rs, b⟩ := st
      have oki : ok b l[i] := by
        have := okF_atB hok hy
        rw [← compB_fold, hst] at this
        exact this
      refine .inr ⟨go, fun H' => ∃ F' acc, Rel F1 H1 (Own (mk s0) σ) F' H' (Own (mk (f b l[i]).2) σ) ∧ Sat F' H' σ (mk (f b l[i]).2) ∧ F' D = none ∧ H' D = some (.lst acc) ∧ ¬ Own (mk (f b l[i]).2) σ D ∧ All2 ((rs ++ [(f b l[i]).1]).map r) F' acc, fun H2 z => ⟨l.length - (i + 1), by omega, rfl, hlt, by rw [ce]; exact z⟩, fun x H2 y => ?_⟩
      obtain ⟨F2, q2, e2, hx⟩ := yl x H2 y
      have d2 : H2 D = some (.lst acc) := q2.h D _ (fun z => z) hDl
      have f2 : F2 D = none := q2.nof e2 f' hDl (fun z => z) (fun xs e => by cases e)
      have s2 := sS.pure q2 e2
      obtain ⟨sw, ow⟩ := s2.wipe vs
      refine hg b l[i] F2 H2 (L2.wipe σ vs) x _ sw hx fun σ2 o2 s3 dd => ⟨wipe_eq (dd.1.trans (wipe_length σ vs)) dd.2 his, ?_⟩
      have hwp : L2.wipe σ2 vs = L2.wipe σ vs := wipe_eq (dd.1.trans (wipe_length σ vs)) dd.2 his
      have oo : ∀ a, Own (W2 b l[i]) σ2 a → Own (mk b) σ a := fun a o => ow a (o2 a o)
      refine ht b l[i] F2 H2 σ2 _ s3 fun F3 H3 a3 s4 => ?_
      rw [if_pos rfl]
      refine he b l[i] my oki F3 H3 σ2 _ s4 fun y F4 H4 a4 s5 hy4 => ?_
      obtain ⟨sb, ob⟩ := back_frame (Wa := mk b) (Wb := mk (f b l[i]).2) s2 (fun a o h => a4.f a o (a3.f a o h)) s5 hwp (hb b l[i]) fun j m => hv _ _ j m
      have a34 := a3.trans a4
      have q4 : Rel F2 H2 (Own (mk b) σ) F4 H4 (Own (mk (f b l[i]).2) σ) :=
        ⟨a34.f, fun a o n h => a34.h a o (fun z => n (oo a z)) h, fun a o h => (a34.n a o h).imp id (Or.imp id (Or.imp (oo a) id)), a34.t, fun a o => (a34.o a (ob a o)).imp (oo a) id⟩
      have h4 : H4 D = some (.lst acc) := q4.h D _ nO d2
      have f4 : F4 D = none := q4.nof s5.ex f2 d2 nO (fun xs e => by cases e)
      have n4 : ¬ Own (mk (f b l[i]).2) σ D := fun o => by
        rcases q4.o D o with z | z
        · exact nO z
        · rw [d2] at z; cases z
      have qq := (q.trans q2.pure).trans q4
      have lenr : rs.length = i := by
        have := compB_len (f := f) (l := l.take i) (s := s0)
        rw [hst, List.length_take] at this
        have t : rs.length = min i l.length := this
        omega
      refine ⟨acc, h4, Nat.lt_of_lt_of_le (by rw [ha.len, List.length_map, lenr]; omega) (by decide : 16000000 ≤ sizeLine), F4, acc ++ [y], ?_, ?_, f4, upd_same, n4, ?_⟩
      · refine ⟨qq.f, fun a o n h => ?_, qq.n, fun a h => ?_, qq.o⟩
        · rw [upd_ne (ne_of_none h hD)]; exact qq.h a o n h
        · by_cases e : a = D
          · subst e; exact hD
          · rw [upd_ne e] at h; exact qq.t a h
      · refine ⟨fun a o h => ?_, sb.len, sb.fz, fun j c h => ?_, sb.ds⟩
        · rw [upd_ne (ne_of_none h f4)]; exact sb.ex a o h
        · obtain ⟨p, o, z1, z2, z3, z4⟩ := sb.ow j c h
          refine ⟨p, o, z1, ?_, z3, z4⟩
          have ne : p ≠ D := fun e => n4 ⟨j, c, h, by rw [← e]; exact z1⟩
          rw [upd_ne ne]; exact z2
      · rw [List.map_append]
        exact (ha.mono (fun a o h => a34.f a o (q2.f a o h))).app ⟨hy4, trivial⟩
    · have e : i = l.length := by omega
      subst e
      rw [List.take_length] at ha q sS nO
      exact .inl ⟨w2 (by rw [List.length_map]; exact Nat.le_refl _), k D _ F' H' (a1.trans q) sS (a1.t D hD) hDl f' nO ⟨nofun, acc, rfl, ha⟩⟩
end
end Fw
end
section
set_option maxRecDepth 100000
set_option maxHeartbeats 2000000
/-! more of texts: cuts, not in, a text times a number; three comparisons in a row; None in a list -/
namespace Fw
open PySem L2 PyProof.Rows PySem.Spec PyProof PyProof.Rows
def U.ofO : Option Int → U
  | none => .non
  | some i => .int i
def U.unP : U → Int × Int
  | .tup [.int a, .int b] => (a, b)
  | _ => (0, 0)
section
variable {W W1 W2 W3 : List Sl} {K : PySem.W.Frag} {C : Addr} {te ta tb tc td : TE} {α : Type}
instance : UE K C (α := Option Int) (eO eI) := ⟨U.ofO, fun F v x => by
  cases x with
  | none => unfold U.ofO uP; exact Iff.rfl
  | some i => unfold U.ofO uP; exact Iff.rfl⟩
theorem es_sliceS {a : Str} {lo hi : Option Int} {tlo thi : TO} (h : ES te W W1 (eS a)) (h1 : OSm tlo W1 W2 lo) (h2 : OSm thi W2 W3 hi) (g : a.length ≤ sizeLine) : ES (tSl rSlS te tlo thi) W W3 (eS (cutS a lo hi)) := fun F H σ Q s k =>
  h F H σ _ s fun v F1 H1 a1 s1 e1 => h1 F1 H1 σ _ s1 fun F2 H2 a2 s2 => h2 F2 H2 σ _ s2 fun F3 H3 a3 s3 => ⟨a, e1, g, k _ F3 H3 ((a1.trans a2).trans a3) s3 rfl⟩
theorem es_notInS {a b : Str} (ha : ES ta W W1 (eS a)) (hb : ES tb W1 W2 (eS b)) : ES (tOp (fun x y H Q => ∃ i j, x = .str i ∧ y = .str j ∧ Q (.bl (!(!(Builtin.Str.occurrences j i 0 j.length 1).isEmpty))) H) ta tb) W W2 (eB (!inS a b)) := fun F H σ Q s k =>
  ha F H σ _ s fun v F1 H1 a1 s1 e1 => hb F1 H1 σ _ s1 fun w F2 H2 a2 s2 e2 => ⟨a, b, e1, e2, k _ F2 H2 (a1.trans a2) s2 rfl⟩
/-- None in a list of options -/
theorem opt_flat {F : Hp} : ∀ {l : List (Option Int)} {xs : List V}, All2 (l.map (eO eI)) F xs → xs = l.map xV
  | [], [], _ => rfl
  | none :: l, x :: xs, h => by
    have e : x = V.non := h.1
    rw [e, opt_flat h.2]; rfl
  | some i :: l, x :: xs, h => by
    have e : x = V.int i := h.1
    rw [e, opt_flat h.2]; rfl
  | [], _ :: _, h => h.elim
  | _ :: _, [], h => h.elim
theorem es_noneIn {l : List (Option Int)} (hb : ES tb W W1 (eLs (eO eI) l)) : ES (tOp (rIn K false) (tC .non) tb) W W1 (eB (l.any fun o => !o.isSome)) := fun F H σ Q s k =>
  hb F H σ _ s fun w F2 H2 a2 s2 ⟨p, xs, h1, h2, h3⟩ => by
    subst h1
    have ex := opt_flat h3
    subst ex
    refine ⟨p, _, rfl, .inl (.inl (.inl (s2.ex _ _ h2))), rfl, ?_, ?_⟩
    · rw [List.all_eq_true]
      intro y hy
      obtain ⟨z, _, rfl⟩ := List.mem_map.mp hy
      cases z <;> rfl
    · have e : inV V.non (l.map xV) = l.any fun o => !o.isSome := by
        unfold inV
        rw [Bool.eq_iff_iff, List.any_eq_true, List.any_eq_true]
        constructor
        · rintro ⟨y, hy, q⟩
          obtain ⟨z, hz, rfl⟩ := List.mem_map.mp hy
          refine ⟨z, hz, ?_⟩
          cases z with
          | none => rfl
          | some i => simp [eqV, xV] at q
        · rintro ⟨z, hz, q⟩
          cases z with
          | none => exact ⟨_, List.mem_map.mpr ⟨none, hz, rfl⟩, by simp [eqV, xV]⟩
          | some i => cases q
      show Q (.bl (inV V.non (l.map xV))) H2
      rw [e]
      exact k _ F2 H2 a2 s2 rfl
end
/-! a text times a number -/
def repS (a : Str) (n : Int) : Str := ⟨(List.replicate n.toNat a.cps).foldl (· ++ ·) #[]⟩
def rRepS : R2 := fun x y H Q => ∃ a k, x = .str a ∧ y = .int k ∧ 2 ≤ k ∧ k ≤ 1000 ∧ a.length = 1 ∧ (repS a k).length ≤ 1000 ∧ Q (.str (repS a k)) H
theorem op_mulS {X : Cx} : OpR X (binaryOp .Mult) rRepS := by
  intro pins s σ H x y v u Q I rx ry h
  obtain ⟨a, k, rfl, rfl, h1, h2, h3, h4, q⟩ := h
  obtain ⟨t, rfl⟩ := rx
  obtain ⟨t', rfl⟩ := ry
  have k1 : ¬ k < 1 := by omega
  have k2 : (k == 1 || a.length == 0) = false := by
    rw [h3, Bool.or_eq_false_iff]
    exact ⟨by rw [beq_eq_false_iff_ne]; omega, rfl⟩
  refine P.mul_str ?_ (fun _ _ => ?_) (fun _ _ => ?_) ?_
  · rw [Bool.or_eq_false_iff]
    exact ⟨decide_eq_false (by omega), decide_eq_false (by omega)⟩
  · rw [h3]
    have : (1 : Int) ≤ (2 ^ 63 - 1) / k := by
      have := Int.le_ediv_of_mul_le (a := 1) (b := 2 ^ 63 - 1) (c := k) (by omega) (by omega)
      exact this
    omega
  · rw [h3]
    have : 1 * k.toNat ≤ 1000 := by omega
    unfold Builtin.Str.tooLong
    exact decide_eq_false (by
      have : (1000 : Nat) < sizeLine := by decide
      omega)
  · rw [if_neg k1, k2, if_neg Bool.false_ne_true]
    refine ⟨?_, .str (repS a k), H, I.tok _, ⟨_, rfl⟩, q⟩
    show (repS a k).length ≤ sizeLine
    exact Nat.le_trans h4 (by decide)
section
variable {W W1 W2 W3 : List Sl} {K : PySem.W.Frag} {te ta tb tc td : TE}
theorem es_mulS {a : Str} {k : Int} (ha : ES ta W W1 (eS a)) (hb : ES tb W1 W2 (eI k)) (g : 2 ≤ k ∧ k ≤ 1000 ∧ a.length = 1 ∧ (repS a k).length ≤ 1000) : ES (tOp rRepS ta tb) W W2 (eS (repS a k)) := fun F H σ Q s k' =>
  ha F H σ _ s fun v F1 H1 a1 s1 e1 => hb F1 H1 σ _ s1 fun w F2 H2 a2 s2 e2 => ⟨a, k, e1, e2, g.1, g.2.1, g.2.2.1, g.2.2.2, k' _ F2 H2 (a1.trans a2) s2 rfl⟩
end
/-! three comparisons in a row -/
def tChain3 (r r' r'' : R2) (ta tb tc td : TE) : TE := fun σ H Q => ta σ H fun x H1 => tb σ H1 fun y H2 => r x y H2 fun z H3 => ∃ k, z = .bl k ∧
  (if k = true then tc σ H3 fun w H4 => r' y w H4 fun z2 H5 => ∃ k2, z2 = .bl k2 ∧ (if k2 = true then td σ H5 fun w' H6 => r'' w w' H6 Q else Q (.bl false) H5) else Q (.bl false) H3)
theorem pe_chain3 {X : Cx} {a b c d : Expr} {pos : Pos} {ta tb tc td : TE} {op op' op'' : CmpOp} {r r' r'' : R2} (ho : OpR X (compareOp op) r) (ho' : OpR X (compareOp op') r') (ho'' : OpR X (compareOp op'') r'') (ha : PE X a ta) (hb : PE X b tb) (hc : PE X c tc) (hd : PE X d td)
    (hm : lastMarks [op, op', op''] [b, c, d] = false := by with_unfolding_all rfl) : PE X (.Compare a [op, op', op''] [b, c, d] pos) (tChain3 r r' r'' ta tb tc td) := by
  refine ⟨fun pins s σ H Q I h => ?_⟩
  refine Compare_chain (thn (ha.run pins s σ H _ I h) fun v s1 ⟨x, H1, I1, r1, q1⟩ => chain_link (thn (hb.run pins s1 σ H1 _ I1 q1) fun u s2 ⟨y, H2, I2, r2, q2⟩ =>
    thn (ho pins s2 σ H2 x y v u _ I2 r1 r2 q2) fun d s3 ⟨z, H3, I3, r3, k, e, q3⟩ => ?_)) hm
  subst e
  cases r3
  refine wpAny_truthy_bool ?_
  cases k with
  | false => exact ite_ff ⟨.bl false, H3, I3, rfl, q3⟩
  | true =>
    refine ite_tt (chain_link (thn (hc.run pins s3 σ H3 _ I3 q3) fun w' s4 ⟨z', H4, I4, r4, q4⟩ => thn (ho' pins s4 σ H4 y z' u w' _ I4 r2 r4 q4) fun d2 s5 ⟨z2, H5, I5, r5, k2, e2, q5⟩ => ?_))
    subst e2
    cases r5
    refine wpAny_truthy_bool ?_
    cases k2 with
    | false => exact ite_ff ⟨.bl false, H5, I5, rfl, q5⟩
    | true => exact ite_tt (chain_last (thn (hd.run pins s5 σ H5 _ I5 q5) fun w'' s6 ⟨z3, H6, I6, r6, q6⟩ => ho'' pins s6 σ H6 z' z3 w' w'' Q I6 r4 r6 q6))
theorem pt_chain3 {X : Cx} {a b c d : Expr} {pos : Pos} {ta tb tc td : TE} {op op' op'' : CmpOp} {r r' r'' : R2} (ho : OpR X (compareOp op) r) (ho' : OpR X (compareOp op') r') (ho'' : OpR X (compareOp op'') r'') (ha : PE X a ta) (hb : PE X b tb) (hc : PE X c tc) (hd : PE X d td)
    (hm : lastMarks [op, op', op''] [b, c, d] = false := by with_unfolding_all rfl) : PT X (.Compare a [op, op', op''] [b, c, d] pos) (tTest (tChain3 r r' r'' ta tb tc td)) := by
  refine ⟨fun pins s σ H Q I h => ?_⟩
  refine isTrue_chain (thn (ha.run pins s σ H _ I h) fun v s1 ⟨x, H1, I1, r1, q1⟩ => test_link (thn (hb.run pins s1 σ H1 _ I1 q1) fun u s2 ⟨y, H2, I2, r2, q2⟩ =>
    thn (ho pins s2 σ H2 x y v u _ I2 r1 r2 q2) fun d s3 ⟨z, H3, I3, r3, k, e, q3⟩ => ?_)) hm
  subst e
  cases r3
  refine wpAny_truthy_bool ?_
  cases k with
  | false =>
    obtain ⟨k', e', q'⟩ := q3
    cases e'
    exact ite_ff ⟨H3, I3, q'⟩
  | true =>
    refine ite_tt (test_link (thn (hc.run pins s3 σ H3 _ I3 q3) fun w' s4 ⟨z', H4, I4, r4, q4⟩ => thn (ho' pins s4 σ H4 y z' u w' _ I4 r2 r4 q4) fun d2 s5 ⟨z2, H5, I5, r5, k2, e2, q5⟩ => ?_))
    subst e2
    cases r5
    refine wpAny_truthy_bool ?_
    cases k2 with
    | false =>
      obtain ⟨k', e', q'⟩ := q5
      cases e'
      exact ite_ff ⟨H5, I5, q'⟩
    | true =>
      refine ite_tt (test_last (thn (hd.run pins s5 σ H5 _ I5 q5) fun w'' s6 ⟨z3, H6, I6, r6, q6⟩ => thn (ho'' pins s6 σ H6 z' z3 w' w'' _ I6 r4 r6 q6) fun d3 s7 ⟨z4, H7, I7, r7, k3, e3, q7⟩ => ?_))
      subst e3
      cases r7
      exact wpAny_truthy_bool ⟨H7, I7, q7⟩
section
variable {W W1 W2 W3 : List Sl} {K : PySem.W.Frag} {ta tb tc td : TE} {x y z w : V} {a b c : Bool}
theorem es_chain3 {g g' g'' : R2} (ha : ES ta W W1 (eV x)) (hb : ES tb W1 W2 (eV y)) (hg : ∀ (H : Hp) (Q : VK), Q (.bl a) H → g x y H Q) (hc : a = true → ES tc W2 W2 (eV z)) (hg' : ∀ (H : Hp) (Q : VK), Q (.bl b) H → g' y z H Q)
    (hd : a = true → b = true → ES td W2 W2 (eV w)) (hg'' : ∀ (H : Hp) (Q : VK), Q (.bl c) H → g'' z w H Q) : ES (tChain3 g g' g'' ta tb tc td) W W2 (eB (a && (b && c))) := fun F H σ Q s k =>
  ha F H σ _ s fun v F1 H1 a1 s1 e1 => hb F1 H1 σ _ s1 fun w1 F2 H2 a2 s2 e2 => by
    have e1' : v = x := e1
    have e2' : w1 = y := e2
    subst e1' e2'
    refine hg H2 _ ⟨a, rfl, ?_⟩
    cases a with
    | false =>
      rw [if_neg Bool.false_ne_true]
      exact k _ F2 H2 (a1.trans a2) s2 rfl
    | true =>
      rw [if_pos rfl]
      refine hc rfl F2 H2 σ _ s2 fun w' F3 H3 a3 s3 e3 => ?_
      have e3' : w' = z := e3
      subst e3'
      refine hg' H3 _ ⟨b, rfl, ?_⟩
      cases b with
      | false =>
        rw [if_neg Bool.false_ne_true]
        exact k _ F3 H3 ((a1.trans a2).trans a3) s3 rfl
      | true =>
        rw [if_pos rfl]
        refine hd rfl rfl F3 H3 σ _ s3 fun w'' F4 H4 a4 s4 e4 => ?_
        have e4' : w'' = w := e4
        subst e4'
        exact hg'' H4 Q (k _ F4 H4 (((a1.trans a2).trans a3).trans a4) s4 rfl)
end
end Fw
end
section
set_option maxRecDepth 100000
set_option maxHeartbeats 800000
namespace My
open PySem L2 Fw
def top (i : Nat) : Stmt := PySem.Challenge.pw_hashdoors_k27_texts_refused.main.body.getD i (.Pass ⟨0, 0, 0, 0⟩)

abbrev eTbl (C : Addr) (t : Tbl) : R := eIns C [("own_capacity", eI t.capacity), ("own_rate", eI t.rate), ("own_shift", eI t.shift)]
def m_is_int (value_1 : Int) : Bool :=
true && (!false)
def m_is_int_ok (value_1 : Int) : Prop :=
True
def sp_is_int (K : PySem.W.Frag) (CT : Nat → Addr) : Sp := spF (ι := Int) (fun d => [eI d]) (fun d => m_is_int_ok d) (fun d => eB (m_is_int d))
abbrev s_is_int : Stmt := top 23
abbrev N_is_int : List Str := ["value"]
theorem sc_is_int : FnScope N_is_int ["value"] (defScope s_is_int) := ⟨rfl, rfl, rfl, by decide +kernel, rfl, by decide +kernel, by decide +kernel⟩
section
variable {P : Program} {w : World} {K : PySem.W.Frag} {mg : Str → Option Value} {base : Heap} {CT : Nat → Addr}
theorem ok_is_int {f : Addr} {fd : FuncData} (F : Fun K "is_int" "is_int" s_is_int f fd) (n_bool : mg "bool" = none) (n_int : mg "int" = none) (n_isinstance : mg "isinstance" = none) : FnG P w K mg base CX0 1 f fd ["value"] (sp_is_int K CT) := by
  refine Fun.okG F sc_is_int (fun vs H Q E h => ?_) (fun cdv A outer s H vs Q E hG hr h => ?_)
  · obtain ⟨d, F, _, _, h, _⟩ := h
    exact h.len
  · have nd := sc_is_int.nd
    have hU := hr.units
    refine ⟨_, (pss_cons (ps_ret (pe_and (pe_callB call_isi rfl n_isinstance (by decide +kernel) (pa_cons (pv 0) (pa_cons (pe_bltn (v := .ty "int") rfl n_int (by decide +kernel) rfl) pa_nil))) (pe_one (pe_not (pe_callB call_isi rfl n_isinstance (by decide +kernel) (pa_cons (pv 0) (pa_cons (pe_bltn (v := .ty "bool") rfl n_bool (by decide +kernel) rfl) pa_nil)))))))
 pss_nil), ?_⟩
    refine def_F h (fun d => Nat.le_of_ble_eq_true rfl) (fun value_1 h => ?_)
    replace h : m_is_int_ok value_1 := h
    unfold m_is_int_ok at h
    show SS _ [.fz (eI value_1)] (FP eB (m_is_int value_1))
    refine ss_retq (es_andV (es_isi (b := true) (es_var 0 rfl) (.ty "int") ty_int (kit_ty (by decide +kernel))) (fun hc10 => (es_notV (es_isi (b := false) (es_var 0 rfl) (.ty "bool") ty_int (kit_ty (by decide +kernel)))))) ?_
    exact rfl
end
def m_is_int__2 (value_1 : U) : Bool :=
(U.isT value_1 1) && (!(U.isT value_1 2))
def m_is_int__2_ok (value_1 : U) : Prop :=
True
def sp_is_int__2 (K : PySem.W.Frag) (CT : Nat → Addr) : Sp := spF (ι := U) (fun d => [(eU (CT 18)) d]) (fun d => m_is_int__2_ok d) (fun d => eB (m_is_int__2 d))
abbrev s_is_int__2 : Stmt := top 23
abbrev N_is_int__2 : List Str := ["value"]
theorem sc_is_int__2 : FnScope N_is_int__2 ["value"] (defScope s_is_int__2) := ⟨rfl, rfl, rfl, by decide +kernel, rfl, by decide +kernel, by decide +kernel⟩
section
variable {P : Program} {w : World} {K : PySem.W.Frag} {mg : Str → Option Value} {base : Heap} {CT : Nat → Addr}
theorem ok_is_int__2 {f : Addr} {fd : FuncData} (F : Fun K "is_int" "is_int" s_is_int__2 f fd) (n_bool : mg "bool" = none) (n_int : mg "int" = none) (n_isinstance : mg "isinstance" = none) (TY : TbTy K (CT 18)) : FnG P w K mg base CX0 1 f fd ["value"] (sp_is_int__2 K CT) := by
  refine Fun.okG F sc_is_int__2 (fun vs H Q E h => ?_) (fun cdv A outer s H vs Q E hG hr h => ?_)
  · obtain ⟨d, F, _, _, h, _⟩ := h
    exact h.len
  · have nd := sc_is_int__2.nd
    have hU := hr.units
    refine ⟨_, (pss_cons (ps_ret (pe_and (pe_callB call_isi rfl n_isinstance (by decide +kernel) (pa_cons (pv 0) (pa_cons (pe_bltn (v := .ty "int") rfl n_int (by decide +kernel) rfl) pa_nil))) (pe_one (pe_not (pe_callB call_isi rfl n_isinstance (by decide +kernel) (pa_cons (pv 0) (pa_cons (pe_bltn (v := .ty "bool") rfl n_bool (by decide +kernel) rfl) pa_nil)))))))
 pss_nil), ?_⟩
    refine def_F h (fun d => Nat.le_of_ble_eq_true rfl) (fun value_1 h => ?_)
    replace h : m_is_int__2_ok value_1 := h
    unfold m_is_int__2_ok at h
    show SS _ [.fz ((eU (CT 18)) value_1)] (FP eB (m_is_int__2 value_1))
    refine ss_retq (es_andV (es_isU (n := 1) TY (by decide) (es_var 0 rfl)) (fun hc10 => (es_notV (es_isU (n := 2) TY (by decide) (es_var 0 rfl))))) ?_
    exact rfl
end
def m_is_whole (value_1 : Int) (low_2 : Int) (high_3 : Int) : Bool :=
(m_is_int value_1) && ((decide (low_2 ≤ value_1)) && (decide (value_1 ≤ high_3)))
def m_is_whole_ok (value_1 : Int) (low_2 : Int) (high_3 : Int) : Prop :=
(m_is_int_ok value_1) ∧ True
def sp_is_whole (K : PySem.W.Frag) (CT : Nat → Addr) : Sp := spF (ι := Int × Int × Int) (fun d => [eI d.1, eI d.2.1, eI d.2.2]) (fun d => m_is_whole_ok d.1 d.2.1 d.2.2) (fun d => eB (m_is_whole d.1 d.2.1 d.2.2))
abbrev s_is_whole : Stmt := top 24
abbrev N_is_whole : List Str := ["value", "low", "high"]
theorem sc_is_whole : FnScope N_is_whole ["value", "low", "high"] (defScope s_is_whole) := ⟨rfl, rfl, rfl, by decide +kernel, rfl, by decide +kernel, by decide +kernel⟩
section
variable {P : Program} {w : World} {K : PySem.W.Frag} {mg : Str → Option Value} {base : Heap} {CT : Nat → Addr}
theorem ok_is_whole {f : Addr} {fd : FuncData} (F : Fun K "is_whole" "is_whole" s_is_whole f fd) {a_is_int : Addr} {fd_is_int : FuncData} (F_is_int : Fun K "is_int" "is_int" s_is_int a_is_int fd_is_int) (G_is_int : FnG P w K mg base CX0 1 a_is_int fd_is_int ["value"] (sp_is_int K CT)) (j_is_int : mg "is_int" = some (.ref a_is_int)) (b_is_int : Binds K fd_is_int ["value"] []) : FnG P w K mg base CX0 2 f fd ["value", "low", "high"] (sp_is_whole K CT) := by
  refine Fun.okG F sc_is_whole (fun vs H Q E h => ?_) (fun cdv A outer s H vs Q E hG hr h => ?_)
  · obtain ⟨d, F, _, _, h, _⟩ := h
    exact h.len
  · have nd := sc_is_whole.nd
    have hU := hr.units
    refine ⟨_, (pss_cons (ps_ret (pe_and (pg_call G_is_int hG (hr.mono (by decide)) rfl j_is_int F_is_int.kp b_is_int .nil pass0 (pa_cons (pv 0) pa_nil)) (pe_one (pe_chain op_le op_le (pv 1) (pv 0) (pv 2)))))
 pss_nil), ?_⟩
    refine def_F h (fun d => Nat.le_of_ble_eq_true rfl) (fun d h => ?_)
    obtain ⟨value_1, low_2, high_3⟩ := d
    replace h : m_is_whole_ok value_1 low_2 high_3 := h
    unfold m_is_whole_ok at h
    show SS _ [.fz (eI value_1), .fz (eI low_2), .fz (eI high_3)] (FP eB (m_is_whole value_1 low_2 high_3))
    obtain ⟨g1, h⟩ := h
    refine ss_retq (es_andV (es_call value_1 (as_cons (es_var 0 rfl) as_nil) g1) (fun hc10 => (es_chain (es_var 1 rfl) (es_var 0 rfl) q_le (fun hc => (es_var 2 rfl)) q_le))) ?_
    exact rfl
end
def m_is_whole__2 (value_1 : U) (low_2 : Int) (high_3 : Int) : Bool :=
(m_is_int__2 value_1) && ((decide (low_2 ≤ (U.unI value_1))) && (decide ((U.unI value_1) ≤ high_3)))
def m_is_whole__2_ok (value_1 : U) (low_2 : Int) (high_3 : Int) : Prop :=
(m_is_int__2_ok value_1) ∧ ((m_is_int__2 value_1) = true → U.ty value_1 = 1) ∧ True
def sp_is_whole__2 (K : PySem.W.Frag) (CT : Nat → Addr) : Sp := spF (ι := U × Int × Int) (fun d => [(eU (CT 18)) d.1, eI d.2.1, eI d.2.2]) (fun d => m_is_whole__2_ok d.1 d.2.1 d.2.2) (fun d => eB (m_is_whole__2 d.1 d.2.1 d.2.2))
abbrev s_is_whole__2 : Stmt := top 24
abbrev N_is_whole__2 : List Str := ["value", "low", "high"]
theorem sc_is_whole__2 : FnScope N_is_whole__2 ["value", "low", "high"] (defScope s_is_whole__2) := ⟨rfl, rfl, rfl, by decide +kernel, rfl, by decide +kernel, by decide +kernel⟩
section
variable {P : Program} {w : World} {K : PySem.W.Frag} {mg : Str → Option Value} {base : Heap} {CT : Nat → Addr}
theorem ok_is_whole__2 {f : Addr} {fd : FuncData} (F : Fun K "is_whole" "is_whole" s_is_whole__2 f fd) {a_is_int__2 : Addr} {fd_is_int__2 : FuncData} (F_is_int__2 : Fun K "is_int" "is_int" s_is_int__2 a_is_int__2 fd_is_int__2) (G_is_int__2 : FnG P w K mg base CX0 1 a_is_int__2 fd_is_int__2 ["value"] (sp_is_int__2 K CT)) (j_is_int__2 : mg "is_int" = some (.ref a_is_int__2)) (b_is_int__2 : Binds K fd_is_int__2 ["value"] []) : FnG P w K mg base CX0 2 f fd ["value", "low", "high"] (sp_is_whole__2 K CT) := by
  refine Fun.okG F sc_is_whole__2 (fun vs H Q E h => ?_) (fun cdv A outer s H vs Q E hG hr h => ?_)
  · obtain ⟨d, F, _, _, h, _⟩ := h
    exact h.len
  · have nd := sc_is_whole__2.nd
    have hU := hr.units
    refine ⟨_, (pss_cons (ps_ret (pe_and (pg_call G_is_int__2 hG (hr.mono (by decide)) rfl j_is_int__2 F_is_int__2.kp b_is_int__2 .nil pass0 (pa_cons (pv 0) pa_nil)) (pe_one (pe_chain op_le op_le (pv 1) (pv 0) (pv 2)))))
 pss_nil), ?_⟩
    refine def_F h (fun d => Nat.le_of_ble_eq_true rfl) (fun d h => ?_)
    obtain ⟨value_1, low_2, high_3⟩ := d
    replace h : m_is_whole__2_ok value_1 low_2 high_3 := h
    unfold m_is_whole__2_ok at h
    show SS _ [.fz ((eU (CT 18)) value_1), .fz (eI low_2), .fz (eI high_3)] (FP eB (m_is_whole__2 value_1 low_2 high_3))
    obtain ⟨g1, g2, h⟩ := h
    refine ss_retq (es_andV (es_call value_1 (as_cons (es_var 0 rfl) as_nil) g1) (fun hc10 => (es_chain (es_var 1 rfl) (es_unI (es_var 0 rfl) (g2 hc10)) q_le (fun hc => (es_var 2 rfl)) q_le))) ?_
    exact rfl
end
def m_is_span__2 (value_1 : U) (ahead_2 : Int) : Bool :=
if ((!(U.isT value_1 4)) || ((!decide (((U.els value_1).length : Int) = 2)) || (!(m_is_whole__2 (nth (U.els value_1) 0) ahead_2 (1000000000000000000000000000000 - 1))))) = true then (
false)
else (
m_is_whole__2 (nth (U.els value_1) 1) ((U.unI (nth (U.els value_1) 0)) + 1) 1000000000000000000000000000000)
def m_is_span__2_ok (value_1 : U) (ahead_2 : Int) : Prop :=
((!(U.isT value_1 4)) = false → U.ty value_1 = 4 ∨ U.ty value_1 = 5) ∧ ((!(U.isT value_1 4)) = false → (!decide (((U.els value_1).length : Int) = 2)) = false → U.ty value_1 = 4 ∧ 0 < (U.els value_1).length) ∧ ((!(U.isT value_1 4)) = false → (!decide (((U.els value_1).length : Int) = 2)) = false → m_is_whole__2_ok (nth (U.els value_1) 0) ahead_2 (1000000000000000000000000000000 - 1)) ∧ (((!(U.isT value_1 4)) || ((!decide (((U.els value_1).length : Int) = 2)) || (!(m_is_whole__2 (nth (U.els value_1) 0) ahead_2 (1000000000000000000000000000000 - 1))))) = true → (True)) ∧ (((!(U.isT value_1 4)) || ((!decide (((U.els value_1).length : Int) = 2)) || (!(m_is_whole__2 (nth (U.els value_1) 0) ahead_2 (1000000000000000000000000000000 - 1))))) = false → ((U.ty value_1 = 4 ∧ 1 < (U.els value_1).length) ∧ (U.ty value_1 = 4 ∧ 0 < (U.els value_1).length) ∧ (U.ty (nth (U.els value_1) 0) = 1) ∧ (m_is_whole__2_ok (nth (U.els value_1) 1) ((U.unI (nth (U.els value_1) 0)) + 1) 1000000000000000000000000000000) ∧ True))
def sp_is_span__2 (K : PySem.W.Frag) (CT : Nat → Addr) : Sp := spF (ι := U × Int) (fun d => [(eU (CT 18)) d.1, eI d.2]) (fun d => m_is_span__2_ok d.1 d.2) (fun d => eB (m_is_span__2 d.1 d.2))
abbrev s_is_span__2 : Stmt := top 25
abbrev N_is_span__2 : List Str := ["value", "ahead"]
theorem sc_is_span__2 : FnScope N_is_span__2 ["value", "ahead"] (defScope s_is_span__2) := ⟨rfl, rfl, rfl, by decide +kernel, rfl, by decide +kernel, by decide +kernel⟩
section
variable {P : Program} {w : World} {K : PySem.W.Frag} {mg : Str → Option Value} {base : Heap} {CT : Nat → Addr}
theorem ok_is_span__2 {f : Addr} {fd : FuncData} (F : Fun K "is_span" "is_span" s_is_span__2 f fd) {a_is_whole__2 : Addr} {fd_is_whole__2 : FuncData} (F_is_whole__2 : Fun K "is_whole" "is_whole" s_is_whole__2 a_is_whole__2 fd_is_whole__2) (G_is_whole__2 : FnG P w K mg base CX0 2 a_is_whole__2 fd_is_whole__2 ["value", "low", "high"] (sp_is_whole__2 K CT)) (j_is_whole__2 : mg "is_whole" = some (.ref a_is_whole__2)) (b_is_whole__2 : Binds K fd_is_whole__2 ["value", "low", "high"] []) (n_isinstance : mg "isinstance" = none) (n_len : mg "len" = none) (n_tuple : mg "tuple" = none) (c_MOST_KEY : ∃ t, mg "MOST_KEY" = some (.int 1000000000000000000000000000000 t)) (TY : TbTy K (CT 18)) : FnG P w K mg base CX0 3 f fd ["value", "ahead"] (sp_is_span__2 K CT) := by
  obtain ⟨t_MOST_KEY, c_MOST_KEY⟩ := c_MOST_KEY
  refine Fun.okG F sc_is_span__2 (fun vs H Q E h => ?_) (fun cdv A outer s H vs Q E hG hr h => ?_)
  · obtain ⟨d, F, _, _, h, _⟩ := h
    exact h.len
  · have nd := sc_is_span__2.nd
    have hU := hr.units
    refine ⟨_, (pss_cons (ps_if (PW.pt (pw_or (pt_not (pt_val (pe_callB call_isi rfl n_isinstance (by decide +kernel) (pa_cons (pv 0) (pa_cons (pe_bltn (v := .ty "tuple") rfl n_tuple (by decide +kernel) rfl) pa_nil))))) (pw_or (pt_cmpR op_ne (pe_callB (call_len_seqK (K := K) rfl) rfl n_len (by decide +kernel) (pa_cons (pv 0) pa_nil)) pe_int (nomark _)) (pw_or1 (pt_not (pt_val (pg_call G_is_whole__2 hG (hr.mono (by decide)) rfl j_is_whole__2 F_is_whole__2.kp b_is_whole__2 .nil pass0 (pa_cons (pe_ix (ix_tupK (K := K) rfl) (pv 0) pe_int (fun _ _ => rfl)) (pa_cons (pv 1) (pa_cons (pe_op op_sub (pe_glob (v := .int 1000000000000000000000000000000) rfl c_MOST_KEY ⟨_, rfl⟩) pe_int) pa_nil)))))))))) (pss_cons (ps_ret pe_bl)
 pss_nil) pss_nil)
 (pss_cons (ps_ret (pg_call G_is_whole__2 hG (hr.mono (by decide)) rfl j_is_whole__2 F_is_whole__2.kp b_is_whole__2 .nil pass0 (pa_cons (pe_ix (ix_tupK (K := K) rfl) (pv 0) pe_int (fun _ _ => rfl)) (pa_cons (pe_op op_add (pe_ix (ix_tupK (K := K) rfl) (pv 0) pe_int (fun _ _ => rfl)) pe_int) (pa_cons (pe_glob (v := .int 1000000000000000000000000000000) rfl c_MOST_KEY ⟨_, rfl⟩) pa_nil)))))
 pss_nil)), ?_⟩
    refine def_F h (fun d => Nat.le_of_ble_eq_true rfl) (fun d h => ?_)
    obtain ⟨value_1, ahead_2⟩ := d
    replace h : m_is_span__2_ok value_1 ahead_2 := h
    unfold m_is_span__2_ok at h
    show SS _ [.fz ((eU (CT 18)) value_1), .fz (eI ahead_2)] (FP eB (m_is_span__2 value_1 ahead_2))
    obtain ⟨g1, g2, g3, h⟩ := h
    obtain ⟨hA, hB⟩ := h
    refine ss_ifLv (FP eB) (et_or (et_not (et_val (es_isU (n := 4) TY (by decide) (es_var 0 rfl)))) (fun hc10 => (et_or (et_cmp (es_lenU (es_var 0 rfl) (g1 hc10)) es_c q_neI) (fun hc11 => (et_not (et_val (es_call (nth (U.els value_1) 0, ahead_2, 1000000000000000000000000000000 - 1) (as_cons (es_ixU (K := K) (k := 0) (es_var 0 rfl) (g2 hc10 hc11)) (as_cons (es_var 1 rfl) (as_cons (es_sub es_c es_c) as_nil))) (g3 hc10 hc11)))))))) (fun hc => ?_) (fun hc => ?_)
    · replace h := hA hc; clear hA hB
      refine ss_retq es_c ?_
      exact rfl
    · replace h := hB hc; clear hA hB
      refine ss_nxq ?_
      obtain ⟨g4, g5, g6, g7, h⟩ := h
      refine ss_retq (es_call (nth (U.els value_1) 1, (U.unI (nth (U.els value_1) 0)) + 1, 1000000000000000000000000000000) (as_cons (es_ixU (K := K) (k := 1) (es_var 0 rfl) g4) (as_cons (es_add (es_unI (es_ixU (K := K) (k := 0) (es_var 0 rfl) g5) g6) es_c) (as_cons es_c as_nil))) g7) ?_
      exact rfl
end
def m_Table___init__ (capacity_2 : Int) (rate_3 : Int) (shift_4 : Int) : Unit :=
()
def m_Table___init___ok (capacity_2 : Int) (rate_3 : Int) (shift_4 : Int) : Prop :=
(m_is_whole_ok capacity_2 1 1000000000000000000000000000000) ∧ (!(m_is_whole capacity_2 1 1000000000000000000000000000000)) = false ∧ ((m_is_whole_ok rate_3 1 1000000000000000000000000000000) ∧ ((!(m_is_whole rate_3 1 1000000000000000000000000000000)) || (decide ((Builtin.bitAnd rate_3 1) = 0))) = false ∧ ((m_is_whole_ok shift_4 0 1000000000000000000000000000000) ∧ (!(m_is_whole shift_4 0 1000000000000000000000000000000)) = false ∧ ((((True))))))
def sp_Table___init__ (K : PySem.W.Frag) (CT : Nat → Addr) : Sp := spI (ι := Int × Int × Int) (CT 18) (fun d => [eI d.1, eI d.2.1, eI d.2.2]) (fun d => m_Table___init___ok d.1 d.2.1 d.2.2) (fun d => [("own_capacity", eI d.1), ("own_rate", eI d.2.1), ("own_shift", eI d.2.2)])
abbrev s_Table___init__ : Stmt := inClass (top 29) 0
abbrev N_Table___init__ : List Str := ["self", "capacity", "rate", "shift"]
theorem sc_Table___init__ : FnScope N_Table___init__ ["self", "capacity", "rate", "shift"] (defScope s_Table___init__) := ⟨rfl, rfl, rfl, by decide +kernel, rfl, by decide +kernel, by decide +kernel⟩
section
variable {P : Program} {w : World} {K : PySem.W.Frag} {mg : Str → Option Value} {base : Heap} {CT : Nat → Addr}
theorem ok_Table___init__ {f : Addr} {fd : FuncData} (F : Fun K "__init__" "Table.__init__" s_Table___init__ f fd) {a_is_whole : Addr} {fd_is_whole : FuncData} (F_is_whole : Fun K "is_whole" "is_whole" s_is_whole a_is_whole fd_is_whole) (G_is_whole : FnG P w K mg base CX0 2 a_is_whole fd_is_whole ["value", "low", "high"] (sp_is_whole K CT)) (j_is_whole : mg "is_whole" = some (.ref a_is_whole)) (b_is_whole : Binds K fd_is_whole ["value", "low", "high"] []) (c_MOST_KEY : ∃ t, mg "MOST_KEY" = some (.int 1000000000000000000000000000000 t)) (TT : TblTxt K mg (CT 18)) : FnG P w K mg base CX0 3 f fd ["self", "capacity", "rate", "shift"] (sp_Table___init__ K CT) := by
  obtain ⟨t_MOST_KEY, c_MOST_KEY⟩ := c_MOST_KEY
  obtain ⟨clT, na_own_capacity, na_own_rate, na_own_shift, mgT, isT, xaT, xbT, xcT, xdT⟩ := TT
  refine Fun.okG F sc_Table___init__ (fun vs H Q E h => ?_) (fun cdv A outer s H vs Q E hG hr h => ?_)
  · obtain ⟨d, F, p, dx, ws, rfl, _, _, _, _, h, _⟩ := h
    exact congrArg (· + 1) h.len
  · have nd := sc_Table___init__.nd
    have hU := hr.units
    refine ⟨_, (pss_cons (ps_if (pt_not (pt_val (pg_call G_is_whole hG (hr.mono (by decide)) rfl j_is_whole F_is_whole.kp b_is_whole .nil pass0 (pa_cons (pv 1) (pa_cons pe_int (pa_cons (pe_glob (v := .int 1000000000000000000000000000000) rfl c_MOST_KEY ⟨_, rfl⟩) pa_nil)))))) (pss_one ps_never) pss_nil)
 (pss_cons (ps_if (PW.pt (pw_or (pt_not (pt_val (pg_call G_is_whole hG (hr.mono (by decide)) rfl j_is_whole F_is_whole.kp b_is_whole .nil pass0 (pa_cons (pv 2) (pa_cons pe_int (pa_cons (pe_glob (v := .int 1000000000000000000000000000000) rfl c_MOST_KEY ⟨_, rfl⟩) pa_nil)))))) (pw_or1 (pt_cmpR op_eq (pe_op op_and (pv 2) pe_int) pe_int (nomark _))))) (pss_one ps_never) pss_nil)
 (pss_cons (ps_if (pt_not (pt_val (pg_call G_is_whole hG (hr.mono (by decide)) rfl j_is_whole F_is_whole.kp b_is_whole .nil pass0 (pa_cons (pv 3) (pa_cons pe_int (pa_cons (pe_glob (v := .int 1000000000000000000000000000000) rfl c_MOST_KEY ⟨_, rfl⟩) pa_nil)))))) (pss_one ps_never) pss_nil)
 (pss_cons (ps_fld (pv 0) (pv 1) rfl)
 (pss_cons (ps_fld (pv 0) (pv 2) rfl)
 (pss_cons (ps_fld (pv 0) (pv 3) rfl)
 pss_nil)))))), ?_⟩
    refine def_I h (fun d => Nat.le_of_ble_eq_true rfl) (fun d p h => ?_)
    obtain ⟨capacity_2, rate_3, shift_4⟩ := d
    replace h : m_Table___init___ok capacity_2 rate_3 shift_4 := h
    unfold m_Table___init___ok at h
    show SS _ [.ow (oI (some p) (CT 18) []), .fz (eI capacity_2), .fz (eI rate_3), .fz (eI shift_4)] ⟨fun W' => W'[0]? = some (.ow (oI (some p) (CT 18) [("own_capacity", eI capacity_2), ("own_rate", eI rate_3), ("own_shift", eI shift_4)])), fun _ _ => False, fun _ => False, fun _ => False⟩
    obtain ⟨g1, h⟩ := h
    obtain ⟨hn, h⟩ := h
    refine ss_ifL (et_not (et_val (es_call (capacity_2, 1, 1000000000000000000000000000000) (as_cons (es_var 1 rfl) (as_cons es_c (as_cons es_c as_nil))) g1))) (fun hc => absurd (hc.symm.trans hn) (by decide)) (fun _ => ss_nxq ?_)
    obtain ⟨g2, h⟩ := h
    obtain ⟨hn, h⟩ := h
    refine ss_ifL (et_or (et_not (et_val (es_call (rate_3, 1, 1000000000000000000000000000000) (as_cons (es_var 2 rfl) (as_cons es_c (as_cons es_c as_nil))) g2))) (fun hc10 => (et_cmp (es_and (es_var 2 rfl) es_c) es_c q_eqI))) (fun hc => absurd (hc.symm.trans hn) (by decide)) (fun _ => ss_nxq ?_)
    obtain ⟨g3, h⟩ := h
    obtain ⟨hn, h⟩ := h
    refine ss_ifL (et_not (et_val (es_call (shift_4, 0, 1000000000000000000000000000000) (as_cons (es_var 3 rfl) (as_cons es_c (as_cons es_c as_nil))) g3))) (fun hc => absurd (hc.symm.trans hn) (by decide)) (fun _ => ss_nxq ?_)
    refine ss_seqTo [.ow (oI (some p) (CT 18) [("own_capacity", eI capacity_2)]), .fz (eI capacity_2), .fz (eI rate_3), .fz (eI shift_4)] (ss_fldN clT na_own_capacity (es_var 1 rfl) rfl (Nat.le_of_ble_eq_true rfl) (by simp only [List.map_cons, List.map_nil]; decide +kernel) Wk.refl) ?_
    refine ss_seqTo [.ow (oI (some p) (CT 18) [("own_capacity", eI capacity_2), ("own_rate", eI rate_3)]), .fz (eI capacity_2), .fz (eI rate_3), .fz (eI shift_4)] (ss_fldN clT na_own_rate (es_var 2 rfl) rfl (Nat.le_of_ble_eq_true rfl) (by simp only [List.map_cons, List.map_nil]; decide +kernel) Wk.refl) ?_
    refine ss_seqTo [.ow (oI (some p) (CT 18) [("own_capacity", eI capacity_2), ("own_rate", eI rate_3), ("own_shift", eI shift_4)]), .fz (eI capacity_2), .fz (eI rate_3), .fz (eI shift_4)] (ss_fldN clT na_own_shift (es_var 3 rfl) rfl (Nat.le_of_ble_eq_true rfl) (by simp only [List.map_cons, List.map_nil]; decide +kernel) Wk.refl) ?_
    exact ss_nx rfl
end
def m_whole_in (word_1 : Str) : Option Int :=
if ((decide (word_1 = (Str.ofString ""))) || ((decide (100 < (word_1.length : Int))) || (!((List.map (fun (x_2 : Str) => inS x_2 (Str.ofString "0123456789")) (signs word_1)).all id)))) = true then (
(none : Option Int))
else (
if ((decide ((ixS word_1 (0 : Int)) = (Str.ofString "0"))) && (!decide (word_1 = (Str.ofString "0")))) = true then (none : Option Int) else some (intS word_1))
def m_whole_in_ok (word_1 : Str) : Prop :=
((decide (word_1 = (Str.ofString ""))) = false → word_1.length ≤ sizeLine) ∧ ((decide (word_1 = (Str.ofString ""))) = false → (decide (100 < (word_1.length : Int))) = false → (signs word_1).length < 16000000) ∧ (((decide (word_1 = (Str.ofString ""))) || ((decide (100 < (word_1.length : Int))) || (!((List.map (fun (x_2 : Str) => inS x_2 (Str.ofString "0123456789")) (signs word_1)).all id)))) = true → (True)) ∧ (((decide (word_1 = (Str.ofString ""))) || ((decide (100 < (word_1.length : Int))) || (!((List.map (fun (x_2 : Str) => inS x_2 (Str.ofString "0123456789")) (signs word_1)).all id)))) = false → ((word_1.length ≤ sizeLine ∧ (atI word_1.cps.toList (0 : Int)).isSome = true) ∧ (((decide ((ixS word_1 (0 : Int)) = (Str.ofString "0"))) && (!decide (word_1 = (Str.ofString "0")))) = false → (PySem.intText? word_1).isSome = true ∧ word_1.length ≤ 640) ∧ True))
def sp_whole_in (K : PySem.W.Frag) (CT : Nat → Addr) : Sp := spF (ι := Str) (fun d => [eS d]) (fun d => m_whole_in_ok d) (fun d => (eO eI) (m_whole_in d))
abbrev s_whole_in : Stmt := top 35
abbrev N_whole_in : List Str := ["word", "sign"]
theorem sc_whole_in : FnScope N_whole_in ["word"] (defScope s_whole_in) := ⟨rfl, rfl, rfl, by decide +kernel, rfl, by decide +kernel, by decide +kernel⟩
section
variable {P : Program} {w : World} {K : PySem.W.Frag} {mg : Str → Option Value} {base : Heap} {CT : Nat → Addr}
theorem ok_whole_in {f : Addr} {fd : FuncData} (F : Fun K "whole_in" "whole_in" s_whole_in f fd) (n_all : mg "all" = none) (n_int : mg "int" = none) (n_len : mg "len" = none) (c_MOST_DIGITS : ∃ t, mg "MOST_DIGITS" = some (.int 100 t)) : FnG P w K mg base CX0 1 f fd ["word"] (sp_whole_in K CT) := by
  obtain ⟨t_MOST_DIGITS, c_MOST_DIGITS⟩ := c_MOST_DIGITS
  refine Fun.okG F sc_whole_in (fun vs H Q E h => ?_) (fun cdv A outer s H vs Q E hG hr h => ?_)
  · obtain ⟨d, F, _, _, h, _⟩ := h
    exact h.len
  · have nd := sc_whole_in.nd
    have hU := hr.units
    refine ⟨_, (pss_cons (ps_if (PW.pt (pw_or (pt_cmpR op_eq (pv 0) pe_str (nomark _)) (pw_or (pt_cmpR op_gt (pe_callB call_len_str rfl n_len (by decide +kernel) (pa_cons (pv 0) pa_nil)) (pe_glob (v := .int 100) rfl c_MOST_DIGITS ⟨_, rfl⟩) (nomark _)) (pw_or1 (pt_not (pt_val (pe_callB (cr_all rfl) rfl n_all (by decide +kernel) (pa_cons (pe_lc (own := [("sign", 1)]) (g := gName 1) (tt := tYes) rfl nd (pi_str (pv 0)) (blkOk_by (own := [("sign", 1)]) (N := N_whole_in) (sc := defScope s_whole_in) (by decide +kernel)) (fun _ _ _ _ _ => pg_name (i := 1) nd rfl (by first | exact .inl rfl | exact .inr rfl)) (fun _ _ _ _ _ => pts_nil) (fun _ _ _ _ _ => (pe_cmpR op_in_str (pv 1) pe_str (by rfl)))) pa_nil)))))))) (pss_cons (ps_ret pe_non)
 pss_nil) pss_nil)
 (pss_cons (ps_ret (pe_ifExp (PW.pt (pw_and (pt_cmpR op_eq (pe_ix ix_str (pv 0) pe_int (fun _ _ => rfl)) pe_str (nomark _)) (pw_and1 (pt_cmpR op_ne (pv 0) pe_str (nomark _))))) pe_non (pe_callTy call_int_str rfl n_int (by decide +kernel) (pa_cons (pv 0) pa_nil))))
 pss_nil)), ?_⟩
    refine def_F h (fun d => Nat.le_of_ble_eq_true rfl) (fun word_1 h => ?_)
    replace h : m_whole_in_ok word_1 := h
    unfold m_whole_in_ok at h
    show SS _ [.fz (eS word_1), .no] (FP (eO eI) (m_whole_in word_1))
    obtain ⟨g1, g2, h⟩ := h
    obtain ⟨hA, hB⟩ := h
    refine ss_ifLv (FP (eO eI)) (et_or (et_cmp (es_var 0 rfl) es_c q_eqS) (fun hc10 => (et_or (et_cmp (es_lenS (es_var 0 rfl) (g1 hc10)) es_c q_gt) (fun hc11 => (et_not (et_val (es_all (es_frs eB (List.map (fun (x_2 : Str) => inS x_2 (Str.ofString "0123456789")) (signs word_1)) (en_lcF eB (fun (x_2 : Str) => inS x_2 (Str.ofString "0123456789")) (en_lcS (e := eS) (l := (signs word_1)) (f := (fun (x_2 : Str) => eB (inS x_2 (Str.ofString "0123456789")))) (is := [1]) (vs := [1]) (fun (x_2 : Str) => true) (fun (x_2 : Str) => [.fz (eS word_1), .fz (eS x_2)]) (is_str (es_var 0 rfl)) (g2 hc10 hc11) (fun _ h => h) (fun x_2 => gs_name 1) (fun x_2 hx => et_yes) (fun x_2 hx _ => (es_inS (es_var 1 rfl) es_c)))))))))))) (fun hc => ?_) (fun hc => ?_)
    · replace h := hA hc; clear hA hB
      refine ss_retq es_c ?_
      exact rfl
    · replace h := hB hc; clear hA hB
      refine ss_nxq ?_
      obtain ⟨g3, g4, h⟩ := h
      refine ss_retq (es_if (e := (eO eI)) (p := (none : Option Int)) (q := (some (intS word_1))) (et_and (et_cmp (es_ixS (es_var 0 rfl) es_c g3) es_c q_eqS) (fun hc20 => (et_cmp (es_var 0 rfl) es_c q_neS))) (fun hc => es_c) (fun hc => (es_intS (es_var 0 rfl) (g4 hc)))) ?_
      exact rfl
end
def m_fits (index_1 : Int) (number_2 : Option Int) : Bool :=
if (!(m_is_whole__2 (U.ofO number_2) (b2i (decide (index_1 < (3 - 1)))) 1000000000000000000000000000000)) = true then (
false)
else (
(!decide (index_1 = 1)) || (decide (((unO number_2) % 2) = 1)))
def m_fits_ok (index_1 : Int) (number_2 : Option Int) : Prop :=
(m_is_whole__2_ok (U.ofO number_2) (b2i (decide (index_1 < (3 - 1)))) 1000000000000000000000000000000) ∧ ((!(m_is_whole__2 (U.ofO number_2) (b2i (decide (index_1 < (3 - 1)))) 1000000000000000000000000000000)) = true → (True)) ∧ ((!(m_is_whole__2 (U.ofO number_2) (b2i (decide (index_1 < (3 - 1)))) 1000000000000000000000000000000)) = false → (((!decide (index_1 = 1)) = false → number_2.isSome = true) ∧ True))
def sp_fits (K : PySem.W.Frag) (CT : Nat → Addr) : Sp := spF (ι := Int × (Option Int)) (fun d => [eI d.1, (eO eI) d.2]) (fun d => m_fits_ok d.1 d.2) (fun d => eB (m_fits d.1 d.2))
abbrev s_fits : Stmt := top 36
abbrev N_fits : List Str := ["index", "number"]
theorem sc_fits : FnScope N_fits ["index", "number"] (defScope s_fits) := ⟨rfl, rfl, rfl, by decide +kernel, rfl, by decide +kernel, by decide +kernel⟩
section
variable {P : Program} {w : World} {K : PySem.W.Frag} {mg : Str → Option Value} {base : Heap} {CT : Nat → Addr}
theorem ok_fits {f : Addr} {fd : FuncData} (F : Fun K "fits" "fits" s_fits f fd) {a_is_whole__2 : Addr} {fd_is_whole__2 : FuncData} (F_is_whole__2 : Fun K "is_whole" "is_whole" s_is_whole__2 a_is_whole__2 fd_is_whole__2) (G_is_whole__2 : FnG P w K mg base CX0 2 a_is_whole__2 fd_is_whole__2 ["value", "low", "high"] (sp_is_whole__2 K CT)) (j_is_whole__2 : mg "is_whole" = some (.ref a_is_whole__2)) (b_is_whole__2 : Binds K fd_is_whole__2 ["value", "low", "high"] []) (n_int : mg "int" = none) (c_MOST_KEY : ∃ t, mg "MOST_KEY" = some (.int 1000000000000000000000000000000 t)) (c_WORDS : ∃ t, mg "WORDS" = some (.int 3 t)) : FnG P w K mg base CX0 3 f fd ["index", "number"] (sp_fits K CT) := by
  obtain ⟨t_MOST_KEY, c_MOST_KEY⟩ := c_MOST_KEY
  obtain ⟨t_WORDS, c_WORDS⟩ := c_WORDS
  refine Fun.okG F sc_fits (fun vs H Q E h => ?_) (fun cdv A outer s H vs Q E hG hr h => ?_)
  · obtain ⟨d, F, _, _, h, _⟩ := h
    exact h.len
  · have nd := sc_fits.nd
    have hU := hr.units
    refine ⟨_, (pss_cons (ps_if (pt_not (pt_val (pg_call G_is_whole__2 hG (hr.mono (by decide)) rfl j_is_whole__2 F_is_whole__2.kp b_is_whole__2 .nil pass0 (pa_cons (pv 1) (pa_cons (pe_callTy call_int1 rfl n_int (by decide +kernel) (pa_cons (pe_cmpR op_lt (pv 0) (pe_op op_sub (pe_glob (v := .int 3) rfl c_WORDS ⟨_, rfl⟩) pe_int) (nomark _)) pa_nil)) (pa_cons (pe_glob (v := .int 1000000000000000000000000000000) rfl c_MOST_KEY ⟨_, rfl⟩) pa_nil)))))) (pss_cons (ps_ret pe_bl)
 pss_nil) pss_nil)
 (pss_cons (ps_ret (pe_or (pe_cmpR op_ne (pv 0) pe_int (nomark _)) (pe_one (pe_cmpR op_eq (pe_op op_mod (pv 1) pe_int) pe_int (nomark _)))))
 pss_nil)), ?_⟩
    refine def_F h (fun d => Nat.le_of_ble_eq_true rfl) (fun d h => ?_)
    obtain ⟨index_1, number_2⟩ := d
    replace h : m_fits_ok index_1 number_2 := h
    unfold m_fits_ok at h
    show SS _ [.fz (eI index_1), .fz ((eO eI) number_2)] (FP eB (m_fits index_1 number_2))
    obtain ⟨g1, h⟩ := h
    obtain ⟨hA, hB⟩ := h
    refine ss_ifLv (FP eB) (et_not (et_val (es_call (U.ofO number_2, b2i (decide (index_1 < (3 - 1))), 1000000000000000000000000000000) (as_cons (es_toU2 (K := K) (C := (CT 18)) (e := (eO eI)) (x := number_2) (u := U.ofO number_2) (es_var 1 rfl) rfl) (as_cons (es_intB (es_cmp (es_var 0 rfl) (es_sub es_c es_c) q_lt)) (as_cons es_c as_nil))) g1))) (fun hc => ?_) (fun hc => ?_)
    · replace h := hA hc; clear hA hB
      refine ss_retq es_c ?_
      exact rfl
    · replace h := hB hc; clear hA hB
      refine ss_nxq ?_
      obtain ⟨g2, h⟩ := h
      refine ss_retq (es_orV (es_cmp (es_var 0 rfl) es_c q_neI) (fun hc10 => (es_cmp (es_mod (es_unO (e := eI) (es_var 1 rfl) (g2 hc10)) es_c (by decide)) es_c q_eqI))) ?_
      exact rfl
end
def m_read_table_b1 (words_2 : List Str) (numbers_4 : List (Option Int)) (s_5 : Unit) (x_6 : Int × (Option Int)) : (Xc ⊕ (Tbl)) ⊕ (Unit) :=
if (!(m_fits x_6.1 x_6.2)) = true then (
.inl (.inl (⟨2, some (some x_6.1)⟩)))
else (
.inr ())
def m_read_table_o1 (words_2 : List Str) (numbers_4 : List (Option Int)) (s_5 : Unit) (x_6 : Int × (Option Int)) : Prop :=
(m_fits_ok x_6.1 x_6.2) ∧ ((!(m_fits x_6.1 x_6.2)) = true → (True)) ∧ ((!(m_fits x_6.1 x_6.2)) = false → (True))
def m_read_table_r1 (words_2 : List Str) (numbers_4 : List (Option Int)) (s_5 : Unit) : Xc ⊕ (Tbl) :=
if (!decide ((words_2.length : Int) = 3)) = true then (
.inl (⟨2, some (some (min2 (words_2.length : Int) 3))⟩))
else (
.inr (⟨unO (nth numbers_4 0), unO (nth numbers_4 1), unO (nth numbers_4 2)⟩ : Tbl))
def m_read_table_q1 (words_2 : List Str) (numbers_4 : List (Option Int)) (s_5 : Unit) : Prop :=
((!decide ((words_2.length : Int) = 3)) = true → (True)) ∧ ((!decide ((words_2.length : Int) = 3)) = false → ((0 ≤ (0 : Int) ∧ (0 : Int) < numbers_4.length) ∧ ((nth numbers_4 0).isSome = true) ∧ (0 ≤ (1 : Int) ∧ (1 : Int) < numbers_4.length) ∧ ((nth numbers_4 1).isSome = true) ∧ (0 ≤ (2 : Int) ∧ (2 : Int) < numbers_4.length) ∧ ((nth numbers_4 2).isSome = true) ∧ (m_Table___init___ok (unO (nth numbers_4 0)) (unO (nth numbers_4 1)) (unO (nth numbers_4 2))) ∧ True))
def m_read_table_t2 (words_2 : List Str) (numbers_4 : List (Option Int)) : Xc ⊕ (Tbl) :=
sumC id (m_read_table_r1 words_2 numbers_4) (loopR (m_read_table_b1 words_2 numbers_4) () (enumI (cutL numbers_4 none (some 3))))
def m_read_table_u2 (words_2 : List Str) (numbers_4 : List (Option Int)) : Prop :=
(okR (m_read_table_o1 words_2 numbers_4) (m_read_table_b1 words_2 numbers_4) () (enumI (cutL numbers_4 none (some 3)))) ∧ (∀ s_5, loopR (m_read_table_b1 words_2 numbers_4) () (enumI (cutL numbers_4 none (some 3))) = .inr s_5 → m_read_table_q1 words_2 numbers_4 s_5)
def m_read_table (text_1 : U) : Xc ⊕ (Tbl) :=
if (!(U.isT text_1 3)) = true then (
.inl (⟨2, some (none : Option Int)⟩))
else (
let words_2 := Txt.split (U.unS text_1) (Str.ofString " ")
let numbers_4 := List.map (fun (x_3 : Str) => m_whole_in x_3) words_2
m_read_table_t2 words_2 numbers_4)
def m_read_table_ok (text_1 : U) : Prop :=
((!(U.isT text_1 3)) = true → (True)) ∧ ((!(U.isT text_1 3)) = false → ((U.ty text_1 = 3) ∧ (((Str.ofString " ").length == 0) = false ∧ (U.unS text_1).length + 2 ≤ sizeLine) ∧ (∀ words_2, words_2 = (Txt.split (U.unS text_1) (Str.ofString " ")) → (∀ x_3 ∈ words_2, m_whole_in_ok x_3) ∧ (words_2.length < 16000000) ∧ (∀ numbers_4, numbers_4 = (List.map (fun (x_3 : Str) => m_whole_in x_3) words_2) → m_read_table_u2 words_2 numbers_4))))
def sp_read_table (K : PySem.W.Frag) (CT : Nat → Addr) : Sp := spX (ι := U) CT (fun d => [(eU (CT 18)) d]) (fun d => m_read_table_ok d) (fun d => m_read_table d) (fun d => (eTbl (CT 18)) d)
abbrev s_read_table : Stmt := top 37
abbrev N_read_table : List Str := ["text", "words", "numbers", "index", "number", "word"]
theorem sc_read_table : FnScope N_read_table ["text"] (defScope s_read_table) := ⟨rfl, rfl, rfl, by decide +kernel, rfl, by decide +kernel, by decide +kernel⟩
section
variable {P : Program} {w : World} {K : PySem.W.Frag} {mg : Str → Option Value} {base : Heap} {CT : Nat → Addr}
theorem ok_read_table {f : Addr} {fd : FuncData} (F : Fun K "read_table" "read_table" s_read_table f fd) {a_whole_in : Addr} {fd_whole_in : FuncData} (F_whole_in : Fun K "whole_in" "whole_in" s_whole_in a_whole_in fd_whole_in) (G_whole_in : FnG P w K mg base CX0 1 a_whole_in fd_whole_in ["word"] (sp_whole_in K CT)) (j_whole_in : mg "whole_in" = some (.ref a_whole_in)) (b_whole_in : Binds K fd_whole_in ["word"] []) {a_fits : Addr} {fd_fits : FuncData} (F_fits : Fun K "fits" "fits" s_fits a_fits fd_fits) (G_fits : FnG P w K mg base CX0 3 a_fits fd_fits ["index", "number"] (sp_fits K CT)) (j_fits : mg "fits" = some (.ref a_fits)) (b_fits : Binds K fd_fits ["index", "number"] []) {a_Table___init__ : Addr} {fd_Table___init__ : FuncData} (F_Table___init__ : Fun K "__init__" "Table.__init__" s_Table___init__ a_Table___init__ fd_Table___init__) (G_Table___init__ : FnG P w K mg base CX0 3 a_Table___init__ fd_Table___init__ ["self", "capacity", "rate", "shift"] (sp_Table___init__ K CT)) (MT : Mk K (CT 18) a_Table___init__) (b_Table___init__ : Binds K fd_Table___init__ ["self", "capacity", "rate", "shift"] []) (n_enumerate : mg "enumerate" = none) (n_isinstance : mg "isinstance" = none) (n_len : mg "len" = none) (n_min : mg "min" = none) (n_str : mg "str" = none) (TY : TbTy K (CT 18)) (c_WORDS : ∃ t, mg "WORDS" = some (.int 3 t)) {fI2 : Addr} {fD2 : FuncData} {fP2 : Str} (XD2 : XDs P w K mg base CT 2 fI2 fD2 fP2) (xg2 : mg "InvalidText" = some (.ref (CT 2))) (TT : TblTxt K mg (CT 18)) : FnG P w K mg base (L2.CX P w) 5 f fd ["text"] (sp_read_table K CT) := by
  obtain ⟨t_WORDS, c_WORDS⟩ := c_WORDS
  obtain ⟨clT, na_own_capacity, na_own_rate, na_own_shift, mgT, isT, xaT, xbT, xcT, xdT⟩ := TT
  refine Fw.Fun.okGX F sc_read_table (fun vs H Q E h => ?_) (fun cdv A outer s H vs Q E hG hr h => ?_)
  · obtain ⟨d, F, _, _, h, _⟩ := h
    exact h.len
  · have nd := sc_read_table.nd
    have hU := hr.units
    refine ⟨_, (pss_cons (ps_if (pt_not (pt_val (pe_callB call_isi rfl n_isinstance (by decide +kernel) (pa_cons (pv 0) (pa_cons (pe_bltn (v := .ty "str") rfl n_str (by decide +kernel) rfl) pa_nil))))) (pss_cons (ps_raise rfl (takes_of rfl rfl rfl rfl) (pmk_oex XD2.T XD2.iC XD2.tI XD2.F (hr.mono (by decide)) XD2.hb .nil pass0 rfl xg2 (pa_cons pe_non pa_nil)))
 pss_nil) pss_nil)
 (pss_cons (ps_set (i := 1) nd rfl (by first | exact .inl rfl | exact .inr rfl) (pe_split (pv 0) pe_str))
 (pss_cons (ps_setLc (i := 2) (own := [("word", 5)]) (g := gName 5) (tt := tYes) rfl nd rfl rfl (sw_true rfl rfl rfl (by decide +kernel)) (pi_list (pv 1)) (blkOk_by (own := [("word", 5)]) (N := N_read_table) (sc := defScope s_read_table) (by decide +kernel)) (fun _ _ _ _ _ => pg_name (i := 5) nd rfl (by first | exact .inl rfl | exact .inr rfl)) (fun _ _ _ _ _ => pts_nil) (fun _ _ _ _ _ => (pg_call G_whole_in hG (hr.mono (by decide)) rfl j_whole_in F_whole_in.kp b_whole_in .nil pass0 (pa_cons (pv 5) pa_nil))))
 (pss_cons (ps_for (passes_of rfl) rfl (pi_enum rfl n_enumerate (pa_cons (pe_slice sl_list (pv 2) po_none (po_some (pe_glob (v := .int 3) rfl c_WORDS ⟨_, rfl⟩))) pa_nil)) (pg_tup rfl (pgs_cons (pg_name (i := 3) nd rfl (by first | exact .inl rfl | exact .inr rfl)) (pgs_cons (pg_name (i := 4) nd rfl (by first | exact .inl rfl | exact .inr rfl)) pgs_nil))) (pss_cons (ps_if (pt_not (pt_val (pg_call G_fits hG (hr.mono (by decide)) rfl j_fits F_fits.kp b_fits .nil pass0 (pa_cons (pv 3) (pa_cons (pv 4) pa_nil))))) (pss_cons (ps_raise rfl (takes_of rfl rfl rfl rfl) (pmk_oex XD2.T XD2.iC XD2.tI XD2.F (hr.mono (by decide)) XD2.hb .nil pass0 rfl xg2 (pa_cons (pv 3) pa_nil)))
 pss_nil) pss_nil)
 pss_nil))
 (pss_cons (ps_if (pt_cmpR op_ne (pe_callB (call_len_seqK (K := K) rfl) rfl n_len (by decide +kernel) (pa_cons (pv 1) pa_nil)) (pe_glob (v := .int 3) rfl c_WORDS ⟨_, rfl⟩) (nomark _)) (pss_cons (ps_raise rfl (takes_of rfl rfl rfl rfl) (pmk_oex XD2.T XD2.iC XD2.tI XD2.F (hr.mono (by decide)) XD2.hb .nil pass0 rfl xg2 (pa_cons (pe_callB (call_min2 rfl) rfl n_min (by decide +kernel) (pa_cons (pe_callB (call_len_seqK (K := K) rfl) rfl n_len (by decide +kernel) (pa_cons (pv 1) pa_nil)) (pa_cons (pe_glob (v := .int 3) rfl c_WORDS ⟨_, rfl⟩) pa_nil))) pa_nil)))
 pss_nil) pss_nil)
 (pss_cons (ps_ret (pg_make MT G_Table___init__ hG (hr.mono (by decide)) rfl mgT b_Table___init__ .nil pass0 (pa_cons (pe_ix (ix_listK (K := K) rfl) (pv 2) pe_int (fun _ _ => rfl)) (pa_cons (pe_ix (ix_listK (K := K) rfl) (pv 2) pe_int (fun _ _ => rfl)) (pa_cons (pe_ix (ix_listK (K := K) rfl) (pv 2) pe_int (fun _ _ => rfl)) pa_nil)))))
 pss_nil)))))), ?_⟩
    refine def_X h (fun d => Nat.le_of_ble_eq_true rfl) (fun text_1 h A hE => ?_)
    replace h : m_read_table_ok text_1 := h
    unfold m_read_table_ok at h
    replace hE : ∀ y, m_read_table text_1 = .inl y → HE CT A E y := hE
    show SS _ [.fz (eAt A ((eU (CT 18)) text_1)), .no, .no, .no, .no, .no] (FPX (eTbl (CT 18)) (m_read_table text_1))
    obtain ⟨hA, hB⟩ := h
    refine ss_ifLv (FPX (eTbl (CT 18))) (et_not (et_val (es_isU (n := 3) TY (by decide) (es_at (es_var 0 rfl))))) (fun hc => ?_) (fun hc => ?_)
    · replace h := hA hc; clear hA hB; replace hE := HEt hc hE
      exact ss_raiseD (A := A) (ad := CT) (i := 0) (c := 2) (o := (none : Option Int)) rfl es_c (hE _ rfl)
    · replace h := hB hc; clear hA hB; replace hE := HEf hc hE
      refine ss_nxq ?_
      obtain ⟨g1, g2, h⟩ := h
      refine ss_seq1 (Txt.split (U.unS text_1) (Str.ofString " ")) (fun words_2 => [.fz (eAt A ((eU (CT 18)) text_1)), .fz ((eLs eS) words_2), .no, .no, .no, .no]) (ss_set (es_frs eS (Txt.split (U.unS text_1) (Str.ofString " ")) (en_split (es_unS (es_at (es_var 0 rfl)) g1) es_c g2)) Wk.refl) (fun words_2 e_words_2 => ?_)
      replace h := h words_2 e_words_2
      obtain ⟨g3, g4, h⟩ := h
      refine ss_seq1 (List.map (fun (x_3 : Str) => m_whole_in x_3) words_2) (fun numbers_4 => [.fz (eAt A ((eU (CT 18)) text_1)), .fz ((eLs eS) words_2), .fz ((eLs (eO eI)) numbers_4), .no, .no, .no]) (ss_set (es_frs (eO eI) (List.map (fun (x_3 : Str) => m_whole_in x_3) words_2) (en_lcF (eO eI) (fun (x_3 : Str) => m_whole_in x_3) (en_lcS (e := eS) (l := words_2) (f := (fun (x_3 : Str) => (eO eI) (m_whole_in x_3))) (is := [5]) (vs := [5]) (fun (x_3 : Str) => true) (fun (x_3 : Str) => [.fz (eAt A ((eU (CT 18)) text_1)), .fz ((eLs eS) words_2), .no, .no, .no, .fz (eS x_3)]) (is_list (e := eS) (es_var 1 rfl)) g4 (fun _ h => h) (fun x_3 => gs_name 5) (fun x_3 hx => et_yes) (fun x_3 hx _ => (es_call x_3 (as_cons (es_var 5 rfl) as_nil) (g3 x_3 hx)))))) Wk.refl) (fun numbers_4 e_numbers_4 => ?_)
      replace h := h numbers_4 e_numbers_4
      replace hE : ∀ y, m_read_table_t2 words_2 numbers_4 = Sum.inl y → HE CT A E y := fun y e => hE y (Eq.trans (by subst e_numbers_4 e_words_2; rfl) e)
      refine ss_cut (FPX (eTbl (CT 18))) (v' := m_read_table_t2 words_2 numbers_4) (by subst e_numbers_4 e_words_2; rfl) ?_
      clear e_numbers_4 e_words_2
      unfold m_read_table_u2 at h
      obtain ⟨g13, h⟩ := h
      refine sf_SRX (e := (eP2 K eI (eO eI))) (l := (enumI (cutL numbers_4 none (some 3)))) (fun (s_5 : Unit) => [.fz (eAt A ((eU (CT 18)) text_1)), .fz ((eLs eS) words_2), .fz ((eLs (eO eI)) numbers_4), .no, .no, .no]) (m_read_table_b1 words_2 numbers_4) (m_read_table_o1 words_2 numbers_4) () (FPX (eTbl (CT 18))) id (m_read_table_r1 words_2 numbers_4) (c := Sum.inl) (G := HE CT A E) hE (is_enum (e := (eO eI)) (es_frs (eO eI) (cutL numbers_4 none (some 3)) (en_slice (e := (eO eI)) (es_var 2 rfl) os_no (os_some es_c)))) Wk.refl g13 (fun s_5 x_6 _ h hE => ⟨[.fz (eAt A ((eU (CT 18)) text_1)), .fz ((eLs eS) words_2), .fz ((eLs (eO eI)) numbers_4), .fz (eI x_6.1), .fz ((eO eI) x_6.2), .no], _, gs_tup (gs_cons (gs_name 3) (gs_cons (gs_name 4) gs_nil)), ?_⟩) (fun s_5 e_s_5 hE => ?_)
      · unfold m_read_table_o1 at h
        replace hE : ∀ y, m_read_table_b1 words_2 numbers_4 s_5 x_6 = (fun y => Sum.inl (Sum.inl y)) y → HE CT A E y := fun y e => hE y _ e rfl
        obtain ⟨g5, h⟩ := h
        obtain ⟨hA, hB⟩ := h
        refine ss_ifLv (LQ (fun (s_5 : Unit) => [.fz (eAt A ((eU (CT 18)) text_1)), .fz ((eLs eS) words_2), .fz ((eLs (eO eI)) numbers_4), .no, .no, .no]) (FPX (eTbl (CT 18))) id) (et_not (et_val (es_call (x_6.1, x_6.2) (as_cons (es_var 3 rfl) (as_cons (es_var 4 rfl) as_nil)) g5))) (fun hc => ?_) (fun hc => ?_)
        · replace h := hA hc; clear hA hB; replace hE := HEt hc hE
          exact ss_raiseD (A := A) (ad := CT) (i := 0) (c := 2) (o := some x_6.1) rfl (es_var 3 rfl) (hE _ rfl)
        · replace h := hB hc; clear hA hB; replace hE := HEf hc hE
          refine ss_nxq ?_
          exact ss_nx ⟨.inr rfl, ⟨.inr rfl, ⟨.inr rfl, ⟨.inl rfl, ⟨.inl rfl, ⟨.inr rfl, trivial⟩⟩⟩⟩⟩⟩
      · replace h := h s_5 e_s_5; unfold m_read_table_q1 at h
        obtain ⟨hA, hB⟩ := h
        refine ss_ifLv (FPX (eTbl (CT 18))) (et_cmp (es_lenLs (e := eS) (es_var 1 rfl)) es_c q_neI) (fun hc => ?_) (fun hc => ?_)
        · replace h := hA hc; clear hA hB; replace hE := HEt hc hE
          exact ss_raiseD (A := A) (ad := CT) (i := 0) (c := 2) (o := some (min2 (words_2.length : Int) 3)) rfl (es_min2 (es_lenLs (e := eS) (es_var 1 rfl)) es_c) (hE _ rfl)
        · replace h := hB hc; clear hA hB; replace hE := HEf hc hE
          refine ss_nxq ?_
          obtain ⟨g6, g7, g8, g9, g10, g11, g12, h⟩ := h
          refine ss_retq (es_make (unO (nth numbers_4 0), unO (nth numbers_4 1), unO (nth numbers_4 2)) (as_cons (es_unO (e := eI) (es_ixL (e := (eO eI)) (es_var 2 rfl) es_c g6) g7) (as_cons (es_unO (e := eI) (es_ixL (e := (eO eI)) (es_var 2 rfl) es_c g8) g9) (as_cons (es_unO (e := eI) (es_ixL (e := (eO eI)) (es_var 2 rfl) es_c g10) g11) as_nil))) g12) ?_
          exact ⟨_, rfl, rfl⟩
end
def m_span_in (part_1 : Str) (ahead_2 : Int) : Option (Int × Int) :=
let numbers_4 := U.tup (List.map (fun y : Option Int => U.ofO y) (List.map (fun (x_3 : Str) => m_whole_in x_3) (Txt.split part_1 (Str.ofString "-"))))
if (m_is_span__2 numbers_4 ahead_2) = true then some (U.unP numbers_4) else (none : Option (Int × Int))
def m_span_in_ok (part_1 : Str) (ahead_2 : Int) : Prop :=
(((Str.ofString "-").length == 0) = false ∧ part_1.length + 2 ≤ sizeLine) ∧ (∀ x_3 ∈ (Txt.split part_1 (Str.ofString "-")), m_whole_in_ok x_3) ∧ ((Txt.split part_1 (Str.ofString "-")).length < 16000000) ∧ (∀ numbers_4, numbers_4 = (U.tup (List.map (fun y : Option Int => U.ofO y) (List.map (fun (x_3 : Str) => m_whole_in x_3) (Txt.split part_1 (Str.ofString "-"))))) → (m_is_span__2_ok numbers_4 ahead_2) ∧ ((m_is_span__2 numbers_4 ahead_2) = true → numbers_4 = U.tup [U.int (U.unP numbers_4).1, U.int (U.unP numbers_4).2]) ∧ True)
def sp_span_in (K : PySem.W.Frag) (CT : Nat → Addr) : Sp := spF (ι := Str × Int) (fun d => [eS d.1, eI d.2]) (fun d => m_span_in_ok d.1 d.2) (fun d => (eO (eP2 K eI eI)) (m_span_in d.1 d.2))
abbrev s_span_in : Stmt := top 38
abbrev N_span_in : List Str := ["part", "ahead", "numbers", "word"]
theorem sc_span_in : FnScope N_span_in ["part", "ahead"] (defScope s_span_in) := ⟨rfl, rfl, rfl, by decide +kernel, rfl, by decide +kernel, by decide +kernel⟩
section
variable {P : Program} {w : World} {K : PySem.W.Frag} {mg : Str → Option Value} {base : Heap} {CT : Nat → Addr}
theorem ok_span_in {f : Addr} {fd : FuncData} (F : Fun K "span_in" "span_in" s_span_in f fd) {a_whole_in : Addr} {fd_whole_in : FuncData} (F_whole_in : Fun K "whole_in" "whole_in" s_whole_in a_whole_in fd_whole_in) (G_whole_in : FnG P w K mg base CX0 1 a_whole_in fd_whole_in ["word"] (sp_whole_in K CT)) (j_whole_in : mg "whole_in" = some (.ref a_whole_in)) (b_whole_in : Binds K fd_whole_in ["word"] []) {a_is_span__2 : Addr} {fd_is_span__2 : FuncData} (F_is_span__2 : Fun K "is_span" "is_span" s_is_span__2 a_is_span__2 fd_is_span__2) (G_is_span__2 : FnG P w K mg base CX0 3 a_is_span__2 fd_is_span__2 ["value", "ahead"] (sp_is_span__2 K CT)) (j_is_span__2 : mg "is_span" = some (.ref a_is_span__2)) (b_is_span__2 : Binds K fd_is_span__2 ["value", "ahead"] []) (n_tuple : mg "tuple" = none) : FnG P w K mg base CX0 4 f fd ["part", "ahead"] (sp_span_in K CT) := by
  refine Fun.okG F sc_span_in (fun vs H Q E h => ?_) (fun cdv A outer s H vs Q E hG hr h => ?_)
  · obtain ⟨d, F, _, _, h, _⟩ := h
    exact h.len
  · have nd := sc_span_in.nd
    have hU := hr.units
    refine ⟨_, (pss_cons (ps_set (i := 2) nd rfl (by first | exact .inl rfl | exact .inr rfl) (pe_callTy call_tuple_of rfl n_tuple (by decide +kernel) (pa_cons (pe_lc (own := [("word", 3)]) (g := gName 3) (tt := tYes) rfl nd (pi_list (pe_split (pv 0) pe_str)) (blkOk_by (own := [("word", 3)]) (N := N_span_in) (sc := defScope s_span_in) (by decide +kernel)) (fun _ _ _ _ _ => pg_name (i := 3) nd rfl (by first | exact .inl rfl | exact .inr rfl)) (fun _ _ _ _ _ => pts_nil) (fun _ _ _ _ _ => (pg_call G_whole_in hG (hr.mono (by decide)) rfl j_whole_in F_whole_in.kp b_whole_in .nil pass0 (pa_cons (pv 3) pa_nil)))) pa_nil)))
 (pss_cons (ps_ret (pe_ifExp (pt_val (pg_call G_is_span__2 hG (hr.mono (by decide)) rfl j_is_span__2 F_is_span__2.kp b_is_span__2 .nil pass0 (pa_cons (pv 2) (pa_cons (pv 1) pa_nil)))) (pv 2) pe_non))
 pss_nil)), ?_⟩
    refine def_F h (fun d => Nat.le_of_ble_eq_true rfl) (fun d h => ?_)
    obtain ⟨part_1, ahead_2⟩ := d
    replace h : m_span_in_ok part_1 ahead_2 := h
    unfold m_span_in_ok at h
    show SS _ [.fz (eS part_1), .fz (eI ahead_2), .no, .no] (FP (eO (eP2 K eI eI)) (m_span_in part_1 ahead_2))
    obtain ⟨g1, g2, g3, h⟩ := h
    refine ss_seq1 (U.tup (List.map (fun y : Option Int => U.ofO y) (List.map (fun (x_3 : Str) => m_whole_in x_3) (Txt.split part_1 (Str.ofString "-"))))) (fun numbers_4 => [.fz (eS part_1), .fz (eI ahead_2), .fz ((eU (CT 18)) numbers_4), .no]) (ss_set (es_tupLU2 (K := K) (C := (CT 18)) (e := (eO eI)) (l := (List.map (fun (x_3 : Str) => m_whole_in x_3) (Txt.split part_1 (Str.ofString "-")))) (u := U.tup (List.map (fun y : Option Int => U.ofO y) (List.map (fun (x_3 : Str) => m_whole_in x_3) (Txt.split part_1 (Str.ofString "-"))))) (es_frs (eO eI) (List.map (fun (x_3 : Str) => m_whole_in x_3) (Txt.split part_1 (Str.ofString "-"))) (en_lcF (eO eI) (fun (x_3 : Str) => m_whole_in x_3) (en_lcS (e := eS) (l := (Txt.split part_1 (Str.ofString "-"))) (f := (fun (x_3 : Str) => (eO eI) (m_whole_in x_3))) (is := [3]) (vs := [3]) (fun (x_3 : Str) => true) (fun (x_3 : Str) => [.fz (eS part_1), .fz (eI ahead_2), .no, .fz (eS x_3)]) (is_list (e := eS) (es_frs eS (Txt.split part_1 (Str.ofString "-")) (en_split (es_var 0 rfl) es_c g1))) g3 (fun _ h => h) (fun x_3 => gs_name 3) (fun x_3 hx => et_yes) (fun x_3 hx _ => (es_call x_3 (as_cons (es_var 3 rfl) as_nil) (g2 x_3 hx)))))) rfl) Wk.refl) (fun numbers_4 e_numbers_4 => ?_)
    replace h := h numbers_4 e_numbers_4
    obtain ⟨g4, g5, h⟩ := h
    refine ss_retq (es_if (e := (eO (eP2 K eI eI))) (p := (some (U.unP numbers_4))) (q := (none : Option (Int × Int))) (et_val (es_call (numbers_4, ahead_2) (as_cons (es_var 2 rfl) (as_cons (es_var 1 rfl) as_nil)) g4)) (fun hc => (es_ofU K (e := eP2 K eI eI) (C := (CT 18)) (x := U.unP numbers_4) (es_var 2 rfl) (g5 hc))) (fun hc => es_c)) ?_
    subst e_numbers_4
    exact rfl
end
def m_read_spans_t2 (s_3 : (List (Int × Int)) × Int) (x_4 : Int × Str) (span_5 : Option (Int × Int)) : (Xc ⊕ (List (Int × Int))) ⊕ ((List (Int × Int)) × Int) :=
if (!span_5.isSome) = true then (
.inl (.inl (⟨2, some (some x_4.1)⟩)))
else (
let found_6 := s_3.1 ++ [unO span_5]
let ahead_7 := (unO span_5).2
.inr (found_6, ahead_7))
def m_read_spans_u2 (s_3 : (List (Int × Int)) × Int) (x_4 : Int × Str) (span_5 : Option (Int × Int)) : Prop :=
((!span_5.isSome) = true → (True)) ∧ ((!span_5.isSome) = false → ((span_5.isSome = true) ∧ (s_3.1.length < 16000000) ∧ (∀ found_6, found_6 = (s_3.1 ++ [unO span_5]) → (span_5.isSome = true) ∧ (∀ ahead_7, ahead_7 = ((unO span_5).2) → True))))
def m_read_spans_b1 (s_3 : (List (Int × Int)) × Int) (x_4 : Int × Str) : (Xc ⊕ (List (Int × Int))) ⊕ ((List (Int × Int)) × Int) :=
let span_5 := if (decide (x_4.1 < 12)) = true then m_span_in x_4.2 s_3.2 else (none : Option (Int × Int))
m_read_spans_t2 s_3 x_4 span_5
def m_read_spans_o1 (s_3 : (List (Int × Int)) × Int) (x_4 : Int × Str) : Prop :=
((decide (x_4.1 < 12)) = true → m_span_in_ok x_4.2 s_3.2) ∧ (∀ span_5, span_5 = (if (decide (x_4.1 < 12)) = true then m_span_in x_4.2 s_3.2 else (none : Option (Int × Int))) → m_read_spans_u2 s_3 x_4 span_5)
def m_read_spans_r1 (s_3 : (List (Int × Int)) × Int) : Xc ⊕ (List (Int × Int)) :=
.inr s_3.1
def m_read_spans_q1 (s_3 : (List (Int × Int)) × Int) : Prop :=
True
def m_read_spans_t3 (text_1 : U) (ahead_2 : Int) : Xc ⊕ (List (Int × Int)) :=
sumC id (m_read_spans_r1) (loopR (m_read_spans_b1) (([] : List (Int × Int)), ahead_2) (enumI (if (decide ((U.unS text_1) = (Str.ofString ""))) = true then [] else Txt.split (U.unS text_1) (Str.ofString ", "))))
def m_read_spans_u3 (text_1 : U) (ahead_2 : Int) : Prop :=
(U.ty text_1 = 3) ∧ ((decide ((U.unS text_1) = (Str.ofString ""))) = false → U.ty text_1 = 3) ∧ ((decide ((U.unS text_1) = (Str.ofString ""))) = false → ((Str.ofString ", ").length == 0) = false ∧ (U.unS text_1).length + 2 ≤ sizeLine) ∧ (okR (m_read_spans_o1) (m_read_spans_b1) (([] : List (Int × Int)), ahead_2) (enumI (if (decide ((U.unS text_1) = (Str.ofString ""))) = true then [] else Txt.split (U.unS text_1) (Str.ofString ", ")))) ∧ (∀ s_3, loopR (m_read_spans_b1) (([] : List (Int × Int)), ahead_2) (enumI (if (decide ((U.unS text_1) = (Str.ofString ""))) = true then [] else Txt.split (U.unS text_1) (Str.ofString ", "))) = .inr s_3 → m_read_spans_q1 s_3)
def m_read_spans (text_1 : U) : Xc ⊕ (List (Int × Int)) :=
if (!(U.isT text_1 3)) = true then (
.inl (⟨2, some (none : Option Int)⟩))
else (
let ahead_2 := 0
m_read_spans_t3 text_1 ahead_2)
def m_read_spans_ok (text_1 : U) : Prop :=
((!(U.isT text_1 3)) = true → (True)) ∧ ((!(U.isT text_1 3)) = false → ((∀ ahead_2, ahead_2 = 0 → m_read_spans_u3 text_1 ahead_2)))
def sp_read_spans (K : PySem.W.Frag) (CT : Nat → Addr) : Sp := spX (ι := U) CT (fun d => [(eU (CT 18)) d]) (fun d => m_read_spans_ok d) (fun d => m_read_spans d) (fun d => (eLs (eP2 K eI eI)) d)
abbrev s_read_spans : Stmt := top 39
abbrev N_read_spans : List Str := ["text", "found", "ahead", "index", "part", "span"]
theorem sc_read_spans : FnScope N_read_spans ["text"] (defScope s_read_spans) := ⟨rfl, rfl, rfl, by decide +kernel, rfl, by decide +kernel, by decide +kernel⟩
section
variable {P : Program} {w : World} {K : PySem.W.Frag} {mg : Str → Option Value} {base : Heap} {CT : Nat → Addr}
theorem ok_read_spans {f : Addr} {fd : FuncData} (F : Fun K "read_spans" "read_spans" s_read_spans f fd) {a_span_in : Addr} {fd_span_in : FuncData} (F_span_in : Fun K "span_in" "span_in" s_span_in a_span_in fd_span_in) (G_span_in : FnG P w K mg base CX0 4 a_span_in fd_span_in ["part", "ahead"] (sp_span_in K CT)) (j_span_in : mg "span_in" = some (.ref a_span_in)) (b_span_in : Binds K fd_span_in ["part", "ahead"] []) (n_enumerate : mg "enumerate" = none) (n_isinstance : mg "isinstance" = none) (n_str : mg "str" = none) (c_MOST_SPANS : ∃ t, mg "MOST_SPANS" = some (.int 12 t)) (TY : TbTy K (CT 18)) {fI2 : Addr} {fD2 : FuncData} {fP2 : Str} (XD2 : XDs P w K mg base CT 2 fI2 fD2 fP2) (xg2 : mg "InvalidText" = some (.ref (CT 2))) : FnG P w K mg base (L2.CX P w) 5 f fd ["text"] (sp_read_spans K CT) := by
  obtain ⟨t_MOST_SPANS, c_MOST_SPANS⟩ := c_MOST_SPANS
  refine Fw.Fun.okGX F sc_read_spans (fun vs H Q E h => ?_) (fun cdv A outer s H vs Q E hG hr h => ?_)
  · obtain ⟨d, F, _, _, h, _⟩ := h
    exact h.len
  · have nd := sc_read_spans.nd
    have hU := hr.units
    refine ⟨_, (pss_cons (ps_if (pt_not (pt_val (pe_callB call_isi rfl n_isinstance (by decide +kernel) (pa_cons (pv 0) (pa_cons (pe_bltn (v := .ty "str") rfl n_str (by decide +kernel) rfl) pa_nil))))) (pss_cons (ps_raise rfl (takes_of rfl rfl rfl rfl) (pmk_oex XD2.T XD2.iC XD2.tI XD2.F (hr.mono (by decide)) XD2.hb .nil pass0 rfl xg2 (pa_cons pe_non pa_nil)))
 pss_nil) pss_nil)
 (pss_cons (ps_par (i := 1) (j := 2) rfl nd rfl rfl (by decide) rfl rfl (pa_cons (pe_lst pa_nil) (pa_cons pe_int pa_nil)) (by rfl))
 (pss_cons (ps_for (passes_of rfl) rfl (pi_enum rfl n_enumerate (pa_cons (pe_ifExp (pt_cmpR op_eq (pv 0) pe_str (nomark _)) (pe_lst pa_nil) (pe_split (pv 0) pe_str)) pa_nil)) (pg_tup rfl (pgs_cons (pg_name (i := 3) nd rfl (by first | exact .inl rfl | exact .inr rfl)) (pgs_cons (pg_name (i := 4) nd rfl (by first | exact .inl rfl | exact .inr rfl)) pgs_nil))) (pss_cons (ps_set (i := 5) nd rfl (by first | exact .inl rfl | exact .inr rfl) (pe_ifExp (pt_cmpR op_lt (pv 3) (pe_glob (v := .int 12) rfl c_MOST_SPANS ⟨_, rfl⟩) (nomark _)) (pg_call G_span_in hG (hr.mono (by decide)) rfl j_span_in F_span_in.kp b_span_in .nil pass0 (pa_cons (pv 4) (pa_cons (pv 2) pa_nil))) pe_non))
 (pss_cons (ps_if (pt_cmp (pc_isN (pv 5))) (pss_cons (ps_raise rfl (takes_of rfl rfl rfl rfl) (pmk_oex XD2.T XD2.iC XD2.tI XD2.F (hr.mono (by decide)) XD2.hb .nil pass0 rfl xg2 (pa_cons (pv 3) pa_nil)))
 pss_nil) pss_nil)
 (pss_cons (ps_expr (pe_bm PySem.F.plainAttrs_list PySem.F.slot_list_append PySem.F.type_list_append mt_append (pv 1) (pa_cons (pv 5) pa_nil)))
 (pss_cons (ps_set (i := 2) nd rfl (by first | exact .inl rfl | exact .inr rfl) (pe_ix (ix_tupK (K := K) rfl) (pv 5) pe_int (fun _ _ => rfl)))
 pss_nil)))))
 (pss_cons (ps_ret (pv 1))
 pss_nil)))), ?_⟩
    refine def_X h (fun d => Nat.le_of_ble_eq_true rfl) (fun text_1 h A hE => ?_)
    replace h : m_read_spans_ok text_1 := h
    unfold m_read_spans_ok at h
    replace hE : ∀ y, m_read_spans text_1 = .inl y → HE CT A E y := hE
    show SS _ [.fz (eAt A ((eU (CT 18)) text_1)), .no, .no, .no, .no, .no] (FPX (eLs (eP2 K eI eI)) (m_read_spans text_1))
    obtain ⟨hA, hB⟩ := h
    refine ss_ifLv (FPX (eLs (eP2 K eI eI))) (et_not (et_val (es_isU (n := 3) TY (by decide) (es_at (es_var 0 rfl))))) (fun hc => ?_) (fun hc => ?_)
    · replace h := hA hc; clear hA hB; replace hE := HEt hc hE
      exact ss_raiseD (A := A) (ad := CT) (i := 0) (c := 2) (o := (none : Option Int)) rfl es_c (hE _ rfl)
    · replace h := hB hc; clear hA hB; replace hE := HEf hc hE
      refine ss_nxq ?_
      refine ss_seq1 0 (fun ahead_2 => [.fz (eAt A ((eU (CT 18)) text_1)), .ow (oLs (eP2 K eI eI) ([] : List (Int × Int))), .fz (eI ahead_2), .no, .no, .no]) (ss_parM (am_nw (en_lst as_nil) (am_fz es_c am_nil)) Wk.refl) (fun ahead_2 e_ahead_2 => ?_)
      replace h := h ahead_2 e_ahead_2
      replace hE : ∀ y, m_read_spans_t3 text_1 ahead_2 = Sum.inl y → HE CT A E y := fun y e => hE y (Eq.trans (by subst e_ahead_2; rfl) e)
      refine ss_cut (FPX (eLs (eP2 K eI eI))) (v' := m_read_spans_t3 text_1 ahead_2) (by subst e_ahead_2; rfl) ?_
      clear e_ahead_2
      unfold m_read_spans_u3 at h
      obtain ⟨g1, g2, g3, g8, h⟩ := h
      refine sf_SRX (e := (eP2 K eI eS)) (l := (enumI (if (decide ((U.unS text_1) = (Str.ofString ""))) = true then [] else Txt.split (U.unS text_1) (Str.ofString ", ")))) (fun (s_3 : (List (Int × Int)) × Int) => [.fz (eAt A ((eU (CT 18)) text_1)), .ow (oLs (eP2 K eI eI) s_3.1), .fz (eI s_3.2), .no, .no, .no]) (m_read_spans_b1) (m_read_spans_o1) (([] : List (Int × Int)), ahead_2) (FPX (eLs (eP2 K eI eI))) id (m_read_spans_r1) (c := Sum.inl) (G := HE CT A E) hE (is_enum (e := eS) (es_if (e := (eLs eS)) (p := []) (q := (Txt.split (U.unS text_1) (Str.ofString ", "))) (et_cmp (es_unS (es_at (es_var 0 rfl)) g1) es_c q_eqS) (fun hc => (es_frs eS [] (en_lst as_nil))) (fun hc => (es_frs eS (Txt.split (U.unS text_1) (Str.ofString ", ")) (en_split (es_unS (es_at (es_var 0 rfl)) (g2 hc)) es_c (g3 hc)))))) Wk.refl g8 (fun s_3 x_4 _ h hE => ⟨[.fz (eAt A ((eU (CT 18)) text_1)), .ow (oLs (eP2 K eI eI) s_3.1), .fz (eI s_3.2), .fz (eI x_4.1), .fz (eS x_4.2), .no], _, gs_tup (gs_cons (gs_name 3) (gs_cons (gs_name 4) gs_nil)), ?_⟩) (fun s_3 e_s_3 hE => ?_)
      · unfold m_read_spans_o1 at h
        replace hE : ∀ y, m_read_spans_b1 s_3 x_4 = (fun y => Sum.inl (Sum.inl y)) y → HE CT A E y := fun y e => hE y _ e rfl
        obtain ⟨g4, h⟩ := h
        refine ss_seq1 (if (decide (x_4.1 < 12)) = true then m_span_in x_4.2 s_3.2 else (none : Option (Int × Int))) (fun span_5 => [.fz (eAt A ((eU (CT 18)) text_1)), .ow (oLs (eP2 K eI eI) s_3.1), .fz (eI s_3.2), .fz (eI x_4.1), .fz (eS x_4.2), .fz ((eO (eP2 K eI eI)) span_5)]) (ss_set (es_if (e := (eO (eP2 K eI eI))) (p := (m_span_in x_4.2 s_3.2)) (q := (none : Option (Int × Int))) (et_cmp (es_var 3 rfl) es_c q_lt) (fun hc => (es_call (x_4.2, s_3.2) (as_cons (es_var 4 rfl) (as_cons (es_var 2 rfl) as_nil)) (g4 hc))) (fun hc => es_c)) Wk.refl) (fun span_5 e_span_5 => ?_)
        replace h := h span_5 e_span_5
        replace hE : ∀ y, m_read_spans_t2 s_3 x_4 span_5 = (fun y => Sum.inl (Sum.inl y)) y → HE CT A E y := fun y e => hE y (Eq.trans (by subst e_span_5; rfl) e)
        refine ss_cut (LQ (fun (s_3 : (List (Int × Int)) × Int) => [.fz (eAt A ((eU (CT 18)) text_1)), .ow (oLs (eP2 K eI eI) s_3.1), .fz (eI s_3.2), .no, .no, .no]) (FPX (eLs (eP2 K eI eI))) id) (v' := m_read_spans_t2 s_3 x_4 span_5) (by subst e_span_5; rfl) ?_
        clear e_span_5
        unfold m_read_spans_u2 at h
        obtain ⟨hA, hB⟩ := h
        refine ss_ifLv (LQ (fun (s_3 : (List (Int × Int)) × Int) => [.fz (eAt A ((eU (CT 18)) text_1)), .ow (oLs (eP2 K eI eI) s_3.1), .fz (eI s_3.2), .no, .no, .no]) (FPX (eLs (eP2 K eI eI))) id) (et_isN (e := (eP2 K eI eI)) (es_var 5 rfl)) (fun hc => ?_) (fun hc => ?_)
        · replace h := hA hc; clear hA hB; replace hE := HEt hc hE
          exact ss_raiseD (A := A) (ad := CT) (i := 0) (c := 2) (o := some x_4.1) rfl (es_var 3 rfl) (hE _ rfl)
        · replace h := hB hc; clear hA hB; replace hE := HEf hc hE
          refine ss_nxq ?_
          obtain ⟨g5, g6, h⟩ := h
          refine ss_seq1 (s_3.1 ++ [unO span_5]) (fun found_6 => [.fz (eAt A ((eU (CT 18)) text_1)), .ow (oLs (eP2 K eI eI) found_6), .fz (eI s_3.2), .fz (eI x_4.1), .fz (eS x_4.2), .fz ((eO (eP2 K eI eI)) span_5)]) (ss_appendO (e := (eP2 K eI eI)) (x := (unO span_5)) rfl (es_unO (e := (eP2 K eI eI)) (es_var 5 rfl) g5) rfl g6 Wk.refl) (fun found_6 e_found_6 => ?_)
          replace h := h found_6 e_found_6
          obtain ⟨g7, h⟩ := h
          refine ss_seq1 ((unO span_5).2) (fun ahead_7 => [.fz (eAt A ((eU (CT 18)) text_1)), .ow (oLs (eP2 K eI eI) found_6), .fz (eI ahead_7), .fz (eI x_4.1), .fz (eS x_4.2), .fz ((eO (eP2 K eI eI)) span_5)]) (ss_set (es_ixT (k := 1) (es_unO (e := (eP2 K eI eI)) (es_var 5 rfl) g7) rfl) Wk.refl) (fun ahead_7 e_ahead_7 => ?_)
          replace h := h ahead_7 e_ahead_7
          subst e_ahead_7 e_found_6
          exact ss_nx ⟨.inr rfl, ⟨.inr rfl, ⟨.inr rfl, ⟨.inl rfl, ⟨.inl rfl, ⟨.inl rfl, trivial⟩⟩⟩⟩⟩⟩
      · replace h := h s_3 e_s_3; unfold m_read_spans_q1 at h
        refine ss_retO (e := (eP2 K eI eI)) (i := 1) rfl ?_
        exact ⟨_, rfl, rfl⟩
end
def m_bag (cell_1 : Int) : Bag :=
⟨max2 0 (cell_1 - (10 ^ 18)), cell_1, 0⟩
def m_bag_ok (cell_1 : Int) : Prop :=
True
def sp_bag (K : PySem.W.Frag) (CT : Nat → Addr) : Sp := spN (ι := Int) (fun d => [eI d]) (fun d => m_bag_ok d) (fun d => bagR (m_bag d))
abbrev s_bag : Stmt := top 41
abbrev N_bag : List Str := ["_law_cell"]
theorem sc_bag : FnScope N_bag ["_law_cell"] (defScope s_bag) := ⟨rfl, rfl, rfl, by decide +kernel, rfl, by decide +kernel, by decide +kernel⟩
section
variable {P : Program} {w : World} {K : PySem.W.Frag} {mg : Str → Option Value} {base : Heap} {CT : Nat → Addr}
theorem ok_bag {f : Addr} {fd : FuncData} (F : Fun K "_law_bag" "_law_bag" s_bag f fd) (n_max : mg "max" = none) : FnG P w K mg base CX0 1 f fd ["_law_cell"] (sp_bag K CT) := by
  refine Fun.okG F sc_bag (fun vs H Q E h => ?_) (fun cdv A outer s H vs Q E hG hr h => ?_)
  · obtain ⟨d, F, _, _, h, _⟩ := h
    exact h.len
  · have nd := sc_bag.nd
    have hU := hr.units
    refine ⟨_, (pss_cons (ps_ret (pe_lst (pa_cons (pe_callB (call_max2 rfl) rfl n_max (by decide +kernel) (pa_cons pe_int (pa_cons (pe_op op_sub (pv 0) (pe_op op_pow pe_int pe_int)) pa_nil))) (pa_cons (pv 0) (pa_cons pe_int pa_nil)))))
 pss_nil), ?_⟩
    refine def_N h (fun d => Nat.le_of_ble_eq_true rfl) (fun cell_1 h => ?_)
    replace h : m_bag_ok cell_1 := h
    unfold m_bag_ok at h
    show SSN _ [.fz (eI cell_1)] _
    exact sn_ret (en_lst (as_cons (es_max2 es_c (es_sub (es_var 0 rfl) (es_pow es_c es_c ⟨by decide, by decide, by decide⟩))) (as_cons (es_var 0 rfl) (as_cons es_c as_nil))))
end
def m_pick_t1 (many_2 : Int) (bag_3 : Bag) : Int × Bag :=
if (decide (0 < bag_3.a)) = true then (
let told_4 := bag_3.a % many_2
let bag_5 := (⟨bag_3.a / many_2, bag_3.c, bag_3.t⟩ : Bag)
(told_4, bag_5))
else (
let seed_6 := bag_3.c
let turn_7 := bag_3.t
let first_8 := ((((seed_6 % 2147483629) * 48271) + (turn_7 * 69621)) + 12345) % 2147483647
let second_9 := ((first_8 * first_8) + (turn_7 * 40692)) % 2147483587
let drawn_10 := ((first_8 * 2147483587) + second_9) / 32
let j_12 : Int := (if (decide ((10 ^ 15) < many_2)) = true then (
let drawn_11 := (drawn_10 ^ 8) + second_9
drawn_11)
else (
drawn_10))
(j_12 % many_2, bag_3))
def m_pick_u1 (many_2 : Int) (bag_3 : Bag) : Prop :=
((decide (0 < bag_3.a)) = true → (((0 : Int) < many_2) ∧ (∀ told_4, told_4 = (bag_3.a % many_2) → (CDivW bag_3.a many_2) ∧ (∀ bag_5, bag_5 = (⟨bag_3.a / many_2, bag_3.c, bag_3.t⟩ : Bag) → True)))) ∧ ((decide (0 < bag_3.a)) = false → ((∀ seed_6, seed_6 = bag_3.c → ∀ turn_7, turn_7 = bag_3.t → (∀ first_8, first_8 = (((((seed_6 % 2147483629) * 48271) + (turn_7 * 69621)) + 12345) % 2147483647) → (CMulW first_8 first_8) ∧ (∀ second_9, second_9 = (((first_8 * first_8) + (turn_7 * 40692)) % 2147483587) → (∀ drawn_10, drawn_10 = (((first_8 * 2147483587) + second_9) / 32) → ((decide ((10 ^ 15) < many_2)) = true → ((drawn_10.natAbs < 2 ^ 64) ∧ (∀ drawn_11, drawn_11 = ((drawn_10 ^ 8) + second_9) → True))) ∧ ((decide ((10 ^ 15) < many_2)) = false → (True)) ∧ (∀ j_12 : Int, j_12 = (if (decide ((10 ^ 15) < many_2)) = true then (
let drawn_11 := (drawn_10 ^ 8) + second_9
drawn_11)
else (
drawn_10)) → (((0 : Int) < many_2) ∧ True))))))))
def m_pick (bag_1 : Bag) (many_2 : Int) : Int × Bag :=
let bag_3 := (⟨bag_1.a, bag_1.c, bag_1.t + 1⟩ : Bag)
m_pick_t1 many_2 bag_3
def m_pick_ok (bag_1 : Bag) (many_2 : Int) : Prop :=
(∀ bag_3, bag_3 = (⟨bag_1.a, bag_1.c, bag_1.t + 1⟩ : Bag) → m_pick_u1 many_2 bag_3)
def sp_pick (K : PySem.W.Frag) (CT : Nat → Addr) : Sp := spB (ι := Bag × Int) (fun d => bagR d.1) (fun d => [eI d.2]) (fun d => m_pick_ok d.1 d.2) (fun d => bagR (m_pick d.1 d.2).2) (fun d => eI ((m_pick d.1 d.2).1))
abbrev s_pick : Stmt := top 42
abbrev N_pick : List Str := ["_law_bag_here", "_law_many", "_law_told", "_law_seed", "_law_turn", "_law_first", "_law_second", "_law_drawn_here"]
theorem sc_pick : FnScope N_pick ["_law_bag_here", "_law_many"] (defScope s_pick) := ⟨rfl, rfl, rfl, by decide +kernel, rfl, by decide +kernel, by decide +kernel⟩
section
variable {P : Program} {w : World} {K : PySem.W.Frag} {mg : Str → Option Value} {base : Heap} {CT : Nat → Addr}
theorem ok_pick {f : Addr} {fd : FuncData} (F : Fun K "_law_pick" "_law_pick" s_pick f fd) (n_int : mg "int" = none) : FnG P w K mg base CX0 1 f fd ["_law_bag_here", "_law_many"] (sp_pick K CT) := by
  refine Fun.okG F sc_pick (fun vs H Q E h => ?_) (fun cdv A outer s H vs Q E hG hr h => ?_)
  · obtain ⟨d, F, p, o, ws, rfl, _, _, _, _, _, h, _⟩ := h
    exact congrArg (· + 1) h.len
  · have nd := sc_pick.nd
    have hU := hr.units
    refine ⟨_, (pss_cons (ps_asg (pe_op op_add (pe_ix (ix_listK (K := K) rfl) (pv 0) pe_int (fun _ _ => rfl)) pe_int) (pg_sub (pv 0) pe_int set_list))
 (pss_cons (ps_if (pt_cmpR op_gt (pe_ix (ix_listK (K := K) rfl) (pv 0) pe_int (fun _ _ => rfl)) pe_int (nomark _)) (pss_cons (ps_set (i := 2) nd rfl (by first | exact .inl rfl | exact .inr rfl) (pe_op op_mod (pe_callTy call_int1 rfl n_int (by decide +kernel) (pa_cons (pe_ix (ix_listK (K := K) rfl) (pv 0) pe_int (fun _ _ => rfl)) pa_nil)) (pv 1)))
 (pss_cons (ps_asg (pe_op op_fdivW (pe_callTy call_int1 rfl n_int (by decide +kernel) (pa_cons (pe_ix (ix_listK (K := K) rfl) (pv 0) pe_int (fun _ _ => rfl)) pa_nil)) (pv 1)) (pg_sub (pv 0) pe_int set_list))
 (pss_cons (ps_ret (pv 2))
 pss_nil))) pss_nil)
 (pss_cons (ps_par (i := 3) (j := 4) rfl nd rfl rfl (by decide) rfl rfl (pa_cons (pe_callTy call_int1 rfl n_int (by decide +kernel) (pa_cons (pe_ix (ix_listK (K := K) rfl) (pv 0) pe_int (fun _ _ => rfl)) pa_nil)) (pa_cons (pe_callTy call_int1 rfl n_int (by decide +kernel) (pa_cons (pe_ix (ix_listK (K := K) rfl) (pv 0) pe_int (fun _ _ => rfl)) pa_nil)) pa_nil)) (by rfl))
 (pss_cons (ps_set (i := 5) nd rfl (by first | exact .inl rfl | exact .inr rfl) (pe_op op_mod (pe_callTy call_int1 rfl n_int (by decide +kernel) (pa_cons (pe_op op_add (pe_op op_add (pe_op op_mul (pe_op op_mod (pv 3) pe_int) pe_int) (pe_op op_mul (pv 4) pe_int)) pe_int) pa_nil)) pe_int))
 (pss_cons (ps_set (i := 6) nd rfl (by first | exact .inl rfl | exact .inr rfl) (pe_op op_mod (pe_callTy call_int1 rfl n_int (by decide +kernel) (pa_cons (pe_op op_add (pe_op op_mulW (pv 5) (pv 5)) (pe_op op_mul (pv 4) pe_int)) pa_nil)) pe_int))
 (pss_cons (ps_set (i := 7) nd rfl (by first | exact .inl rfl | exact .inr rfl) (pe_op op_fdivW (pe_callTy call_int1 rfl n_int (by decide +kernel) (pa_cons (pe_op op_add (pe_op op_mul (pv 5) pe_int) (pv 6)) pa_nil)) pe_int))
 (pss_cons (ps_if (pt_cmpR op_gt (pv 1) (pe_op op_pow pe_int pe_int) (nomark _)) (pss_cons (ps_set (i := 7) nd rfl (by first | exact .inl rfl | exact .inr rfl) (pe_op op_add (pe_op op_pow (pv 7) pe_int) (pv 6)))
 pss_nil) pss_nil)
 (pss_cons (ps_ret (pe_op op_mod (pe_callTy call_int1 rfl n_int (by decide +kernel) (pa_cons (pv 7) pa_nil)) (pv 1)))
 pss_nil)))))))), ?_⟩
    refine def_B h (fun d => Nat.le_of_ble_eq_true rfl) (fun d p h => ?_)
    obtain ⟨bag_1, many_2⟩ := d
    replace h : m_pick_ok bag_1 many_2 := h
    unfold m_pick_ok at h
    show SS _ [.ow (oLq (some p) (bagR bag_1)), .fz (eI many_2), .no, .no, .no, .no, .no, .no] (BP eI p (m_pick bag_1 many_2))
    refine ss_seq1 (⟨bag_1.a, bag_1.c, bag_1.t + 1⟩ : Bag) (fun bag_3 => [.ow (oLq (some p) (bagR bag_3)), .fz (eI many_2), .no, .no, .no, .no, .no, .no]) (ss_setk (k := 2) (es_add (es_ixO (k := 2) (i := 0) rfl rfl) es_c) rfl (by show 2 < 3; decide) Wk.refl) (fun bag_3 e_bag_3 => ?_)
    replace h := h bag_3 e_bag_3
    refine ss_cut (BP eI p) (v' := m_pick_t1 many_2 bag_3) (by subst e_bag_3; rfl) ?_
    clear e_bag_3
    unfold m_pick_u1 at h
    obtain ⟨hA, hB⟩ := h
    refine ss_ifLv (BP eI p) (et_cmp (es_ixO (k := 0) (i := 0) rfl rfl) es_c q_gt) (fun hc => ?_) (fun hc => ?_)
    · replace h := hA hc; clear hA hB
      obtain ⟨g1, h⟩ := h
      refine ss_seq1 (bag_3.a % many_2) (fun told_4 => [.ow (oLq (some p) (bagR bag_3)), .fz (eI many_2), .fz (eI told_4), .no, .no, .no, .no, .no]) (ss_set (es_mod (es_int (es_ixO (k := 0) (i := 0) rfl rfl)) (es_var 1 rfl) g1) Wk.refl) (fun told_4 e_told_4 => ?_)
      replace h := h told_4 e_told_4
      obtain ⟨g2, h⟩ := h
      refine ss_seq1 (⟨bag_3.a / many_2, bag_3.c, bag_3.t⟩ : Bag) (fun bag_5 => [.ow (oLq (some p) (bagR bag_5)), .fz (eI many_2), .fz (eI told_4), .no, .no, .no, .no, .no]) (ss_setk (k := 0) (es_fdivW (es_int (es_ixO (k := 0) (i := 0) rfl rfl)) (es_var 1 rfl) g2) rfl (by show 0 < 3; decide) Wk.refl) (fun bag_5 e_bag_5 => ?_)
      replace h := h bag_5 e_bag_5
      refine ss_retq (es_var 2 rfl) ?_
      subst e_bag_5 e_told_4
      exact ⟨rfl, rfl⟩
    · replace h := hB hc; clear hA hB
      refine ss_nxq ?_
      refine ss_seq2 bag_3.c bag_3.t (fun seed_6 turn_7 => [.ow (oLq (some p) (bagR bag_3)), .fz (eI many_2), .no, .fz (eI seed_6), .fz (eI turn_7), .no, .no, .no]) (ss_parM (am_fz (es_int (es_ixO (k := 1) (i := 0) rfl rfl)) (am_fz (es_int (es_ixO (k := 2) (i := 0) rfl rfl)) am_nil)) Wk.refl) (fun seed_6 e_seed_6 turn_7 e_turn_7 => ?_)
      replace h := h seed_6 e_seed_6 turn_7 e_turn_7
      refine ss_seq1 (((((seed_6 % 2147483629) * 48271) + (turn_7 * 69621)) + 12345) % 2147483647) (fun first_8 => [.ow (oLq (some p) (bagR bag_3)), .fz (eI many_2), .no, .fz (eI seed_6), .fz (eI turn_7), .fz (eI first_8), .no, .no]) (ss_set (es_mod (es_int (es_add (es_add (es_mul (es_mod (es_var 3 rfl) es_c (by decide)) es_c (.inr (by decide))) (es_mul (es_var 4 rfl) es_c (.inr (by decide)))) es_c)) es_c (by decide)) Wk.refl) (fun first_8 e_first_8 => ?_)
      replace h := h first_8 e_first_8
      obtain ⟨g3, h⟩ := h
      refine ss_seq1 (((first_8 * first_8) + (turn_7 * 40692)) % 2147483587) (fun second_9 => [.ow (oLq (some p) (bagR bag_3)), .fz (eI many_2), .no, .fz (eI seed_6), .fz (eI turn_7), .fz (eI first_8), .fz (eI second_9), .no]) (ss_set (es_mod (es_int (es_add (es_mulW (es_var 5 rfl) (es_var 5 rfl) g3) (es_mul (es_var 4 rfl) es_c (.inr (by decide))))) es_c (by decide)) Wk.refl) (fun second_9 e_second_9 => ?_)
      replace h := h second_9 e_second_9
      refine ss_seq1 (((first_8 * 2147483587) + second_9) / 32) (fun drawn_10 => [.ow (oLq (some p) (bagR bag_3)), .fz (eI many_2), .no, .fz (eI seed_6), .fz (eI turn_7), .fz (eI first_8), .fz (eI second_9), .fz (eI drawn_10)]) (ss_set (es_fdivW (es_int (es_add (es_mul (es_var 5 rfl) es_c (.inr (by decide))) (es_var 6 rfl))) es_c ⟨by decide, by decide +kernel⟩) Wk.refl) (fun drawn_10 e_drawn_10 => ?_)
      replace h := h drawn_10 e_drawn_10
      obtain ⟨hA, hB, h⟩ := h
      refine ss_ifj (α := Int) (
let drawn_11 := (drawn_10 ^ 8) + second_9
drawn_11)
                                                                                                                        (
drawn_10)
                                                                                                                        (fun j_12 => [.ow (oLq (some p) (bagR bag_3)), .fz (eI many_2), .no, .fz (eI seed_6), .fz (eI turn_7), .fz (eI first_8), .fz (eI second_9), .fz (eI j_12)]) (et_cmp (es_var 1 rfl) (es_pow es_c es_c ⟨by decide, by decide, by decide⟩) q_gt) (fun hc => ?_) (fun hc => ?_) (fun j_12 e_j_12 => ?_)
      · replace h := hA hc; clear hA hB
        obtain ⟨g4, h⟩ := h
        refine ss_seq1 ((drawn_10 ^ 8) + second_9) (fun drawn_11 => [.ow (oLq (some p) (bagR bag_3)), .fz (eI many_2), .no, .fz (eI seed_6), .fz (eI turn_7), .fz (eI first_8), .fz (eI second_9), .fz (eI drawn_11)]) (ss_set (es_add (es_pow (es_var 7 rfl) es_c ⟨by decide, by decide, g4⟩) (es_var 6 rfl)) Wk.refl) (fun drawn_11 e_drawn_11 => ?_)
        replace h := h drawn_11 e_drawn_11
        subst e_drawn_11
        exact ss_nx ⟨.inr rfl, ⟨.inr rfl, ⟨.inr rfl, ⟨.inr rfl, ⟨.inr rfl, ⟨.inr rfl, ⟨.inr rfl, ⟨.inr rfl, trivial⟩⟩⟩⟩⟩⟩⟩⟩
      · replace h := hB hc; clear hA hB
        exact ss_nx ⟨.inr rfl, ⟨.inr rfl, ⟨.inr rfl, ⟨.inr rfl, ⟨.inr rfl, ⟨.inr rfl, ⟨.inr rfl, ⟨.inr rfl, trivial⟩⟩⟩⟩⟩⟩⟩⟩
      clear hA hB; replace h := h j_12 e_j_12
      obtain ⟨g5, h⟩ := h
      refine ss_retq (es_mod (es_int (es_var 7 rfl)) (es_var 1 rfl) g5) ?_
      subst e_j_12 e_drawn_10 e_second_9 e_first_8 e_turn_7 e_seed_6
      exact ⟨rfl, rfl⟩
end
def m_rule (bag_1 : Bag) (most_2 : Int) : (Int × Int × Int) × Bag :=
let far_4 := nth ([9, (10 ^ 30) - 1] : List Int) ((m_pick bag_1 2).1)
let rate_5 := nth ([5, 4 * (10 ^ 29)] : List Int) ((m_pick ((m_pick bag_1 2).2) 2).1)
let bag_3 := (m_pick ((m_pick bag_1 2).2) 2).2
(((1 + ((m_pick bag_3 most_2).1), (2 * ((m_pick ((m_pick bag_3 most_2).2) rate_5).1)) + 1, (m_pick ((m_pick ((m_pick bag_3 most_2).2) rate_5).2) (far_4 + 1)).1) : Int × Int × Int), (m_pick ((m_pick ((m_pick bag_3 most_2).2) rate_5).2) (far_4 + 1)).2)
def m_rule_ok (bag_1 : Bag) (most_2 : Int) : Prop :=
(m_pick_ok bag_1 2) ∧ (0 ≤ ((m_pick bag_1 2).1) ∧ ((m_pick bag_1 2).1) < ([9, (10 ^ 30) - 1] : List Int).length) ∧ (m_pick_ok ((m_pick bag_1 2).2) 2) ∧ (0 ≤ ((m_pick ((m_pick bag_1 2).2) 2).1) ∧ ((m_pick ((m_pick bag_1 2).2) 2).1) < ([5, 4 * (10 ^ 29)] : List Int).length) ∧ (∀ far_4, far_4 = (nth ([9, (10 ^ 30) - 1] : List Int) ((m_pick bag_1 2).1)) → ∀ rate_5, rate_5 = (nth ([5, 4 * (10 ^ 29)] : List Int) ((m_pick ((m_pick bag_1 2).2) 2).1)) → ∀ bag_3, bag_3 = ((m_pick ((m_pick bag_1 2).2) 2).2) → (m_pick_ok bag_3 most_2) ∧ (m_pick_ok ((m_pick bag_3 most_2).2) rate_5) ∧ (m_pick_ok ((m_pick ((m_pick bag_3 most_2).2) rate_5).2) (far_4 + 1)) ∧ True)
def sp_rule (K : PySem.W.Frag) (CT : Nat → Addr) : Sp := spB (ι := Bag × Int) (fun d => bagR d.1) (fun d => [eI d.2]) (fun d => m_rule_ok d.1 d.2) (fun d => bagR (m_rule d.1 d.2).2) (fun d => (eP3 K eI eI eI) ((m_rule d.1 d.2).1))
abbrev s_rule : Stmt := top 43
abbrev N_rule : List Str := ["_law_bag_here", "_law_most", "_law_far", "_law_rate_here"]
theorem sc_rule : FnScope N_rule ["_law_bag_here", "_law_most"] (defScope s_rule) := ⟨rfl, rfl, rfl, by decide +kernel, rfl, by decide +kernel, by decide +kernel⟩
section
variable {P : Program} {w : World} {K : PySem.W.Frag} {mg : Str → Option Value} {base : Heap} {CT : Nat → Addr}
theorem ok_rule {f : Addr} {fd : FuncData} (F : Fun K "_law_rule" "_law_rule" s_rule f fd) {a_pick : Addr} {fd_pick : FuncData} (F_pick : Fun K "_law_pick" "_law_pick" s_pick a_pick fd_pick) (G_pick : FnG P w K mg base CX0 1 a_pick fd_pick ["_law_bag_here", "_law_many"] (sp_pick K CT)) (j_pick : mg "_law_pick" = some (.ref a_pick)) (b_pick : Binds K fd_pick ["_law_bag_here", "_law_many"] []) : FnG P w K mg base CX0 2 f fd ["_law_bag_here", "_law_most"] (sp_rule K CT) := by
  refine Fun.okG F sc_rule (fun vs H Q E h => ?_) (fun cdv A outer s H vs Q E hG hr h => ?_)
  · obtain ⟨d, F, p, o, ws, rfl, _, _, _, _, _, h, _⟩ := h
    exact congrArg (· + 1) h.len
  · have nd := sc_rule.nd
    have hU := hr.units
    refine ⟨_, (pss_cons (ps_par (i := 2) (j := 3) rfl nd rfl rfl (by decide) rfl rfl (pa_cons (pe_ix (ix_listK (K := K) rfl) (pe_lst (pa_cons pe_int (pa_cons (pe_op op_sub (pe_op op_pow pe_int pe_int) pe_int) pa_nil))) (pg_call G_pick hG (hr.mono (by decide)) rfl j_pick F_pick.kp b_pick .nil pass0 (pa_cons (pv 0) (pa_cons pe_int pa_nil))) (fun _ _ => rfl)) (pa_cons (pe_ix (ix_listK (K := K) rfl) (pe_lst (pa_cons pe_int (pa_cons (pe_op op_mul pe_int (pe_op op_pow pe_int pe_int)) pa_nil))) (pg_call G_pick hG (hr.mono (by decide)) rfl j_pick F_pick.kp b_pick .nil pass0 (pa_cons (pv 0) (pa_cons pe_int pa_nil))) (fun _ _ => rfl)) pa_nil)) (by rfl))
 (pss_cons (ps_ret (pe_tup (pa_cons (pe_op op_add pe_int (pg_call G_pick hG (hr.mono (by decide)) rfl j_pick F_pick.kp b_pick .nil pass0 (pa_cons (pv 0) (pa_cons (pv 1) pa_nil)))) (pa_cons (pe_op op_add (pe_op op_mul pe_int (pg_call G_pick hG (hr.mono (by decide)) rfl j_pick F_pick.kp b_pick .nil pass0 (pa_cons (pv 0) (pa_cons (pv 3) pa_nil)))) pe_int) (pa_cons (pg_call G_pick hG (hr.mono (by decide)) rfl j_pick F_pick.kp b_pick .nil pass0 (pa_cons (pv 0) (pa_cons (pe_op op_add (pv 2) pe_int) pa_nil))) pa_nil)))))
 pss_nil)), ?_⟩
    refine def_B h (fun d => Nat.le_of_ble_eq_true rfl) (fun d p h => ?_)
    obtain ⟨bag_1, most_2⟩ := d
    replace h : m_rule_ok bag_1 most_2 := h
    unfold m_rule_ok at h
    show SS _ [.ow (oLq (some p) (bagR bag_1)), .fz (eI most_2), .no, .no] (BP (eP3 K eI eI eI) p (m_rule bag_1 most_2))
    obtain ⟨g1, g2, g3, g4, h⟩ := h
    refine ss_seq3 (nth ([9, (10 ^ 30) - 1] : List Int) ((m_pick bag_1 2).1)) (nth ([5, 4 * (10 ^ 29)] : List Int) ((m_pick ((m_pick bag_1 2).2) 2).1)) ((m_pick ((m_pick bag_1 2).2) 2).2) (fun far_4 rate_5 bag_3 => [.ow (oLq (some p) (bagR bag_3)), .fz (eI most_2), .fz (eI far_4), .fz (eI rate_5)]) (ss_parM (am_fzo (es_ixL (e := eI) (es_frs eI ([9, (10 ^ 30) - 1] : List Int) (en_lst (as_cons es_c (as_cons (es_sub (es_pow es_c es_c ⟨by decide, by decide, by decide⟩) es_c) as_nil)))) (es_callB (bag_1, 2) 0 rfl (as_cons es_c as_nil) rfl g1) g2) (am_fzo (es_ixL (e := eI) (es_frs eI ([5, 4 * (10 ^ 29)] : List Int) (en_lst (as_cons es_c (as_cons (es_mul es_c (es_pow es_c es_c ⟨by decide, by decide, by decide⟩) (.inl (by decide))) as_nil)))) (es_callB ((m_pick bag_1 2).2, 2) 0 rfl (as_cons es_c as_nil) rfl g3) g4) am_nil rfl) rfl) Wk.refl) (fun far_4 e_far_4 rate_5 e_rate_5 bag_3 e_bag_3 => ?_)
    replace h := h far_4 e_far_4 rate_5 e_rate_5 bag_3 e_bag_3
    obtain ⟨g5, g6, g7, h⟩ := h
    refine ss_retq (es_tup (K := K) (as_cons (es_add es_c (es_callB (bag_3, most_2) 0 rfl (as_cons (es_var 1 rfl) as_nil) rfl g5)) (as_cons (es_add (es_mul es_c (es_callB ((m_pick bag_3 most_2).2, rate_5) 0 rfl (as_cons (es_var 3 rfl) as_nil) rfl g6) (.inl (by decide))) es_c) (as_cons (es_callB ((m_pick ((m_pick bag_3 most_2).2) rate_5).2, far_4 + 1) 0 rfl (as_cons (es_add (es_var 2 rfl) es_c) as_nil) rfl g7) as_nil)))) ?_
    subst e_bag_3 e_rate_5 e_far_4
    exact ⟨rfl, rfl⟩
end
def m_text (spans_1 : List (Int × Int)) : Str :=
Txt.join (Str.ofString ", ") (List.map (fun (x_2 : Int × Int) => ((strI x_2.1) ++ (Str.ofString "-")) ++ (strI x_2.2)) spans_1)
def m_text_ok (spans_1 : List (Int × Int)) : Prop :=
(∀ x_2 ∈ spans_1, x_2.1.natAbs.log2 < 1920) ∧ (∀ x_2 ∈ spans_1, (strI x_2.1).length + (Str.ofString "-").length ≤ 16000000) ∧ (∀ x_2 ∈ spans_1, x_2.2.natAbs.log2 < 1920) ∧ (∀ x_2 ∈ spans_1, ((strI x_2.1) ++ (Str.ofString "-")).length + (strI x_2.2).length ≤ 16000000) ∧ (spans_1.length < 16000000) ∧ (((List.map (fun (x_2 : Int × Int) => ((strI x_2.1) ++ (Str.ofString "-")) ++ (strI x_2.2)) spans_1).map (·.length)).sum + (List.map (fun (x_2 : Int × Int) => ((strI x_2.1) ++ (Str.ofString "-")) ++ (strI x_2.2)) spans_1).length * (Str.ofString ", ").length ≤ 16777216) ∧ True
def sp_text (K : PySem.W.Frag) (CT : Nat → Addr) : Sp := spF (ι := (List (Int × Int))) (fun d => [(eLs (eP2 K eI eI)) d]) (fun d => m_text_ok d) (fun d => eS (m_text d))
abbrev s_text : Stmt := top 47
abbrev N_text : List Str := ["_law_spans_here", "_law_first", "_law_end"]
theorem sc_text : FnScope N_text ["_law_spans_here"] (defScope s_text) := ⟨rfl, rfl, rfl, by decide +kernel, rfl, by decide +kernel, by decide +kernel⟩
section
variable {P : Program} {w : World} {K : PySem.W.Frag} {mg : Str → Option Value} {base : Heap} {CT : Nat → Addr}
theorem ok_text {f : Addr} {fd : FuncData} (F : Fun K "_law_text" "_law_text" s_text f fd) (n_str : mg "str" = none) : FnG P w K mg base CX0 1 f fd ["_law_spans_here"] (sp_text K CT) := by
  refine Fun.okG F sc_text (fun vs H Q E h => ?_) (fun cdv A outer s H vs Q E hG hr h => ?_)
  · obtain ⟨d, F, _, _, h, _⟩ := h
    exact h.len
  · have nd := sc_text.nd
    have hU := hr.units
    refine ⟨_, (pss_cons (ps_ret (pe_join pe_str (pe_lc (own := [("_law_first", 1), ("_law_end", 2)]) (g := gTup K 2 (gNames [1, 2])) (tt := tYes) rfl nd (pi_list (pv 0)) (blkOk_by (own := [("_law_first", 1), ("_law_end", 2)]) (N := N_text) (sc := defScope s_text) (by decide +kernel)) (fun _ _ _ _ _ => pg_tup rfl (pgs_cons (pg_name (i := 1) nd rfl (by first | exact .inl rfl | exact .inr rfl)) (pgs_cons (pg_name (i := 2) nd rfl (by first | exact .inl rfl | exact .inr rfl)) pgs_nil))) (fun _ _ _ _ _ => pts_nil) (fun _ _ _ _ _ => (pe_op op_add_str (pe_op op_add_str (pe_callTy call_str_int rfl n_str (by decide +kernel) (pa_cons (pv 1) pa_nil)) pe_str) (pe_callTy call_str_int rfl n_str (by decide +kernel) (pa_cons (pv 2) pa_nil)))))))
 pss_nil), ?_⟩
    refine def_F h (fun d => Nat.le_of_ble_eq_true rfl) (fun spans_1 h => ?_)
    replace h : m_text_ok spans_1 := h
    unfold m_text_ok at h
    show SS _ [.fz ((eLs (eP2 K eI eI)) spans_1), .no, .no] (FP eS (m_text spans_1))
    obtain ⟨g1, g2, g3, g4, g5, g6, h⟩ := h
    refine ss_retq (es_join (a := (Str.ofString ", ")) (ys := List.map (fun (x_2 : Int × Int) => ((strI x_2.1) ++ (Str.ofString "-")) ++ (strI x_2.2)) spans_1) es_c (es_frs eS (List.map (fun (x_2 : Int × Int) => ((strI x_2.1) ++ (Str.ofString "-")) ++ (strI x_2.2)) spans_1) (en_lcF eS (fun (x_2 : Int × Int) => ((strI x_2.1) ++ (Str.ofString "-")) ++ (strI x_2.2)) (en_lcS (e := (eP2 K eI eI)) (l := spans_1) (f := (fun (x_2 : Int × Int) => eS (((strI x_2.1) ++ (Str.ofString "-")) ++ (strI x_2.2)))) (is := [1, 2]) (vs := [1, 2]) (fun (x_2 : Int × Int) => true) (fun (x_2 : Int × Int) => [.fz ((eLs (eP2 K eI eI)) spans_1), .fz (eI x_2.1), .fz (eI x_2.2)]) (is_list (e := (eP2 K eI eI)) (es_var 0 rfl)) g5 (fun _ h => h) (fun x_2 => gs_tup (gs_cons (gs_name 1) (gs_cons (gs_name 2) gs_nil))) (fun x_2 hx => et_yes) (fun x_2 hx _ => (es_addS (es_addS (es_strI (es_var 1 rfl) (g1 x_2 hx)) es_c (g2 x_2 hx)) (es_strI (es_var 2 rfl) (g3 x_2 hx)) (g4 x_2 hx)))))) g6) ?_
    exact rfl
end
def m_class_t1 (caught_1 : Xc) (found_20 : List Str) : Str :=
if ((!decide ((found_20.length : Int) = 1)) || (!true)) = true then (
(Str.ofString "odd"))
else (
if (decide ((nth found_20 0) ∈ ([(Str.ofString "InvalidSpans"), (Str.ofString "InvalidSeen")] : List Str))) = true then (
((nth found_20 0) ++ (Str.ofString " ")) ++ (reprO (xget caught_1)))
else (
if (decide ((nth found_20 0) = (Str.ofString "InvalidText"))) = true then (
(Str.ofString "InvalidText ") ++ (reprO (xget caught_1)))
else (
(nth found_20 0) ++ (if (decide ((nth found_20 0) = (Str.ofString "OverBudget"))) = true then (Str.ofString " ") ++ (reprO (xget caught_1)) else (Str.ofString "")))))
def m_class_u1 (caught_1 : Xc) (found_20 : List Str) : Prop :=
((!decide ((found_20.length : Int) = 1)) = false → caught_1.c < 18) ∧ (((!decide ((found_20.length : Int) = 1)) || (!true)) = true → (True)) ∧ (((!decide ((found_20.length : Int) = 1)) || (!true)) = false → ((0 ≤ (0 : Int) ∧ (0 : Int) < found_20.length) ∧ ((decide ((nth found_20 0) ∈ ([(Str.ofString "InvalidSpans"), (Str.ofString "InvalidSeen")] : List Str))) = true → ((0 ≤ (0 : Int) ∧ (0 : Int) < found_20.length) ∧ ((nth found_20 0).length + (Str.ofString " ").length ≤ 16000000) ∧ (caught_1.c < 4 ∧ caught_1.f.isSome = true ∧ xfn caught_1.c = "item") ∧ (∀ i, (xget caught_1) = some i → i.natAbs.log2 < 1920) ∧ (((nth found_20 0) ++ (Str.ofString " ")).length + (reprO (xget caught_1)).length ≤ 16000000) ∧ True)) ∧ ((decide ((nth found_20 0) ∈ ([(Str.ofString "InvalidSpans"), (Str.ofString "InvalidSeen")] : List Str))) = false → ((0 ≤ (0 : Int) ∧ (0 : Int) < found_20.length) ∧ ((decide ((nth found_20 0) = (Str.ofString "InvalidText"))) = true → ((caught_1.c < 4 ∧ caught_1.f.isSome = true ∧ xfn caught_1.c = "part") ∧ (∀ i, (xget caught_1) = some i → i.natAbs.log2 < 1920) ∧ ((Str.ofString "InvalidText ").length + (reprO (xget caught_1)).length ≤ 16000000) ∧ True)) ∧ ((decide ((nth found_20 0) = (Str.ofString "InvalidText"))) = false → ((0 ≤ (0 : Int) ∧ (0 : Int) < found_20.length) ∧ (0 ≤ (0 : Int) ∧ (0 : Int) < found_20.length) ∧ ((decide ((nth found_20 0) = (Str.ofString "OverBudget"))) = true → caught_1.c < 4 ∧ caught_1.f.isSome = true ∧ xfn caught_1.c = "total") ∧ ((decide ((nth found_20 0) = (Str.ofString "OverBudget"))) = true → ∀ i, (xget caught_1) = some i → i.natAbs.log2 < 1920) ∧ ((decide ((nth found_20 0) = (Str.ofString "OverBudget"))) = true → (Str.ofString " ").length + (reprO (xget caught_1)).length ≤ 16000000) ∧ ((nth found_20 0).length + (if (decide ((nth found_20 0) = (Str.ofString "OverBudget"))) = true then (Str.ofString " ") ++ (reprO (xget caught_1)) else (Str.ofString "")).length ≤ 16000000) ∧ True))))))
def m_class (caught_1 : Xc) : Str :=
let some_2 := ([] : List (Str × Bool)) ++ [(((Str.ofString "InvalidSpans"), isX caught_1 0) : Str × Bool)]
let some_3 := some_2 ++ [(((Str.ofString "InvalidSeen"), isX caught_1 1) : Str × Bool)]
let some_4 := some_3 ++ [(((Str.ofString "InvalidText"), isX caught_1 2) : Str × Bool)]
let some_5 := some_4 ++ [(((Str.ofString "OverBudget"), isX caught_1 3) : Str × Bool)]
let some_6 := some_5 ++ [(((Str.ofString "InvalidCapacity"), isX caught_1 4) : Str × Bool)]
let some_7 := some_6 ++ [(((Str.ofString "InvalidRate"), isX caught_1 5) : Str × Bool)]
let some_8 := some_7 ++ [(((Str.ofString "InvalidShift"), isX caught_1 6) : Str × Bool)]
let some_9 := some_8 ++ [(((Str.ofString "InvalidTable"), isX caught_1 7) : Str × Bool)]
let some_10 := some_9 ++ [(((Str.ofString "InvalidKey"), isX caught_1 8) : Str × Bool)]
let some_11 := some_10 ++ [(((Str.ofString "InvalidDepth"), isX caught_1 9) : Str × Bool)]
let some_12 := some_11 ++ [(((Str.ofString "InvalidTail"), isX caught_1 10) : Str × Bool)]
let some_13 := some_12 ++ [(((Str.ofString "InvalidSpan"), isX caught_1 11) : Str × Bool)]
let some_14 := some_13 ++ [(((Str.ofString "InvalidNumber"), isX caught_1 12) : Str × Bool)]
let some_15 := some_14 ++ [(((Str.ofString "InvalidBudget"), isX caught_1 13) : Str × Bool)]
let some_16 := some_15 ++ [(((Str.ofString "InvalidOperation"), isX caught_1 14) : Str × Bool)]
let some_17 := some_16 ++ [(((Str.ofString "Nothing"), isX caught_1 15) : Str × Bool)]
let some_18 := some_17 ++ ([((Str.ofString "InvalidCommand"), isX caught_1 16)] : List (Str × Bool))
let found_20 := (List.filter (fun (x_19 : Str × Bool) => x_19.2) some_18).map fun (x_19 : Str × Bool) => x_19.1
m_class_t1 caught_1 found_20
def m_class_ok (caught_1 : Xc) : Prop :=
((caught_1.c < 18) ∧ (([] : List (Str × Bool)).length < 16000000) ∧ (∀ some_2, some_2 = (([] : List (Str × Bool)) ++ [(((Str.ofString "InvalidSpans"), isX caught_1 0) : Str × Bool)]) → (caught_1.c < 18) ∧ (some_2.length < 16000000) ∧ (∀ some_3, some_3 = (some_2 ++ [(((Str.ofString "InvalidSeen"), isX caught_1 1) : Str × Bool)]) → (caught_1.c < 18) ∧ (some_3.length < 16000000) ∧ (∀ some_4, some_4 = (some_3 ++ [(((Str.ofString "InvalidText"), isX caught_1 2) : Str × Bool)]) → (caught_1.c < 18) ∧ (some_4.length < 16000000) ∧ (∀ some_5, some_5 = (some_4 ++ [(((Str.ofString "OverBudget"), isX caught_1 3) : Str × Bool)]) → (caught_1.c < 18) ∧ (some_5.length < 16000000) ∧ (∀ some_6, some_6 = (some_5 ++ [(((Str.ofString "InvalidCapacity"), isX caught_1 4) : Str × Bool)]) → (caught_1.c < 18) ∧ (some_6.length < 16000000) ∧ (∀ some_7, some_7 = (some_6 ++ [(((Str.ofString "InvalidRate"), isX caught_1 5) : Str × Bool)]) → (caught_1.c < 18) ∧ (some_7.length < 16000000) ∧ (∀ some_8, some_8 = (some_7 ++ [(((Str.ofString "InvalidShift"), isX caught_1 6) : Str × Bool)]) → (caught_1.c < 18) ∧ (some_8.length < 16000000) ∧ (∀ some_9, some_9 = (some_8 ++ [(((Str.ofString "InvalidTable"), isX caught_1 7) : Str × Bool)]) → (caught_1.c < 18) ∧ (some_9.length < 16000000) ∧ (∀ some_10, some_10 = (some_9 ++ [(((Str.ofString "InvalidKey"), isX caught_1 8) : Str × Bool)]) → (caught_1.c < 18) ∧ (some_10.length < 16000000) ∧ (∀ some_11, some_11 = (some_10 ++ [(((Str.ofString "InvalidDepth"), isX caught_1 9) : Str × Bool)]) → (caught_1.c < 18) ∧ (some_11.length < 16000000) ∧ (∀ some_12, some_12 = (some_11 ++ [(((Str.ofString "InvalidTail"), isX caught_1 10) : Str × Bool)]) → (caught_1.c < 18) ∧ (some_12.length < 16000000) ∧ (∀ some_13, some_13 = (some_12 ++ [(((Str.ofString "InvalidSpan"), isX caught_1 11) : Str × Bool)]) → (caught_1.c < 18) ∧ (some_13.length < 16000000) ∧ (∀ some_14, some_14 = (some_13 ++ [(((Str.ofString "InvalidNumber"), isX caught_1 12) : Str × Bool)]) → (caught_1.c < 18) ∧ (some_14.length < 16000000) ∧ (∀ some_15, some_15 = (some_14 ++ [(((Str.ofString "InvalidBudget"), isX caught_1 13) : Str × Bool)]) → (caught_1.c < 18) ∧ (some_15.length < 16000000) ∧ (∀ some_16, some_16 = (some_15 ++ [(((Str.ofString "InvalidOperation"), isX caught_1 14) : Str × Bool)]) → (caught_1.c < 18) ∧ (some_16.length < 16000000) ∧ (∀ some_17, some_17 = (some_16 ++ [(((Str.ofString "Nothing"), isX caught_1 15) : Str × Bool)]) → (caught_1.c < 18) ∧ (some_17.length + ([((Str.ofString "InvalidCommand"), isX caught_1 16)] : List (Str × Bool)).length ≤ 16000000) ∧ (∀ some_18, some_18 = (some_17 ++ ([((Str.ofString "InvalidCommand"), isX caught_1 16)] : List (Str × Bool))) → (some_18.length < 16000000) ∧ (∀ found_20, found_20 = ((List.filter (fun (x_19 : Str × Bool) => x_19.2) some_18).map fun (x_19 : Str × Bool) => x_19.1) → m_class_u1 caught_1 found_20)))))))))))))))))))
def sp_class (K : PySem.W.Frag) (CT : Nat → Addr) : Sp := spF (ι := Xc) (fun d => [(eC CT) d]) (fun d => m_class_ok d) (fun d => eS (m_class d))
abbrev s_class : Stmt := top 48
abbrev N_class : List Str := ["_law_caught", "_law_some", "_law_found", "_law_name", "_law_is_one"]
theorem sc_class : FnScope N_class ["_law_caught"] (defScope s_class) := ⟨rfl, rfl, rfl, by decide +kernel, rfl, by decide +kernel, by decide +kernel⟩
section
variable {P : Program} {w : World} {K : PySem.W.Frag} {mg : Str → Option Value} {base : Heap} {CT : Nat → Addr}
theorem ok_class {f : Addr} {fd : FuncData} (F : Fun K "_law_class" "_law_class" s_class f fd) (n_ValueError : mg "ValueError" = none) (n_isinstance : mg "isinstance" = none) (n_len : mg "len" = none) (n_repr : mg "repr" = none) (XX : XT K CT) (xg0 : mg "InvalidSpans" = some (.ref (CT 0))) (xg1 : mg "InvalidSeen" = some (.ref (CT 1))) (xg10 : mg "InvalidTail" = some (.ref (CT 10))) (xg11 : mg "InvalidSpan" = some (.ref (CT 11))) (xg12 : mg "InvalidNumber" = some (.ref (CT 12))) (xg13 : mg "InvalidBudget" = some (.ref (CT 13))) (xg14 : mg "InvalidOperation" = some (.ref (CT 14))) (xg15 : mg "Nothing" = some (.ref (CT 15))) (xg16 : mg "InvalidCommand" = some (.ref (CT 16))) (xg2 : mg "InvalidText" = some (.ref (CT 2))) (xg3 : mg "OverBudget" = some (.ref (CT 3))) (xg4 : mg "InvalidCapacity" = some (.ref (CT 4))) (xg5 : mg "InvalidRate" = some (.ref (CT 5))) (xg6 : mg "InvalidShift" = some (.ref (CT 6))) (xg7 : mg "InvalidTable" = some (.ref (CT 7))) (xg8 : mg "InvalidKey" = some (.ref (CT 8))) (xg9 : mg "InvalidDepth" = some (.ref (CT 9))) : FnG P w K mg base CX0 1 f fd ["_law_caught"] (sp_class K CT) := by
  refine Fun.okG F sc_class (fun vs H Q E h => ?_) (fun cdv A outer s H vs Q E hG hr h => ?_)
  · obtain ⟨d, F, _, _, h, _⟩ := h
    exact h.len
  · have nd := sc_class.nd
    have hU := hr.units
    refine ⟨_, (pss_cons (ps_set (i := 1) nd rfl (by first | exact .inl rfl | exact .inr rfl) (pe_lst pa_nil))
 (pss_cons (ps_expr (pe_bm PySem.F.plainAttrs_list PySem.F.slot_list_append PySem.F.type_list_append mt_append (pv 1) (pa_cons (pe_tup (pa_cons pe_str (pa_cons (pe_callB call_isC rfl n_isinstance (by decide +kernel) (pa_cons (pv 0) (pa_cons (pe_glob (v := .ref (CT 0)) rfl xg0 rfl) pa_nil))) pa_nil))) pa_nil)))
 (pss_cons (ps_expr (pe_bm PySem.F.plainAttrs_list PySem.F.slot_list_append PySem.F.type_list_append mt_append (pv 1) (pa_cons (pe_tup (pa_cons pe_str (pa_cons (pe_callB call_isC rfl n_isinstance (by decide +kernel) (pa_cons (pv 0) (pa_cons (pe_glob (v := .ref (CT 1)) rfl xg1 rfl) pa_nil))) pa_nil))) pa_nil)))
 (pss_cons (ps_expr (pe_bm PySem.F.plainAttrs_list PySem.F.slot_list_append PySem.F.type_list_append mt_append (pv 1) (pa_cons (pe_tup (pa_cons pe_str (pa_cons (pe_callB call_isC rfl n_isinstance (by decide +kernel) (pa_cons (pv 0) (pa_cons (pe_glob (v := .ref (CT 2)) rfl xg2 rfl) pa_nil))) pa_nil))) pa_nil)))
 (pss_cons (ps_expr (pe_bm PySem.F.plainAttrs_list PySem.F.slot_list_append PySem.F.type_list_append mt_append (pv 1) (pa_cons (pe_tup (pa_cons pe_str (pa_cons (pe_callB call_isC rfl n_isinstance (by decide +kernel) (pa_cons (pv 0) (pa_cons (pe_glob (v := .ref (CT 3)) rfl xg3 rfl) pa_nil))) pa_nil))) pa_nil)))
 (pss_cons (ps_expr (pe_bm PySem.F.plainAttrs_list PySem.F.slot_list_append PySem.F.type_list_append mt_append (pv 1) (pa_cons (pe_tup (pa_cons pe_str (pa_cons (pe_callB call_isC rfl n_isinstance (by decide +kernel) (pa_cons (pv 0) (pa_cons (pe_glob (v := .ref (CT 4)) rfl xg4 rfl) pa_nil))) pa_nil))) pa_nil)))
 (pss_cons (ps_expr (pe_bm PySem.F.plainAttrs_list PySem.F.slot_list_append PySem.F.type_list_append mt_append (pv 1) (pa_cons (pe_tup (pa_cons pe_str (pa_cons (pe_callB call_isC rfl n_isinstance (by decide +kernel) (pa_cons (pv 0) (pa_cons (pe_glob (v := .ref (CT 5)) rfl xg5 rfl) pa_nil))) pa_nil))) pa_nil)))
 (pss_cons (ps_expr (pe_bm PySem.F.plainAttrs_list PySem.F.slot_list_append PySem.F.type_list_append mt_append (pv 1) (pa_cons (pe_tup (pa_cons pe_str (pa_cons (pe_callB call_isC rfl n_isinstance (by decide +kernel) (pa_cons (pv 0) (pa_cons (pe_glob (v := .ref (CT 6)) rfl xg6 rfl) pa_nil))) pa_nil))) pa_nil)))
 (pss_cons (ps_expr (pe_bm PySem.F.plainAttrs_list PySem.F.slot_list_append PySem.F.type_list_append mt_append (pv 1) (pa_cons (pe_tup (pa_cons pe_str (pa_cons (pe_callB call_isC rfl n_isinstance (by decide +kernel) (pa_cons (pv 0) (pa_cons (pe_glob (v := .ref (CT 7)) rfl xg7 rfl) pa_nil))) pa_nil))) pa_nil)))
 (pss_cons (ps_expr (pe_bm PySem.F.plainAttrs_list PySem.F.slot_list_append PySem.F.type_list_append mt_append (pv 1) (pa_cons (pe_tup (pa_cons pe_str (pa_cons (pe_callB call_isC rfl n_isinstance (by decide +kernel) (pa_cons (pv 0) (pa_cons (pe_glob (v := .ref (CT 8)) rfl xg8 rfl) pa_nil))) pa_nil))) pa_nil)))
 (pss_cons (ps_expr (pe_bm PySem.F.plainAttrs_list PySem.F.slot_list_append PySem.F.type_list_append mt_append (pv 1) (pa_cons (pe_tup (pa_cons pe_str (pa_cons (pe_callB call_isC rfl n_isinstance (by decide +kernel) (pa_cons (pv 0) (pa_cons (pe_glob (v := .ref (CT 9)) rfl xg9 rfl) pa_nil))) pa_nil))) pa_nil)))
 (pss_cons (ps_expr (pe_bm PySem.F.plainAttrs_list PySem.F.slot_list_append PySem.F.type_list_append mt_append (pv 1) (pa_cons (pe_tup (pa_cons pe_str (pa_cons (pe_callB call_isC rfl n_isinstance (by decide +kernel) (pa_cons (pv 0) (pa_cons (pe_glob (v := .ref (CT 10)) rfl xg10 rfl) pa_nil))) pa_nil))) pa_nil)))
 (pss_cons (ps_expr (pe_bm PySem.F.plainAttrs_list PySem.F.slot_list_append PySem.F.type_list_append mt_append (pv 1) (pa_cons (pe_tup (pa_cons pe_str (pa_cons (pe_callB call_isC rfl n_isinstance (by decide +kernel) (pa_cons (pv 0) (pa_cons (pe_glob (v := .ref (CT 11)) rfl xg11 rfl) pa_nil))) pa_nil))) pa_nil)))
 (pss_cons (ps_expr (pe_bm PySem.F.plainAttrs_list PySem.F.slot_list_append PySem.F.type_list_append mt_append (pv 1) (pa_cons (pe_tup (pa_cons pe_str (pa_cons (pe_callB call_isC rfl n_isinstance (by decide +kernel) (pa_cons (pv 0) (pa_cons (pe_glob (v := .ref (CT 12)) rfl xg12 rfl) pa_nil))) pa_nil))) pa_nil)))
 (pss_cons (ps_expr (pe_bm PySem.F.plainAttrs_list PySem.F.slot_list_append PySem.F.type_list_append mt_append (pv 1) (pa_cons (pe_tup (pa_cons pe_str (pa_cons (pe_callB call_isC rfl n_isinstance (by decide +kernel) (pa_cons (pv 0) (pa_cons (pe_glob (v := .ref (CT 13)) rfl xg13 rfl) pa_nil))) pa_nil))) pa_nil)))
 (pss_cons (ps_expr (pe_bm PySem.F.plainAttrs_list PySem.F.slot_list_append PySem.F.type_list_append mt_append (pv 1) (pa_cons (pe_tup (pa_cons pe_str (pa_cons (pe_callB call_isC rfl n_isinstance (by decide +kernel) (pa_cons (pv 0) (pa_cons (pe_glob (v := .ref (CT 14)) rfl xg14 rfl) pa_nil))) pa_nil))) pa_nil)))
 (pss_cons (ps_expr (pe_bm PySem.F.plainAttrs_list PySem.F.slot_list_append PySem.F.type_list_append mt_append (pv 1) (pa_cons (pe_tup (pa_cons pe_str (pa_cons (pe_callB call_isC rfl n_isinstance (by decide +kernel) (pa_cons (pv 0) (pa_cons (pe_glob (v := .ref (CT 15)) rfl xg15 rfl) pa_nil))) pa_nil))) pa_nil)))
 (pss_cons (ps_set (i := 1) nd rfl (by first | exact .inl rfl | exact .inr rfl) (pe_op op_cat (pv 1) (pe_lst (pa_cons (pe_tup (pa_cons pe_str (pa_cons (pe_callB call_isC rfl n_isinstance (by decide +kernel) (pa_cons (pv 0) (pa_cons (pe_glob (v := .ref (CT 16)) rfl xg16 rfl) pa_nil))) pa_nil))) pa_nil))))
 (pss_cons (ps_setLc (i := 2) (own := [("_law_name", 3), ("_law_is_one", 4)]) (g := gTup K 2 (gNames [3, 4])) rfl nd rfl rfl (sw_true rfl rfl rfl (by decide +kernel)) (pi_list (pv 1)) (blkOk_by (own := [("_law_name", 3), ("_law_is_one", 4)]) (N := N_class) (sc := defScope s_class) (by decide +kernel)) (fun _ _ _ _ _ => pg_tup rfl (pgs_cons (pg_name (i := 3) nd rfl (by first | exact .inl rfl | exact .inr rfl)) (pgs_cons (pg_name (i := 4) nd rfl (by first | exact .inl rfl | exact .inr rfl)) pgs_nil))) (fun _ _ _ _ _ => pts_one (pt_val (pv 4))) (fun _ _ _ _ _ => (pv 3)))
 (pss_cons (ps_if (PW.pt (pw_or (pt_cmpR op_ne (pe_callB (call_len_seqK (K := K) rfl) rfl n_len (by decide +kernel) (pa_cons (pv 2) pa_nil)) pe_int (nomark _)) (pw_or1 (pt_not (pt_val (pe_callB call_isC rfl n_isinstance (by decide +kernel) (pa_cons (pv 0) (pa_cons (pe_bltn (v := .ty "ValueError") rfl n_ValueError (by decide +kernel) rfl) pa_nil)))))))) (pss_cons (ps_ret pe_str)
 pss_nil) pss_nil)
 (pss_cons (ps_if (pt_cmpR (op_in_seqK (K := K) rfl) (pe_ix (ix_listK (K := K) rfl) (pv 2) pe_int (fun _ _ => rfl)) (pe_tup (pa_cons pe_str (pa_cons pe_str pa_nil))) (by rfl)) (pss_cons (ps_ret (pe_op op_add_str (pe_op op_add_str (pe_ix (ix_listK (K := K) rfl) (pv 2) pe_int (fun _ _ => rfl)) pe_str) (pe_callB call_reprO rfl n_repr (by decide +kernel) (pa_cons (pe_cg (pv 0)) pa_nil))))
 pss_nil) pss_nil)
 (pss_cons (ps_if (pt_cmpR op_eq (pe_ix (ix_listK (K := K) rfl) (pv 2) pe_int (fun _ _ => rfl)) pe_str (nomark _)) (pss_cons (ps_ret (pe_op op_add_str pe_str (pe_callB call_reprO rfl n_repr (by decide +kernel) (pa_cons (pe_cg (pv 0)) pa_nil))))
 pss_nil) pss_nil)
 (pss_cons (ps_ret (pe_op op_add_str (pe_ix (ix_listK (K := K) rfl) (pv 2) pe_int (fun _ _ => rfl)) (pe_ifExp (pt_cmpR op_eq (pe_ix (ix_listK (K := K) rfl) (pv 2) pe_int (fun _ _ => rfl)) pe_str (nomark _)) (pe_op op_add_str pe_str (pe_callB call_reprO rfl n_repr (by decide +kernel) (pa_cons (pe_cg (pv 0)) pa_nil))) pe_str)))
 pss_nil))))))))))))))))))))))), ?_⟩
    refine def_F h (fun d => Nat.le_of_ble_eq_true rfl) (fun caught_1 h => ?_)
    replace h : m_class_ok caught_1 := h
    unfold m_class_ok at h
    show SS _ [.fz ((eC CT) caught_1), .no, .no, .no, .no] (FP eS (m_class caught_1))
    refine ss_seqTo [.fz ((eC CT) caught_1), .ow (oLs (eP2 K eS eB) ([] : List (Str × Bool))), .no, .no, .no] (ss_own (en_lst as_nil) Wk.refl) ?_
    obtain ⟨g1, g2, h⟩ := h
    refine ss_seq1 (([] : List (Str × Bool)) ++ [(((Str.ofString "InvalidSpans"), isX caught_1 0) : Str × Bool)]) (fun some_2 => [.fz ((eC CT) caught_1), .ow (oLs (eP2 K eS eB) some_2), .no, .no, .no]) (ss_appendO (e := (eP2 K eS eB)) (x := (((Str.ofString "InvalidSpans"), isX caught_1 0) : Str × Bool)) rfl (es_tup (K := K) (as_cons es_c (as_cons (es_isC (j := 0) XX (es_var 0 rfl) g1 (by decide)) as_nil))) rfl g2 Wk.refl) (fun some_2 e_some_2 => ?_)
    replace h := h some_2 e_some_2
    obtain ⟨g3, g4, h⟩ := h
    refine ss_seq1 (some_2 ++ [(((Str.ofString "InvalidSeen"), isX caught_1 1) : Str × Bool)]) (fun some_3 => [.fz ((eC CT) caught_1), .ow (oLs (eP2 K eS eB) some_3), .no, .no, .no]) (ss_appendO (e := (eP2 K eS eB)) (x := (((Str.ofString "InvalidSeen"), isX caught_1 1) : Str × Bool)) rfl (es_tup (K := K) (as_cons es_c (as_cons (es_isC (j := 1) XX (es_var 0 rfl) g3 (by decide)) as_nil))) rfl g4 Wk.refl) (fun some_3 e_some_3 => ?_)
    replace h := h some_3 e_some_3
    obtain ⟨g5, g6, h⟩ := h
    refine ss_seq1 (some_3 ++ [(((Str.ofString "InvalidText"), isX caught_1 2) : Str × Bool)]) (fun some_4 => [.fz ((eC CT) caught_1), .ow (oLs (eP2 K eS eB) some_4), .no, .no, .no]) (ss_appendO (e := (eP2 K eS eB)) (x := (((Str.ofString "InvalidText"), isX caught_1 2) : Str × Bool)) rfl (es_tup (K := K) (as_cons es_c (as_cons (es_isC (j := 2) XX (es_var 0 rfl) g5 (by decide)) as_nil))) rfl g6 Wk.refl) (fun some_4 e_some_4 => ?_)
    replace h := h some_4 e_some_4
    obtain ⟨g7, g8, h⟩ := h
    refine ss_seq1 (some_4 ++ [(((Str.ofString "OverBudget"), isX caught_1 3) : Str × Bool)]) (fun some_5 => [.fz ((eC CT) caught_1), .ow (oLs (eP2 K eS eB) some_5), .no, .no, .no]) (ss_appendO (e := (eP2 K eS eB)) (x := (((Str.ofString "OverBudget"), isX caught_1 3) : Str × Bool)) rfl (es_tup (K := K) (as_cons es_c (as_cons (es_isC (j := 3) XX (es_var 0 rfl) g7 (by decide)) as_nil))) rfl g8 Wk.refl) (fun some_5 e_some_5 => ?_)
    replace h := h some_5 e_some_5
    obtain ⟨g9, g10, h⟩ := h
    refine ss_seq1 (some_5 ++ [(((Str.ofString "InvalidCapacity"), isX caught_1 4) : Str × Bool)]) (fun some_6 => [.fz ((eC CT) caught_1), .ow (oLs (eP2 K eS eB) some_6), .no, .no, .no]) (ss_appendO (e := (eP2 K eS eB)) (x := (((Str.ofString "InvalidCapacity"), isX caught_1 4) : Str × Bool)) rfl (es_tup (K := K) (as_cons es_c (as_cons (es_isC (j := 4) XX (es_var 0 rfl) g9 (by decide)) as_nil))) rfl g10 Wk.refl) (fun some_6 e_some_6 => ?_)
    replace h := h some_6 e_some_6
    obtain ⟨g11, g12, h⟩ := h
    refine ss_seq1 (some_6 ++ [(((Str.ofString "InvalidRate"), isX caught_1 5) : Str × Bool)]) (fun some_7 => [.fz ((eC CT) caught_1), .ow (oLs (eP2 K eS eB) some_7), .no, .no, .no]) (ss_appendO (e := (eP2 K eS eB)) (x := (((Str.ofString "InvalidRate"), isX caught_1 5) : Str × Bool)) rfl (es_tup (K := K) (as_cons es_c (as_cons (es_isC (j := 5) XX (es_var 0 rfl) g11 (by decide)) as_nil))) rfl g12 Wk.refl) (fun some_7 e_some_7 => ?_)
    replace h := h some_7 e_some_7
    obtain ⟨g13, g14, h⟩ := h
    refine ss_seq1 (some_7 ++ [(((Str.ofString "InvalidShift"), isX caught_1 6) : Str × Bool)]) (fun some_8 => [.fz ((eC CT) caught_1), .ow (oLs (eP2 K eS eB) some_8), .no, .no, .no]) (ss_appendO (e := (eP2 K eS eB)) (x := (((Str.ofString "InvalidShift"), isX caught_1 6) : Str × Bool)) rfl (es_tup (K := K) (as_cons es_c (as_cons (es_isC (j := 6) XX (es_var 0 rfl) g13 (by decide)) as_nil))) rfl g14 Wk.refl) (fun some_8 e_some_8 => ?_)
    replace h := h some_8 e_some_8
    obtain ⟨g15, g16, h⟩ := h
    refine ss_seq1 (some_8 ++ [(((Str.ofString "InvalidTable"), isX caught_1 7) : Str × Bool)]) (fun some_9 => [.fz ((eC CT) caught_1), .ow (oLs (eP2 K eS eB) some_9), .no, .no, .no]) (ss_appendO (e := (eP2 K eS eB)) (x := (((Str.ofString "InvalidTable"), isX caught_1 7) : Str × Bool)) rfl (es_tup (K := K) (as_cons es_c (as_cons (es_isC (j := 7) XX (es_var 0 rfl) g15 (by decide)) as_nil))) rfl g16 Wk.refl) (fun some_9 e_some_9 => ?_)
    replace h := h some_9 e_some_9
    obtain ⟨g17, g18, h⟩ := h
    refine ss_seq1 (some_9 ++ [(((Str.ofString "InvalidKey"), isX caught_1 8) : Str × Bool)]) (fun some_10 => [.fz ((eC CT) caught_1), .ow (oLs (eP2 K eS eB) some_10), .no, .no, .no]) (ss_appendO (e := (eP2 K eS eB)) (x := (((Str.ofString "InvalidKey"), isX caught_1 8) : Str × Bool)) rfl (es_tup (K := K) (as_cons es_c (as_cons (es_isC (j := 8) XX (es_var 0 rfl) g17 (by decide)) as_nil))) rfl g18 Wk.refl) (fun some_10 e_some_10 => ?_)
    replace h := h some_10 e_some_10
    obtain ⟨g19, g20, h⟩ := h
    refine ss_seq1 (some_10 ++ [(((Str.ofString "InvalidDepth"), isX caught_1 9) : Str × Bool)]) (fun some_11 => [.fz ((eC CT) caught_1), .ow (oLs (eP2 K eS eB) some_11), .no, .no, .no]) (ss_appendO (e := (eP2 K eS eB)) (x := (((Str.ofString "InvalidDepth"), isX caught_1 9) : Str × Bool)) rfl (es_tup (K := K) (as_cons es_c (as_cons (es_isC (j := 9) XX (es_var 0 rfl) g19 (by decide)) as_nil))) rfl g20 Wk.refl) (fun some_11 e_some_11 => ?_)
    replace h := h some_11 e_some_11
    obtain ⟨g21, g22, h⟩ := h
    refine ss_seq1 (some_11 ++ [(((Str.ofString "InvalidTail"), isX caught_1 10) : Str × Bool)]) (fun some_12 => [.fz ((eC CT) caught_1), .ow (oLs (eP2 K eS eB) some_12), .no, .no, .no]) (ss_appendO (e := (eP2 K eS eB)) (x := (((Str.ofString "InvalidTail"), isX caught_1 10) : Str × Bool)) rfl (es_tup (K := K) (as_cons es_c (as_cons (es_isC (j := 10) XX (es_var 0 rfl) g21 (by decide)) as_nil))) rfl g22 Wk.refl) (fun some_12 e_some_12 => ?_)
    replace h := h some_12 e_some_12
    obtain ⟨g23, g24, h⟩ := h
    refine ss_seq1 (some_12 ++ [(((Str.ofString "InvalidSpan"), isX caught_1 11) : Str × Bool)]) (fun some_13 => [.fz ((eC CT) caught_1), .ow (oLs (eP2 K eS eB) some_13), .no, .no, .no]) (ss_appendO (e := (eP2 K eS eB)) (x := (((Str.ofString "InvalidSpan"), isX caught_1 11) : Str × Bool)) rfl (es_tup (K := K) (as_cons es_c (as_cons (es_isC (j := 11) XX (es_var 0 rfl) g23 (by decide)) as_nil))) rfl g24 Wk.refl) (fun some_13 e_some_13 => ?_)
    replace h := h some_13 e_some_13
    obtain ⟨g25, g26, h⟩ := h
    refine ss_seq1 (some_13 ++ [(((Str.ofString "InvalidNumber"), isX caught_1 12) : Str × Bool)]) (fun some_14 => [.fz ((eC CT) caught_1), .ow (oLs (eP2 K eS eB) some_14), .no, .no, .no]) (ss_appendO (e := (eP2 K eS eB)) (x := (((Str.ofString "InvalidNumber"), isX caught_1 12) : Str × Bool)) rfl (es_tup (K := K) (as_cons es_c (as_cons (es_isC (j := 12) XX (es_var 0 rfl) g25 (by decide)) as_nil))) rfl g26 Wk.refl) (fun some_14 e_some_14 => ?_)
    replace h := h some_14 e_some_14
    obtain ⟨g27, g28, h⟩ := h
    refine ss_seq1 (some_14 ++ [(((Str.ofString "InvalidBudget"), isX caught_1 13) : Str × Bool)]) (fun some_15 => [.fz ((eC CT) caught_1), .ow (oLs (eP2 K eS eB) some_15), .no, .no, .no]) (ss_appendO (e := (eP2 K eS eB)) (x := (((Str.ofString "InvalidBudget"), isX caught_1 13) : Str × Bool)) rfl (es_tup (K := K) (as_cons es_c (as_cons (es_isC (j := 13) XX (es_var 0 rfl) g27 (by decide)) as_nil))) rfl g28 Wk.refl) (fun some_15 e_some_15 => ?_)
    replace h := h some_15 e_some_15
    obtain ⟨g29, g30, h⟩ := h
    refine ss_seq1 (some_15 ++ [(((Str.ofString "InvalidOperation"), isX caught_1 14) : Str × Bool)]) (fun some_16 => [.fz ((eC CT) caught_1), .ow (oLs (eP2 K eS eB) some_16), .no, .no, .no]) (ss_appendO (e := (eP2 K eS eB)) (x := (((Str.ofString "InvalidOperation"), isX caught_1 14) : Str × Bool)) rfl (es_tup (K := K) (as_cons es_c (as_cons (es_isC (j := 14) XX (es_var 0 rfl) g29 (by decide)) as_nil))) rfl g30 Wk.refl) (fun some_16 e_some_16 => ?_)
    replace h := h some_16 e_some_16
    obtain ⟨g31, g32, h⟩ := h
    refine ss_seq1 (some_16 ++ [(((Str.ofString "Nothing"), isX caught_1 15) : Str × Bool)]) (fun some_17 => [.fz ((eC CT) caught_1), .ow (oLs (eP2 K eS eB) some_17), .no, .no, .no]) (ss_appendO (e := (eP2 K eS eB)) (x := (((Str.ofString "Nothing"), isX caught_1 15) : Str × Bool)) rfl (es_tup (K := K) (as_cons es_c (as_cons (es_isC (j := 15) XX (es_var 0 rfl) g31 (by decide)) as_nil))) rfl g32 Wk.refl) (fun some_17 e_some_17 => ?_)
    replace h := h some_17 e_some_17
    obtain ⟨g33, g34, h⟩ := h
    refine ss_seq1 (some_17 ++ ([((Str.ofString "InvalidCommand"), isX caught_1 16)] : List (Str × Bool))) (fun some_18 => [.fz ((eC CT) caught_1), .ow (oLs (eP2 K eS eB) some_18), .no, .no, .no]) (ss_own (en_catO (e := (eP2 K eS eB)) (i := 1) rfl (es_frs (eP2 K eS eB) ([((Str.ofString "InvalidCommand"), isX caught_1 16)] : List (Str × Bool)) (en_lst (as_cons (es_tup (K := K) (as_cons es_c (as_cons (es_isC (j := 16) XX (es_var 0 rfl) g33 (by decide)) as_nil))) as_nil))) rfl g34) Wk.refl) (fun some_18 e_some_18 => ?_)
    replace h := h some_18 e_some_18
    refine ss_frz (e := (eP2 K eS eB)) (l := some_18) 1 rfl ?_
    obtain ⟨g35, h⟩ := h
    refine ss_seq1 ((List.filter (fun (x_19 : Str × Bool) => x_19.2) some_18).map fun (x_19 : Str × Bool) => x_19.1) (fun found_20 => [.fz ((eC CT) caught_1), .fz ((eLs (eP2 K eS eB)) some_18), .fz ((eLs eS) found_20), .no, .no]) (ss_set (es_frs eS ((List.filter (fun (x_19 : Str × Bool) => x_19.2) some_18).map fun (x_19 : Str × Bool) => x_19.1) (en_lcFT eS (fun (x_19 : Str × Bool) => x_19.1) (en_lcS (e := (eP2 K eS eB)) (l := some_18) (f := (fun (x_19 : Str × Bool) => eS x_19.1)) (is := [3, 4]) (vs := [3, 4]) (fun (x_19 : Str × Bool) => x_19.2) (fun (x_19 : Str × Bool) => [.fz ((eC CT) caught_1), .fz ((eLs (eP2 K eS eB)) some_18), .no, .fz (eS x_19.1), .fz (eB x_19.2)]) (is_list (e := (eP2 K eS eB)) (es_var 1 rfl)) g35 (fun _ h => h) (fun x_19 => gs_tup (gs_cons (gs_name 3) (gs_cons (gs_name 4) gs_nil))) (fun x_19 hx => (et_val (es_var 4 rfl))) (fun x_19 hx hp => (es_var 3 rfl))))) Wk.refl) (fun found_20 e_found_20 => ?_)
    replace h := h found_20 e_found_20
    refine ss_cut (FP eS) (v' := m_class_t1 caught_1 found_20) (by subst e_found_20 e_some_18 e_some_17 e_some_16 e_some_15 e_some_14 e_some_13 e_some_12 e_some_11 e_some_10 e_some_9 e_some_8 e_some_7 e_some_6 e_some_5 e_some_4 e_some_3 e_some_2; rfl) ?_
    clear e_found_20 e_some_18 e_some_17 e_some_16 e_some_15 e_some_14 e_some_13 e_some_12 e_some_11 e_some_10 e_some_9 e_some_8 e_some_7 e_some_6 e_some_5 e_some_4 e_some_3 e_some_2
    unfold m_class_u1 at h
    obtain ⟨g36, h⟩ := h
    obtain ⟨hA, hB⟩ := h
    refine ss_ifLv (FP eS) (et_or (et_cmp (es_lenLs (e := eS) (es_var 2 rfl)) es_c q_neI) (fun hc10 => (et_not (et_val (es_isCV XX (es_var 0 rfl) (g36 hc10)))))) (fun hc => ?_) (fun hc => ?_)
    · replace h := hA hc; clear hA hB
      refine ss_retq es_c ?_
      exact rfl
    · replace h := hB hc; clear hA hB
      refine ss_nxq ?_
      obtain ⟨g37, h⟩ := h
      obtain ⟨hA, hB⟩ := h
      refine ss_ifLv (FP eS) (et_test (es_inTS (K := K) (l := [(Str.ofString "InvalidSpans"), (Str.ofString "InvalidSeen")]) (es_ixL (e := eS) (es_var 2 rfl) es_c g37) (es_tup (K := K) (as_cons es_c (as_cons es_c as_nil))))) (fun hc => ?_) (fun hc => ?_)
      · replace h := hA hc; clear hA hB
        obtain ⟨g38, g39, g40, g41, g42, h⟩ := h
        refine ss_retq (es_addS (es_addS (es_ixL (e := eS) (es_var 2 rfl) es_c g38) es_c g39) (es_reprO (es_cget XX (es_var 0 rfl) g40) g41) g42) ?_
        exact rfl
      · replace h := hB hc; clear hA hB
        refine ss_nxq ?_
        obtain ⟨g43, h⟩ := h
        obtain ⟨hA, hB⟩ := h
        refine ss_ifLv (FP eS) (et_cmp (es_ixL (e := eS) (es_var 2 rfl) es_c g43) es_c q_eqS) (fun hc => ?_) (fun hc => ?_)
        · replace h := hA hc; clear hA hB
          obtain ⟨g44, g45, g46, h⟩ := h
          refine ss_retq (es_addS es_c (es_reprO (es_cget XX (es_var 0 rfl) g44) g45) g46) ?_
          exact rfl
        · replace h := hB hc; clear hA hB
          refine ss_nxq ?_
          obtain ⟨g47, g48, g49, g50, g51, g52, h⟩ := h
          refine ss_retq (es_addS (es_ixL (e := eS) (es_var 2 rfl) es_c g47) (es_if (e := eS) (p := ((Str.ofString " ") ++ (reprO (xget caught_1)))) (q := (Str.ofString "")) (et_cmp (es_ixL (e := eS) (es_var 2 rfl) es_c g48) es_c q_eqS) (fun hc => (es_addS es_c (es_reprO (es_cget XX (es_var 0 rfl) (g49 hc)) (g50 hc)) (g51 hc))) (fun hc => es_c)) g52) ?_
          exact rfl
end
def m_word (way_1 : Int) (text_2 : U) : Str :=
let caught_3 := ()
let caught_4 := if (decide (way_1 = 0)) = true then (xOf (m_read_table text_2)) else (xOf (m_read_spans text_2))
if (!caught_4.isSome) = true then (Str.ofString "fine") else m_class (unO caught_4)
def m_word_ok (way_1 : Int) (text_2 : U) : Prop :=
(∀ caught_3, caught_3 = () → ((decide (way_1 = 0)) = true → m_read_table_ok text_2) ∧ ((decide (way_1 = 0)) = false → m_read_spans_ok text_2) ∧ (∀ x, (if (decide (way_1 = 0)) = true then (xOf (m_read_table text_2)) else (xOf (m_read_spans text_2))) = some x → x.c < 18) ∧ (∀ caught_4, caught_4 = (if (decide (way_1 = 0)) = true then (xOf (m_read_table text_2)) else (xOf (m_read_spans text_2))) → (((!caught_4.isSome) = false → caught_4.isSome = true) ∧ ((!caught_4.isSome) = false → m_class_ok (unO caught_4)) ∧ True)))
def sp_word (K : PySem.W.Frag) (CT : Nat → Addr) : Sp := spF (ι := Int × U) (fun d => [eI d.1, (eU (CT 18)) d.2]) (fun d => m_word_ok d.1 d.2) (fun d => eS (m_word d.1 d.2))
abbrev s_word : Stmt := top 49
abbrev N_word : List Str := ["_law_way", "_law_text_here", "_law_caught", "e"]
theorem sc_word : FnScope N_word ["_law_way", "_law_text_here"] (defScope s_word) := ⟨rfl, rfl, rfl, by decide +kernel, rfl, by decide +kernel, by decide +kernel⟩
section
variable {P : Program} {w : World} {K : PySem.W.Frag} {mg : Str → Option Value} {base : Heap} {CT : Nat → Addr}
theorem ok_word {f : Addr} {fd : FuncData} (F : Fun K "_law_word" "_law_word" s_word f fd) {a_read_table : Addr} {fd_read_table : FuncData} (F_read_table : Fun K "read_table" "read_table" s_read_table a_read_table fd_read_table) (G_read_table : FnG P w K mg base (L2.CX P w) 5 a_read_table fd_read_table ["text"] (sp_read_table K CT)) (j_read_table : mg "read_table" = some (.ref a_read_table)) (b_read_table : Binds K fd_read_table ["text"] []) {a_read_spans : Addr} {fd_read_spans : FuncData} (F_read_spans : Fun K "read_spans" "read_spans" s_read_spans a_read_spans fd_read_spans) (G_read_spans : FnG P w K mg base (L2.CX P w) 5 a_read_spans fd_read_spans ["text"] (sp_read_spans K CT)) (j_read_spans : mg "read_spans" = some (.ref a_read_spans)) (b_read_spans : Binds K fd_read_spans ["text"] []) {a_class : Addr} {fd_class : FuncData} (F_class : Fun K "_law_class" "_law_class" s_class a_class fd_class) (G_class : FnG P w K mg base CX0 1 a_class fd_class ["_law_caught"] (sp_class K CT)) (j_class : mg "_law_class" = some (.ref a_class)) (b_class : Binds K fd_class ["_law_caught"] []) (XM : ∀ i, i < 18 → PySem.W.exmOne K (.ref (CT i)) (.ref (CT 17)) = some true) (XX : XT K CT) (xg17 : mg "HashError" = some (.ref (CT 17))) : FnG P w K mg base CX0 6 f fd ["_law_way", "_law_text_here"] (sp_word K CT) := by
  refine Fun.okG F sc_word (fun vs H Q E h => ?_) (fun cdv A outer s H vs Q E hG hr h => ?_)
  · obtain ⟨d, F, _, _, h, _⟩ := h
    exact h.len
  · have nd := sc_word.nd
    have hU := hr.units
    refine ⟨_, (pss_cons (ps_set (i := 2) nd rfl (by first | exact .inl rfl | exact .inr rfl) pe_non)
 (pss_cons (ps_try_keep (i := 3) rfl rfl nd rfl rfl rfl ⟨rfl, by decide, .inl xg17⟩ takes0 (fun W pn xe tk _ => (pss_cons (ps_if (pt_cmpR op_eq (pv 0) pe_int (nomark _)) (pss_cons (ps_expr (pg_callS G_read_table hG (hr.mono (by decide)) rfl j_read_table F_read_table.kp b_read_table .nil (fun σ => passAt tk σ) (pa_cons (pv 1) pa_nil))) pss_nil) (pss_cons (ps_expr (pg_callS G_read_spans hG (hr.mono (by decide)) rfl j_read_spans F_read_spans.kp b_read_spans .nil (fun σ => passAt tk σ) (pa_cons (pv 1) pa_nil))) pss_nil)) pss_nil)) (fun a oe cls d pn _ _ => (pss_cons (ps_set (i := 2) nd rfl (by first | exact .inl rfl | exact .inr rfl) (pv 3)) pss_nil)))
 (pss_cons (ps_ret (pe_ifExp (pt_cmp (pc_isN (pv 2))) pe_str (pg_call G_class hG (hr.mono (by decide)) rfl j_class F_class.kp b_class .nil pass0 (pa_cons (pv 2) pa_nil))))
 pss_nil))), ?_⟩
    refine def_F h (fun d => Nat.le_of_ble_eq_true rfl) (fun d h => ?_)
    obtain ⟨way_1, text_2⟩ := d
    replace h : m_word_ok way_1 text_2 := h
    unfold m_word_ok at h
    show SS _ [.fz (eI way_1), .fz ((eU (CT 18)) text_2), .no, .no] (FP eS (m_word way_1 text_2))
    refine ss_seq1 () (fun caught_3 => [.fz (eI way_1), .fz ((eU (CT 18)) text_2), .fz (eN), .no]) (ss_set es_c Wk.refl) (fun caught_3 e_caught_3 => ?_)
    replace h := h caught_3 e_caught_3
    subst e_caught_3
    obtain ⟨g1, g2, g3, h⟩ := h
    refine ss_seq1 (if (decide (way_1 = 0)) = true then (xOf (m_read_table text_2)) else (xOf (m_read_spans text_2))) (fun caught_4 => [.fz (eI way_1), .fz ((eU (CT 18)) text_2), .fz ((eO (eC CT)) caught_4), .no]) (ss_try (K := K) (ad := CT) (i := 3) (j := 2) (c := .ref (CT 17)) (by decide) (sb_seq (sb_if (et_cmp (es_var 0 rfl) es_c q_eqI) (fun hc100 => (sb_call text_2 (as_cons (es_var 1 rfl) as_nil) (g1 hc100))) (fun hc100 => (sb_call text_2 (as_cons (es_var 1 rfl) as_nil) (g2 hc100))))) rfl rfl (Nat.le_of_ble_eq_true rfl) (fun x hx => XM x.c (g3 x hx)) Wk.refl) (fun caught_4 e_caught_4 => ?_)
    replace h := h caught_4 e_caught_4
    obtain ⟨g4, g5, h⟩ := h
    refine ss_retq (es_if (e := eS) (p := (Str.ofString "fine")) (q := (m_class (unO caught_4))) (et_isN (e := (eC CT)) (es_var 2 rfl)) (fun hc => es_c) (fun hc => (es_call (unO caught_4) (as_cons (es_unO (e := (eC CT)) (es_var 2 rfl) (g4 hc)) as_nil) (g5 hc)))) ?_
    subst e_caught_4
    exact rfl
end
def m_number (some_1 : Str) : Option Int :=
if ((decide (some_1 = (Str.ofString ""))) || ((decide (100 < (some_1.length : Int))) || (!decide (((List.filter (fun (x_3 : Str) => !inS x_3 (Str.ofString "0123456789")) (signs some_1)).map fun (x_3 : Str) => x_3) = [])))) = true then (
(none : Option Int))
else (
if ((decide (some_1 = (Str.ofString "0"))) || (!decide ((ixS some_1 (0 : Int)) = (Str.ofString "0")))) = true then some (intS some_1) else (none : Option Int))
def m_number_ok (some_1 : Str) : Prop :=
((decide (some_1 = (Str.ofString ""))) = false → some_1.length ≤ sizeLine) ∧ ((decide (some_1 = (Str.ofString ""))) = false → (decide (100 < (some_1.length : Int))) = false → (signs some_1).length < 16000000) ∧ ((decide (some_1 = (Str.ofString ""))) = false → (decide (100 < (some_1.length : Int))) = false → StrsOk ((List.filter (fun (x_3 : Str) => !inS x_3 (Str.ofString "0123456789")) (signs some_1)).map fun (x_3 : Str) => x_3) ∧ StrsOk []) ∧ (((decide (some_1 = (Str.ofString ""))) || ((decide (100 < (some_1.length : Int))) || (!decide (((List.filter (fun (x_3 : Str) => !inS x_3 (Str.ofString "0123456789")) (signs some_1)).map fun (x_3 : Str) => x_3) = [])))) = true → (True)) ∧ (((decide (some_1 = (Str.ofString ""))) || ((decide (100 < (some_1.length : Int))) || (!decide (((List.filter (fun (x_3 : Str) => !inS x_3 (Str.ofString "0123456789")) (signs some_1)).map fun (x_3 : Str) => x_3) = [])))) = false → (((decide (some_1 = (Str.ofString "0"))) = false → some_1.length ≤ sizeLine ∧ (atI some_1.cps.toList (0 : Int)).isSome = true) ∧ (((decide (some_1 = (Str.ofString "0"))) || (!decide ((ixS some_1 (0 : Int)) = (Str.ofString "0")))) = true → (PySem.intText? some_1).isSome = true ∧ some_1.length ≤ 640) ∧ True))
def sp_number (K : PySem.W.Frag) (CT : Nat → Addr) : Sp := spF (ι := Str) (fun d => [eS d]) (fun d => m_number_ok d) (fun d => (eO eI) (m_number d))
abbrev s_number : Stmt := top 50
abbrev N_number : List Str := ["_law_some", "_law_sign"]
theorem sc_number : FnScope N_number ["_law_some"] (defScope s_number) := ⟨rfl, rfl, rfl, by decide +kernel, rfl, by decide +kernel, by decide +kernel⟩
section
variable {P : Program} {w : World} {K : PySem.W.Frag} {mg : Str → Option Value} {base : Heap} {CT : Nat → Addr}
theorem ok_number {f : Addr} {fd : FuncData} (F : Fun K "_law_number" "_law_number" s_number f fd) (n_int : mg "int" = none) (n_len : mg "len" = none) : FnG P w K mg base CX0 1 f fd ["_law_some"] (sp_number K CT) := by
  refine Fun.okG F sc_number (fun vs H Q E h => ?_) (fun cdv A outer s H vs Q E hG hr h => ?_)
  · obtain ⟨d, F, _, _, h, _⟩ := h
    exact h.len
  · have nd := sc_number.nd
    have hU := hr.units
    refine ⟨_, (pss_cons (ps_if (PW.pt (pw_or (pt_cmpR op_eq (pv 0) pe_str (nomark _)) (pw_or (pt_cmpR op_gt (pe_callB call_len_str rfl n_len (by decide +kernel) (pa_cons (pv 0) pa_nil)) pe_int (nomark _)) (pw_or1 (pt_cmpR (op_neDK (K := K) rfl hU) (pe_lc (own := [("_law_sign", 1)]) (g := gName 1) rfl nd (pi_str (pv 0)) (blkOk_by (own := [("_law_sign", 1)]) (N := N_number) (sc := defScope s_number) (by decide +kernel)) (fun _ _ _ _ _ => pg_name (i := 1) nd rfl (by first | exact .inl rfl | exact .inr rfl)) (fun _ _ _ _ _ => pts_one (pt_cmpR op_notin_str (pv 1) pe_str (by rfl))) (fun _ _ _ _ _ => (pv 1))) (pe_lst pa_nil) (nomark _)))))) (pss_cons (ps_ret pe_non)
 pss_nil) pss_nil)
 (pss_cons (ps_ret (pe_ifExp (PW.pt (pw_or (pt_cmpR op_eq (pv 0) pe_str (nomark _)) (pw_or1 (pt_cmpR op_ne (pe_ix ix_str (pv 0) pe_int (fun _ _ => rfl)) pe_str (nomark _))))) (pe_callTy call_int_str rfl n_int (by decide +kernel) (pa_cons (pv 0) pa_nil)) pe_non))
 pss_nil)), ?_⟩
    refine def_F h (fun d => Nat.le_of_ble_eq_true rfl) (fun some_1 h => ?_)
    replace h : m_number_ok some_1 := h
    unfold m_number_ok at h
    show SS _ [.fz (eS some_1), .no] (FP (eO eI) (m_number some_1))
    obtain ⟨g1, g2, g3, h⟩ := h
    obtain ⟨hA, hB⟩ := h
    refine ss_ifLv (FP (eO eI)) (et_or (et_cmp (es_var 0 rfl) es_c q_eqS) (fun hc10 => (et_or (et_cmp (es_lenS (es_var 0 rfl) (g1 hc10)) es_c q_gt) (fun hc11 => (et_test (es_neLS (K := K) (es_frs eS ((List.filter (fun (x_3 : Str) => !inS x_3 (Str.ofString "0123456789")) (signs some_1)).map fun (x_3 : Str) => x_3) (en_lcFT eS (fun (x_3 : Str) => x_3) (en_lcS (e := eS) (l := (signs some_1)) (f := (fun (x_3 : Str) => eS x_3)) (is := [1]) (vs := [1]) (fun (x_3 : Str) => !inS x_3 (Str.ofString "0123456789")) (fun (x_3 : Str) => [.fz (eS some_1), .fz (eS x_3)]) (is_str (es_var 0 rfl)) (g2 hc10 hc11) (fun _ h => h) (fun x_3 => gs_name 1) (fun x_3 hx => (et_test (es_notInS (es_var 1 rfl) es_c))) (fun x_3 hx hp => (es_var 1 rfl))))) (es_frs eS [] (en_lst as_nil)) (g3 hc10 hc11))))))) (fun hc => ?_) (fun hc => ?_)
    · replace h := hA hc; clear hA hB
      refine ss_retq es_c ?_
      exact rfl
    · replace h := hB hc; clear hA hB
      refine ss_nxq ?_
      obtain ⟨g4, g5, h⟩ := h
      refine ss_retq (es_if (e := (eO eI)) (p := (some (intS some_1))) (q := (none : Option Int)) (et_or (et_cmp (es_var 0 rfl) es_c q_eqS) (fun hc20 => (et_cmp (es_ixS (es_var 0 rfl) es_c (g4 hc20)) es_c q_neS))) (fun hc => (es_intS (es_var 0 rfl) (g5 hc))) (fun hc => es_c)) ?_
      exact rfl
end
def m_table_due_t2 (x_4 : Int × Str) (number_5 : Option Int) : (Option Int) ⊕ (Unit) :=
if ((!number_5.isSome) || ((!((decide ((b2i (decide (x_4.1 < 2))) ≤ (unO number_5))) && (decide ((unO number_5) ≤ (10 ^ 30))))) || ((decide (x_4.1 = 1)) && (decide (((unO number_5) % 2) = 0))))) = true then (
.inl (some x_4.1))
else (
.inr ())
def m_table_due_u2 (x_4 : Int × Str) (number_5 : Option Int) : Prop :=
((!number_5.isSome) = false → number_5.isSome = true) ∧ ((!number_5.isSome) = false → (!((decide ((b2i (decide (x_4.1 < 2))) ≤ (unO number_5))) && (decide ((unO number_5) ≤ (10 ^ 30))))) = false → (decide (x_4.1 = 1)) = true → number_5.isSome = true) ∧ (((!number_5.isSome) || ((!((decide ((b2i (decide (x_4.1 < 2))) ≤ (unO number_5))) && (decide ((unO number_5) ≤ (10 ^ 30))))) || ((decide (x_4.1 = 1)) && (decide (((unO number_5) % 2) = 0))))) = true → (True)) ∧ (((!number_5.isSome) || ((!((decide ((b2i (decide (x_4.1 < 2))) ≤ (unO number_5))) && (decide ((unO number_5) ≤ (10 ^ 30))))) || ((decide (x_4.1 = 1)) && (decide (((unO number_5) % 2) = 0))))) = false → (True))
def m_table_due_b1 (words_2 : List Str) (s_3 : Unit) (x_4 : Int × Str) : (Option Int) ⊕ (Unit) :=
let number_5 := m_number x_4.2
m_table_due_t2 x_4 number_5
def m_table_due_o1 (words_2 : List Str) (s_3 : Unit) (x_4 : Int × Str) : Prop :=
(m_number_ok x_4.2) ∧ (∀ number_5, number_5 = (m_number x_4.2) → m_table_due_u2 x_4 number_5)
def m_table_due_r1 (words_2 : List Str) (s_3 : Unit) : Option Int :=
if (decide ((words_2.length : Int) = 3)) = true then (none : Option Int) else some (min2 3 (words_2.length : Int))
def m_table_due_q1 (words_2 : List Str) (s_3 : Unit) : Prop :=
True
def m_table_due_t3 (words_2 : List Str) : Option Int :=
sumC id (m_table_due_r1 words_2) (loopR (m_table_due_b1 words_2) () (enumI (cutL words_2 none (some 3))))
def m_table_due_u3 (words_2 : List Str) : Prop :=
(okR (m_table_due_o1 words_2) (m_table_due_b1 words_2) () (enumI (cutL words_2 none (some 3)))) ∧ (∀ s_3, loopR (m_table_due_b1 words_2) () (enumI (cutL words_2 none (some 3))) = .inr s_3 → m_table_due_q1 words_2 s_3)
def m_table_due (text_1 : Str) : Option Int :=
let words_2 := Txt.split text_1 (Str.ofString " ")
m_table_due_t3 words_2
def m_table_due_ok (text_1 : Str) : Prop :=
(((Str.ofString " ").length == 0) = false ∧ text_1.length + 2 ≤ sizeLine) ∧ (∀ words_2, words_2 = (Txt.split text_1 (Str.ofString " ")) → m_table_due_u3 words_2)
def sp_table_due (K : PySem.W.Frag) (CT : Nat → Addr) : Sp := spF (ι := Str) (fun d => [eS d]) (fun d => m_table_due_ok d) (fun d => (eO eI) (m_table_due d))
abbrev s_table_due : Stmt := top 51
abbrev N_table_due : List Str := ["_law_text_here", "_law_words", "_law_k", "_law_word_here", "_law_number_here"]
theorem sc_table_due : FnScope N_table_due ["_law_text_here"] (defScope s_table_due) := ⟨rfl, rfl, rfl, by decide +kernel, rfl, by decide +kernel, by decide +kernel⟩
section
variable {P : Program} {w : World} {K : PySem.W.Frag} {mg : Str → Option Value} {base : Heap} {CT : Nat → Addr}
theorem ok_table_due {f : Addr} {fd : FuncData} (F : Fun K "_law_table_due" "_law_table_due" s_table_due f fd) {a_number : Addr} {fd_number : FuncData} (F_number : Fun K "_law_number" "_law_number" s_number a_number fd_number) (G_number : FnG P w K mg base CX0 1 a_number fd_number ["_law_some"] (sp_number K CT)) (j_number : mg "_law_number" = some (.ref a_number)) (b_number : Binds K fd_number ["_law_some"] []) (n_enumerate : mg "enumerate" = none) (n_int : mg "int" = none) (n_len : mg "len" = none) (n_min : mg "min" = none) : FnG P w K mg base CX0 2 f fd ["_law_text_here"] (sp_table_due K CT) := by
  refine Fun.okG F sc_table_due (fun vs H Q E h => ?_) (fun cdv A outer s H vs Q E hG hr h => ?_)
  · obtain ⟨d, F, _, _, h, _⟩ := h
    exact h.len
  · have nd := sc_table_due.nd
    have hU := hr.units
    refine ⟨_, (pss_cons (ps_set (i := 1) nd rfl (by first | exact .inl rfl | exact .inr rfl) (pe_split (pv 0) pe_str))
 (pss_cons (ps_for PassesOwn.never rfl (pi_enum rfl n_enumerate (pa_cons (pe_slice sl_list (pv 1) po_none (po_some pe_int)) pa_nil)) (pg_tup rfl (pgs_cons (pg_name (i := 2) nd rfl (by first | exact .inl rfl | exact .inr rfl)) (pgs_cons (pg_name (i := 3) nd rfl (by first | exact .inl rfl | exact .inr rfl)) pgs_nil))) (pss_cons (ps_set (i := 4) nd rfl (by first | exact .inl rfl | exact .inr rfl) (pg_call G_number hG (hr.mono (by decide)) rfl j_number F_number.kp b_number .nil pass0 (pa_cons (pv 3) pa_nil)))
 (pss_cons (ps_if (PW.pt (pw_or (pt_cmp (pc_isN (pv 4))) (pw_or (pt_not (pt_chain op_le op_le (pe_callTy call_int1 rfl n_int (by decide +kernel) (pa_cons (pe_cmpR op_lt (pv 2) pe_int (nomark _)) pa_nil)) (pv 4) (pe_op op_pow pe_int pe_int))) (pw_or1 (PW.pt (pw_and (pt_cmpR op_eq (pv 2) pe_int (nomark _)) (pw_and1 (pt_cmpR op_eq (pe_op op_mod (pe_callTy call_int1 rfl n_int (by decide +kernel) (pa_cons (pv 4) pa_nil)) pe_int) pe_int (nomark _))))))))) (pss_cons (ps_ret (pv 2))
 pss_nil) pss_nil)
 pss_nil)))
 (pss_cons (ps_ret (pe_ifExp (pt_cmpR op_eq (pe_callB (call_len_seqK (K := K) rfl) rfl n_len (by decide +kernel) (pa_cons (pv 1) pa_nil)) pe_int (nomark _)) pe_non (pe_callB (call_min2 rfl) rfl n_min (by decide +kernel) (pa_cons pe_int (pa_cons (pe_callB (call_len_seqK (K := K) rfl) rfl n_len (by decide +kernel) (pa_cons (pv 1) pa_nil)) pa_nil)))))
 pss_nil))), ?_⟩
    refine def_F h (fun d => Nat.le_of_ble_eq_true rfl) (fun text_1 h => ?_)
    replace h : m_table_due_ok text_1 := h
    unfold m_table_due_ok at h
    show SS _ [.fz (eS text_1), .no, .no, .no, .no] (FP (eO eI) (m_table_due text_1))
    obtain ⟨g1, h⟩ := h
    refine ss_seq1 (Txt.split text_1 (Str.ofString " ")) (fun words_2 => [.fz (eS text_1), .fz ((eLs eS) words_2), .no, .no, .no]) (ss_set (es_frs eS (Txt.split text_1 (Str.ofString " ")) (en_split (es_var 0 rfl) es_c g1)) Wk.refl) (fun words_2 e_words_2 => ?_)
    replace h := h words_2 e_words_2
    refine ss_cut (FP (eO eI)) (v' := m_table_due_t3 words_2) (by subst e_words_2; rfl) ?_
    clear e_words_2
    unfold m_table_due_u3 at h
    obtain ⟨g5, h⟩ := h
    refine sf_SR (e := (eP2 K eI eS)) (l := (enumI (cutL words_2 none (some 3)))) (fun (s_3 : Unit) => [.fz (eS text_1), .fz ((eLs eS) words_2), .no, .no, .no]) (m_table_due_b1 words_2) (m_table_due_o1 words_2) () (FP (eO eI)) id (m_table_due_r1 words_2) (is_enum (e := eS) (es_frs eS (cutL words_2 none (some 3)) (en_slice (e := eS) (es_var 1 rfl) os_no (os_some es_c)))) Wk.refl g5 (fun s_3 x_4 _ h => ⟨[.fz (eS text_1), .fz ((eLs eS) words_2), .fz (eI x_4.1), .fz (eS x_4.2), .no], _, gs_tup (gs_cons (gs_name 2) (gs_cons (gs_name 3) gs_nil)), ?_⟩) (fun s_3 e_s_3 => ?_)
    · unfold m_table_due_o1 at h
      obtain ⟨g2, h⟩ := h
      refine ss_seq1 (m_number x_4.2) (fun number_5 => [.fz (eS text_1), .fz ((eLs eS) words_2), .fz (eI x_4.1), .fz (eS x_4.2), .fz ((eO eI) number_5)]) (ss_set (es_call x_4.2 (as_cons (es_var 3 rfl) as_nil) g2) Wk.refl) (fun number_5 e_number_5 => ?_)
      replace h := h number_5 e_number_5
      refine ss_cut (LQ (fun (s_3 : Unit) => [.fz (eS text_1), .fz ((eLs eS) words_2), .no, .no, .no]) (FP (eO eI)) id) (v' := m_table_due_t2 x_4 number_5) (by subst e_number_5; rfl) ?_
      clear e_number_5
      unfold m_table_due_u2 at h
      obtain ⟨g3, g4, h⟩ := h
      obtain ⟨hA, hB⟩ := h
      refine ss_ifLv (LQ (fun (s_3 : Unit) => [.fz (eS text_1), .fz ((eLs eS) words_2), .no, .no, .no]) (FP (eO eI)) id) (et_or (et_isN (e := eI) (es_var 4 rfl)) (fun hc10 => (et_or (et_not (et_test (es_chain (es_intB (es_cmp (es_var 2 rfl) es_c q_lt)) (es_unO (e := eI) (es_var 4 rfl) (g3 hc10)) q_le (fun hc => (es_pow es_c es_c ⟨by decide, by decide, by decide⟩)) q_le))) (fun hc11 => (et_and (et_cmp (es_var 2 rfl) es_c q_eqI) (fun hc20 => (et_cmp (es_mod (es_int (es_unO (e := eI) (es_var 4 rfl) (g4 hc10 hc11 hc20))) es_c (by decide)) es_c q_eqI))))))) (fun hc => ?_) (fun hc => ?_)
      · replace h := hA hc; clear hA hB
        refine ss_retq (es_var 2 rfl) ?_
        exact rfl
      · replace h := hB hc; clear hA hB
        refine ss_nxq ?_
        exact ss_nx ⟨.inr rfl, ⟨.inr rfl, ⟨.inl rfl, ⟨.inl rfl, ⟨.inl rfl, trivial⟩⟩⟩⟩⟩
    · replace h := h s_3 e_s_3; unfold m_table_due_q1 at h
      refine ss_retq (es_if (e := (eO eI)) (p := (none : Option Int)) (q := (some (min2 3 (words_2.length : Int)))) (et_cmp (es_lenLs (e := eS) (es_var 1 rfl)) es_c q_eqI) (fun hc => es_c) (fun hc => (es_min2 es_c (es_lenLs (e := eS) (es_var 1 rfl))))) ?_
      exact rfl
end
def m_spans_due_t2 (s_3 : Int) (x_4 : Int × Str) (numbers_6 : List (Option Int)) : (Option Int) ⊕ (Int) :=
if ((numbers_6.any (fun o => !o.isSome)) || ((!decide ((numbers_6.length : Int) = 2)) || ((!((decide (s_3 ≤ (unO (nth numbers_6 0)))) && ((decide ((unO (nth numbers_6 0)) < (unO (nth numbers_6 1)))) && (decide ((unO (nth numbers_6 1)) ≤ (10 ^ 30)))))) || (decide (11 < x_4.1))))) = true then (
.inl (some x_4.1))
else (
let at_7 := unO (nth numbers_6 1)
.inr at_7)
def m_spans_due_u2 (s_3 : Int) (x_4 : Int × Str) (numbers_6 : List (Option Int)) : Prop :=
((numbers_6.any (fun o => !o.isSome)) = false → (!decide ((numbers_6.length : Int) = 2)) = false → 0 ≤ (0 : Int) ∧ (0 : Int) < numbers_6.length) ∧ ((numbers_6.any (fun o => !o.isSome)) = false → (!decide ((numbers_6.length : Int) = 2)) = false → (nth numbers_6 0).isSome = true) ∧ ((numbers_6.any (fun o => !o.isSome)) = false → (!decide ((numbers_6.length : Int) = 2)) = false → (decide (s_3 ≤ (unO (nth numbers_6 0)))) = true → 0 ≤ (1 : Int) ∧ (1 : Int) < numbers_6.length) ∧ ((numbers_6.any (fun o => !o.isSome)) = false → (!decide ((numbers_6.length : Int) = 2)) = false → (decide (s_3 ≤ (unO (nth numbers_6 0)))) = true → (nth numbers_6 1).isSome = true) ∧ (((numbers_6.any (fun o => !o.isSome)) || ((!decide ((numbers_6.length : Int) = 2)) || ((!((decide (s_3 ≤ (unO (nth numbers_6 0)))) && ((decide ((unO (nth numbers_6 0)) < (unO (nth numbers_6 1)))) && (decide ((unO (nth numbers_6 1)) ≤ (10 ^ 30)))))) || (decide (11 < x_4.1))))) = true → (True)) ∧ (((numbers_6.any (fun o => !o.isSome)) || ((!decide ((numbers_6.length : Int) = 2)) || ((!((decide (s_3 ≤ (unO (nth numbers_6 0)))) && ((decide ((unO (nth numbers_6 0)) < (unO (nth numbers_6 1)))) && (decide ((unO (nth numbers_6 1)) ≤ (10 ^ 30)))))) || (decide (11 < x_4.1))))) = false → ((0 ≤ (1 : Int) ∧ (1 : Int) < numbers_6.length) ∧ ((nth numbers_6 1).isSome = true) ∧ (∀ at_7, at_7 = (unO (nth numbers_6 1)) → True)))
def m_spans_due_b1 (s_3 : Int) (x_4 : Int × Str) : (Option Int) ⊕ (Int) :=
let numbers_6 := List.map (fun (x_5 : Str) => m_number x_5) (Txt.split x_4.2 (Str.ofString "-"))
m_spans_due_t2 s_3 x_4 numbers_6
def m_spans_due_o1 (s_3 : Int) (x_4 : Int × Str) : Prop :=
(((Str.ofString "-").length == 0) = false ∧ x_4.2.length + 2 ≤ sizeLine) ∧ (∀ x_5 ∈ (Txt.split x_4.2 (Str.ofString "-")), m_number_ok x_5) ∧ ((Txt.split x_4.2 (Str.ofString "-")).length < 16000000) ∧ (∀ numbers_6, numbers_6 = (List.map (fun (x_5 : Str) => m_number x_5) (Txt.split x_4.2 (Str.ofString "-"))) → m_spans_due_u2 s_3 x_4 numbers_6)
def m_spans_due_r1 (s_3 : Int) : Option Int :=
(none : Option Int)
def m_spans_due_q1 (s_3 : Int) : Prop :=
True
def m_spans_due_t3 (text_1 : Str) (at_2 : Int) : Option Int :=
sumC id (m_spans_due_r1) (loopR (m_spans_due_b1) at_2 (enumI (if (!decide (text_1 = (Str.ofString ""))) = true then Txt.split text_1 (Str.ofString ", ") else [])))
def m_spans_due_u3 (text_1 : Str) (at_2 : Int) : Prop :=
((!decide (text_1 = (Str.ofString ""))) = true → ((Str.ofString ", ").length == 0) = false ∧ text_1.length + 2 ≤ sizeLine) ∧ (okR (m_spans_due_o1) (m_spans_due_b1) at_2 (enumI (if (!decide (text_1 = (Str.ofString ""))) = true then Txt.split text_1 (Str.ofString ", ") else []))) ∧ (∀ s_3, loopR (m_spans_due_b1) at_2 (enumI (if (!decide (text_1 = (Str.ofString ""))) = true then Txt.split text_1 (Str.ofString ", ") else [])) = .inr s_3 → m_spans_due_q1 s_3)
def m_spans_due (text_1 : Str) : Option Int :=
let at_2 := 0
m_spans_due_t3 text_1 at_2
def m_spans_due_ok (text_1 : Str) : Prop :=
(∀ at_2, at_2 = 0 → m_spans_due_u3 text_1 at_2)
def sp_spans_due (K : PySem.W.Frag) (CT : Nat → Addr) : Sp := spF (ι := Str) (fun d => [eS d]) (fun d => m_spans_due_ok d) (fun d => (eO eI) (m_spans_due d))
abbrev s_spans_due : Stmt := top 52
abbrev N_spans_due : List Str := ["_law_text_here", "_law_at", "_law_k", "_law_part", "_law_numbers", "_law_some"]
theorem sc_spans_due : FnScope N_spans_due ["_law_text_here"] (defScope s_spans_due) := ⟨rfl, rfl, rfl, by decide +kernel, rfl, by decide +kernel, by decide +kernel⟩
section
variable {P : Program} {w : World} {K : PySem.W.Frag} {mg : Str → Option Value} {base : Heap} {CT : Nat → Addr}
theorem ok_spans_due {f : Addr} {fd : FuncData} (F : Fun K "_law_spans_due" "_law_spans_due" s_spans_due f fd) {a_number : Addr} {fd_number : FuncData} (F_number : Fun K "_law_number" "_law_number" s_number a_number fd_number) (G_number : FnG P w K mg base CX0 1 a_number fd_number ["_law_some"] (sp_number K CT)) (j_number : mg "_law_number" = some (.ref a_number)) (b_number : Binds K fd_number ["_law_some"] []) (n_enumerate : mg "enumerate" = none) (n_len : mg "len" = none) : FnG P w K mg base CX0 2 f fd ["_law_text_here"] (sp_spans_due K CT) := by
  refine Fun.okG F sc_spans_due (fun vs H Q E h => ?_) (fun cdv A outer s H vs Q E hG hr h => ?_)
  · obtain ⟨d, F, _, _, h, _⟩ := h
    exact h.len
  · have nd := sc_spans_due.nd
    have hU := hr.units
    refine ⟨_, (pss_cons (ps_set (i := 1) nd rfl (by first | exact .inl rfl | exact .inr rfl) pe_int)
 (pss_cons (ps_for PassesOwn.never rfl (pi_enum rfl n_enumerate (pa_cons (pe_ifExp (pt_cmpR op_ne (pv 0) pe_str (nomark _)) (pe_split (pv 0) pe_str) (pe_lst pa_nil)) pa_nil)) (pg_tup rfl (pgs_cons (pg_name (i := 2) nd rfl (by first | exact .inl rfl | exact .inr rfl)) (pgs_cons (pg_name (i := 3) nd rfl (by first | exact .inl rfl | exact .inr rfl)) pgs_nil))) (pss_cons (ps_setLc (i := 4) (own := [("_law_some", 5)]) (g := gName 5) (tt := tYes) rfl nd rfl rfl (sw_true rfl rfl rfl (by decide +kernel)) (pi_list (pe_split (pv 3) pe_str)) (blkOk_by (own := [("_law_some", 5)]) (N := N_spans_due) (sc := defScope s_spans_due) (by decide +kernel)) (fun _ _ _ _ _ => pg_name (i := 5) nd rfl (by first | exact .inl rfl | exact .inr rfl)) (fun _ _ _ _ _ => pts_nil) (fun _ _ _ _ _ => (pg_call G_number hG (hr.mono (by decide)) rfl j_number F_number.kp b_number .nil pass0 (pa_cons (pv 5) pa_nil))))
 (pss_cons (ps_if (PW.pt (pw_or (pt_cmpR (op_in_seqK (K := K) rfl) pe_non (pv 4) (by rfl)) (pw_or (pt_cmpR op_ne (pe_callB (call_len_seqK (K := K) rfl) rfl n_len (by decide +kernel) (pa_cons (pv 4) pa_nil)) pe_int (nomark _)) (pw_or (pt_not (pt_chain3 op_le op_lt op_le (pv 1) (pe_ix (ix_listK (K := K) rfl) (pv 4) pe_int (fun _ _ => rfl)) (pe_ix (ix_listK (K := K) rfl) (pv 4) pe_int (fun _ _ => rfl)) (pe_op op_pow pe_int pe_int))) (pw_or1 (pt_cmpR op_gt (pv 2) pe_int (nomark _))))))) (pss_cons (ps_ret (pv 2))
 pss_nil) pss_nil)
 (pss_cons (ps_set (i := 1) nd rfl (by first | exact .inl rfl | exact .inr rfl) (pe_ix (ix_listK (K := K) rfl) (pv 4) pe_int (fun _ _ => rfl)))
 pss_nil))))
 (pss_cons (ps_ret pe_non)
 pss_nil))), ?_⟩
    refine def_F h (fun d => Nat.le_of_ble_eq_true rfl) (fun text_1 h => ?_)
    replace h : m_spans_due_ok text_1 := h
    unfold m_spans_due_ok at h
    show SS _ [.fz (eS text_1), .no, .no, .no, .no, .no] (FP (eO eI) (m_spans_due text_1))
    refine ss_seq1 0 (fun at_2 => [.fz (eS text_1), .fz (eI at_2), .no, .no, .no, .no]) (ss_set es_c Wk.refl) (fun at_2 e_at_2 => ?_)
    replace h := h at_2 e_at_2
    refine ss_cut (FP (eO eI)) (v' := m_spans_due_t3 text_1 at_2) (by subst e_at_2; rfl) ?_
    clear e_at_2
    unfold m_spans_due_u3 at h
    obtain ⟨g1, g11, h⟩ := h
    refine sf_SR (e := (eP2 K eI eS)) (l := (enumI (if (!decide (text_1 = (Str.ofString ""))) = true then Txt.split text_1 (Str.ofString ", ") else []))) (fun (s_3 : Int) => [.fz (eS text_1), .fz (eI s_3), .no, .no, .no, .no]) (m_spans_due_b1) (m_spans_due_o1) at_2 (FP (eO eI)) id (m_spans_due_r1) (is_enum (e := eS) (es_if (e := (eLs eS)) (p := (Txt.split text_1 (Str.ofString ", "))) (q := []) (et_cmp (es_var 0 rfl) es_c q_neS) (fun hc => (es_frs eS (Txt.split text_1 (Str.ofString ", ")) (en_split (es_var 0 rfl) es_c (g1 hc)))) (fun hc => (es_frs eS [] (en_lst as_nil))))) Wk.refl g11 (fun s_3 x_4 _ h => ⟨[.fz (eS text_1), .fz (eI s_3), .fz (eI x_4.1), .fz (eS x_4.2), .no, .no], _, gs_tup (gs_cons (gs_name 2) (gs_cons (gs_name 3) gs_nil)), ?_⟩) (fun s_3 e_s_3 => ?_)
    · unfold m_spans_due_o1 at h
      obtain ⟨g2, g3, g4, h⟩ := h
      refine ss_seq1 (List.map (fun (x_5 : Str) => m_number x_5) (Txt.split x_4.2 (Str.ofString "-"))) (fun numbers_6 => [.fz (eS text_1), .fz (eI s_3), .fz (eI x_4.1), .fz (eS x_4.2), .fz ((eLs (eO eI)) numbers_6), .no]) (ss_set (es_frs (eO eI) (List.map (fun (x_5 : Str) => m_number x_5) (Txt.split x_4.2 (Str.ofString "-"))) (en_lcF (eO eI) (fun (x_5 : Str) => m_number x_5) (en_lcS (e := eS) (l := (Txt.split x_4.2 (Str.ofString "-"))) (f := (fun (x_5 : Str) => (eO eI) (m_number x_5))) (is := [5]) (vs := [5]) (fun (x_5 : Str) => true) (fun (x_5 : Str) => [.fz (eS text_1), .fz (eI s_3), .fz (eI x_4.1), .fz (eS x_4.2), .no, .fz (eS x_5)]) (is_list (e := eS) (es_frs eS (Txt.split x_4.2 (Str.ofString "-")) (en_split (es_var 3 rfl) es_c g2))) g4 (fun _ h => h) (fun x_5 => gs_name 5) (fun x_5 hx => et_yes) (fun x_5 hx _ => (es_call x_5 (as_cons (es_var 5 rfl) as_nil) (g3 x_5 hx)))))) Wk.refl) (fun numbers_6 e_numbers_6 => ?_)
      replace h := h numbers_6 e_numbers_6
      refine ss_cut (LQ (fun (s_3 : Int) => [.fz (eS text_1), .fz (eI s_3), .no, .no, .no, .no]) (FP (eO eI)) id) (v' := m_spans_due_t2 s_3 x_4 numbers_6) (by subst e_numbers_6; rfl) ?_
      clear e_numbers_6
      unfold m_spans_due_u2 at h
      obtain ⟨g5, g6, g7, g8, h⟩ := h
      obtain ⟨hA, hB⟩ := h
      refine ss_ifLv (LQ (fun (s_3 : Int) => [.fz (eS text_1), .fz (eI s_3), .no, .no, .no, .no]) (FP (eO eI)) id) (et_or (et_test (es_noneIn (K := K) (es_var 4 rfl))) (fun hc10 => (et_or (et_cmp (es_lenLs (e := (eO eI)) (es_var 4 rfl)) es_c q_neI) (fun hc11 => (et_or (et_not (et_test (es_chain3 (es_var 1 rfl) (es_unO (e := eI) (es_ixL (e := (eO eI)) (es_var 4 rfl) es_c (g5 hc10 hc11)) (g6 hc10 hc11)) q_le (fun hc => (es_unO (e := eI) (es_ixL (e := (eO eI)) (es_var 4 rfl) es_c (g7 hc10 hc11 hc)) (g8 hc10 hc11 hc))) q_lt (fun hc hd => (es_pow es_c es_c ⟨by decide, by decide, by decide⟩)) q_le))) (fun hc12 => (et_cmp (es_var 2 rfl) es_c q_gt))))))) (fun hc => ?_) (fun hc => ?_)
      · replace h := hA hc; clear hA hB
        refine ss_retq (es_var 2 rfl) ?_
        exact rfl
      · replace h := hB hc; clear hA hB
        refine ss_nxq ?_
        obtain ⟨g9, g10, h⟩ := h
        refine ss_seq1 (unO (nth numbers_6 1)) (fun at_7 => [.fz (eS text_1), .fz (eI at_7), .fz (eI x_4.1), .fz (eS x_4.2), .fz ((eLs (eO eI)) numbers_6), .no]) (ss_set (es_unO (e := eI) (es_ixL (e := (eO eI)) (es_var 4 rfl) es_c g9) g10) Wk.refl) (fun at_7 e_at_7 => ?_)
        replace h := h at_7 e_at_7
        subst e_at_7
        exact ss_nx ⟨.inr rfl, ⟨.inr rfl, ⟨.inl rfl, ⟨.inl rfl, ⟨.inl rfl, ⟨.inr rfl, trivial⟩⟩⟩⟩⟩⟩
    · replace h := h s_3 e_s_3; unfold m_spans_due_q1 at h
      refine ss_retq es_c ?_
      exact rfl
end
def m_bent_t1 (text_2 : Str) (odd_7 : Str) (at_9 : Int) (way_10 : Int) (bag_8 : Bag) : Str × Bag :=
if (decide (way_10 = 0)) = true then (
(((cutS text_2 none (some at_9)) ++ odd_7) ++ (cutS text_2 (some at_9) none), bag_8))
else (
if (decide (way_10 = 1)) = true then (
((cutS text_2 none (some at_9)) ++ (cutS text_2 (some ((at_9 + 1) + ((m_pick bag_8 3).1))) none), (m_pick bag_8 3).2))
else (
if (decide (way_10 = 2)) = true then (
(((cutS text_2 none (some at_9)) ++ odd_7) ++ (cutS text_2 (some (at_9 + (odd_7.length : Int))) none), bag_8))
else (
let words_11 := Txt.split text_2 (Str.ofString " ")
let spot_13 := (m_pick bag_8 (words_11.length : Int)).1
let bag_12 := (m_pick bag_8 (words_11.length : Int)).2
(Txt.join (Str.ofString " ") (((cutL words_11 none (some spot_13)) ++ ([odd_7] : List Str)) ++ (cutL words_11 (some (spot_13 + 1)) none)), bag_12))))
def m_bent_u1 (text_2 : Str) (odd_7 : Str) (at_9 : Int) (way_10 : Int) (bag_8 : Bag) : Prop :=
((decide (way_10 = 0)) = true → ((text_2.length ≤ sizeLine) ∧ ((cutS text_2 none (some at_9)).length + odd_7.length ≤ 16000000) ∧ (text_2.length ≤ sizeLine) ∧ (((cutS text_2 none (some at_9)) ++ odd_7).length + (cutS text_2 (some at_9) none).length ≤ 16000000) ∧ True)) ∧ ((decide (way_10 = 0)) = false → (((decide (way_10 = 1)) = true → ((text_2.length ≤ sizeLine) ∧ (m_pick_ok bag_8 3) ∧ (text_2.length ≤ sizeLine) ∧ ((cutS text_2 none (some at_9)).length + (cutS text_2 (some ((at_9 + 1) + ((m_pick bag_8 3).1))) none).length ≤ 16000000) ∧ True)) ∧ ((decide (way_10 = 1)) = false → (((decide (way_10 = 2)) = true → ((text_2.length ≤ sizeLine) ∧ ((cutS text_2 none (some at_9)).length + odd_7.length ≤ 16000000) ∧ (odd_7.length ≤ sizeLine) ∧ (text_2.length ≤ sizeLine) ∧ (((cutS text_2 none (some at_9)) ++ odd_7).length + (cutS text_2 (some (at_9 + (odd_7.length : Int))) none).length ≤ 16000000) ∧ True)) ∧ ((decide (way_10 = 2)) = false → ((((Str.ofString " ").length == 0) = false ∧ text_2.length + 2 ≤ sizeLine) ∧ (∀ words_11, words_11 = (Txt.split text_2 (Str.ofString " ")) → (m_pick_ok bag_8 (words_11.length : Int)) ∧ (∀ spot_13, spot_13 = ((m_pick bag_8 (words_11.length : Int)).1) → ∀ bag_12, bag_12 = ((m_pick bag_8 (words_11.length : Int)).2) → ((cutL words_11 none (some spot_13)).length + ([odd_7] : List Str).length ≤ 16000000) ∧ (((cutL words_11 none (some spot_13)) ++ ([odd_7] : List Str)).length + (cutL words_11 (some (spot_13 + 1)) none).length ≤ 16000000) ∧ (((((cutL words_11 none (some spot_13)) ++ ([odd_7] : List Str)) ++ (cutL words_11 (some (spot_13 + 1)) none)).map (·.length)).sum + (((cutL words_11 none (some spot_13)) ++ ([odd_7] : List Str)) ++ (cutL words_11 (some (spot_13 + 1)) none)).length * (Str.ofString " ").length ≤ 16777216) ∧ True))))))))
def m_bent (bag_1 : Bag) (text_2 : Str) : Str × Bag :=
let odds_3 := ([(Str.ofString ""), (Str.ofString " "), (Str.ofString ", "), (Str.ofString ","), (Str.ofString "-"), (Str.ofString "0"), (Str.ofString "1"), (Str.ofString "2"), (Str.ofString "4"), (Str.ofString "9"), (Str.ofString "01"), (Str.ofString "00"), (Str.ofString "a"), (Str.ofString "-1"), (Str.ofString "+1"), (Str.ofString "1.5"), (Str.ofString "1_0"), (Str.ofString "\n")] : List Str)
let odds_4 := odds_3 ++ ([(Str.ofString "5-5"), (Str.ofString "3-9")] : List Str)
let odds_5 := odds_4 ++ ([repS (Str.ofString "9") 101, (Str.ofString "1") ++ (repS (Str.ofString "0") 30), repS (Str.ofString "1") 31, (Str.ofString ", 0-1"), (Str.ofString " 7"), (Str.ofString "; ")] : List Str)
let odd_7 := nth odds_5 ((m_pick bag_1 (odds_5.length : Int)).1)
let bag_6 := (m_pick bag_1 (odds_5.length : Int)).2
let at_9 := (m_pick bag_6 ((text_2.length : Int) + 1)).1
let way_10 := (m_pick ((m_pick bag_6 ((text_2.length : Int) + 1)).2) 4).1
let bag_8 := (m_pick ((m_pick bag_6 ((text_2.length : Int) + 1)).2) 4).2
m_bent_t1 text_2 odd_7 at_9 way_10 bag_8
def m_bent_ok (bag_1 : Bag) (text_2 : Str) : Prop :=
(∀ odds_3, odds_3 = ([(Str.ofString ""), (Str.ofString " "), (Str.ofString ", "), (Str.ofString ","), (Str.ofString "-"), (Str.ofString "0"), (Str.ofString "1"), (Str.ofString "2"), (Str.ofString "4"), (Str.ofString "9"), (Str.ofString "01"), (Str.ofString "00"), (Str.ofString "a"), (Str.ofString "-1"), (Str.ofString "+1"), (Str.ofString "1.5"), (Str.ofString "1_0"), (Str.ofString "\n")] : List Str) → (odds_3.length + ([(Str.ofString "5-5"), (Str.ofString "3-9")] : List Str).length ≤ 16000000) ∧ (∀ odds_4, odds_4 = (odds_3 ++ ([(Str.ofString "5-5"), (Str.ofString "3-9")] : List Str)) → ((Str.ofString "1").length + (repS (Str.ofString "0") 30).length ≤ 16000000) ∧ (odds_4.length + ([repS (Str.ofString "9") 101, (Str.ofString "1") ++ (repS (Str.ofString "0") 30), repS (Str.ofString "1") 31, (Str.ofString ", 0-1"), (Str.ofString " 7"), (Str.ofString "; ")] : List Str).length ≤ 16000000) ∧ (∀ odds_5, odds_5 = (odds_4 ++ ([repS (Str.ofString "9") 101, (Str.ofString "1") ++ (repS (Str.ofString "0") 30), repS (Str.ofString "1") 31, (Str.ofString ", 0-1"), (Str.ofString " 7"), (Str.ofString "; ")] : List Str)) → (m_pick_ok bag_1 (odds_5.length : Int)) ∧ (0 ≤ ((m_pick bag_1 (odds_5.length : Int)).1) ∧ ((m_pick bag_1 (odds_5.length : Int)).1) < odds_5.length) ∧ (∀ odd_7, odd_7 = (nth odds_5 ((m_pick bag_1 (odds_5.length : Int)).1)) → ∀ bag_6, bag_6 = ((m_pick bag_1 (odds_5.length : Int)).2) → (text_2.length ≤ sizeLine) ∧ (m_pick_ok bag_6 ((text_2.length : Int) + 1)) ∧ (m_pick_ok ((m_pick bag_6 ((text_2.length : Int) + 1)).2) 4) ∧ (∀ at_9, at_9 = ((m_pick bag_6 ((text_2.length : Int) + 1)).1) → ∀ way_10, way_10 = ((m_pick ((m_pick bag_6 ((text_2.length : Int) + 1)).2) 4).1) → ∀ bag_8, bag_8 = ((m_pick ((m_pick bag_6 ((text_2.length : Int) + 1)).2) 4).2) → m_bent_u1 text_2 odd_7 at_9 way_10 bag_8)))))
def sp_bent (K : PySem.W.Frag) (CT : Nat → Addr) : Sp := spB (ι := Bag × Str) (fun d => bagR d.1) (fun d => [eS d.2]) (fun d => m_bent_ok d.1 d.2) (fun d => bagR (m_bent d.1 d.2).2) (fun d => eS ((m_bent d.1 d.2).1))
abbrev s_bent : Stmt := top 53
abbrev N_bent : List Str := ["_law_bag_here", "_law_text_here", "_law_odds", "_law_odd", "_law_at", "_law_way", "_law_words", "_law_spot"]
theorem sc_bent : FnScope N_bent ["_law_bag_here", "_law_text_here"] (defScope s_bent) := ⟨rfl, rfl, rfl, by decide +kernel, rfl, by decide +kernel, by decide +kernel⟩
section
variable {P : Program} {w : World} {K : PySem.W.Frag} {mg : Str → Option Value} {base : Heap} {CT : Nat → Addr}
theorem ok_bent {f : Addr} {fd : FuncData} (F : Fun K "_law_bent" "_law_bent" s_bent f fd) {a_pick : Addr} {fd_pick : FuncData} (F_pick : Fun K "_law_pick" "_law_pick" s_pick a_pick fd_pick) (G_pick : FnG P w K mg base CX0 1 a_pick fd_pick ["_law_bag_here", "_law_many"] (sp_pick K CT)) (j_pick : mg "_law_pick" = some (.ref a_pick)) (b_pick : Binds K fd_pick ["_law_bag_here", "_law_many"] []) (n_len : mg "len" = none) : FnG P w K mg base CX0 2 f fd ["_law_bag_here", "_law_text_here"] (sp_bent K CT) := by
  refine Fun.okG F sc_bent (fun vs H Q E h => ?_) (fun cdv A outer s H vs Q E hG hr h => ?_)
  · obtain ⟨d, F, p, o, ws, rfl, _, _, _, _, _, h, _⟩ := h
    exact congrArg (· + 1) h.len
  · have nd := sc_bent.nd
    have hU := hr.units
    refine ⟨_, (pss_cons (ps_set (i := 2) nd rfl (by first | exact .inl rfl | exact .inr rfl) (pe_lst (pa_cons pe_str (pa_cons pe_str (pa_cons pe_str (pa_cons pe_str (pa_cons pe_str (pa_cons pe_str (pa_cons pe_str (pa_cons pe_str (pa_cons pe_str (pa_cons pe_str (pa_cons pe_str (pa_cons pe_str (pa_cons pe_str (pa_cons pe_str (pa_cons pe_str (pa_cons pe_str (pa_cons pe_str (pa_cons pe_str pa_nil))))))))))))))))))))
 (pss_cons (ps_set (i := 2) nd rfl (by first | exact .inl rfl | exact .inr rfl) (pe_op op_cat (pv 2) (pe_lst (pa_cons pe_str (pa_cons pe_str pa_nil)))))
 (pss_cons (ps_set (i := 2) nd rfl (by first | exact .inl rfl | exact .inr rfl) (pe_op op_cat (pv 2) (pe_lst (pa_cons (pe_op op_mulS pe_str pe_int) (pa_cons (pe_op op_add_str pe_str (pe_op op_mulS pe_str pe_int)) (pa_cons (pe_op op_mulS pe_str pe_int) (pa_cons pe_str (pa_cons pe_str (pa_cons pe_str pa_nil)))))))))
 (pss_cons (ps_set (i := 3) nd rfl (by first | exact .inl rfl | exact .inr rfl) (pe_ix (ix_listK (K := K) rfl) (pv 2) (pg_call G_pick hG (hr.mono (by decide)) rfl j_pick F_pick.kp b_pick .nil pass0 (pa_cons (pv 0) (pa_cons (pe_callB (call_len_seqK (K := K) rfl) rfl n_len (by decide +kernel) (pa_cons (pv 2) pa_nil)) pa_nil))) (fun _ _ => rfl)))
 (pss_cons (ps_par (i := 4) (j := 5) rfl nd rfl rfl (by decide) rfl rfl (pa_cons (pg_call G_pick hG (hr.mono (by decide)) rfl j_pick F_pick.kp b_pick .nil pass0 (pa_cons (pv 0) (pa_cons (pe_op op_add (pe_callB call_len_str rfl n_len (by decide +kernel) (pa_cons (pv 1) pa_nil)) pe_int) pa_nil))) (pa_cons (pg_call G_pick hG (hr.mono (by decide)) rfl j_pick F_pick.kp b_pick .nil pass0 (pa_cons (pv 0) (pa_cons pe_int pa_nil))) pa_nil)) (by rfl))
 (pss_cons (ps_if (pt_cmpR op_eq (pv 5) pe_int (nomark _)) (pss_cons (ps_ret (pe_op op_add_str (pe_op op_add_str (pe_slice sl_str (pv 1) po_none (po_some (pv 4))) (pv 3)) (pe_slice sl_str (pv 1) (po_some (pv 4)) po_none)))
 pss_nil) pss_nil)
 (pss_cons (ps_if (pt_cmpR op_eq (pv 5) pe_int (nomark _)) (pss_cons (ps_ret (pe_op op_add_str (pe_slice sl_str (pv 1) po_none (po_some (pv 4))) (pe_slice sl_str (pv 1) (po_some (pe_op op_add (pe_op op_add (pv 4) pe_int) (pg_call G_pick hG (hr.mono (by decide)) rfl j_pick F_pick.kp b_pick .nil pass0 (pa_cons (pv 0) (pa_cons pe_int pa_nil))))) po_none)))
 pss_nil) pss_nil)
 (pss_cons (ps_if (pt_cmpR op_eq (pv 5) pe_int (nomark _)) (pss_cons (ps_ret (pe_op op_add_str (pe_op op_add_str (pe_slice sl_str (pv 1) po_none (po_some (pv 4))) (pv 3)) (pe_slice sl_str (pv 1) (po_some (pe_op op_add (pv 4) (pe_callB call_len_str rfl n_len (by decide +kernel) (pa_cons (pv 3) pa_nil)))) po_none)))
 pss_nil) pss_nil)
 (pss_cons (ps_set (i := 6) nd rfl (by first | exact .inl rfl | exact .inr rfl) (pe_split (pv 1) pe_str))
 (pss_cons (ps_set (i := 7) nd rfl (by first | exact .inl rfl | exact .inr rfl) (pg_call G_pick hG (hr.mono (by decide)) rfl j_pick F_pick.kp b_pick .nil pass0 (pa_cons (pv 0) (pa_cons (pe_callB (call_len_seqK (K := K) rfl) rfl n_len (by decide +kernel) (pa_cons (pv 6) pa_nil)) pa_nil))))
 (pss_cons (ps_ret (pe_join pe_str (pe_op op_cat (pe_op op_cat (pe_slice sl_list (pv 6) po_none (po_some (pv 7))) (pe_lst (pa_cons (pv 3) pa_nil))) (pe_slice sl_list (pv 6) (po_some (pe_op op_add (pv 7) pe_int)) po_none))))
 pss_nil))))))))))), ?_⟩
    refine def_B h (fun d => Nat.le_of_ble_eq_true rfl) (fun d p h => ?_)
    obtain ⟨bag_1, text_2⟩ := d
    replace h : m_bent_ok bag_1 text_2 := h
    unfold m_bent_ok at h
    show SS _ [.ow (oLq (some p) (bagR bag_1)), .fz (eS text_2), .no, .no, .no, .no, .no, .no] (BP eS p (m_bent bag_1 text_2))
    refine ss_seq1 ([(Str.ofString ""), (Str.ofString " "), (Str.ofString ", "), (Str.ofString ","), (Str.ofString "-"), (Str.ofString "0"), (Str.ofString "1"), (Str.ofString "2"), (Str.ofString "4"), (Str.ofString "9"), (Str.ofString "01"), (Str.ofString "00"), (Str.ofString "a"), (Str.ofString "-1"), (Str.ofString "+1"), (Str.ofString "1.5"), (Str.ofString "1_0"), (Str.ofString "\n")] : List Str) (fun odds_3 => [.ow (oLq (some p) (bagR bag_1)), .fz (eS text_2), .fz ((eLs eS) odds_3), .no, .no, .no, .no, .no]) (ss_set (es_frs eS ([(Str.ofString ""), (Str.ofString " "), (Str.ofString ", "), (Str.ofString ","), (Str.ofString "-"), (Str.ofString "0"), (Str.ofString "1"), (Str.ofString "2"), (Str.ofString "4"), (Str.ofString "9"), (Str.ofString "01"), (Str.ofString "00"), (Str.ofString "a"), (Str.ofString "-1"), (Str.ofString "+1"), (Str.ofString "1.5"), (Str.ofString "1_0"), (Str.ofString "\n")] : List Str) (en_lst (as_cons es_c (as_cons es_c (as_cons es_c (as_cons es_c (as_cons es_c (as_cons es_c (as_cons es_c (as_cons es_c (as_cons es_c (as_cons es_c (as_cons es_c (as_cons es_c (as_cons es_c (as_cons es_c (as_cons es_c (as_cons es_c (as_cons es_c (as_cons es_c as_nil)))))))))))))))))))) Wk.refl) (fun odds_3 e_odds_3 => ?_)
    replace h := h odds_3 e_odds_3
    obtain ⟨g1, h⟩ := h
    refine ss_seq1 (odds_3 ++ ([(Str.ofString "5-5"), (Str.ofString "3-9")] : List Str)) (fun odds_4 => [.ow (oLq (some p) (bagR bag_1)), .fz (eS text_2), .fz ((eLs eS) odds_4), .no, .no, .no, .no, .no]) (ss_set (es_frs eS (odds_3 ++ ([(Str.ofString "5-5"), (Str.ofString "3-9")] : List Str)) (en_cat (es_var 2 rfl) (es_frs eS ([(Str.ofString "5-5"), (Str.ofString "3-9")] : List Str) (en_lst (as_cons es_c (as_cons es_c as_nil)))) g1)) Wk.refl) (fun odds_4 e_odds_4 => ?_)
    replace h := h odds_4 e_odds_4
    obtain ⟨g2, g3, h⟩ := h
    refine ss_seq1 (odds_4 ++ ([repS (Str.ofString "9") 101, (Str.ofString "1") ++ (repS (Str.ofString "0") 30), repS (Str.ofString "1") 31, (Str.ofString ", 0-1"), (Str.ofString " 7"), (Str.ofString "; ")] : List Str)) (fun odds_5 => [.ow (oLq (some p) (bagR bag_1)), .fz (eS text_2), .fz ((eLs eS) odds_5), .no, .no, .no, .no, .no]) (ss_set (es_frs eS (odds_4 ++ ([repS (Str.ofString "9") 101, (Str.ofString "1") ++ (repS (Str.ofString "0") 30), repS (Str.ofString "1") 31, (Str.ofString ", 0-1"), (Str.ofString " 7"), (Str.ofString "; ")] : List Str)) (en_cat (es_var 2 rfl) (es_frs eS ([repS (Str.ofString "9") 101, (Str.ofString "1") ++ (repS (Str.ofString "0") 30), repS (Str.ofString "1") 31, (Str.ofString ", 0-1"), (Str.ofString " 7"), (Str.ofString "; ")] : List Str) (en_lst (as_cons (es_mulS es_c es_c ⟨by decide, by decide, by decide +kernel, by decide +kernel⟩) (as_cons (es_addS es_c (es_mulS es_c es_c ⟨by decide, by decide, by decide +kernel, by decide +kernel⟩) g2) (as_cons (es_mulS es_c es_c ⟨by decide, by decide, by decide +kernel, by decide +kernel⟩) (as_cons es_c (as_cons es_c (as_cons es_c as_nil)))))))) g3)) Wk.refl) (fun odds_5 e_odds_5 => ?_)
    replace h := h odds_5 e_odds_5
    obtain ⟨g4, g5, h⟩ := h
    refine ss_seq2 (nth odds_5 ((m_pick bag_1 (odds_5.length : Int)).1)) ((m_pick bag_1 (odds_5.length : Int)).2) (fun odd_7 bag_6 => [.ow (oLq (some p) (bagR bag_6)), .fz (eS text_2), .fz ((eLs eS) odds_5), .fz (eS odd_7), .no, .no, .no, .no]) (ss_set (es_ixL (e := eS) (es_var 2 rfl) (es_callB (bag_1, (odds_5.length : Int)) 0 rfl (as_cons (es_lenLs (e := eS) (es_var 2 rfl)) as_nil) rfl g4) g5) Wk.refl) (fun odd_7 e_odd_7 bag_6 e_bag_6 => ?_)
    replace h := h odd_7 e_odd_7 bag_6 e_bag_6
    obtain ⟨g6, g7, g8, h⟩ := h
    refine ss_seq3 ((m_pick bag_6 ((text_2.length : Int) + 1)).1) ((m_pick ((m_pick bag_6 ((text_2.length : Int) + 1)).2) 4).1) ((m_pick ((m_pick bag_6 ((text_2.length : Int) + 1)).2) 4).2) (fun at_9 way_10 bag_8 => [.ow (oLq (some p) (bagR bag_8)), .fz (eS text_2), .fz ((eLs eS) odds_5), .fz (eS odd_7), .fz (eI at_9), .fz (eI way_10), .no, .no]) (ss_parM (am_fzo (es_callB (bag_6, (text_2.length : Int) + 1) 0 rfl (as_cons (es_add (es_lenS (es_var 1 rfl) g6) es_c) as_nil) rfl g7) (am_fzo (es_callB ((m_pick bag_6 ((text_2.length : Int) + 1)).2, 4) 0 rfl (as_cons es_c as_nil) rfl g8) am_nil rfl) rfl) Wk.refl) (fun at_9 e_at_9 way_10 e_way_10 bag_8 e_bag_8 => ?_)
    replace h := h at_9 e_at_9 way_10 e_way_10 bag_8 e_bag_8
    refine ss_cut (BP eS p) (v' := m_bent_t1 text_2 odd_7 at_9 way_10 bag_8) (by subst e_bag_8 e_way_10 e_at_9 e_bag_6 e_odd_7 e_odds_5 e_odds_4 e_odds_3; rfl) ?_
    clear e_bag_8 e_way_10 e_at_9 e_bag_6 e_odd_7 e_odds_5 e_odds_4 e_odds_3
    unfold m_bent_u1 at h
    obtain ⟨hA, hB⟩ := h
    refine ss_ifLv (BP eS p) (et_cmp (es_var 5 rfl) es_c q_eqI) (fun hc => ?_) (fun hc => ?_)
    · replace h := hA hc; clear hA hB
      obtain ⟨g9, g10, g11, g12, h⟩ := h
      refine ss_retq (es_addS (es_addS (es_sliceS (es_var 1 rfl) os_no (os_some (es_var 4 rfl)) g9) (es_var 3 rfl) g10) (es_sliceS (es_var 1 rfl) (os_some (es_var 4 rfl)) os_no g11) g12) ?_
      exact ⟨rfl, rfl⟩
    · replace h := hB hc; clear hA hB
      refine ss_nxq ?_
      obtain ⟨hA, hB⟩ := h
      refine ss_ifLv (BP eS p) (et_cmp (es_var 5 rfl) es_c q_eqI) (fun hc => ?_) (fun hc => ?_)
      · replace h := hA hc; clear hA hB
        obtain ⟨g13, g14, g15, g16, h⟩ := h
        refine ss_retq (es_addS (es_sliceS (es_var 1 rfl) os_no (os_some (es_var 4 rfl)) g13) (es_sliceS (es_var 1 rfl) (os_some (es_add (es_add (es_var 4 rfl) es_c) (es_callB (bag_8, 3) 0 rfl (as_cons es_c as_nil) rfl g14))) os_no g15) g16) ?_
        exact ⟨rfl, rfl⟩
      · replace h := hB hc; clear hA hB
        refine ss_nxq ?_
        obtain ⟨hA, hB⟩ := h
        refine ss_ifLv (BP eS p) (et_cmp (es_var 5 rfl) es_c q_eqI) (fun hc => ?_) (fun hc => ?_)
        · replace h := hA hc; clear hA hB
          obtain ⟨g17, g18, g19, g20, g21, h⟩ := h
          refine ss_retq (es_addS (es_addS (es_sliceS (es_var 1 rfl) os_no (os_some (es_var 4 rfl)) g17) (es_var 3 rfl) g18) (es_sliceS (es_var 1 rfl) (os_some (es_add (es_var 4 rfl) (es_lenS (es_var 3 rfl) g19))) os_no g20) g21) ?_
          exact ⟨rfl, rfl⟩
        · replace h := hB hc; clear hA hB
          refine ss_nxq ?_
          obtain ⟨g22, h⟩ := h
          refine ss_seq1 (Txt.split text_2 (Str.ofString " ")) (fun words_11 => [.ow (oLq (some p) (bagR bag_8)), .fz (eS text_2), .fz ((eLs eS) odds_5), .fz (eS odd_7), .fz (eI at_9), .fz (eI way_10), .fz ((eLs eS) words_11), .no]) (ss_set (es_frs eS (Txt.split text_2 (Str.ofString " ")) (en_split (es_var 1 rfl) es_c g22)) Wk.refl) (fun words_11 e_words_11 => ?_)
          replace h := h words_11 e_words_11
          obtain ⟨g23, h⟩ := h
          refine ss_seq2 ((m_pick bag_8 (words_11.length : Int)).1) ((m_pick bag_8 (words_11.length : Int)).2) (fun spot_13 bag_12 => [.ow (oLq (some p) (bagR bag_12)), .fz (eS text_2), .fz ((eLs eS) odds_5), .fz (eS odd_7), .fz (eI at_9), .fz (eI way_10), .fz ((eLs eS) words_11), .fz (eI spot_13)]) (ss_set (es_callB (bag_8, (words_11.length : Int)) 0 rfl (as_cons (es_lenLs (e := eS) (es_var 6 rfl)) as_nil) rfl g23) Wk.refl) (fun spot_13 e_spot_13 bag_12 e_bag_12 => ?_)
          replace h := h spot_13 e_spot_13 bag_12 e_bag_12
          obtain ⟨g24, g25, g26, h⟩ := h
          refine ss_retq (es_join (a := (Str.ofString " ")) (ys := ((cutL words_11 none (some spot_13)) ++ ([odd_7] : List Str)) ++ (cutL words_11 (some (spot_13 + 1)) none)) es_c (es_frs eS (((cutL words_11 none (some spot_13)) ++ ([odd_7] : List Str)) ++ (cutL words_11 (some (spot_13 + 1)) none)) (en_cat (es_frs eS ((cutL words_11 none (some spot_13)) ++ ([odd_7] : List Str)) (en_cat (es_frs eS (cutL words_11 none (some spot_13)) (en_slice (e := eS) (es_var 6 rfl) os_no (os_some (es_var 7 rfl)))) (es_frs eS ([odd_7] : List Str) (en_lst (as_cons (es_var 3 rfl) as_nil))) g24)) (es_frs eS (cutL words_11 (some (spot_13 + 1)) none) (en_slice (e := eS) (es_var 6 rfl) (os_some (es_add (es_var 7 rfl) es_c)) os_no)) g25)) g26) ?_
          subst e_bag_12 e_spot_13 e_words_11
          exact ⟨rfl, rfl⟩
end
def m_drawn_b1 (most_6 : Int) (s_8 : Bag × (List (Int × Int)) × Int) (x_9 : Int) : Bag × (List (Int × Int)) × Int :=
let first_11 := s_8.2.2 + ((m_pick s_8.1 most_6).1)
let bag_10 := (m_pick s_8.1 most_6).2
let at_13 := (first_11 + 1) + ((m_pick bag_10 most_6).1)
let bag_12 := (m_pick bag_10 most_6).2
let found_14 := s_8.2.1 ++ [((first_11, at_13) : Int × Int)]
(bag_12, found_14, at_13)
def m_drawn_o1 (most_6 : Int) (s_8 : Bag × (List (Int × Int)) × Int) (x_9 : Int) : Prop :=
(m_pick_ok s_8.1 most_6) ∧ (∀ first_11, first_11 = (s_8.2.2 + ((m_pick s_8.1 most_6).1)) → ∀ bag_10, bag_10 = ((m_pick s_8.1 most_6).2) → (m_pick_ok bag_10 most_6) ∧ (∀ at_13, at_13 = ((first_11 + 1) + ((m_pick bag_10 most_6).1)) → ∀ bag_12, bag_12 = ((m_pick bag_10 most_6).2) → (s_8.2.1.length < 16000000) ∧ (∀ found_14, found_14 = (s_8.2.1 ++ [((first_11, at_13) : Int × Int)]) → True)))
def m_drawn (bag_1 : Bag) (way_2 : Int) : Str × Bag :=
if (decide (way_2 = 0)) = true then (
(Txt.join (Str.ofString " ") (List.map (fun (x_3 : Int) => strI x_3) ([((m_rule ((m_pick bag_1 2).2) (nth ([9, 10 ^ 30] : List Int) ((m_pick bag_1 2).1))).1).1, ((m_rule ((m_pick bag_1 2).2) (nth ([9, 10 ^ 30] : List Int) ((m_pick bag_1 2).1))).1).2.1, ((m_rule ((m_pick bag_1 2).2) (nth ([9, 10 ^ 30] : List Int) ((m_pick bag_1 2).1))).1).2.2] : List Int)), (m_rule ((m_pick bag_1 2).2) (nth ([9, 10 ^ 30] : List Int) ((m_pick bag_1 2).1))).2))
else (
let at_5 := 0
let most_6 := nth ([5, 10 ^ 28] : List Int) ((m_pick bag_1 2).1)
let bag_4 := (m_pick bag_1 2).2
let f_15 := List.foldl (m_drawn_b1 most_6) ((m_pick ((m_pick bag_4 2).2) (nth ([4, 14] : List Int) ((m_pick bag_4 2).1))).2, ([] : List (Int × Int)), at_5) (rng 0 ((m_pick ((m_pick bag_4 2).2) (nth ([4, 14] : List Int) ((m_pick bag_4 2).1))).1))
(m_text f_15.2.1, f_15.1))
def m_drawn_ok (bag_1 : Bag) (way_2 : Int) : Prop :=
((decide (way_2 = 0)) = true → ((m_pick_ok bag_1 2) ∧ (0 ≤ ((m_pick bag_1 2).1) ∧ ((m_pick bag_1 2).1) < ([9, 10 ^ 30] : List Int).length) ∧ (m_rule_ok ((m_pick bag_1 2).2) (nth ([9, 10 ^ 30] : List Int) ((m_pick bag_1 2).1))) ∧ (∀ x_3 ∈ ([((m_rule ((m_pick bag_1 2).2) (nth ([9, 10 ^ 30] : List Int) ((m_pick bag_1 2).1))).1).1, ((m_rule ((m_pick bag_1 2).2) (nth ([9, 10 ^ 30] : List Int) ((m_pick bag_1 2).1))).1).2.1, ((m_rule ((m_pick bag_1 2).2) (nth ([9, 10 ^ 30] : List Int) ((m_pick bag_1 2).1))).1).2.2] : List Int), x_3.natAbs.log2 < 1920) ∧ (([((m_rule ((m_pick bag_1 2).2) (nth ([9, 10 ^ 30] : List Int) ((m_pick bag_1 2).1))).1).1, ((m_rule ((m_pick bag_1 2).2) (nth ([9, 10 ^ 30] : List Int) ((m_pick bag_1 2).1))).1).2.1, ((m_rule ((m_pick bag_1 2).2) (nth ([9, 10 ^ 30] : List Int) ((m_pick bag_1 2).1))).1).2.2] : List Int).length < 16000000) ∧ (((List.map (fun (x_3 : Int) => strI x_3) ([((m_rule ((m_pick bag_1 2).2) (nth ([9, 10 ^ 30] : List Int) ((m_pick bag_1 2).1))).1).1, ((m_rule ((m_pick bag_1 2).2) (nth ([9, 10 ^ 30] : List Int) ((m_pick bag_1 2).1))).1).2.1, ((m_rule ((m_pick bag_1 2).2) (nth ([9, 10 ^ 30] : List Int) ((m_pick bag_1 2).1))).1).2.2] : List Int)).map (·.length)).sum + (List.map (fun (x_3 : Int) => strI x_3) ([((m_rule ((m_pick bag_1 2).2) (nth ([9, 10 ^ 30] : List Int) ((m_pick bag_1 2).1))).1).1, ((m_rule ((m_pick bag_1 2).2) (nth ([9, 10 ^ 30] : List Int) ((m_pick bag_1 2).1))).1).2.1, ((m_rule ((m_pick bag_1 2).2) (nth ([9, 10 ^ 30] : List Int) ((m_pick bag_1 2).1))).1).2.2] : List Int)).length * (Str.ofString " ").length ≤ 16777216) ∧ True)) ∧ ((decide (way_2 = 0)) = false → ((m_pick_ok bag_1 2) ∧ (0 ≤ ((m_pick bag_1 2).1) ∧ ((m_pick bag_1 2).1) < ([5, 10 ^ 28] : List Int).length) ∧ (∀ at_5, at_5 = 0 → ∀ most_6, most_6 = (nth ([5, 10 ^ 28] : List Int) ((m_pick bag_1 2).1)) → ∀ bag_4, bag_4 = ((m_pick bag_1 2).2) → (m_pick_ok bag_4 2) ∧ (0 ≤ ((m_pick bag_4 2).1) ∧ ((m_pick bag_4 2).1) < ([4, 14] : List Int).length) ∧ (m_pick_ok ((m_pick bag_4 2).2) (nth ([4, 14] : List Int) ((m_pick bag_4 2).1))) ∧ (-(2 ^ 62) ≤ (((m_pick ((m_pick bag_4 2).2) (nth ([4, 14] : List Int) ((m_pick bag_4 2).1))).1) : Int) ∧ (((m_pick ((m_pick bag_4 2).2) (nth ([4, 14] : List Int) ((m_pick bag_4 2).1))).1) : Int) < 2 ^ 62) ∧ (okF (m_drawn_o1 most_6) (m_drawn_b1 most_6) ((m_pick ((m_pick bag_4 2).2) (nth ([4, 14] : List Int) ((m_pick bag_4 2).1))).2, ([] : List (Int × Int)), at_5) (rng 0 ((m_pick ((m_pick bag_4 2).2) (nth ([4, 14] : List Int) ((m_pick bag_4 2).1))).1))) ∧ (∀ f_15, f_15 = List.foldl (m_drawn_b1 most_6) ((m_pick ((m_pick bag_4 2).2) (nth ([4, 14] : List Int) ((m_pick bag_4 2).1))).2, ([] : List (Int × Int)), at_5) (rng 0 ((m_pick ((m_pick bag_4 2).2) (nth ([4, 14] : List Int) ((m_pick bag_4 2).1))).1)) → (m_text_ok f_15.2.1) ∧ True))))
def sp_drawn (K : PySem.W.Frag) (CT : Nat → Addr) : Sp := spB (ι := Bag × Int) (fun d => bagR d.1) (fun d => [eI d.2]) (fun d => m_drawn_ok d.1 d.2) (fun d => bagR (m_drawn d.1 d.2).2) (fun d => eS ((m_drawn d.1 d.2).1))
abbrev s_drawn : Stmt := top 54
abbrev N_drawn : List Str := ["_law_bag_here", "_law_way", "_law_found", "_law_at", "_law_most", "_law_turn", "_law_first", "_law_number_here"]
theorem sc_drawn : FnScope N_drawn ["_law_bag_here", "_law_way"] (defScope s_drawn) := ⟨rfl, rfl, rfl, by decide +kernel, rfl, by decide +kernel, by decide +kernel⟩
section
variable {P : Program} {w : World} {K : PySem.W.Frag} {mg : Str → Option Value} {base : Heap} {CT : Nat → Addr}
theorem ok_drawn {f : Addr} {fd : FuncData} (F : Fun K "_law_drawn" "_law_drawn" s_drawn f fd) {a_rule : Addr} {fd_rule : FuncData} (F_rule : Fun K "_law_rule" "_law_rule" s_rule a_rule fd_rule) (G_rule : FnG P w K mg base CX0 2 a_rule fd_rule ["_law_bag_here", "_law_most"] (sp_rule K CT)) (j_rule : mg "_law_rule" = some (.ref a_rule)) (b_rule : Binds K fd_rule ["_law_bag_here", "_law_most"] []) {a_pick : Addr} {fd_pick : FuncData} (F_pick : Fun K "_law_pick" "_law_pick" s_pick a_pick fd_pick) (G_pick : FnG P w K mg base CX0 1 a_pick fd_pick ["_law_bag_here", "_law_many"] (sp_pick K CT)) (j_pick : mg "_law_pick" = some (.ref a_pick)) (b_pick : Binds K fd_pick ["_law_bag_here", "_law_many"] []) {a_text : Addr} {fd_text : FuncData} (F_text : Fun K "_law_text" "_law_text" s_text a_text fd_text) (G_text : FnG P w K mg base CX0 1 a_text fd_text ["_law_spans_here"] (sp_text K CT)) (j_text : mg "_law_text" = some (.ref a_text)) (b_text : Binds K fd_text ["_law_spans_here"] []) (n_range : mg "range" = none) (n_str : mg "str" = none) : FnG P w K mg base CX0 3 f fd ["_law_bag_here", "_law_way"] (sp_drawn K CT) := by
  refine Fun.okG F sc_drawn (fun vs H Q E h => ?_) (fun cdv A outer s H vs Q E hG hr h => ?_)
  · obtain ⟨d, F, p, o, ws, rfl, _, _, _, _, _, h, _⟩ := h
    exact congrArg (· + 1) h.len
  · have nd := sc_drawn.nd
    have hU := hr.units
    refine ⟨_, (pss_cons (ps_if (pt_cmpR op_eq (pv 1) pe_int (nomark _)) (pss_cons (ps_ret (pe_join pe_str (pe_lc (own := [("_law_number_here", 7)]) (g := gName 7) (tt := tYes) rfl nd (pi_tup (pg_call G_rule hG (hr.mono (by decide)) rfl j_rule F_rule.kp b_rule .nil pass0 (pa_cons (pv 0) (pa_cons (pe_ix (ix_listK (K := K) rfl) (pe_lst (pa_cons pe_int (pa_cons (pe_op op_pow pe_int pe_int) pa_nil))) (pg_call G_pick hG (hr.mono (by decide)) rfl j_pick F_pick.kp b_pick .nil pass0 (pa_cons (pv 0) (pa_cons pe_int pa_nil))) (fun _ _ => rfl)) pa_nil)))) (blkOk_by (own := [("_law_number_here", 7)]) (N := N_drawn) (sc := defScope s_drawn) (by decide +kernel)) (fun _ _ _ _ _ => pg_name (i := 7) nd rfl (by first | exact .inl rfl | exact .inr rfl)) (fun _ _ _ _ _ => pts_nil) (fun _ _ _ _ _ => (pe_callTy call_str_int rfl n_str (by decide +kernel) (pa_cons (pv 7) pa_nil))))))
 pss_nil) pss_nil)
 (pss_cons (ps_par3 (i := 2) (j := 3) (l := 4) rfl nd rfl rfl rfl (by decide) (by decide) (by decide) rfl rfl rfl (pa_cons (pe_lst pa_nil) (pa_cons pe_int (pa_cons (pe_ix (ix_listK (K := K) rfl) (pe_lst (pa_cons pe_int (pa_cons (pe_op op_pow pe_int pe_int) pa_nil))) (pg_call G_pick hG (hr.mono (by decide)) rfl j_pick F_pick.kp b_pick .nil pass0 (pa_cons (pv 0) (pa_cons pe_int pa_nil))) (fun _ _ => rfl)) pa_nil))) (by rfl))
 (pss_cons (ps_for PassesOwn.never rfl (pi_range1 rfl n_range (pa_cons (pg_call G_pick hG (hr.mono (by decide)) rfl j_pick F_pick.kp b_pick .nil pass0 (pa_cons (pv 0) (pa_cons (pe_ix (ix_listK (K := K) rfl) (pe_lst (pa_cons pe_int (pa_cons pe_int pa_nil))) (pg_call G_pick hG (hr.mono (by decide)) rfl j_pick F_pick.kp b_pick .nil pass0 (pa_cons (pv 0) (pa_cons pe_int pa_nil))) (fun _ _ => rfl)) pa_nil))) pa_nil)) (pg_name (i := 5) nd rfl (by first | exact .inl rfl | exact .inr rfl)) (pss_cons (ps_set (i := 6) nd rfl (by first | exact .inl rfl | exact .inr rfl) (pe_op op_add (pv 3) (pg_call G_pick hG (hr.mono (by decide)) rfl j_pick F_pick.kp b_pick .nil pass0 (pa_cons (pv 0) (pa_cons (pv 4) pa_nil)))))
 (pss_cons (ps_set (i := 3) nd rfl (by first | exact .inl rfl | exact .inr rfl) (pe_op op_add (pe_op op_add (pv 6) pe_int) (pg_call G_pick hG (hr.mono (by decide)) rfl j_pick F_pick.kp b_pick .nil pass0 (pa_cons (pv 0) (pa_cons (pv 4) pa_nil)))))
 (pss_cons (ps_expr (pe_bm PySem.F.plainAttrs_list PySem.F.slot_list_append PySem.F.type_list_append mt_append (pv 2) (pa_cons (pe_tup (pa_cons (pv 6) (pa_cons (pv 3) pa_nil))) pa_nil)))
 pss_nil))))
 (pss_cons (ps_ret (pg_call G_text hG (hr.mono (by decide)) rfl j_text F_text.kp b_text .nil pass0 (pa_cons (pv 2) pa_nil)))
 pss_nil)))), ?_⟩
    refine def_B h (fun d => Nat.le_of_ble_eq_true rfl) (fun d p h => ?_)
    obtain ⟨bag_1, way_2⟩ := d
    replace h : m_drawn_ok bag_1 way_2 := h
    unfold m_drawn_ok at h
    show SS _ [.ow (oLq (some p) (bagR bag_1)), .fz (eI way_2), .no, .no, .no, .no, .no, .no] (BP eS p (m_drawn bag_1 way_2))
    obtain ⟨hA, hB⟩ := h
    refine ss_ifLv (BP eS p) (et_cmp (es_var 1 rfl) es_c q_eqI) (fun hc => ?_) (fun hc => ?_)
    · replace h := hA hc; clear hA hB
      obtain ⟨g1, g2, g3, g4, g5, g6, h⟩ := h
      refine ss_retq (es_join (a := (Str.ofString " ")) (ys := List.map (fun (x_3 : Int) => strI x_3) ([((m_rule ((m_pick bag_1 2).2) (nth ([9, 10 ^ 30] : List Int) ((m_pick bag_1 2).1))).1).1, ((m_rule ((m_pick bag_1 2).2) (nth ([9, 10 ^ 30] : List Int) ((m_pick bag_1 2).1))).1).2.1, ((m_rule ((m_pick bag_1 2).2) (nth ([9, 10 ^ 30] : List Int) ((m_pick bag_1 2).1))).1).2.2] : List Int)) es_c (es_frs eS (List.map (fun (x_3 : Int) => strI x_3) ([((m_rule ((m_pick bag_1 2).2) (nth ([9, 10 ^ 30] : List Int) ((m_pick bag_1 2).1))).1).1, ((m_rule ((m_pick bag_1 2).2) (nth ([9, 10 ^ 30] : List Int) ((m_pick bag_1 2).1))).1).2.1, ((m_rule ((m_pick bag_1 2).2) (nth ([9, 10 ^ 30] : List Int) ((m_pick bag_1 2).1))).1).2.2] : List Int)) (en_lcF eS (fun (x_3 : Int) => strI x_3) (en_lcS (e := eI) (l := ([((m_rule ((m_pick bag_1 2).2) (nth ([9, 10 ^ 30] : List Int) ((m_pick bag_1 2).1))).1).1, ((m_rule ((m_pick bag_1 2).2) (nth ([9, 10 ^ 30] : List Int) ((m_pick bag_1 2).1))).1).2.1, ((m_rule ((m_pick bag_1 2).2) (nth ([9, 10 ^ 30] : List Int) ((m_pick bag_1 2).1))).1).2.2] : List Int)) (f := (fun (x_3 : Int) => eS (strI x_3))) (is := [7]) (vs := [7]) (fun (x_3 : Int) => true) (fun (x_3 : Int) => [.no, .fz (eI way_2), .no, .no, .no, .no, .no, .fz (eI x_3)]) (is_tup (es_callB ((m_pick bag_1 2).2, nth ([9, 10 ^ 30] : List Int) ((m_pick bag_1 2).1)) 0 rfl (as_cons (es_ixL (e := eI) (es_frs eI ([9, 10 ^ 30] : List Int) (en_lst (as_cons es_c (as_cons (es_pow es_c es_c ⟨by decide, by decide, by decide⟩) as_nil)))) (es_callB (bag_1, 2) 0 rfl (as_cons es_c as_nil) rfl g1) g2) as_nil) rfl g3)) g5 (fun _ h => h) (fun x_3 => gs_name 7) (fun x_3 hx => et_yes) (fun x_3 hx _ => (es_strI (es_var 7 rfl) (g4 x_3 hx)))))) g6) ?_
      exact ⟨rfl, rfl⟩
    · replace h := hB hc; clear hA hB
      refine ss_nxq ?_
      obtain ⟨g7, g8, h⟩ := h
      refine ss_seq3 0 (nth ([5, 10 ^ 28] : List Int) ((m_pick bag_1 2).1)) ((m_pick bag_1 2).2) (fun at_5 most_6 bag_4 => [.ow (oLq (some p) (bagR bag_4)), .fz (eI way_2), .ow (oLs (eP2 K eI eI) ([] : List (Int × Int))), .fz (eI at_5), .fz (eI most_6), .no, .no, .no]) (ss_parM3 (am_nwo (en_lst as_nil) (am_fzo es_c (am_fzo (es_ixL (e := eI) (es_frs eI ([5, 10 ^ 28] : List Int) (en_lst (as_cons es_c (as_cons (es_pow es_c es_c ⟨by decide, by decide, by decide⟩) as_nil)))) (es_callB (bag_1, 2) 0 rfl (as_cons es_c as_nil) rfl g7) g8) am_nil rfl) rfl) rfl) Wk.refl) (fun at_5 e_at_5 most_6 e_most_6 bag_4 e_bag_4 => ?_)
      replace h := h at_5 e_at_5 most_6 e_most_6 bag_4 e_bag_4
      obtain ⟨g9, g10, g11, g12, g16, h⟩ := h
      refine ss_seq1 (List.foldl (m_drawn_b1 most_6) ((m_pick ((m_pick bag_4 2).2) (nth ([4, 14] : List Int) ((m_pick bag_4 2).1))).2, ([] : List (Int × Int)), at_5) (rng 0 ((m_pick ((m_pick bag_4 2).2) (nth ([4, 14] : List Int) ((m_pick bag_4 2).1))).1))) (fun f_15 => [.ow (oLq (some p) (bagR f_15.1)), .fz (eI way_2), .ow (oLs (eP2 K eI eI) f_15.2.1), .fz (eI f_15.2.2), .fz (eI most_6), .no, .no, .no]) (sf_S (e := eI) (l := (rng 0 ((m_pick ((m_pick bag_4 2).2) (nth ([4, 14] : List Int) ((m_pick bag_4 2).1))).1))) (fun s_8 => [.ow (oLq (some p) (bagR s_8.1)), .fz (eI way_2), .ow (oLs (eP2 K eI eI) s_8.2.1), .fz (eI s_8.2.2), .fz (eI most_6), .no, .no, .no]) (m_drawn_b1 most_6) (m_drawn_o1 most_6) ((m_pick ((m_pick bag_4 2).2) (nth ([4, 14] : List Int) ((m_pick bag_4 2).1))).2, ([] : List (Int × Int)), at_5) (is_rng1 (as_cons (es_callB ((m_pick bag_4 2).2, nth ([4, 14] : List Int) ((m_pick bag_4 2).1)) 0 rfl (as_cons (es_ixL (e := eI) (es_frs eI ([4, 14] : List Int) (en_lst (as_cons es_c (as_cons es_c as_nil)))) (es_callB (bag_4, 2) 0 rfl (as_cons es_c as_nil) rfl g9) g10) as_nil) rfl g11) as_nil) g12) Wk.refl g16 (fun s_8 x_9 _ h => ⟨[.ow (oLq (some p) (bagR s_8.1)), .fz (eI way_2), .ow (oLs (eP2 K eI eI) s_8.2.1), .fz (eI s_8.2.2), .fz (eI most_6), .fz (eI x_9), .no, .no], _, gs_name 5, ?_⟩) (fun _ hw => hw)) (fun f_15 e_f_15 => ?_)
      · unfold m_drawn_o1 at h
        obtain ⟨g13, h⟩ := h
        refine ss_seq2 (s_8.2.2 + ((m_pick s_8.1 most_6).1)) ((m_pick s_8.1 most_6).2) (fun first_11 bag_10 => [.ow (oLq (some p) (bagR bag_10)), .fz (eI way_2), .ow (oLs (eP2 K eI eI) s_8.2.1), .fz (eI s_8.2.2), .fz (eI most_6), .fz (eI x_9), .fz (eI first_11), .no]) (ss_set (es_add (es_var 3 rfl) (es_callB (s_8.1, most_6) 0 rfl (as_cons (es_var 4 rfl) as_nil) rfl g13)) Wk.refl) (fun first_11 e_first_11 bag_10 e_bag_10 => ?_)
        replace h := h first_11 e_first_11 bag_10 e_bag_10
        obtain ⟨g14, h⟩ := h
        refine ss_seq2 ((first_11 + 1) + ((m_pick bag_10 most_6).1)) ((m_pick bag_10 most_6).2) (fun at_13 bag_12 => [.ow (oLq (some p) (bagR bag_12)), .fz (eI way_2), .ow (oLs (eP2 K eI eI) s_8.2.1), .fz (eI at_13), .fz (eI most_6), .fz (eI x_9), .fz (eI first_11), .no]) (ss_set (es_add (es_add (es_var 6 rfl) es_c) (es_callB (bag_10, most_6) 0 rfl (as_cons (es_var 4 rfl) as_nil) rfl g14)) Wk.refl) (fun at_13 e_at_13 bag_12 e_bag_12 => ?_)
        replace h := h at_13 e_at_13 bag_12 e_bag_12
        obtain ⟨g15, h⟩ := h
        refine ss_seq1 (s_8.2.1 ++ [((first_11, at_13) : Int × Int)]) (fun found_14 => [.ow (oLq (some p) (bagR bag_12)), .fz (eI way_2), .ow (oLs (eP2 K eI eI) found_14), .fz (eI at_13), .fz (eI most_6), .fz (eI x_9), .fz (eI first_11), .no]) (ss_appendO (e := (eP2 K eI eI)) (x := ((first_11, at_13) : Int × Int)) rfl (es_tup (K := K) (as_cons (es_var 6 rfl) (as_cons (es_var 3 rfl) as_nil))) rfl g15 Wk.refl) (fun found_14 e_found_14 => ?_)
        replace h := h found_14 e_found_14
        subst e_found_14 e_bag_12 e_at_13 e_bag_10 e_first_11
        exact ss_nx ⟨.inr rfl, ⟨.inr rfl, ⟨.inr rfl, ⟨.inr rfl, ⟨.inr rfl, ⟨.inl rfl, ⟨.inl rfl, ⟨.inr rfl, trivial⟩⟩⟩⟩⟩⟩⟩⟩
      replace h := h f_15 e_f_15
      refine ss_frz (e := (eP2 K eI eI)) (l := f_15.2.1) 2 rfl ?_
      obtain ⟨g17, h⟩ := h
      refine ss_retq (es_call f_15.2.1 (as_cons (es_var 2 rfl) as_nil) g17) ?_
      subst e_f_15 e_bag_4 e_most_6 e_at_5
      exact ⟨rfl, rfl⟩
end
def m_law_b3 (s_11 : Bag × Str) (x_12 : Int) : Bag × Str :=
let text_14 := (m_bent s_11.1 s_11.2).1
let bag_13 := (m_bent s_11.1 s_11.2).2
(bag_13, text_14)
def m_law_o3 (s_11 : Bag × Str) (x_12 : Int) : Prop :=
(m_bent_ok s_11.1 s_11.2) ∧ (∀ text_14, text_14 = ((m_bent s_11.1 s_11.2).1) → ∀ bag_13, bag_13 = ((m_bent s_11.1 s_11.2).2) → True)
def m_law_b2 (s_5 : Bag) (x_6 : Int) : Bag :=
let way_7 := x_6 % 2
let text_9 := (m_drawn s_5 way_7).1
let bag_8 := (m_drawn s_5 way_7).2
let f_15 := List.foldl (m_law_b3) ((m_pick bag_8 3).2, text_9) (rng 0 ((m_pick bag_8 3).1))
let due_16 := if (decide (way_7 = 1)) = true then m_spans_due f_15.2 else m_table_due f_15.2
f_15.1
def m_law_o2 (s_5 : Bag) (x_6 : Int) : Prop :=
(∀ way_7, way_7 = (x_6 % 2) → (m_drawn_ok s_5 way_7) ∧ (∀ text_9, text_9 = ((m_drawn s_5 way_7).1) → ∀ bag_8, bag_8 = ((m_drawn s_5 way_7).2) → (m_pick_ok bag_8 3) ∧ (-(2 ^ 62) ≤ (((m_pick bag_8 3).1) : Int) ∧ (((m_pick bag_8 3).1) : Int) < 2 ^ 62) ∧ (okF (m_law_o3) (m_law_b3) ((m_pick bag_8 3).2, text_9) (rng 0 ((m_pick bag_8 3).1))) ∧ (∀ f_15, f_15 = List.foldl (m_law_b3) ((m_pick bag_8 3).2, text_9) (rng 0 ((m_pick bag_8 3).1)) → ((decide (way_7 = 1)) = true → m_spans_due_ok f_15.2) ∧ ((decide (way_7 = 1)) = false → m_table_due_ok f_15.2) ∧ (∀ due_16, due_16 = (if (decide (way_7 = 1)) = true then m_spans_due f_15.2 else m_table_due f_15.2) → (m_word_ok way_7 (U.str f_15.2)) ∧ ((!due_16.isSome) = false → due_16.isSome = true) ∧ ((!due_16.isSome) = false → (unO due_16).natAbs.log2 < 1920) ∧ ((!due_16.isSome) = false → (Str.ofString "InvalidText ").length + (strI (unO due_16)).length ≤ 16000000) ∧ (!decide ((m_word way_7 (U.str f_15.2)) = (if (!due_16.isSome) = true then (Str.ofString "fine") else (Str.ofString "InvalidText ") ++ (strI (unO due_16))))) = false ∧ (True)))))
def m_law_b4 (s_18 : Unit) (x_19 : U) : Unit :=
()
def m_law_o4 (s_18 : Unit) (x_19 : U) : Prop :=
(∀ x_21 ∈ ([0, 1] : List Int), m_word_ok x_21 x_19) ∧ (([0, 1] : List Int).length < 16000000) ∧ ((0 : Int) ≤ (2 : Int) ∧ (2 : Int) ≤ (1000 : Int) ∧ ([(Str.ofString "InvalidText None")] : List Str).length ≤ 1000) ∧ (StrsOk (List.map (fun (x_21 : Int) => m_word x_21 x_19) ([0, 1] : List Int)) ∧ StrsOk ((List.replicate (Int.toNat (2 : Int)) ([(Str.ofString "InvalidText None")] : List Str)).flatten)) ∧ (!decide ((List.map (fun (x_21 : Int) => m_word x_21 x_19) ([0, 1] : List Int)) = ((List.replicate (Int.toNat (2 : Int)) ([(Str.ofString "InvalidText None")] : List Str)).flatten))) = false ∧ (True)
def m_law_b1 (s_2 : Unit) (x_3 : Int) : Unit :=
let bag_4 := m_bag x_3
let f_17 := List.foldl (m_law_b2) bag_4 (rng 0 30)
let f_22 := List.foldl (m_law_b4) () ([U.non, U.int 0, U.bl true, U.lst [], U.lst [U.str (Str.ofString "2 1 0")], U.tup [U.str (Str.ofString "0-1")], U.dic, U.lst [U.tup [U.int 0, U.int 1]]] : List U)
()
def m_law_o1 (s_2 : Unit) (x_3 : Int) : Prop :=
(m_bag_ok x_3) ∧ (∀ bag_4, bag_4 = (m_bag x_3) → (okF (m_law_o2) (m_law_b2) bag_4 (rng 0 30)) ∧ (∀ f_17, f_17 = List.foldl (m_law_b2) bag_4 (rng 0 30) → (okF (m_law_o4) (m_law_b4) () ([U.non, U.int 0, U.bl true, U.lst [], U.lst [U.str (Str.ofString "2 1 0")], U.tup [U.str (Str.ofString "0-1")], U.dic, U.lst [U.tup [U.int 0, U.int 1]]] : List U)) ∧ (∀ f_22, f_22 = List.foldl (m_law_b4) () ([U.non, U.int 0, U.bl true, U.lst [], U.lst [U.str (Str.ofString "2 1 0")], U.tup [U.str (Str.ofString "0-1")], U.dic, U.lst [U.tup [U.int 0, U.int 1]]] : List U) → True)))
def m_law (script_1 : List Int) : Bool :=
let f_23 := List.foldl (m_law_b1) () ((cutL script_1 none (some 6)) ++ ([0] : List Int))
let many_25 := Txt.join (Str.ofString ", ") (List.map (fun (x_24 : Int) => ((strI (2 * x_24)) ++ (Str.ofString "-")) ++ (strI ((2 * x_24) + 1))) (rng 0 14))
let told_27 := List.map (fun (x_26 : Str) => m_word 1 (U.str x_26)) ([many_25, (Str.ofString "0-5, 4-9"), (Str.ofString "0-5, 5-9"), (Str.ofString "0-5,"), (Str.ofString "5-5"), (Str.ofString "9-5"), (Str.ofString "0-1, "), (Str.ofString "-1-5")] : List Str)
let texts_28 := ([(Str.ofString ""), (Str.ofString "2"), (Str.ofString "2 1"), (Str.ofString "2 1 0 0"), (Str.ofString "2 1 0 x"), (Str.ofString "0 1 0"), (Str.ofString "2 4 0"), (Str.ofString "2 1 -1"), (Str.ofString "2 0 x")] : List Str)
let told_30 := told_27 ++ (List.map (fun (x_29 : Str) => m_word 0 (U.str x_29)) texts_28)
let due_31 := ([some 12, some 1, (none : Option Int), some 0, some 0, some 0, some 1, some 0, some 0, some 1, some 2, some 3, some 3, some 0, some 1, some 2, some 1] : List (Option Int))
decide (told_30 = (List.map (fun (x_32 : Option Int) => if (!x_32.isSome) = true then (Str.ofString "fine") else (Str.ofString "InvalidText ") ++ (strI (unO x_32))) due_31))
def m_law_ok (script_1 : List Int) : Prop :=
((cutL script_1 none (some 6)).length + ([0] : List Int).length ≤ 16000000) ∧ (okF (m_law_o1) (m_law_b1) () ((cutL script_1 none (some 6)) ++ ([0] : List Int))) ∧ (∀ f_23, f_23 = List.foldl (m_law_b1) () ((cutL script_1 none (some 6)) ++ ([0] : List Int)) → (∀ x_24 ∈ (rng 0 14), (2 * x_24).natAbs.log2 < 1920) ∧ (∀ x_24 ∈ (rng 0 14), (strI (2 * x_24)).length + (Str.ofString "-").length ≤ 16000000) ∧ (∀ x_24 ∈ (rng 0 14), ((2 * x_24) + 1).natAbs.log2 < 1920) ∧ (∀ x_24 ∈ (rng 0 14), ((strI (2 * x_24)) ++ (Str.ofString "-")).length + (strI ((2 * x_24) + 1)).length ≤ 16000000) ∧ ((rng 0 14).length < 16000000) ∧ (((List.map (fun (x_24 : Int) => ((strI (2 * x_24)) ++ (Str.ofString "-")) ++ (strI ((2 * x_24) + 1))) (rng 0 14)).map (·.length)).sum + (List.map (fun (x_24 : Int) => ((strI (2 * x_24)) ++ (Str.ofString "-")) ++ (strI ((2 * x_24) + 1))) (rng 0 14)).length * (Str.ofString ", ").length ≤ 16777216) ∧ (∀ many_25, many_25 = (Txt.join (Str.ofString ", ") (List.map (fun (x_24 : Int) => ((strI (2 * x_24)) ++ (Str.ofString "-")) ++ (strI ((2 * x_24) + 1))) (rng 0 14))) → (∀ x_26 ∈ ([many_25, (Str.ofString "0-5, 4-9"), (Str.ofString "0-5, 5-9"), (Str.ofString "0-5,"), (Str.ofString "5-5"), (Str.ofString "9-5"), (Str.ofString "0-1, "), (Str.ofString "-1-5")] : List Str), m_word_ok 1 (U.str x_26)) ∧ (([many_25, (Str.ofString "0-5, 4-9"), (Str.ofString "0-5, 5-9"), (Str.ofString "0-5,"), (Str.ofString "5-5"), (Str.ofString "9-5"), (Str.ofString "0-1, "), (Str.ofString "-1-5")] : List Str).length < 16000000) ∧ (∀ told_27, told_27 = (List.map (fun (x_26 : Str) => m_word 1 (U.str x_26)) ([many_25, (Str.ofString "0-5, 4-9"), (Str.ofString "0-5, 5-9"), (Str.ofString "0-5,"), (Str.ofString "5-5"), (Str.ofString "9-5"), (Str.ofString "0-1, "), (Str.ofString "-1-5")] : List Str)) → (∀ texts_28, texts_28 = ([(Str.ofString ""), (Str.ofString "2"), (Str.ofString "2 1"), (Str.ofString "2 1 0 0"), (Str.ofString "2 1 0 x"), (Str.ofString "0 1 0"), (Str.ofString "2 4 0"), (Str.ofString "2 1 -1"), (Str.ofString "2 0 x")] : List Str) → (∀ x_29 ∈ texts_28, m_word_ok 0 (U.str x_29)) ∧ (texts_28.length < 16000000) ∧ (told_27.length + (List.map (fun (x_29 : Str) => m_word 0 (U.str x_29)) texts_28).length ≤ 16000000) ∧ (∀ told_30, told_30 = (told_27 ++ (List.map (fun (x_29 : Str) => m_word 0 (U.str x_29)) texts_28)) → (∀ due_31, due_31 = ([some 12, some 1, (none : Option Int), some 0, some 0, some 0, some 1, some 0, some 0, some 1, some 2, some 3, some 3, some 0, some 1, some 2, some 1] : List (Option Int)) → (∀ x_32 ∈ due_31, (!x_32.isSome) = false → x_32.isSome = true) ∧ (∀ x_32 ∈ due_31, (!x_32.isSome) = false → (unO x_32).natAbs.log2 < 1920) ∧ (∀ x_32 ∈ due_31, (!x_32.isSome) = false → (Str.ofString "InvalidText ").length + (strI (unO x_32)).length ≤ 16000000) ∧ (due_31.length < 16000000) ∧ (StrsOk told_30 ∧ StrsOk (List.map (fun (x_32 : Option Int) => if (!x_32.isSome) = true then (Str.ofString "fine") else (Str.ofString "InvalidText ") ++ (strI (unO x_32))) due_31)) ∧ True))))))
def sp_law (K : PySem.W.Frag) (CT : Nat → Addr) : Sp := spF (ι := (List Int)) (fun d => [(eQ K eI) d]) (fun d => m_law_ok d) (fun d => eB (m_law d))
abbrev s_law : Stmt := top 55
abbrev N_law : List Str := ["_law_script", "_law_cell", "_law_bag_here", "_law_turn", "_law_way", "_law_text_here", "_law_again", "_law_due", "_law_bad", "_law_many", "_law_told", "_law_texts", "_law_k", "_law_part"]
theorem sc_law : FnScope N_law ["_law_script"] (defScope s_law) := ⟨rfl, rfl, rfl, by decide +kernel, rfl, by decide +kernel, by decide +kernel⟩
section
variable {P : Program} {w : World} {K : PySem.W.Frag} {mg : Str → Option Value} {base : Heap} {CT : Nat → Addr}
theorem ok_law {f : Addr} {fd : FuncData} (F : Fun K "law" "law" s_law f fd) {a_bag : Addr} {fd_bag : FuncData} (F_bag : Fun K "_law_bag" "_law_bag" s_bag a_bag fd_bag) (G_bag : FnG P w K mg base CX0 1 a_bag fd_bag ["_law_cell"] (sp_bag K CT)) (j_bag : mg "_law_bag" = some (.ref a_bag)) (b_bag : Binds K fd_bag ["_law_cell"] []) {a_drawn : Addr} {fd_drawn : FuncData} (F_drawn : Fun K "_law_drawn" "_law_drawn" s_drawn a_drawn fd_drawn) (G_drawn : FnG P w K mg base CX0 3 a_drawn fd_drawn ["_law_bag_here", "_law_way"] (sp_drawn K CT)) (j_drawn : mg "_law_drawn" = some (.ref a_drawn)) (b_drawn : Binds K fd_drawn ["_law_bag_here", "_law_way"] []) {a_pick : Addr} {fd_pick : FuncData} (F_pick : Fun K "_law_pick" "_law_pick" s_pick a_pick fd_pick) (G_pick : FnG P w K mg base CX0 1 a_pick fd_pick ["_law_bag_here", "_law_many"] (sp_pick K CT)) (j_pick : mg "_law_pick" = some (.ref a_pick)) (b_pick : Binds K fd_pick ["_law_bag_here", "_law_many"] []) {a_bent : Addr} {fd_bent : FuncData} (F_bent : Fun K "_law_bent" "_law_bent" s_bent a_bent fd_bent) (G_bent : FnG P w K mg base CX0 2 a_bent fd_bent ["_law_bag_here", "_law_text_here"] (sp_bent K CT)) (j_bent : mg "_law_bent" = some (.ref a_bent)) (b_bent : Binds K fd_bent ["_law_bag_here", "_law_text_here"] []) {a_spans_due : Addr} {fd_spans_due : FuncData} (F_spans_due : Fun K "_law_spans_due" "_law_spans_due" s_spans_due a_spans_due fd_spans_due) (G_spans_due : FnG P w K mg base CX0 2 a_spans_due fd_spans_due ["_law_text_here"] (sp_spans_due K CT)) (j_spans_due : mg "_law_spans_due" = some (.ref a_spans_due)) (b_spans_due : Binds K fd_spans_due ["_law_text_here"] []) {a_table_due : Addr} {fd_table_due : FuncData} (F_table_due : Fun K "_law_table_due" "_law_table_due" s_table_due a_table_due fd_table_due) (G_table_due : FnG P w K mg base CX0 2 a_table_due fd_table_due ["_law_text_here"] (sp_table_due K CT)) (j_table_due : mg "_law_table_due" = some (.ref a_table_due)) (b_table_due : Binds K fd_table_due ["_law_text_here"] []) {a_word : Addr} {fd_word : FuncData} (F_word : Fun K "_law_word" "_law_word" s_word a_word fd_word) (G_word : FnG P w K mg base CX0 6 a_word fd_word ["_law_way", "_law_text_here"] (sp_word K CT)) (j_word : mg "_law_word" = some (.ref a_word)) (b_word : Binds K fd_word ["_law_way", "_law_text_here"] []) (n_int : mg "int" = none) (n_range : mg "range" = none) (n_str : mg "str" = none) : FnG P w K mg base CX0 7 f fd ["_law_script"] (sp_law K CT) := by
  refine Fun.okG F sc_law (fun vs H Q E h => ?_) (fun cdv A outer s H vs Q E hG hr h => ?_)
  · obtain ⟨d, F, _, _, h, _⟩ := h
    exact h.len
  · have nd := sc_law.nd
    have hU := hr.units
    refine ⟨_, (pss_cons (ps_for PassesOwn.never rfl (pi_list (pe_op op_cat (pe_slice sl_list (pv 0) po_none (po_some pe_int)) (pe_lst (pa_cons pe_int pa_nil)))) (pg_name (i := 1) nd rfl (by first | exact .inl rfl | exact .inr rfl)) (pss_cons (ps_set (i := 2) nd rfl (by first | exact .inl rfl | exact .inr rfl) (pg_call G_bag hG (hr.mono (by decide)) rfl j_bag F_bag.kp b_bag .nil pass0 (pa_cons (pv 1) pa_nil)))
 (pss_cons (ps_for PassesOwn.never rfl (pi_range1 rfl n_range (pa_cons pe_int pa_nil)) (pg_name (i := 3) nd rfl (by first | exact .inl rfl | exact .inr rfl)) (pss_cons (ps_set (i := 4) nd rfl (by first | exact .inl rfl | exact .inr rfl) (pe_op op_mod (pe_callTy call_int1 rfl n_int (by decide +kernel) (pa_cons (pv 3) pa_nil)) pe_int))
 (pss_cons (ps_set (i := 5) nd rfl (by first | exact .inl rfl | exact .inr rfl) (pg_call G_drawn hG (hr.mono (by decide)) rfl j_drawn F_drawn.kp b_drawn .nil pass0 (pa_cons (pv 2) (pa_cons (pv 4) pa_nil))))
 (pss_cons (ps_for PassesOwn.never rfl (pi_range1 rfl n_range (pa_cons (pg_call G_pick hG (hr.mono (by decide)) rfl j_pick F_pick.kp b_pick .nil pass0 (pa_cons (pv 2) (pa_cons pe_int pa_nil))) pa_nil)) (pg_name (i := 6) nd rfl (by first | exact .inl rfl | exact .inr rfl)) (pss_cons (ps_set (i := 5) nd rfl (by first | exact .inl rfl | exact .inr rfl) (pg_call G_bent hG (hr.mono (by decide)) rfl j_bent F_bent.kp b_bent .nil pass0 (pa_cons (pv 2) (pa_cons (pv 5) pa_nil))))
 pss_nil))
 (pss_cons (ps_set (i := 7) nd rfl (by first | exact .inl rfl | exact .inr rfl) (pe_ifExp (pt_cmpR op_eq (pv 4) pe_int (nomark _)) (pg_call G_spans_due hG (hr.mono (by decide)) rfl j_spans_due F_spans_due.kp b_spans_due .nil pass0 (pa_cons (pv 5) pa_nil)) (pg_call G_table_due hG (hr.mono (by decide)) rfl j_table_due F_table_due.kp b_table_due .nil pass0 (pa_cons (pv 5) pa_nil))))
 (pss_cons (ps_if (pt_cmpR op_ne (pg_call G_word hG (hr.mono (by decide)) rfl j_word F_word.kp b_word .nil pass0 (pa_cons (pv 4) (pa_cons (pv 5) pa_nil))) (pe_ifExp (pt_cmp (pc_isN (pv 7))) pe_str (pe_op op_add_str pe_str (pe_callTy call_str_int rfl n_str (by decide +kernel) (pa_cons (pv 7) pa_nil)))) (nomark _)) (pss_one ps_never) pss_nil)
 pss_nil))))))
 (pss_cons (ps_for PassesOwn.never rfl (pi_list (pe_lst (pa_cons pe_non (pa_cons pe_int (pa_cons pe_bl (pa_cons (pe_lst pa_nil) (pa_cons (pe_lst (pa_cons pe_str pa_nil)) (pa_cons (pe_tup (pa_cons pe_str pa_nil)) (pa_cons pe_dnewK (pa_cons (pe_lst (pa_cons (pe_tup (pa_cons pe_int (pa_cons pe_int pa_nil))) pa_nil)) pa_nil)))))))))) (pg_name (i := 8) nd rfl (by first | exact .inl rfl | exact .inr rfl)) (pss_cons (ps_if (pt_cmpR (op_neDK (K := K) rfl hU) (pe_lc (own := [("_law_way", 4)]) (g := gName 4) (tt := tYes) rfl nd (pi_tup (pe_tup (pa_cons pe_int (pa_cons pe_int pa_nil)))) (blkOk_by (own := [("_law_way", 4)]) (N := N_law) (sc := defScope s_law) (by decide +kernel)) (fun _ _ _ _ _ => pg_name (i := 4) nd rfl (by first | exact .inl rfl | exact .inr rfl)) (fun _ _ _ _ _ => pts_nil) (fun _ _ _ _ _ => (pg_call G_word hG (hr.mono (by decide)) rfl j_word F_word.kp b_word .nil pass0 (pa_cons (pv 4) (pa_cons (pv 8) pa_nil))))) (pe_op op_rep (pe_lst (pa_cons pe_str pa_nil)) pe_int) (nomark _)) (pss_one ps_never) pss_nil)
 pss_nil))
 pss_nil))))
 (pss_cons (ps_set (i := 9) nd rfl (by first | exact .inl rfl | exact .inr rfl) (pe_join pe_str (pe_lc (own := [("_law_k", 12)]) (g := gName 12) (tt := tYes) rfl nd (pi_range1 rfl n_range (pa_cons pe_int pa_nil)) (blkOk_by (own := [("_law_k", 12)]) (N := N_law) (sc := defScope s_law) (by decide +kernel)) (fun _ _ _ _ _ => pg_name (i := 12) nd rfl (by first | exact .inl rfl | exact .inr rfl)) (fun _ _ _ _ _ => pts_nil) (fun _ _ _ _ _ => (pe_op op_add_str (pe_op op_add_str (pe_callTy call_str_int rfl n_str (by decide +kernel) (pa_cons (pe_op op_mul pe_int (pv 12)) pa_nil)) pe_str) (pe_callTy call_str_int rfl n_str (by decide +kernel) (pa_cons (pe_op op_add (pe_op op_mul pe_int (pv 12)) pe_int) pa_nil)))))))
 (pss_cons (ps_setLc (i := 10) (own := [("_law_text_here", 5)]) (g := gName 5) (tt := tYes) rfl nd rfl rfl (sw_true rfl rfl rfl (by decide +kernel)) (pi_tup (pe_tup (pa_cons (pv 9) (pa_cons pe_str (pa_cons pe_str (pa_cons pe_str (pa_cons pe_str (pa_cons pe_str (pa_cons pe_str (pa_cons pe_str pa_nil)))))))))) (blkOk_by (own := [("_law_text_here", 5)]) (N := N_law) (sc := defScope s_law) (by decide +kernel)) (fun _ _ _ _ _ => pg_name (i := 5) nd rfl (by first | exact .inl rfl | exact .inr rfl)) (fun _ _ _ _ _ => pts_nil) (fun _ _ _ _ _ => (pg_call G_word hG (hr.mono (by decide)) rfl j_word F_word.kp b_word .nil pass0 (pa_cons pe_int (pa_cons (pv 5) pa_nil)))))
 (pss_cons (ps_set (i := 11) nd rfl (by first | exact .inl rfl | exact .inr rfl) (pe_lst (pa_cons pe_str (pa_cons pe_str (pa_cons pe_str (pa_cons pe_str (pa_cons pe_str (pa_cons pe_str (pa_cons pe_str (pa_cons pe_str (pa_cons pe_str pa_nil)))))))))))
 (pss_cons (ps_set (i := 10) nd rfl (by first | exact .inl rfl | exact .inr rfl) (pe_op op_cat (pv 10) (pe_lc (own := [("_law_text_here", 5)]) (g := gName 5) (tt := tYes) rfl nd (pi_list (pv 11)) (blkOk_by (own := [("_law_text_here", 5)]) (N := N_law) (sc := defScope s_law) (by decide +kernel)) (fun _ _ _ _ _ => pg_name (i := 5) nd rfl (by first | exact .inl rfl | exact .inr rfl)) (fun _ _ _ _ _ => pts_nil) (fun _ _ _ _ _ => (pg_call G_word hG (hr.mono (by decide)) rfl j_word F_word.kp b_word .nil pass0 (pa_cons pe_int (pa_cons (pv 5) pa_nil)))))))
 (pss_cons (ps_set (i := 7) nd rfl (by first | exact .inl rfl | exact .inr rfl) (pe_lst (pa_cons pe_int (pa_cons pe_int (pa_cons pe_non (pa_cons pe_int (pa_cons pe_int (pa_cons pe_int (pa_cons pe_int (pa_cons pe_int (pa_cons pe_int (pa_cons pe_int (pa_cons pe_int (pa_cons pe_int (pa_cons pe_int (pa_cons pe_int (pa_cons pe_int (pa_cons pe_int (pa_cons pe_int pa_nil)))))))))))))))))))
 (pss_cons (ps_ret (pe_cmpR (op_eqDK (K := K) rfl hU) (pv 10) (pe_lc (own := [("_law_part", 13)]) (g := gName 13) (tt := tYes) rfl nd (pi_list (pv 7)) (blkOk_by (own := [("_law_part", 13)]) (N := N_law) (sc := defScope s_law) (by decide +kernel)) (fun _ _ _ _ _ => pg_name (i := 13) nd rfl (by first | exact .inl rfl | exact .inr rfl)) (fun _ _ _ _ _ => pts_nil) (fun _ _ _ _ _ => (pe_ifExp (pt_cmp (pc_isN (pv 13))) pe_str (pe_op op_add_str pe_str (pe_callTy call_str_int rfl n_str (by decide +kernel) (pa_cons (pv 13) pa_nil)))))) (nomark _)))
 pss_nil))))))), ?_⟩
    refine def_F h (fun d => Nat.le_of_ble_eq_true rfl) (fun script_1 h => ?_)
    replace h : m_law_ok script_1 := h
    unfold m_law_ok at h
    show SS _ [.fz ((eQ K eI) script_1), .no, .no, .no, .no, .no, .no, .no, .no, .no, .no, .no, .no, .no] (FP eB (m_law script_1))
    obtain ⟨g1, g20, h⟩ := h
    refine ss_seq1 (List.foldl (m_law_b1) () ((cutL script_1 none (some 6)) ++ ([0] : List Int))) (fun f_23 => [.fz ((eQ K eI) script_1), .no, .no, .no, .no, .no, .no, .no, .no, .no, .no, .no, .no, .no]) (sf_S (e := eI) (l := ((cutL script_1 none (some 6)) ++ ([0] : List Int))) (fun s_2 => [.fz ((eQ K eI) script_1), .no, .no, .no, .no, .no, .no, .no, .no, .no, .no, .no, .no, .no]) (m_law_b1) (m_law_o1) () (is_list (e := eI) (es_frs eI ((cutL script_1 none (some 6)) ++ ([0] : List Int)) (en_cat (es_frs eI (cutL script_1 none (some 6)) (en_sliceQ (e := eI) (es_var 0 rfl) os_no (os_some es_c))) (es_frs eI ([0] : List Int) (en_lst (as_cons es_c as_nil))) g1))) Wk.refl g20 (fun s_2 x_3 _ h => ⟨[.fz ((eQ K eI) script_1), .fz (eI x_3), .no, .no, .no, .no, .no, .no, .no, .no, .no, .no, .no, .no], _, gs_name 1, ?_⟩) (fun _ hw => hw)) (fun f_23 e_f_23 => ?_)
    · unfold m_law_o1 at h
      obtain ⟨g2, h⟩ := h
      refine ss_seq1 (m_bag x_3) (fun bag_4 => [.fz ((eQ K eI) script_1), .fz (eI x_3), .ow (oLq none (bagR bag_4)), .no, .no, .no, .no, .no, .no, .no, .no, .no, .no, .no]) (ss_own (en_call x_3 (as_cons (es_var 1 rfl) as_nil) g2) Wk.refl) (fun bag_4 e_bag_4 => ?_)
      replace h := h bag_4 e_bag_4
      obtain ⟨g14, h⟩ := h
      refine ss_seq1 (List.foldl (m_law_b2) bag_4 (rng 0 30)) (fun f_17 => [.fz ((eQ K eI) script_1), .fz (eI x_3), .ow (oLq none (bagR f_17)), .no, .no, .no, .no, .no, .no, .no, .no, .no, .no, .no]) (sf_S (e := eI) (l := (rng 0 30)) (fun s_5 => [.fz ((eQ K eI) script_1), .fz (eI x_3), .ow (oLq none (bagR s_5)), .no, .no, .no, .no, .no, .no, .no, .no, .no, .no, .no]) (m_law_b2) (m_law_o2) bag_4 (is_rng1 (as_cons es_c as_nil) (by decide)) Wk.refl g14 (fun s_5 x_6 _ h => ⟨[.fz ((eQ K eI) script_1), .fz (eI x_3), .ow (oLq none (bagR s_5)), .fz (eI x_6), .no, .no, .no, .no, .no, .no, .no, .no, .no, .no], _, gs_name 3, ?_⟩) (fun _ hw => hw)) (fun f_17 e_f_17 => ?_)
      · unfold m_law_o2 at h
        refine ss_seq1 (x_6 % 2) (fun way_7 => [.fz ((eQ K eI) script_1), .fz (eI x_3), .ow (oLq none (bagR s_5)), .fz (eI x_6), .fz (eI way_7), .no, .no, .no, .no, .no, .no, .no, .no, .no]) (ss_set (es_mod (es_int (es_var 3 rfl)) es_c (by decide)) Wk.refl) (fun way_7 e_way_7 => ?_)
        replace h := h way_7 e_way_7
        obtain ⟨g3, h⟩ := h
        refine ss_seq2 ((m_drawn s_5 way_7).1) ((m_drawn s_5 way_7).2) (fun text_9 bag_8 => [.fz ((eQ K eI) script_1), .fz (eI x_3), .ow (oLq none (bagR bag_8)), .fz (eI x_6), .fz (eI way_7), .fz (eS text_9), .no, .no, .no, .no, .no, .no, .no, .no]) (ss_set (es_callB (s_5, way_7) 2 rfl (as_cons (es_var 4 rfl) as_nil) rfl g3) Wk.refl) (fun text_9 e_text_9 bag_8 e_bag_8 => ?_)
        replace h := h text_9 e_text_9 bag_8 e_bag_8
        obtain ⟨g4, g5, g7, h⟩ := h
        refine ss_seq1 (List.foldl (m_law_b3) ((m_pick bag_8 3).2, text_9) (rng 0 ((m_pick bag_8 3).1))) (fun f_15 => [.fz ((eQ K eI) script_1), .fz (eI x_3), .ow (oLq none (bagR f_15.1)), .fz (eI x_6), .fz (eI way_7), .fz (eS f_15.2), .no, .no, .no, .no, .no, .no, .no, .no]) (sf_S (e := eI) (l := (rng 0 ((m_pick bag_8 3).1))) (fun s_11 => [.fz ((eQ K eI) script_1), .fz (eI x_3), .ow (oLq none (bagR s_11.1)), .fz (eI x_6), .fz (eI way_7), .fz (eS s_11.2), .no, .no, .no, .no, .no, .no, .no, .no]) (m_law_b3) (m_law_o3) ((m_pick bag_8 3).2, text_9) (is_rng1 (as_cons (es_callB (bag_8, 3) 2 rfl (as_cons es_c as_nil) rfl g4) as_nil) g5) Wk.refl g7 (fun s_11 x_12 _ h => ⟨[.fz ((eQ K eI) script_1), .fz (eI x_3), .ow (oLq none (bagR s_11.1)), .fz (eI x_6), .fz (eI way_7), .fz (eS s_11.2), .fz (eI x_12), .no, .no, .no, .no, .no, .no, .no], _, gs_name 6, ?_⟩) (fun _ hw => hw)) (fun f_15 e_f_15 => ?_)
        · unfold m_law_o3 at h
          obtain ⟨g6, h⟩ := h
          refine ss_seq2 ((m_bent s_11.1 s_11.2).1) ((m_bent s_11.1 s_11.2).2) (fun text_14 bag_13 => [.fz ((eQ K eI) script_1), .fz (eI x_3), .ow (oLq none (bagR bag_13)), .fz (eI x_6), .fz (eI way_7), .fz (eS text_14), .fz (eI x_12), .no, .no, .no, .no, .no, .no, .no]) (ss_set (es_callB (s_11.1, s_11.2) 2 rfl (as_cons (es_var 5 rfl) as_nil) rfl g6) Wk.refl) (fun text_14 e_text_14 bag_13 e_bag_13 => ?_)
          replace h := h text_14 e_text_14 bag_13 e_bag_13
          subst e_bag_13 e_text_14
          exact ss_nx ⟨.inr rfl, ⟨.inr rfl, ⟨.inr rfl, ⟨.inr rfl, ⟨.inr rfl, ⟨.inr rfl, ⟨.inl rfl, ⟨.inr rfl, ⟨.inr rfl, ⟨.inr rfl, ⟨.inr rfl, ⟨.inr rfl, ⟨.inr rfl, ⟨.inr rfl, trivial⟩⟩⟩⟩⟩⟩⟩⟩⟩⟩⟩⟩⟩⟩
        replace h := h f_15 e_f_15
        obtain ⟨g8, g9, h⟩ := h
        refine ss_seq1 (if (decide (way_7 = 1)) = true then m_spans_due f_15.2 else m_table_due f_15.2) (fun due_16 => [.fz ((eQ K eI) script_1), .fz (eI x_3), .ow (oLq none (bagR f_15.1)), .fz (eI x_6), .fz (eI way_7), .fz (eS f_15.2), .no, .fz ((eO eI) due_16), .no, .no, .no, .no, .no, .no]) (ss_set (es_if (e := (eO eI)) (p := (m_spans_due f_15.2)) (q := (m_table_due f_15.2)) (et_cmp (es_var 4 rfl) es_c q_eqI) (fun hc => (es_call f_15.2 (as_cons (es_var 5 rfl) as_nil) (g8 hc))) (fun hc => (es_call f_15.2 (as_cons (es_var 5 rfl) as_nil) (g9 hc)))) Wk.refl) (fun due_16 e_due_16 => ?_)
        replace h := h due_16 e_due_16
        obtain ⟨g10, g11, g12, g13, h⟩ := h
        obtain ⟨hn, h⟩ := h
        refine ss_ifL (et_cmp (es_call (way_7, U.str f_15.2) (as_cons (es_var 4 rfl) (as_cons (es_toU2 (K := K) (C := (CT 18)) (e := eS) (x := f_15.2) (u := U.str f_15.2) (es_var 5 rfl) rfl) as_nil)) g10) (es_if (e := eS) (p := (Str.ofString "fine")) (q := ((Str.ofString "InvalidText ") ++ (strI (unO due_16)))) (et_isN (e := eI) (es_var 7 rfl)) (fun hc => es_c) (fun hc => (es_addS es_c (es_strI (es_unO (e := eI) (es_var 7 rfl) (g11 hc)) (g12 hc)) (g13 hc)))) q_neS) (fun hc => absurd (hc.symm.trans hn) (by decide)) (fun _ => ss_nxq ?_)
        subst e_due_16 e_f_15 e_bag_8 e_text_9 e_way_7
        exact ss_nx ⟨.inr rfl, ⟨.inr rfl, ⟨.inr rfl, ⟨.inl rfl, ⟨.inl rfl, ⟨.inl rfl, ⟨.inr rfl, ⟨.inl rfl, ⟨.inr rfl, ⟨.inr rfl, ⟨.inr rfl, ⟨.inr rfl, ⟨.inr rfl, ⟨.inr rfl, trivial⟩⟩⟩⟩⟩⟩⟩⟩⟩⟩⟩⟩⟩⟩
      replace h := h f_17 e_f_17
      obtain ⟨g19, h⟩ := h
      refine ss_seq1 (List.foldl (m_law_b4) () ([U.non, U.int 0, U.bl true, U.lst [], U.lst [U.str (Str.ofString "2 1 0")], U.tup [U.str (Str.ofString "0-1")], U.dic, U.lst [U.tup [U.int 0, U.int 1]]] : List U)) (fun f_22 => [.fz ((eQ K eI) script_1), .fz (eI x_3), .ow (oLq none (bagR f_17)), .no, .no, .no, .no, .no, .no, .no, .no, .no, .no, .no]) (sf_S (e := (eU (CT 18))) (l := ([U.non, U.int 0, U.bl true, U.lst [], U.lst [U.str (Str.ofString "2 1 0")], U.tup [U.str (Str.ofString "0-1")], U.dic, U.lst [U.tup [U.int 0, U.int 1]]] : List U)) (fun s_18 => [.fz ((eQ K eI) script_1), .fz (eI x_3), .ow (oLq none (bagR f_17)), .no, .no, .no, .no, .no, .no, .no, .no, .no, .no, .no]) (m_law_b4) (m_law_o4) () (is_list (e := (eU (CT 18))) (es_frs (eU (CT 18)) ([U.non, U.int 0, U.bl true, U.lst [], U.lst [U.str (Str.ofString "2 1 0")], U.tup [U.str (Str.ofString "0-1")], U.dic, U.lst [U.tup [U.int 0, U.int 1]]] : List U) (en_lst (rs := List.map (eU (CT 18)) [U.non, U.int 0, U.bl true, U.lst [], U.lst [U.str (Str.ofString "2 1 0")], U.tup [U.str (Str.ofString "0-1")], U.dic, U.lst [U.tup [U.int 0, U.int 1]]]) (as_cons (es_nonU es_c) (as_cons (es_toU2 (K := K) (C := (CT 18)) (e := eI) (x := 0) (u := U.int 0) es_c rfl) (as_cons (es_toU2 (K := K) (C := (CT 18)) (e := eB) (x := true) (u := U.bl true) es_c rfl) (as_cons (es_toU2 (K := K) (C := (CT 18)) (e := (eLs (eU (CT 18)))) (x := []) (u := U.lst []) (es_frs (eU (CT 18)) [] (en_lst as_nil)) (congrArg U.lst (List.map_id _))) (as_cons (es_toU2 (K := K) (C := (CT 18)) (e := (eLs (eU (CT 18)))) (x := [U.str (Str.ofString "2 1 0")]) (u := U.lst [U.str (Str.ofString "2 1 0")]) (es_frs (eU (CT 18)) [U.str (Str.ofString "2 1 0")] (en_lst (as_cons (es_toU2 (K := K) (C := (CT 18)) (e := eS) (x := (Str.ofString "2 1 0")) (u := U.str (Str.ofString "2 1 0")) es_c rfl) as_nil))) (congrArg U.lst (List.map_id _))) (as_cons (es_tupU (K := K) (l := [U.str (Str.ofString "0-1")]) (es_tup (K := K) (as_cons (es_toU2 (K := K) (C := (CT 18)) (e := eS) (x := (Str.ofString "0-1")) (u := U.str (Str.ofString "0-1")) es_c rfl) as_nil))) (as_cons (es_dicU es_dnew) (as_cons (es_toU2 (K := K) (C := (CT 18)) (e := (eLs (eU (CT 18)))) (x := [U.tup [U.int 0, U.int 1]]) (u := U.lst [U.tup [U.int 0, U.int 1]]) (es_frs (eU (CT 18)) [U.tup [U.int 0, U.int 1]] (en_lst (as_cons (es_tupU (K := K) (l := [U.int 0, U.int 1]) (es_tup (K := K) (as_cons (es_toU2 (K := K) (C := (CT 18)) (e := eI) (x := 0) (u := U.int 0) es_c rfl) (as_cons (es_toU2 (K := K) (C := (CT 18)) (e := eI) (x := 1) (u := U.int 1) es_c rfl) as_nil)))) as_nil))) (congrArg U.lst (List.map_id _))) as_nil))))))))))) Wk.refl g19 (fun s_18 x_19 _ h => ⟨[.fz ((eQ K eI) script_1), .fz (eI x_3), .ow (oLq none (bagR f_17)), .no, .no, .no, .no, .no, .fz ((eU (CT 18)) x_19), .no, .no, .no, .no, .no], _, gs_name 8, ?_⟩) (fun _ hw => hw)) (fun f_22 e_f_22 => ?_)
      · unfold m_law_o4 at h
        obtain ⟨g15, g16, g17, g18, h⟩ := h
        obtain ⟨hn, h⟩ := h
        refine ss_ifL (et_test (es_neLS (K := K) (es_frs eS (List.map (fun (x_21 : Int) => m_word x_21 x_19) ([0, 1] : List Int)) (en_lcF eS (fun (x_21 : Int) => m_word x_21 x_19) (en_lcS (e := eI) (l := ([0, 1] : List Int)) (f := (fun (x_21 : Int) => eS (m_word x_21 x_19))) (is := [4]) (vs := [4]) (fun (x_21 : Int) => true) (fun (x_21 : Int) => [.fz ((eQ K eI) script_1), .fz (eI x_3), .no, .no, .fz (eI x_21), .no, .no, .no, .fz ((eU (CT 18)) x_19), .no, .no, .no, .no, .no]) (is_tup (es_tup (K := K) (as_cons es_c (as_cons es_c as_nil)))) g16 (fun _ h => h) (fun x_21 => gs_name 4) (fun x_21 hx => et_yes) (fun x_21 hx _ => (es_call (x_21, x_19) (as_cons (es_var 4 rfl) (as_cons (es_var 8 rfl) as_nil)) (g15 x_21 hx)))))) (es_frs eS ((List.replicate (Int.toNat (2 : Int)) ([(Str.ofString "InvalidText None")] : List Str)).flatten) (en_rep (e := eS) (es_frs eS ([(Str.ofString "InvalidText None")] : List Str) (en_lst (rs := List.map eS [(Str.ofString "InvalidText None")]) (as_cons es_c as_nil))) es_c g17)) g18)) (fun hc => absurd (hc.symm.trans hn) (by decide)) (fun _ => ss_nxq ?_)
        exact ss_nx ⟨.inr rfl, ⟨.inr rfl, ⟨.inr rfl, ⟨.inr rfl, ⟨.inr rfl, ⟨.inr rfl, ⟨.inr rfl, ⟨.inr rfl, ⟨.inl rfl, ⟨.inr rfl, ⟨.inr rfl, ⟨.inr rfl, ⟨.inr rfl, ⟨.inr rfl, trivial⟩⟩⟩⟩⟩⟩⟩⟩⟩⟩⟩⟩⟩⟩
      replace h := h f_22 e_f_22
      subst e_f_22 e_f_17 e_bag_4
      exact ss_nx ⟨.inr rfl, ⟨.inl rfl, ⟨.inl rfl, ⟨.inr rfl, ⟨.inr rfl, ⟨.inr rfl, ⟨.inr rfl, ⟨.inr rfl, ⟨.inr rfl, ⟨.inr rfl, ⟨.inr rfl, ⟨.inr rfl, ⟨.inr rfl, ⟨.inr rfl, trivial⟩⟩⟩⟩⟩⟩⟩⟩⟩⟩⟩⟩⟩⟩
    replace h := h f_23 e_f_23
    obtain ⟨g21, g22, g23, g24, g25, g26, h⟩ := h
    refine ss_seq1 (Txt.join (Str.ofString ", ") (List.map (fun (x_24 : Int) => ((strI (2 * x_24)) ++ (Str.ofString "-")) ++ (strI ((2 * x_24) + 1))) (rng 0 14))) (fun many_25 => [.fz ((eQ K eI) script_1), .no, .no, .no, .no, .no, .no, .no, .no, .fz (eS many_25), .no, .no, .no, .no]) (ss_set (es_join (a := (Str.ofString ", ")) (ys := List.map (fun (x_24 : Int) => ((strI (2 * x_24)) ++ (Str.ofString "-")) ++ (strI ((2 * x_24) + 1))) (rng 0 14)) es_c (es_frs eS (List.map (fun (x_24 : Int) => ((strI (2 * x_24)) ++ (Str.ofString "-")) ++ (strI ((2 * x_24) + 1))) (rng 0 14)) (en_lcF eS (fun (x_24 : Int) => ((strI (2 * x_24)) ++ (Str.ofString "-")) ++ (strI ((2 * x_24) + 1))) (en_lcS (e := eI) (l := (rng 0 14)) (f := (fun (x_24 : Int) => eS (((strI (2 * x_24)) ++ (Str.ofString "-")) ++ (strI ((2 * x_24) + 1))))) (is := [12]) (vs := [12]) (fun (x_24 : Int) => true) (fun (x_24 : Int) => [.fz ((eQ K eI) script_1), .no, .no, .no, .no, .no, .no, .no, .no, .no, .no, .no, .fz (eI x_24), .no]) (is_rng1 (as_cons es_c as_nil) (by decide)) g25 (fun _ h => h) (fun x_24 => gs_name 12) (fun x_24 hx => et_yes) (fun x_24 hx _ => (es_addS (es_addS (es_strI (es_mul es_c (es_var 12 rfl) (.inl (by decide))) (g21 x_24 hx)) es_c (g22 x_24 hx)) (es_strI (es_add (es_mul es_c (es_var 12 rfl) (.inl (by decide))) es_c) (g23 x_24 hx)) (g24 x_24 hx)))))) g26) Wk.refl) (fun many_25 e_many_25 => ?_)
    replace h := h many_25 e_many_25
    obtain ⟨g27, g28, h⟩ := h
    refine ss_seq1 (List.map (fun (x_26 : Str) => m_word 1 (U.str x_26)) ([many_25, (Str.ofString "0-5, 4-9"), (Str.ofString "0-5, 5-9"), (Str.ofString "0-5,"), (Str.ofString "5-5"), (Str.ofString "9-5"), (Str.ofString "0-1, "), (Str.ofString "-1-5")] : List Str)) (fun told_27 => [.fz ((eQ K eI) script_1), .no, .no, .no, .no, .no, .no, .no, .no, .fz (eS many_25), .fz ((eLs eS) told_27), .no, .no, .no]) (ss_set (es_frs eS (List.map (fun (x_26 : Str) => m_word 1 (U.str x_26)) ([many_25, (Str.ofString "0-5, 4-9"), (Str.ofString "0-5, 5-9"), (Str.ofString "0-5,"), (Str.ofString "5-5"), (Str.ofString "9-5"), (Str.ofString "0-1, "), (Str.ofString "-1-5")] : List Str)) (en_lcF eS (fun (x_26 : Str) => m_word 1 (U.str x_26)) (en_lcS (e := eS) (l := ([many_25, (Str.ofString "0-5, 4-9"), (Str.ofString "0-5, 5-9"), (Str.ofString "0-5,"), (Str.ofString "5-5"), (Str.ofString "9-5"), (Str.ofString "0-1, "), (Str.ofString "-1-5")] : List Str)) (f := (fun (x_26 : Str) => eS (m_word 1 (U.str x_26)))) (is := [5]) (vs := [5]) (fun (x_26 : Str) => true) (fun (x_26 : Str) => [.fz ((eQ K eI) script_1), .no, .no, .no, .no, .fz (eS x_26), .no, .no, .no, .fz (eS many_25), .no, .no, .no, .no]) (is_tup (es_tup (K := K) (as_cons (es_var 9 rfl) (as_cons es_c (as_cons es_c (as_cons es_c (as_cons es_c (as_cons es_c (as_cons es_c (as_cons es_c as_nil)))))))))) g28 (fun _ h => h) (fun x_26 => gs_name 5) (fun x_26 hx => et_yes) (fun x_26 hx _ => (es_call (1, U.str x_26) (as_cons es_c (as_cons (es_toU2 (K := K) (C := (CT 18)) (e := eS) (x := x_26) (u := U.str x_26) (es_var 5 rfl) rfl) as_nil)) (g27 x_26 hx)))))) Wk.refl) (fun told_27 e_told_27 => ?_)
    replace h := h told_27 e_told_27
    refine ss_seq1 ([(Str.ofString ""), (Str.ofString "2"), (Str.ofString "2 1"), (Str.ofString "2 1 0 0"), (Str.ofString "2 1 0 x"), (Str.ofString "0 1 0"), (Str.ofString "2 4 0"), (Str.ofString "2 1 -1"), (Str.ofString "2 0 x")] : List Str) (fun texts_28 => [.fz ((eQ K eI) script_1), .no, .no, .no, .no, .no, .no, .no, .no, .fz (eS many_25), .fz ((eLs eS) told_27), .fz ((eLs eS) texts_28), .no, .no]) (ss_set (es_frs eS ([(Str.ofString ""), (Str.ofString "2"), (Str.ofString "2 1"), (Str.ofString "2 1 0 0"), (Str.ofString "2 1 0 x"), (Str.ofString "0 1 0"), (Str.ofString "2 4 0"), (Str.ofString "2 1 -1"), (Str.ofString "2 0 x")] : List Str) (en_lst (as_cons es_c (as_cons es_c (as_cons es_c (as_cons es_c (as_cons es_c (as_cons es_c (as_cons es_c (as_cons es_c (as_cons es_c as_nil))))))))))) Wk.refl) (fun texts_28 e_texts_28 => ?_)
    replace h := h texts_28 e_texts_28
    obtain ⟨g29, g30, g31, h⟩ := h
    refine ss_seq1 (told_27 ++ (List.map (fun (x_29 : Str) => m_word 0 (U.str x_29)) texts_28)) (fun told_30 => [.fz ((eQ K eI) script_1), .no, .no, .no, .no, .no, .no, .no, .no, .fz (eS many_25), .fz ((eLs eS) told_30), .fz ((eLs eS) texts_28), .no, .no]) (ss_set (es_frs eS (told_27 ++ (List.map (fun (x_29 : Str) => m_word 0 (U.str x_29)) texts_28)) (en_cat (es_var 10 rfl) (es_frs eS (List.map (fun (x_29 : Str) => m_word 0 (U.str x_29)) texts_28) (en_lcF eS (fun (x_29 : Str) => m_word 0 (U.str x_29)) (en_lcS (e := eS) (l := texts_28) (f := (fun (x_29 : Str) => eS (m_word 0 (U.str x_29)))) (is := [5]) (vs := [5]) (fun (x_29 : Str) => true) (fun (x_29 : Str) => [.fz ((eQ K eI) script_1), .no, .no, .no, .no, .fz (eS x_29), .no, .no, .no, .fz (eS many_25), .fz ((eLs eS) told_27), .fz ((eLs eS) texts_28), .no, .no]) (is_list (e := eS) (es_var 11 rfl)) g30 (fun _ h => h) (fun x_29 => gs_name 5) (fun x_29 hx => et_yes) (fun x_29 hx _ => (es_call (0, U.str x_29) (as_cons es_c (as_cons (es_toU2 (K := K) (C := (CT 18)) (e := eS) (x := x_29) (u := U.str x_29) (es_var 5 rfl) rfl) as_nil)) (g29 x_29 hx)))))) g31)) Wk.refl) (fun told_30 e_told_30 => ?_)
    replace h := h told_30 e_told_30
    refine ss_seq1 ([some 12, some 1, (none : Option Int), some 0, some 0, some 0, some 1, some 0, some 0, some 1, some 2, some 3, some 3, some 0, some 1, some 2, some 1] : List (Option Int)) (fun due_31 => [.fz ((eQ K eI) script_1), .no, .no, .no, .no, .no, .no, .fz ((eLs (eO eI)) due_31), .no, .fz (eS many_25), .fz ((eLs eS) told_30), .fz ((eLs eS) texts_28), .no, .no]) (ss_set (es_frs (eO eI) ([some 12, some 1, (none : Option Int), some 0, some 0, some 0, some 1, some 0, some 0, some 1, some 2, some 3, some 3, some 0, some 1, some 2, some 1] : List (Option Int)) (en_lst (as_cons es_c (as_cons es_c (as_cons es_c (as_cons es_c (as_cons es_c (as_cons es_c (as_cons es_c (as_cons es_c (as_cons es_c (as_cons es_c (as_cons es_c (as_cons es_c (as_cons es_c (as_cons es_c (as_cons es_c (as_cons es_c (as_cons es_c as_nil))))))))))))))))))) Wk.refl) (fun due_31 e_due_31 => ?_)
    replace h := h due_31 e_due_31
    obtain ⟨g32, g33, g34, g35, g36, h⟩ := h
    refine ss_retq (es_eqLS (K := K) (es_var 10 rfl) (es_frs eS (List.map (fun (x_32 : Option Int) => if (!x_32.isSome) = true then (Str.ofString "fine") else (Str.ofString "InvalidText ") ++ (strI (unO x_32))) due_31) (en_lcF eS (fun (x_32 : Option Int) => if (!x_32.isSome) = true then (Str.ofString "fine") else (Str.ofString "InvalidText ") ++ (strI (unO x_32))) (en_lcS (e := (eO eI)) (l := due_31) (f := (fun (x_32 : Option Int) => eS (if (!x_32.isSome) = true then (Str.ofString "fine") else (Str.ofString "InvalidText ") ++ (strI (unO x_32))))) (is := [13]) (vs := [13]) (fun (x_32 : Option Int) => true) (fun (x_32 : Option Int) => [.fz ((eQ K eI) script_1), .no, .no, .no, .no, .no, .no, .fz ((eLs (eO eI)) due_31), .no, .fz (eS many_25), .fz ((eLs eS) told_30), .fz ((eLs eS) texts_28), .no, .fz ((eO eI) x_32)]) (is_list (e := (eO eI)) (es_var 7 rfl)) g35 (fun _ h => h) (fun x_32 => gs_name 13) (fun x_32 hx => et_yes) (fun x_32 hx _ => (es_if (e := eS) (p := (Str.ofString "fine")) (q := ((Str.ofString "InvalidText ") ++ (strI (unO x_32)))) (et_isN (e := eI) (es_var 13 rfl)) (fun hc => es_c) (fun hc => (es_addS es_c (es_strI (es_unO (e := eI) (es_var 13 rfl) (g32 x_32 hx hc)) (g33 x_32 hx hc)) (g34 x_32 hx hc)))))))) g36) ?_
    subst e_due_31 e_told_30 e_texts_28 e_told_27 e_many_25 e_f_23
    exact rfl
end
end My
end
section
set_option maxRecDepth 100000
namespace My
open PySem L2 Fw
def Sm (k : Nat) (x : Int) : Prop := x.natAbs < 2 ^ k
theorem Sm.mono {k j : Nat} {x : Int} (h : Sm k x) (l : k ≤ j) : Sm j x := Nat.lt_of_lt_of_le h (Nat.pow_le_pow_right (by decide) l)
theorem Sm.mul {a b : Nat} {x y : Int} (h : Sm a x) (h' : Sm b y) : Sm (a + b) (x * y) := by
  unfold Sm at *
  rw [Int.natAbs_mul, Nat.pow_add]
  exact Nat.mul_lt_mul_of_lt_of_lt h h'
theorem Sm.add {k : Nat} {x y : Int} (h : Sm k x) (h' : Sm k y) : Sm (k + 1) (x + y) := by
  unfold Sm at *
  rw [Nat.pow_succ]
  have := Int.natAbs_add_le x y
  omega
theorem Sm.sub {k : Nat} {x y : Int} (h : Sm k x) (h' : Sm k y) : Sm (k + 1) (x - y) := by
  unfold Sm at *
  rw [Nat.pow_succ]
  have := Int.natAbs_sub_le x y
  omega
theorem Sm.lg {k : Nat} {x : Int} (h : Sm k x) : x.natAbs.log2 ≤ k := by
  by_cases z : x.natAbs = 0
  · rw [z]; exact Nat.zero_le _
  · exact Nat.le_of_lt ((Nat.log2_lt z).mpr h)
theorem Sm.cm {a b : Nat} {x y : Int} (h : Sm a x) (h' : Sm b y) (l : a + b < 1000000) : CMulW x y := by
  unfold CMulW
  have := h.lg
  have := h'.lg
  omega
theorem sm_of {k : Nat} {x : Int} (h1 : 0 ≤ x) (h2 : x < 2 ^ k) : Sm k x := by
  unfold Sm
  have e : ((2 ^ k : Nat) : Int) = 2 ^ k := by push_cast; rfl
  omega
theorem pw_pos (d : Nat) : (0 : Int) < 2 ^ d := Int.pow_pos (by decide)
theorem pw_eq (d : Nat) : (1 : Int) * 2 ^ d = 2 ^ d := Int.one_mul _
theorem mask (x : Int) (d : Nat) : Builtin.bitAnd x (1 * 2 ^ d - 1) = x % 2 ^ d := by rw [pw_eq]; exact PySem.W.kbt_mask x d
theorem pw_lt {d k : Nat} (h : d ≤ k) : (2 : Int) ^ d ≤ 2 ^ k := by
  have : (2 : Nat) ^ d ≤ 2 ^ k := Nat.pow_le_pow_right (by decide) h
  exact_mod_cast this
theorem okF_inv {α β : Type} {ok : β → α → Prop} {b : β → α → β} (I : Nat → β → Prop) : ∀ {l : List α} {s : β} {n : Nat}, I n s → (∀ n s x, x ∈ l → I n s → ok s x ∧ I (n + 1) (b s x)) → okF ok b s l ∧ I (n + l.length) (l.foldl b s)
  | [], s, n, h, _ => ⟨trivial, h⟩
  | x :: l, s, n, h, k => by
    obtain ⟨h1, h2⟩ := k n s x (List.mem_cons_self ..) h
    obtain ⟨g1, g2⟩ := okF_inv I (l := l) h2 fun n s y hy => k n s y (List.mem_cons_of_mem _ hy)
    refine ⟨⟨h1, g1⟩, ?_⟩
    have e : n + (x :: l).length = n + 1 + l.length := by rw [List.length_cons]; omega
    rw [e]; exact g2
theorem okF_I {α β : Type} {ok : β → α → Prop} {b : β → α → β} (I : β → Prop) {l : List α} {s : β} (h : I s) (k : ∀ s x, x ∈ l → I s → ok s x ∧ I (b s x)) : okF ok b s l ∧ I (l.foldl b s) :=
  okF_inv (fun _ => I) (n := 0) h fun _ s x hx hs => k s x hx hs
theorem mem_rng {a b x : Int} : x ∈ rng a b ↔ a ≤ x ∧ x < b := by
  unfold rng
  rw [List.mem_map]
  constructor
  · rintro ⟨k, hk, rfl⟩
    rw [List.mem_range] at hk
    omega
  · rintro ⟨h1, h2⟩
    exact ⟨(x - a).toNat, by rw [List.mem_range]; omega, by omega⟩
theorem len_rng (a b : Int) : (rng a b).length = (b - a).toNat := by unfold rng; simp
theorem pick_lt (b : Bag) {n : Int} (h : 0 < n) : 0 ≤ (m_pick b n).1 ∧ (m_pick b n).1 < n := by
  unfold m_pick
  dsimp only
  unfold m_pick_t1
  dsimp only
  split
  · exact ⟨Int.emod_nonneg _ (by omega), Int.emod_lt_of_pos _ h⟩
  · exact ⟨Int.emod_nonneg _ (by omega), Int.emod_lt_of_pos _ h⟩
theorem pick_ok (b : Bag) {n : Int} (h : 0 < n) (h' : n.natAbs.log2 < 9000) : m_pick_ok b n := by
  unfold m_pick_ok
  intro b3 _
  unfold m_pick_u1
  refine ⟨fun _ => ⟨h, fun _ _ => ⟨⟨h, h'⟩, fun _ _ => trivial⟩⟩, fun _ s _ t _ f hf => ?_⟩
  have f1 : 0 ≤ f ∧ f < 2147483647 := by
    rw [hf]; exact ⟨Int.emod_nonneg _ (by decide), Int.emod_lt_of_pos _ (by decide)⟩
  have fs : Sm 32 f := sm_of f1.1 (Int.lt_trans f1.2 (by decide))
  refine ⟨fs.cm fs (by decide), fun g hg d hd => ?_⟩
  have g1 : 0 ≤ g ∧ g < 2147483587 := by
    rw [hg]; exact ⟨Int.emod_nonneg _ (by decide), Int.emod_lt_of_pos _ (by decide)⟩
  refine ⟨fun _ => ⟨?_, fun _ _ => trivial⟩, fun _ => trivial, fun _ _ => ⟨h, trivial⟩⟩
  rw [hd]
  have e : (2 : Nat) ^ 64 = 18446744073709551616 := by decide
  rw [e]
  omega
theorem whole_iff {v a b : Int} : m_is_whole v a b = true ↔ a ≤ v ∧ v ≤ b := by
  unfold m_is_whole m_is_int
  simp
theorem whole_ok (v a b : Int) : m_is_whole_ok v a b := ⟨trivial, trivial⟩
theorem nwhole {v a b : Int} (h : a ≤ v ∧ v ≤ b) : (!(m_is_whole v a b)) = false := by rw [whole_iff.mpr h]; rfl
def SpC : Int → List (Int × Int) → Int → Prop
  | a, [], b => a = b
  | a, x :: l, b => a ≤ x.1 ∧ x.1 < x.2 ∧ SpC x.2 l b
def Sp0 (l : List (Int × Int)) : Prop := l.length ≤ 12 ∧ ∃ b, SpC 0 l b ∧ b ≤ 10 ^ 30
theorem SpC.le : ∀ {l : List (Int × Int)} {a b : Int}, SpC a l b → a ≤ b
  | [], _, _, h => Int.le_of_eq h
  | _ :: l, _, _, h => by have := SpC.le h.2.2; have := h.1; have := h.2.1; omega
theorem SpC.app : ∀ {l m : List (Int × Int)} {a b c : Int}, SpC a l b → SpC b m c → SpC a (l ++ m) c
  | [], _, _, _, _, h, h' => by cases h; exact h'
  | _ :: l, _, _, _, _, h, h' => ⟨h.1, h.2.1, h.2.2.app h'⟩
theorem SpC.mem : ∀ {l : List (Int × Int)} {a b : Int} {x : Int × Int}, SpC a l b → x ∈ l → a ≤ x.1 ∧ x.1 < x.2 ∧ x.2 ≤ b
  | y :: l, a, b, x, h, m => by
    rcases List.mem_cons.mp m with e | m
    · subst e; exact ⟨h.1, h.2.1, h.2.2.le⟩
    · have := h.2.2.mem m; have := h.1; have := h.2.1; omega
theorem Sp0.mem {l : List (Int × Int)} {x : Int × Int} (h : Sp0 l) (m : x ∈ l) : 0 ≤ x.1 ∧ x.1 < x.2 ∧ x.2 ≤ 10 ^ 30 := by
  obtain ⟨_, b, h1, h2⟩ := h
  have := h1.mem m; omega
theorem sp_one {f e : Int} (h : 0 ≤ f ∧ f < e ∧ e ≤ 10 ^ 30) : Sp0 [(f, e)] := ⟨Nat.le_of_ble_eq_true rfl, e, ⟨h.1, h.2.1, rfl⟩, h.2.2⟩
theorem odd_cancel {r : Int} (hr : r % 2 = 1) : ∀ (d : Nat) {x : Int}, (2 : Int) ^ d ∣ r * x → (2 : Int) ^ d ∣ x
  | 0, x, _ => by rw [Int.pow_zero]; exact Int.one_dvd x
  | d + 1, x, h => by
    obtain ⟨k, hk⟩ := h
    rw [Int.pow_succ] at hk
    have e1 : r * x % 2 = 0 := by
      rw [hk, Int.mul_assoc, Int.mul_left_comm]
      exact Int.mul_emod_right 2 _
    have e2 : x % 2 = 0 := by
      rw [Int.mul_emod, hr, Int.one_mul] at e1
      omega
    obtain ⟨y, hy⟩ : ∃ y, x = 2 * y := ⟨x / 2, by omega⟩
    subst hy
    have e3 : r * y = 2 ^ d * k := by
      have : 2 * (r * y) = 2 * (2 ^ d * k) := by
        rw [← Int.mul_left_comm, hk, Int.mul_assoc, Int.mul_left_comm]
      omega
    obtain ⟨z, hz⟩ := odd_cancel hr d ⟨k, e3⟩
    exact ⟨z, by rw [hz, Int.pow_succ, Int.mul_assoc, Int.mul_left_comm]⟩
def Res (r s : Int) (d : Nat) (t x : Int) : Prop := 0 ≤ x ∧ x < 2 ^ d ∧ (2 : Int) ^ d ∣ r * x + s - t
theorem small_zero {m x : Int} (h1 : -m < x) (h2 : x < m) (h : m ∣ x) : x = 0 := by
  obtain ⟨k, rfl⟩ := h
  have hm : 0 < m := by omega
  have k1 : k < 1 := by
    refine Int.lt_of_mul_lt_mul_left (a := m) ?_ (by omega)
    rw [Int.mul_one]; exact h2
  have k2 : -1 < k := by
    refine Int.lt_of_mul_lt_mul_left (a := m) ?_ (by omega)
    rw [Int.mul_neg, Int.mul_one]; exact h1
  have : k = 0 := by omega
  rw [this, Int.mul_zero]
theorem Res.uniq {r s t x y : Int} {d : Nat} (hr : r % 2 = 1) (h : Res r s d t x) (h' : Res r s d t y) : x = y := by
  obtain ⟨a1, a2, a3⟩ := h
  obtain ⟨b1, b2, b3⟩ := h'
  have c := Int.dvd_sub a3 b3
  have e : r * x + s - t - (r * y + s - t) = r * (x - y) := by rw [Int.mul_sub]; omega
  rw [e] at c
  have := small_zero (by omega) (by omega) (odd_cancel hr d c)
  omega
theorem Res.half {r s t x y : Int} {d : Nat} (hr : r % 2 = 1) (h : Res r s (d + 1) t x) (h' : Res r s d t y) : x = y ∨ x = y + 2 ^ d := by
  obtain ⟨a1, a2, a3⟩ := h
  have hp := pw_pos d
  have e2 : (2 : Int) ^ (d + 1) = 2 ^ d * 2 := Int.pow_succ ..
  have dv : (2 : Int) ^ d ∣ r * x + s - t := Int.dvd_trans ⟨2, e2⟩ a3
  have key : Res r s d t (x % 2 ^ d) := by
    refine ⟨Int.emod_nonneg _ (by omega), Int.emod_lt_of_pos _ hp, ?_⟩
    have e : r * (x % 2 ^ d) + s - t = (r * x + s - t) - 2 ^ d * (r * (x / 2 ^ d)) := by
      rw [Int.emod_def, Int.mul_sub, Int.mul_left_comm r (2 ^ d) (x / 2 ^ d)]; omega
    rw [e]
    exact Int.dvd_sub dv ⟨_, rfl⟩
  have := key.uniq hr h'
  have ed : x % 2 ^ d + 2 ^ d * (x / 2 ^ d) = x := by rw [Int.emod_def]; omega
  rw [this] at ed
  have q1 : 0 ≤ x / 2 ^ d := Int.ediv_nonneg a1 (by omega)
  have q2 : x / 2 ^ d < 2 := Int.ediv_lt_of_lt_mul hp (by rw [Int.mul_comm, ← e2]; exact a2)
  have : x / 2 ^ d = 0 ∨ x / 2 ^ d = 1 := by omega
  rcases this with q | q
  · rw [q, Int.mul_zero] at ed; exact .inl (by omega)
  · rw [q, Int.mul_one] at ed; exact .inr (by omega)
theorem newton {r f : Int} {a : Nat} (h : (2 : Int) ^ a ∣ 1 - r * f) : (2 : Int) ^ (a + a) ∣ 1 - r * (f * (2 - r * f)) := by
  obtain ⟨k, hk⟩ := h
  refine ⟨k * k, ?_⟩
  have e : 1 - r * (f * (2 - r * f)) = (1 - r * f) * (1 - r * f) := by
    rw [← Int.mul_assoc]
    generalize r * f = z
    have e1 : z * (2 - z) = z * 2 - z * z := Int.mul_sub ..
    have e2 : (1 - z) * (1 - z) = (1 - z) * 1 - (1 - z) * z := Int.mul_sub ..
    have e3 : (1 - z) * z = 1 * z - z * z := Int.sub_mul ..
    omega
  rw [e, hk, Int.pow_add, Int.mul_assoc, Int.mul_assoc, Int.mul_left_comm k]
theorem dvd_mod {r x m : Int} (h : m ∣ 1 - r * x) : m ∣ 1 - r * (x % m) := by
  have e : 1 - r * (x % m) = (1 - r * x) + m * (r * (x / m)) := by
    rw [Int.emod_def, Int.mul_sub, Int.mul_left_comm r m (x / m)]; omega
  rw [e]
  exact Int.dvd_add h ⟨_, rfl⟩
structure TOk (T : Tbl) : Prop where
  c : 1 ≤ T.capacity ∧ T.capacity ≤ 10 ^ 30
  r : 1 ≤ T.rate ∧ T.rate ≤ 10 ^ 30
  s : 0 ≤ T.shift ∧ T.shift ≤ 10 ^ 30
  o : T.rate % 2 = 1
theorem make_ok {c r s : Int} (T : TOk ⟨c, r, s⟩) : m_Table___init___ok c r s := by
  have tc := T.c; have tr := T.r; have ts := T.s; have to := T.o
  dsimp only at tc tr ts to
  refine ⟨whole_ok _ _ _, nwhole (by omega), whole_ok _ _ _, ?_, whole_ok _ _ _, nwhole (by omega), trivial⟩
  have e : Builtin.bitAnd r 1 = r % 2 := mask r 1
  rw [nwhole (by omega), e, to]; rfl
theorem rng7 : rng 0 7 = [0, 1, 2, 3, 4, 5, 6] := by decide +kernel
theorem pow_dvd {i j : Nat} (h : i ≤ j) : (2 : Int) ^ i ∣ 2 ^ j := ⟨2 ^ (j - i), by rw [← Int.pow_add]; congr 1; omega⟩
theorem new_step {r f : Int} {a d : Nat} (h : (2 : Int) ^ min a d ∣ 1 - r * f) : (2 : Int) ^ min (a + a) d ∣ 1 - r * (f * (2 - r * f) % 2 ^ d) := by
  have h1 : (2 : Int) ^ min (a + a) d ∣ 1 - r * (f * (2 - r * f)) := by
    refine Int.dvd_trans ?_ (newton h)
    exact pow_dvd (by omega)
  have e : 1 - r * (f * (2 - r * f) % 2 ^ d) = (1 - r * (f * (2 - r * f))) + 2 ^ d * (r * (f * (2 - r * f) / 2 ^ d)) := by
    rw [Int.emod_def, Int.mul_sub, Int.mul_left_comm r (2 ^ d) (f * (2 - r * f) / 2 ^ d)]; omega
  rw [e]
  exact Int.dvd_add h1 (Int.dvd_trans (pow_dvd (by omega)) ⟨_, rfl⟩)
theorem sm_rate {T : Tbl} (h : TOk T) : Sm 100 T.rate := sm_of (by have := h.r; omega) (by have := h.r; omega)
theorem Sp0.len {l : List (Int × Int)} (h : Sp0 l) : l.length ≤ 12 := h.1
def cnt (d : Nat) (R : Int) (x : Int × Int) : Int := (x.2 - 1 - R) / 2 ^ d - (x.1 - 1 - R) / 2 ^ d
theorem cnt_half (d : Nat) (R : Int) (x : Int × Int) : cnt (d + 1) R x + cnt (d + 1) (R + 2 ^ d) x = cnt d R x := by
  have hp := pw_pos d
  have key : ∀ y : Int, y / 2 ^ (d + 1) + (y - 2 ^ d) / 2 ^ (d + 1) = y / 2 ^ d - 1 := by
    intro y
    have e2 : (2 : Int) ^ (d + 1) = 2 ^ d * 2 := Int.pow_succ ..
    have e3 : (y - 2 ^ d) / 2 ^ d = y / 2 ^ d - 1 := by
      have := Int.add_mul_ediv_right y (-1) (Int.ne_of_gt hp)
      have e : y + -1 * 2 ^ d = y - 2 ^ d := by omega
      rw [e] at this; omega
    rw [e2, ← Int.ediv_ediv_of_nonneg (Int.le_of_lt hp), ← Int.ediv_ediv_of_nonneg (Int.le_of_lt hp), e3]
    omega
  have k1 := key (x.2 - 1 - R)
  have k2 := key (x.1 - 1 - R)
  have e1 : x.2 - 1 - R - 2 ^ d = x.2 - 1 - (R + 2 ^ d) := by omega
  have e2 : x.1 - 1 - R - 2 ^ d = x.1 - 1 - (R + 2 ^ d) := by omega
  rw [e1] at k1
  rw [e2] at k2
  unfold cnt
  omega
theorem sum_add {α : Type} (f g : α → Int) : ∀ l : List α, (l.map f).sum + (l.map g).sum = (l.map fun x => f x + g x).sum
  | [] => rfl
  | x :: l => by
    have := sum_add f g l
    simp only [List.map_cons, List.sum_cons]
    omega
theorem sum_half (d : Nat) (R : Int) (l : List (Int × Int)) : (l.map (cnt (d + 1) R)).sum + (l.map (cnt (d + 1) (R + 2 ^ d))).sum = (l.map (cnt d R)).sum := by
  rw [sum_add]
  congr 1
  exact List.map_congr_left fun x _ => cnt_half d R x
theorem cnt_join (d : Nat) (R f m e : Int) : cnt d R (f, m) + cnt d R (m, e) = cnt d R (f, e) := by unfold cnt; dsimp only; omega
theorem div_step {y m : Int} (hm : 0 < m) : y / m - (y - 1) / m = if m ∣ y then 1 else 0 := by
  have h1 : y % m + m * (y / m) = y := by rw [Int.emod_def]; omega
  have r1 := Int.emod_nonneg y (Int.ne_of_gt hm)
  have r2 := Int.emod_lt_of_pos y hm
  split
  · rename_i h
    have z : y % m = 0 := Int.emod_eq_zero_of_dvd h
    have : (y - 1) / m = y / m - 1 := by
      refine (PySem.W.kbt_unique hm (r := m - 1) ?_ (by omega) (by omega)).1
      rw [Int.mul_sub, Int.mul_one]; omega
    omega
  · rename_i h
    have z : y % m ≠ 0 := fun z => h (Int.dvd_of_emod_eq_zero z)
    have : (y - 1) / m = y / m := (PySem.W.kbt_unique hm (r := y % m - 1) (by omega) (by omega) (by omega)).1
    omega
theorem sm_key {k : Int} (hk : 0 ≤ k ∧ k < 10 ^ 30) : Sm 100 k := sm_of hk.1 (by omega)
theorem pickk (b : Bag) {n : Int} (h : 0 < n) (h' : n ≤ 2 ^ 200) : m_pick_ok b n := pick_ok b h (by
  have := Sm.lg (k := 201) (sm_of (Int.le_of_lt h) (Int.lt_of_le_of_lt h' (by decide)))
  omega)
theorem nth2 {α : Type} [Inhabited α] (a b : α) {i : Int} (h : 0 ≤ i ∧ i < 2) : nth [a, b] i = a ∨ nth [a, b] i = b := by
  have : i = 0 ∨ i = 1 := by omega
  rcases this with e | e <;> subst e
  · exact .inl rfl
  · exact .inr rfl
theorem nth3 {α : Type} [Inhabited α] (a b c : α) {i : Int} (h : 0 ≤ i ∧ i < 3) : nth [a, b, c] i = a ∨ nth [a, b, c] i = b ∨ nth [a, b, c] i = c := by
  have : i = 0 ∨ i = 1 ∨ i = 2 := by omega
  rcases this with e | e | e <;> subst e
  · exact .inl rfl
  · exact .inr (.inl rfl)
  · exact .inr (.inr rfl)
theorem nth_last {α : Type} [Inhabited α] (l : List α) (x : α) : nth (l ++ [x]) ((l ++ [x]).length - 1) = x := by
  unfold nth
  have e : (((l ++ [x]).length : Int) - 1).toNat = l.length := by rw [List.length_append, List.length_singleton]; omega
  rw [e]; simp
theorem nth_mem {α : Type} [Inhabited α] {l : List α} {i : Int} (h : 0 ≤ i ∧ i < l.length) : nth l i ∈ l := by
  unfold nth
  have hi : i.toNat < l.length := by omega
  rw [List.getD_eq_getElem?_getD, List.getElem?_eq_getElem hi]
  exact List.getElem_mem hi
theorem mem_enumI {α : Type} [Inhabited α] {l : List α} {p : Int × α} (h : p ∈ enumI l) : 0 ≤ p.1 ∧ p.1 < l.length ∧ nth l p.1 = p.2 := by
  obtain ⟨k, hk⟩ := List.mem_iff_getElem?.mp h
  rw [enumI_at] at hk
  cases q : l[k]? with
  | none => rw [q] at hk; cases hk
  | some x =>
    rw [q] at hk; cases hk
    have := (List.getElem?_eq_some_iff.mp q).1
    refine ⟨by show 0 ≤ (k : Int); omega, by show (k : Int) < _; omega, ?_⟩
    show l.getD ((k : Int)).toNat default = x
    have e : ((k : Int)).toNat = k := by omega
    rw [e, List.getD_eq_getElem?_getD, q]; rfl
theorem cut_take {α : Type} (l : List α) {k : Int} (h : 0 ≤ k ∧ k ≤ l.length) : cutL l none (some k) = l.take k.toNat := by
  unfold cutL HT.sIx
  dsimp only
  rw [if_neg (by omega), Nat.sub_zero, List.drop_zero]
  congr 1; omega
theorem cut_drop {α : Type} (l : List α) {k : Int} (h : 0 ≤ k ∧ k ≤ l.length) : cutL l (some k) none = l.drop k.toNat := by
  unfold cutL HT.sIx
  dsimp only
  rw [if_neg (by omega)]
  have e : min k.toNat l.length = k.toNat := by omega
  rw [e]
  exact List.take_of_length_le (by rw [List.length_drop]; omega)
theorem part {α : Type} [Inhabited α] (l : List α) {k : Int} (h : 0 ≤ k ∧ k < l.length) : l = l.take k.toNat ++ nth l k :: l.drop (k + 1).toNat := by
  have hk : k.toNat < l.length := by omega
  have e : (k + 1).toNat = k.toNat + 1 := by omega
  have e2 : nth l k = l[k.toNat] := by
    unfold nth
    rw [List.getD_eq_getElem?_getD, List.getElem?_eq_getElem hk]; rfl
  rw [e, e2, ← List.drop_eq_getElem_cons hk, List.take_append_drop]
theorem SpC.cut : ∀ {l : List (Int × Int)} {a b : Int} {x : Int × Int} {m : List (Int × Int)}, SpC a (l ++ x :: m) b → ∃ c, SpC a l c ∧ c ≤ x.1 ∧ x.1 < x.2 ∧ SpC x.2 m b
  | [], a, _, _, _, h => ⟨a, rfl, h⟩
  | y :: l, _, _, _, _, h => by
    obtain ⟨c, h1, h2⟩ := SpC.cut (l := l) h.2.2
    exact ⟨c, ⟨h.1, h.2.1, h1⟩, h2⟩
theorem nd {p : Prop} [Decidable p] (h : p) : (!decide p) = false := by rw [decide_eq_true h]; rfl
theorem tail_mem {d t x : Int} (hd : 0 ≤ d) (ht : 0 ≤ t ∧ t < 2 ^ d.toNat) (h : x ∈ ([0, 1 * 2 ^ d.toNat] : List Int)) : 0 ≤ t + x ∧ t + x < 2 ^ (d + 1).toNat := by
  have e : (d + 1).toNat = d.toNat + 1 := by omega
  rw [e, Int.pow_succ]
  rcases List.mem_cons.mp h with z | z
  · omega
  · rcases List.mem_cons.mp z with z | z
    · rw [pw_eq] at z; omega
    · cases z
theorem t510 : TOk ⟨5, 1, 0⟩ := ⟨by decide, by decide, by decide, by decide⟩
theorem tbig : TOk ⟨1, 10 ^ 30 - 1, 10 ^ 30⟩ := ⟨by decide, by decide, by decide, by decide⟩
def Rem (d : Nat) (R k : Int) : Bool := decide ((k - R) % 2 ^ d = 0)
theorem rem_iff {d : Nat} {R k : Int} : Rem d R k = true ↔ (2 : Int) ^ d ∣ k - R := by
  unfold Rem
  rw [decide_eq_true_iff]
  exact ⟨Int.dvd_of_emod_eq_zero, Int.emod_eq_zero_of_dvd⟩
def base (d : Nat) (R f : Int) : Int := R + ((f - 1 - R) / 2 ^ d + 1) * 2 ^ d
theorem base_eq (d : Nat) (R f : Int) : f + (R - f) % 2 ^ d = base d R f := by
  have hp := pw_pos d
  have h1 : (f - 1 - R) % 2 ^ d + 2 ^ d * ((f - 1 - R) / 2 ^ d) = f - 1 - R := by rw [Int.emod_def]; omega
  have r1 := Int.emod_nonneg (f - 1 - R) (Int.ne_of_gt hp)
  have r2 := Int.emod_lt_of_pos (f - 1 - R) hp
  unfold base
  generalize (f - 1 - R) / 2 ^ d = p at *
  generalize (f - 1 - R) % 2 ^ d = s at *
  have e := (PySem.W.kbt_unique (a := R - f) (b := 2 ^ d) (q := -(p + 1)) (r := 2 ^ d - 1 - s) hp (by
    have e1 : 2 ^ d * -(p + 1) = -(2 ^ d * p) - 2 ^ d := by rw [Int.mul_neg, Int.mul_add, Int.mul_one]; omega
    omega) (by omega) (by omega)).2
  rw [e]
  have e2 : (p + 1) * 2 ^ d = 2 ^ d * p + 2 ^ d := by rw [Int.add_mul, Int.one_mul, Int.mul_comm]
  omega
theorem rng_snoc (f : Int) (n : Nat) : rng f (f + ((n + 1 : Nat) : Int)) = rng f (f + n) ++ [f + n] := by
  unfold rng
  have e1 : (f + ((n + 1 : Nat) : Int) - f).toNat = n + 1 := by omega
  have e2 : (f + (n : Int) - f).toNat = n := by omega
  rw [e1, e2, List.range_succ, List.map_append]; rfl
theorem rng_nil (f : Int) : rng f (f + ((0 : Nat) : Int)) = [] := by
  unfold rng
  have e2 : (f + ((0 : Nat) : Int) - f).toNat = 0 := by omega
  rw [e2]; rfl
theorem span_rem (d : Nat) (R f : Int) : ∀ n : Nat, 0 ≤ cnt d R (f, f + n) ∧ (rng f (f + n)).filter (Rem d R) = (List.range (cnt d R (f, f + n)).toNat).map fun i : Nat => base d R f + (i : Int) * 2 ^ d
  | 0 => by
    rw [rng_nil]
    have e : cnt d R (f, f + ((0 : Nat) : Int)) = 0 := by
      unfold cnt
      dsimp only
      have : f + ((0 : Nat) : Int) = f := by omega
      rw [this]; omega
    rw [e]
    exact ⟨Int.le_refl _, rfl⟩
  | n + 1 => by
    obtain ⟨h1, h2⟩ := span_rem d R f n
    have hp := pw_pos d
    rw [rng_snoc, List.filter_append, h2]
    have st := div_step (y := f + n - R) hp
    have ec : cnt d R (f, f + ((n + 1 : Nat) : Int)) = cnt d R (f, f + n) + (if (2 : Int) ^ d ∣ f + n - R then 1 else 0) := by
      unfold cnt
      dsimp only
      rw [← st]
      have e1 : f + ((n + 1 : Nat) : Int) - 1 - R = f + n - R := by omega
      have e2 : f + (n : Int) - 1 - R = f + n - R - 1 := by omega
      rw [e1, e2]; omega
    by_cases hd : (2 : Int) ^ d ∣ f + n - R
    · rw [if_pos hd] at ec
      have hr : Rem d R (f + n) = true := rem_iff.mpr hd
      have e3 : [f + (n : Int)].filter (Rem d R) = [f + n] := by
        rw [List.filter_cons, if_pos hr]; rfl
      rw [ec, e3]
      have e4 : (cnt d R (f, f + n) + 1).toNat = (cnt d R (f, f + n)).toNat + 1 := by omega
      rw [e4, List.range_succ, List.map_append]
      refine ⟨by omega, ?_⟩
      congr 1
      show [f + (n : Int)] = [base d R f + ((cnt d R (f, f + n)).toNat : Int) * 2 ^ d]
      congr 1
      have e5 : ((cnt d R (f, f + n)).toNat : Int) = cnt d R (f, f + n) := by omega
      rw [e5]
      obtain ⟨q, hq⟩ := hd
      have e6 : (f + (n : Int) - 1 - R) / 2 ^ d = q - 1 := by
        refine (PySem.W.kbt_unique hp (r := 2 ^ d - 1) ?_ (by omega) (by omega)).1
        rw [Int.mul_sub, Int.mul_one]; omega
      unfold cnt base
      dsimp only
      rw [e6]
      generalize (f - 1 - R) / 2 ^ d = p
      have e7 : R + (p + 1) * 2 ^ d + (q - 1 - p) * 2 ^ d = R + ((p + 1) + (q - 1 - p)) * 2 ^ d := by rw [Int.add_mul (p + 1)]; omega
      have e8 : (p + 1) + (q - 1 - p) = q := by omega
      rw [e7, e8, Int.mul_comm]; omega
    · rw [if_neg hd] at ec
      have hr : Rem d R (f + n) = false := by
        cases z : Rem d R (f + n) with
        | true => exact (hd (rem_iff.mp z)).elim
        | false => rfl
      have e3 : [f + (n : Int)].filter (Rem d R) = [] := by
        rw [List.filter_cons, hr]; rfl
      rw [ec, e3, Int.add_zero, List.append_nil]
      exact ⟨h1, rfl⟩
theorem span_rem' (d : Nat) (R : Int) {x : Int × Int} (h : x.1 ≤ x.2) : 0 ≤ cnt d R x ∧ (rng x.1 x.2).filter (Rem d R) = (List.range (cnt d R x).toNat).map fun i : Nat => base d R x.1 + (i : Int) * 2 ^ d := by
  have := span_rem d R x.1 (x.2 - x.1).toNat
  have e : x.1 + ((x.2 - x.1).toNat : Int) = x.2 := by omega
  rw [e] at this
  exact this
def keysOf (l : List (Int × Int)) : List Int := l.flatMap fun x => rng x.1 x.2
theorem keys_count (d : Nat) (R : Int) : ∀ {l : List (Int × Int)} {a b : Int}, SpC a l b → (((keysOf l).filter (Rem d R)).length : Int) = (l.map (cnt d R)).sum
  | [], _, _, _ => rfl
  | x :: l, a, b, h => by
    have ih := keys_count d R (l := l) h.2.2
    obtain ⟨h1, h2⟩ := span_rem' d R (x := x) (by have := h.2.1; omega)
    show (((rng x.1 x.2 ++ keysOf l).filter (Rem d R)).length : Int) = cnt d R x + (l.map (cnt d R)).sum
    rw [List.filter_append, h2, List.length_append, List.length_map, List.length_range]
    omega
theorem bits_sm {k : Nat} {x : Int} (h : Sm k x) : Builtin.Int.intBits x ≤ k + 1 := by
  have := h.lg
  unfold Builtin.Int.intBits
  split <;> omega
def dueOf (T : Tbl) (l : List (Int × Int)) (d t : Int) : List Int := (keysOf l).filter fun k => decide ((T.rate * k + T.shift) % 2 ^ d.toNat = t)
theorem SpC.key : ∀ {l : List (Int × Int)} {a b k : Int}, SpC a l b → k ∈ keysOf l → a ≤ k ∧ k < b
  | x :: l, a, b, k, h, m => by
    have := h.2.2.le
    have := h.1
    have := h.2.1
    rcases List.mem_append.mp (show k ∈ rng x.1 x.2 ++ keysOf l from m) with m | m
    · have := mem_rng.mp m; omega
    · have := h.2.2.key m; omega
theorem Sp0.key {l : List (Int × Int)} {k : Int} (h : Sp0 l) (m : k ∈ keysOf l) : 0 ≤ k ∧ k < 10 ^ 30 := by
  obtain ⟨_, b, h1, h2⟩ := h
  have := h1.key m; omega
theorem rng_sorted (a b : Int) : (rng a b).Pairwise (· < ·) := by
  unfold rng
  rw [List.pairwise_map]
  exact List.pairwise_lt_range.imp fun h => by omega
theorem keys_sorted : ∀ {l : List (Int × Int)} {a b : Int}, SpC a l b → (keysOf l).Pairwise (· < ·)
  | [], _, _, _ => List.Pairwise.nil
  | x :: l, a, b, h => by
    show (rng x.1 x.2 ++ keysOf l).Pairwise (· < ·)
    rw [List.pairwise_append]
    refine ⟨rng_sorted _ _, keys_sorted h.2.2, fun u hu v hv => ?_⟩
    have := mem_rng.mp hu
    have := h.2.2.key hv
    omega
theorem due_sorted {T : Tbl} {l : List (Int × Int)} (hl : Sp0 l) (d t : Int) : (dueOf T l d t).Pairwise (· < ·) := by
  obtain ⟨_, b, h, _⟩ := hl
  exact (keys_sorted h).filter _
theorem due_mem {T : Tbl} {l : List (Int × Int)} {d t k : Int} : k ∈ dueOf T l d t ↔ k ∈ keysOf l ∧ (T.rate * k + T.shift) % 2 ^ d.toNat = t := by
  unfold dueOf
  rw [List.mem_filter, decide_eq_true_iff]
theorem less_count : ∀ {l : List Int} {n : Nat} {k : Int}, l.Pairwise (· < ·) → l[n]? = some k → (l.filter (fun z => decide (z < k))).length = n
  | [], _, _, _, h => by simp at h
  | x :: l, 0, k, hp, h => by
    have e : x = k := by simpa using h
    subst e
    rw [List.pairwise_cons] at hp
    rw [List.filter_eq_nil_iff.mpr]; · rfl
    intro z hz
    rcases List.mem_cons.mp hz with e | m
    · subst e; simp
    · have := hp.1 z m; simp; omega
  | x :: l, n + 1, k, hp, h => by
    rw [List.pairwise_cons] at hp
    have h' : l[n]? = some k := by simpa using h
    have m := List.mem_of_getElem? h'
    rw [List.filter_cons, if_pos (decide_eq_true (hp.1 k m)), List.length_cons, less_count hp.2 h']
theorem at_less {l : List Int} {k : Int} (hp : l.Pairwise (· < ·)) (h : k ∈ l) : l[(l.filter (fun z => decide (z < k))).length]? = some k := by
  obtain ⟨n, hn⟩ := List.mem_iff_getElem?.mp h
  rw [less_count hp hn]; exact hn
theorem key_span : ∀ {l : List (Int × Int)} {k : Int}, k ∈ keysOf l → ∃ x ∈ l, x.1 ≤ k ∧ k < x.2 := fun {l k} h => by
  obtain ⟨x, hx, hk⟩ := List.mem_flatMap.mp h
  exact ⟨x, hx, mem_rng.mp hk⟩
theorem span_key {l : List (Int × Int)} {x : Int × Int} {k : Int} (h : x ∈ l) (hk : x.1 ≤ k ∧ k < x.2) : k ∈ keysOf l := List.mem_flatMap.mpr ⟨x, h, mem_rng.mpr hk⟩
theorem rise {l : List Int} {i j : Nat} {u v : Int} (hp : l.Pairwise (· < ·)) (hi : l[i]? = some u) (hj : l[j]? = some v) (h : i < j) : u < v := by
  obtain ⟨h1, e1⟩ := List.getElem?_eq_some_iff.mp hi
  obtain ⟨h2, e2⟩ := List.getElem?_eq_some_iff.mp hj
  have := List.pairwise_iff_getElem.mp hp i j h1 h2 h
  rw [e1, e2] at this; exact this
def dv (D : List (Int × Int)) (k : Int) : Int := (gt D k).getD 0
def kys (D : List (Int × Int)) : List Int := D.map (·.1)
theorem any_kys (D : List (Int × Int)) (k : Int) : (D.any fun p => decide (p.1 = k)) = true ↔ k ∈ kys D := by
  unfold kys
  simp only [List.any_eq_true, List.mem_map, decide_eq_true_eq]
theorem dv_pt (D : List (Int × Int)) (k v j : Int) : dv (pt D k v) j = if j = k then v else dv D j := by
  unfold dv gt pt
  by_cases h : (D.any fun p => decide (p.1 = k)) = true
  · rw [if_pos h, List.find?_map]
    have e : ((fun p : Int × Int => decide (p.1 = j)) ∘ fun p : Int × Int => if p.1 = k then (p.1, v) else p) = fun p : Int × Int => decide (p.1 = j) := by
      funext p
      show decide ((if p.1 = k then (p.1, v) else p).1 = j) = _
      by_cases q : p.1 = k
      · rw [if_pos q]
      · rw [if_neg q]
    rw [e]
    cases z : D.find? fun p => decide (p.1 = j) with
    | none =>
      by_cases q : j = k
      · subst q
        rw [List.find?_eq_none] at z
        rw [List.any_eq_true] at h
        obtain ⟨x, hx, hy⟩ := h
        exact absurd hy (z x hx)
      · rw [if_neg q]; rfl
    | some p =>
      have hp := List.find?_some z
      have hp' : p.1 = j := of_decide_eq_true hp
      show (if p.1 = k then (p.1, v) else p).2 = _
      by_cases q : j = k
      · rw [if_pos (hp'.trans q), if_pos q]
      · rw [if_neg (fun w => q (hp'.symm.trans w)), if_neg q]; rfl
  · rw [if_neg h, List.find?_append]
    have hn : ∀ x ∈ D, ¬ x.1 = k := fun x hx w => h (by rw [List.any_eq_true]; exact ⟨x, hx, decide_eq_true w⟩)
    by_cases q : j = k
    · subst q
      rw [List.find?_eq_none.mpr (fun x hx => by simpa using hn x hx), if_pos rfl]
      simp
    · rw [if_neg q]
      have : List.find? (fun p : Int × Int => decide (p.1 = j)) [(k, v)] = none := by simp; exact fun w => q w.symm
      rw [this]; simp
theorem kys_pt (D : List (Int × Int)) (k v : Int) : kys (pt D k v) = if k ∈ kys D then kys D else kys D ++ [k] := by
  unfold pt
  by_cases h : (D.any fun p => decide (p.1 = k)) = true
  · rw [if_pos h, if_pos ((any_kys D k).mp h)]
    unfold kys
    rw [List.map_map]
    refine List.map_congr_left fun p _ => ?_
    show (if p.1 = k then (p.1, v) else p).1 = _
    by_cases q : p.1 = k
    · rw [if_pos q]
    · rw [if_neg q]
  · rw [if_neg h, if_neg fun w => h ((any_kys D k).mpr w)]
    unfold kys
    rw [List.map_append]; rfl
theorem mem_kys_pt {D : List (Int × Int)} {k v j : Int} : j ∈ kys (pt D k v) ↔ j ∈ kys D ∨ j = k := by
  rw [kys_pt]
  by_cases h : k ∈ kys D
  · rw [if_pos h]
    exact ⟨.inl, fun z => z.elim id fun e => e ▸ h⟩
  · rw [if_neg h, List.mem_append, List.mem_singleton]
theorem nodup_pt {D : List (Int × Int)} {k v : Int} (h : (kys D).Nodup) : (kys (pt D k v)).Nodup := by
  rw [kys_pt]
  by_cases q : k ∈ kys D
  · rw [if_pos q]; exact h
  · rw [if_neg q, List.nodup_append]
    refine ⟨h, by simp, fun a ha b hb e => ?_⟩
    rw [List.mem_singleton] at hb
    subst hb e
    exact q ha
theorem len_kys (D : List (Int × Int)) : (kys D).length = D.length := by unfold kys; simp
theorem len_pt (D : List (Int × Int)) (k v : Int) : (pt D k v).length ≤ D.length + 1 := by
  rw [← len_kys, ← len_kys, kys_pt]
  split
  · omega
  · simp
theorem ptAll_facts : ∀ (more acc : List (Int × Int)), (kys acc).Nodup → (kys (ptAll acc more)).Nodup ∧ (∀ j, j ∈ kys (ptAll acc more) ↔ j ∈ kys acc ∨ j ∈ kys more) ∧ (ptAll acc more).length ≤ acc.length + more.length
  | [], acc, h => ⟨h, fun j => ⟨.inl, fun z => z.elim id fun z => by cases z⟩, Nat.le_refl _⟩
  | p :: l, acc, h => by
    obtain ⟨h1, h2, h3⟩ := ptAll_facts l (pt acc p.1 p.2) (nodup_pt h)
    have e : ptAll acc (p :: l) = ptAll (pt acc p.1 p.2) l := rfl
    rw [e]
    refine ⟨h1, fun j => ?_, ?_⟩
    · rw [h2, mem_kys_pt]
      have : kys (p :: l) = p.1 :: kys l := rfl
      rw [this, List.mem_cons]
      constructor
      · rintro ((a | a) | a)
        · exact .inl a
        · exact .inr (.inl a)
        · exact .inr (.inr a)
      · rintro (a | a | a)
        · exact .inl (.inl a)
        · exact .inl (.inr a)
        · exact .inr a
    · have := len_pt acc p.1 p.2
      rw [List.length_cons]; omega
theorem union_facts (D : List (Int × Int)) (a x b y : Int) : (unionK D a x b y).Nodup ∧ (∀ j, j ∈ unionK D a x b y ↔ j ∈ kys D ∨ j = a ∨ j = b) ∧ (unionK D a x b y).length ≤ D.length + 2 := by
  obtain ⟨h1, h2, h3⟩ := ptAll_facts D [] List.nodup_nil
  obtain ⟨g1, g2, g3⟩ := ptAll_facts [(a, x), (b, y)] [] List.nodup_nil
  obtain ⟨k1, k2, k3⟩ := ptAll_facts (ptAll [] [(a, x), (b, y)]) (ptAll [] D) h1
  have e : unionK D a x b y = kys (ptAll (ptAll [] D) (ptAll [] [(a, x), (b, y)])) := rfl
  rw [e]
  refine ⟨k1, fun j => ?_, ?_⟩
  · rw [k2, h2, g2]
    have : kys [(a, x), (b, y)] = [a, b] := rfl
    rw [this]
    simp only [List.mem_cons, List.not_mem_nil, or_false]
    have : ∀ z : Int, z ∈ kys [] ↔ False := fun z => ⟨fun w => (by cases w), False.elim⟩
    rw [this]; simp
  · rw [len_kys]
    simp only [List.length_nil, List.length_cons, Nat.zero_add] at h3 g3 k3
    omega
def sumLe (P : List Int) (f : Int → Int) (r : Int) : Int := ((P.filter fun p => decide (p ≤ r)).map f).sum
theorem sumLe_cons (p : Int) (P : List Int) (f : Int → Int) (r : Int) : sumLe (p :: P) f r = (if p ≤ r then f p else 0) + sumLe P f r := by
  unfold sumLe
  by_cases h : p ≤ r
  · rw [List.filter_cons, decide_eq_true h, if_pos rfl, if_pos h]; rfl
  · rw [List.filter_cons, decide_eq_false h, if_neg Bool.false_ne_true, if_neg h]; omega
theorem sumLe_congr {f g : Int → Int} {r : Int} : ∀ {P : List Int}, (∀ p ∈ P, f p = g p) → sumLe P f r = sumLe P g r
  | [], _ => rfl
  | p :: P, h => by rw [sumLe_cons, sumLe_cons, h p (List.mem_cons_self ..), sumLe_congr fun q hq => h q (List.mem_cons_of_mem _ hq)]
theorem sumLe_upd {f : Int → Int} {k c r : Int} : ∀ {P : List Int}, P.Nodup → k ∈ P → sumLe P (fun j => if j = k then f k + c else f j) r = sumLe P f r + if k ≤ r then c else 0
  | [], _, h => by cases h
  | p :: P, hn, h => by
    rw [List.nodup_cons] at hn
    rw [sumLe_cons, sumLe_cons]
    by_cases e : p = k
    · subst e
      rw [if_pos rfl, sumLe_congr (g := f) fun q hq => if_neg fun (w : q = p) => hn.1 (w ▸ hq)]
      by_cases q : p ≤ r
      · rw [if_pos q, if_pos q, if_pos q]; omega
      · rw [if_neg q, if_neg q, if_neg q]; omega
    · rw [if_neg e, sumLe_upd hn.2 ((List.mem_cons.mp h).resolve_left fun w => e w.symm)]; omega
theorem sumLe_nil (P : List Int) (r : Int) : sumLe P (dv []) r = 0 := by
  induction P with
  | nil => rfl
  | cons p P ih =>
    rw [sumLe_cons, ih]
    have : dv [] p = 0 := rfl
    rw [this]; split <;> rfl
theorem cnt_arc (d : Nat) {r : Int} (hr : 0 ≤ r ∧ r < 2 ^ d) (x : Int × Int) : cnt d r x = (x.2 - x.1) / 2 ^ d
    + ((if x.1 % 2 ^ d ≤ r then 1 else 0) - (if x.1 % 2 ^ d + min2 ((x.2 - x.1) % 2 ^ d) (2 ^ d - x.1 % 2 ^ d) ≤ r then 1 else 0))
    + ((if 0 ≤ r then 1 else 0) - (if 0 + max2 0 (x.1 % 2 ^ d + (x.2 - x.1) % 2 ^ d - 2 ^ d) ≤ r then 1 else 0)) := by
  obtain ⟨f, e⟩ := x
  unfold cnt min2 max2
  dsimp only
  have hS := pw_pos d
  generalize (2 : Int) ^ d = S at *
  have q1 := Int.mul_ediv_add_emod f S
  have q2 := Int.mul_ediv_add_emod (e - f) S
  have p1 := Int.emod_nonneg f (Int.ne_of_gt hS)
  have p2 := Int.emod_lt_of_pos f hS
  have p3 := Int.emod_nonneg (e - f) (Int.ne_of_gt hS)
  have p4 := Int.emod_lt_of_pos (e - f) hS
  generalize f / S = a at *
  generalize (e - f) / S = b at *
  generalize f % S = lo at *
  generalize (e - f) % S = re at *
  have key : ∀ (y c : Int), S * c ≤ y → y < S * c + S → y / S = c := fun y c h1 h2 => by
    have hd := Int.mul_ediv_add_emod y S
    have h3 := Int.emod_nonneg y (Int.ne_of_gt hS)
    have h4 := Int.emod_lt_of_pos y hS
    refine Int.le_antisymm ?_ ?_
    · refine Int.not_lt.mp fun w => ?_
      have : S * (c + 1) ≤ S * (y / S) := Int.mul_le_mul_of_nonneg_left w (Int.le_of_lt hS)
      rw [Int.mul_add, Int.mul_one] at this
      omega
    · refine Int.not_lt.mp fun w => ?_
      have : S * (y / S + 1) ≤ S * c := Int.mul_le_mul_of_nonneg_left w (Int.le_of_lt hS)
      rw [Int.mul_add, Int.mul_one] at this
      omega
  have m1 : S * (a - 1) = S * a - S := by rw [Int.mul_sub, Int.mul_one]
  have m2 : S * (a + b) = S * a + S * b := Int.mul_add ..
  have m3 : S * (a + b - 1) = S * a + S * b - S := by rw [Int.mul_sub, Int.mul_add, Int.mul_one]
  have m4 : S * (a + b + 1) = S * a + S * b + S := by rw [Int.mul_add, Int.mul_add, Int.mul_one]
  have e1 : (f - 1 - r) / S = if lo ≤ r then a - 1 else a := by
    by_cases h : lo ≤ r
    · rw [if_pos h]; exact key _ _ (by omega) (by omega)
    · rw [if_neg h]; exact key _ _ (by omega) (by omega)
  have e2 : (e - 1 - r) / S = if lo + re ≤ r then a + b - 1 else if lo + re ≤ r + S then a + b else a + b + 1 := by
    by_cases h : lo + re ≤ r
    · rw [if_pos h]; exact key _ _ (by omega) (by omega)
    · rw [if_neg h]
      by_cases h' : lo + re ≤ r + S
      · rw [if_pos h']; exact key _ _ (by omega) (by omega)
      · rw [if_neg h']; exact key _ _ (by omega) (by omega)
  rw [e1, e2]
  split <;> split <;> split <;> split <;> split <;> split <;> (try split) <;> (try split) <;> omega
theorem okF_invB {α β : Type} {ok : β → α → Prop} {b : β → α → β} (I : Nat → β → Prop) {m : Nat} : ∀ {l : List α} {s : β} {n : Nat}, n + l.length ≤ m → I n s → (∀ n s x, x ∈ l → n < m → I n s → ok s x ∧ I (n + 1) (b s x)) → okF ok b s l ∧ I (n + l.length) (l.foldl b s)
  | [], s, n, _, h, _ => ⟨trivial, h⟩
  | x :: l, s, n, hm, h, k => by
    rw [List.length_cons] at hm
    obtain ⟨h1, h2⟩ := k n s x (List.mem_cons_self ..) (by omega) h
    obtain ⟨g1, g2⟩ := okF_invB I (l := l) (by omega) h2 fun n s y hy => k n s y (List.mem_cons_of_mem _ hy)
    refine ⟨⟨h1, g1⟩, ?_⟩
    have e : n + (x :: l).length = n + 1 + l.length := by rw [List.length_cons]; omega
    rw [e]; exact g2
def Chain (g : Int → Int) : Int → List (Int × Int × Int) → Int → Prop
  | a, [], b => a = b
  | a, x :: l, b => x.1 = a ∧ a < x.2.1 ∧ (∀ r, a ≤ r → r < x.2.1 → g r = x.2.2) ∧ Chain g x.2.1 l b
theorem Chain.le {g : Int → Int} : ∀ {l : List (Int × Int × Int)} {a b : Int}, Chain g a l b → a ≤ b
  | [], _, _, h => Int.le_of_eq h
  | x :: l, a, b, h => by have := h.2.1; have := h.2.2.2.le; omega
theorem Chain.congr {f g : Int → Int} : ∀ {l : List (Int × Int × Int)} {a b : Int}, Chain f a l b → (∀ r, a ≤ r → r < b → f r = g r) → Chain g a l b
  | [], _, _, h, _ => h
  | x :: l, a, b, h, e => by
    have h1 := h.2.1
    have h2 := h.2.2.2.le
    exact ⟨h.1, h1, fun r p q => by rw [← e r p (by omega)]; exact h.2.2.1 r p q, h.2.2.2.congr fun r p q => e r (by omega) q⟩
theorem Chain.mem {g : Int → Int} : ∀ {l : List (Int × Int × Int)} {a b : Int} {x : Int × Int × Int}, Chain g a l b → x ∈ l → a ≤ x.1 ∧ x.1 < x.2.1 ∧ x.2.1 ≤ b ∧ ∀ r, x.1 ≤ r → r < x.2.1 → g r = x.2.2
  | y :: l, a, b, x, h, m => by
    have h0 := h.1
    have h1 := h.2.1
    have h2 := h.2.2.2.le
    rcases List.mem_cons.mp m with e | m
    · subst e
      exact ⟨by omega, by omega, h2, fun r p q => h.2.2.1 r (by omega) q⟩
    · obtain ⟨g1, g2, g3, g4⟩ := h.2.2.2.mem m
      exact ⟨by omega, g2, g3, g4⟩
  | [], _, _, _, _, m => by cases m
theorem Chain.at {g : Int → Int} : ∀ {l : List (Int × Int × Int)} {a b r : Int}, Chain g a l b → a ≤ r → r < b → ∃ x ∈ l, x.1 ≤ r ∧ r < x.2.1
  | [], a, b, r, h, p, q => by have : a = b := h; omega
  | x :: l, a, b, r, h, p, q => by
    by_cases z : r < x.2.1
    · exact ⟨x, List.mem_cons_self .., by have := h.1; omega, z⟩
    · obtain ⟨y, m, h1⟩ := h.2.2.2.at (by omega) q
      exact ⟨y, List.mem_cons_of_mem _ m, h1⟩
theorem getLast_max : ∀ {l : List Int} (h : l ≠ []) {S : Int}, l.Pairwise (· < ·) → S ∈ l → (∀ x ∈ l, x ≤ S) → l.getLast h = S
  | [x], _, S, _, m, _ => by rw [List.mem_singleton] at m; exact m.symm
  | x :: y :: l, _, S, hp, m, hm => by
    rw [List.getLast_cons (by simp)]
    rw [List.pairwise_cons] at hp
    refine getLast_max (by simp) hp.2 ?_ fun z hz => hm z (List.mem_cons_of_mem _ hz)
    rcases List.mem_cons.mp m with e | m
    · have := hp.1 y (List.mem_cons_self ..)
      have := hm y (List.mem_cons_of_mem _ (List.mem_cons_self ..))
      omega
    · exact m
theorem cut_take' {α : Type} (l : List α) {k : Int} (h : 0 ≤ k) : cutL l none (some k) = l.take k.toNat := by
  by_cases q : k ≤ l.length
  · exact cut_take l ⟨h, q⟩
  · unfold cutL HT.sIx
    dsimp only
    rw [if_neg (by omega), Nat.sub_zero, List.drop_zero, List.take_of_length_le (by omega), List.take_of_length_le (by omega)]
def rcn (l : List (Int × Int)) (d : Nat) (r : Int) : Int := (l.map (cnt d r)).sum
def Spx (l : List (Int × Int)) : Prop := l.length ≤ 24 ∧ ∃ b, SpC 0 l b ∧ b ≤ 10 ^ 30
theorem Sp0.x {l : List (Int × Int)} (h : Sp0 l) : Spx l := ⟨by have := h.1; omega, h.2⟩
theorem Spx.mem {l : List (Int × Int)} {x : Int × Int} (h : Spx l) (m : x ∈ l) : 0 ≤ x.1 ∧ x.1 < x.2 ∧ x.2 ≤ 10 ^ 30 := by
  obtain ⟨_, b, h2, h3⟩ := h
  have := h2.mem m
  omega
theorem cnt_mod (d : Nat) (r k : Int) (x : Int × Int) : cnt d (r + 2 ^ d * k) x = cnt d r x := by
  unfold cnt
  have hS := Int.ne_of_gt (pw_pos d)
  have e1 : x.2 - 1 - (r + 2 ^ d * k) = x.2 - 1 - r + 2 ^ d * (-k) := by rw [Int.mul_neg]; omega
  have e2 : x.1 - 1 - (r + 2 ^ d * k) = x.1 - 1 - r + 2 ^ d * (-k) := by rw [Int.mul_neg]; omega
  rw [e1, e2, Int.add_mul_ediv_left _ _ hS, Int.add_mul_ediv_left _ _ hS]
  omega
theorem rcn_add (l : List (Int × Int)) (d : Nat) (r k : Int) : rcn l d (r + 2 ^ d * k) = rcn l d r := by
  unfold rcn
  congr 1
  exact List.map_congr_left fun x _ => cnt_mod d r k x
theorem rcn_mod (l : List (Int × Int)) (d : Nat) (r : Int) : rcn l d (r % 2 ^ d) = rcn l d r := by
  have := rcn_add l d (r % 2 ^ d) (r / 2 ^ d)
  rw [Int.emod_add_mul_ediv] at this
  exact this.symm
theorem rcn_half (l : List (Int × Int)) (d : Nat) (r : Int) : rcn l (d + 1) r + rcn l (d + 1) (r + 2 ^ d) = rcn l d r := sum_half d r l
theorem rcn_low {l : List (Int × Int)} {d e : Nat} (h : e ≤ d) (r : Int) : rcn l e (r % 2 ^ d) = rcn l e r := by
  rw [← rcn_mod l e (r % 2 ^ d), Int.emod_emod_of_dvd _ (pow_dvd h), rcn_mod]
theorem cnt_nn (d : Nat) (r : Int) {x : Int × Int} (h : x.1 ≤ x.2) : 0 ≤ cnt d r x := by
  unfold cnt
  have := Int.ediv_le_ediv (a := x.1 - 1 - r) (b := x.2 - 1 - r) (pw_pos d) (by omega)
  omega
theorem sum_nn {α : Type} {f : α → Int} : ∀ {l : List α}, (∀ x ∈ l, 0 ≤ f x) → 0 ≤ (l.map f).sum
  | [], _ => Int.le_refl _
  | x :: l, h => by
    have := h x (List.mem_cons_self ..)
    have := sum_nn (f := f) (l := l) fun y hy => h y (List.mem_cons_of_mem _ hy)
    rw [List.map_cons, List.sum_cons]
    omega
theorem rcn_nn {l : List (Int × Int)} (hl : ∀ x ∈ l, x.1 ≤ x.2) (d : Nat) (r : Int) : 0 ≤ rcn l d r := sum_nn fun x hx => cnt_nn d r (hl x hx)
theorem Spx.up {l : List (Int × Int)} (h : Spx l) : ∀ x ∈ l, x.1 ≤ x.2 := fun x m => by have := h.mem m; omega
theorem rcn_le {l : List (Int × Int)} (hl : ∀ x ∈ l, x.1 ≤ x.2) {e : Nat} (r : Int) : ∀ {d : Nat}, e ≤ d → rcn l d r ≤ rcn l e r
  | 0, h => by have : e = 0 := by omega
               rw [this]; exact Int.le_refl _
  | d + 1, h => by
    by_cases q : e = d + 1
    · rw [q]; exact Int.le_refl _
    · have := rcn_le hl (e := e) r (d := d) (by omega)
      have := rcn_half l d r
      have := rcn_nn hl (d + 1) (r + 2 ^ d)
      omega
theorem keys_sortedx : ∀ {l : List (Int × Int)} {a b : Int}, SpC a l b → (keysOf l).Pairwise (· < ·) := keys_sorted
theorem rcn_top {l : List (Int × Int)} (h : Spx l) {d : Nat} (hd : 100 ≤ d) (r : Int) : rcn l d r ≤ 1 := by
  obtain ⟨_, b, h2, h3⟩ := h
  have e := keys_count d r h2
  have s : ((keysOf l).filter (Rem d r)).Pairwise (· < ·) := (keys_sorted h2).filter _
  have m : ∀ k ∈ (keysOf l).filter (Rem d r), 0 ≤ k ∧ k < 10 ^ 30 ∧ (2 : Int) ^ d ∣ k - r := fun k hk => by
    rw [List.mem_filter] at hk
    have := h2.key hk.1
    exact ⟨by omega, by omega, rem_iff.mp hk.2⟩
  unfold rcn
  rw [← e]
  match hq : (keysOf l).filter (Rem d r) with
  | [] => rw [List.length_nil]; decide
  | [_] => simp
  | x :: y :: z =>
    exfalso
    rw [hq] at s m
    rw [List.pairwise_cons] at s
    have lt := s.1 y (List.mem_cons_self ..)
    have hx := m x (List.mem_cons_self ..)
    have hy := m y (List.mem_cons_of_mem _ (List.mem_cons_self ..))
    have dv : (2 : Int) ^ d ∣ y - x := by
      have := Int.dvd_sub hy.2.2 hx.2.2
      have e : y - r - (x - r) = y - x := by omega
      rwa [e] at this
    have big : (2 : Int) ^ 100 ≤ 2 ^ d := pw_lt hd
    have := Int.le_of_dvd (by omega) dv
    omega
theorem rng_app {a b c : Int} (h : a ≤ b) (h' : b ≤ c) : rng a c = rng a b ++ rng b c := by
  unfold rng
  have e : (c - a).toNat = (b - a).toNat + (c - b).toNat := by omega
  rw [e, List.range_add, List.map_append, List.map_map]
  congr 1
  refine List.map_congr_left fun k _ => ?_
  show a + (((b - a).toNat + k : Nat) : Int) = b + k
  omega
theorem rng_self (a : Int) : rng a a = [] := by unfold rng; simp
def nOf (p : Int → Bool) (a b : Int) : Int := (((rng a b).filter p).length : Int)
theorem nOf_app (p : Int → Bool) {a b c : Int} (h : a ≤ b) (h' : b ≤ c) : nOf p a c = nOf p a b + nOf p b c := by
  unfold nOf
  rw [rng_app h h', List.filter_append, List.length_append]; push_cast; rfl
theorem nOf_congr {p q : Int → Bool} {a b : Int} (h : ∀ r, a ≤ r → r < b → p r = q r) : nOf p a b = nOf q a b := by
  unfold nOf
  rw [List.filter_congr fun r hr => h r (mem_rng.mp hr).1 (mem_rng.mp hr).2]
theorem nOf_all {p : Int → Bool} {a b : Int} (hab : a ≤ b) (h : ∀ r, a ≤ r → r < b → p r = true) : nOf p a b = b - a := by
  unfold nOf
  rw [List.filter_eq_self.mpr fun r hr => h r (mem_rng.mp hr).1 (mem_rng.mp hr).2, len_rng]
  omega
theorem nOf_none {p : Int → Bool} {a b : Int} (h : ∀ r, a ≤ r → r < b → p r = false) : nOf p a b = 0 := by
  unfold nOf
  rw [List.filter_eq_nil_iff.mpr fun r hr => by rw [h r (mem_rng.mp hr).1 (mem_rng.mp hr).2]; exact Bool.false_ne_true]
  rfl
theorem nOf_nn (p : Int → Bool) (a b : Int) : 0 ≤ nOf p a b := Int.natCast_nonneg _
theorem nOf_zero {p : Int → Bool} {a b : Int} : nOf p a b = 0 ↔ ∀ r, a ≤ r → r < b → p r = false := by
  refine ⟨fun h r h1 h2 => ?_, nOf_none⟩
  unfold nOf at h
  have h' : (rng a b).filter p = [] := List.eq_nil_of_length_eq_zero (by omega)
  rw [List.filter_eq_nil_iff] at h'
  have := h' r (mem_rng.mpr ⟨h1, h2⟩)
  simpa using this
theorem chain_sum {g : Int → Int} (p : Int → Bool) : ∀ {l : List (Int × Int × Int)} {a b : Int}, Chain g a l b →
    ((l.filter fun x => p x.2.2).map fun x => x.2.1 - x.1).sum = nOf (fun r => p (g r)) a b
  | [], a, b, h => by
    have h' : a = b := h
    unfold nOf
    rw [h', rng_self]; rfl
  | x :: l, a, b, h => by
    have ih := chain_sum p h.2.2.2
    have h0 := h.1
    have h1 := h.2.1
    rw [nOf_app _ (Int.le_of_lt h1) h.2.2.2.le, ← ih, List.filter_cons]
    by_cases q : p x.2.2 = true
    · rw [if_pos q, List.map_cons, List.sum_cons, nOf_all (by omega) fun r r1 r2 => by rw [h.2.2.1 r r1 r2]; exact q]
      omega
    · rw [if_neg q, nOf_none fun r r1 r2 => by rw [h.2.2.1 r r1 r2]; simpa using q]
      omega
def icn (l : List (Int × Int)) (cap : Int) (d : Nat) : Int := nOf (fun r => decide (cap < rcn l d r)) 0 (2 ^ d)
theorem icn_zero {l : List (Int × Int)} {cap : Int} {d : Nat} : icn l cap d = 0 ↔ ∀ r, rcn l d r ≤ cap := by
  unfold icn
  rw [nOf_zero]
  constructor
  · intro h r
    have h1 := Int.emod_nonneg r (Int.ne_of_gt (pw_pos d))
    have h2 := Int.emod_lt_of_pos r (pw_pos d)
    have := of_decide_eq_false (h _ h1 h2)
    rw [rcn_mod] at this
    omega
  · intro h r _ _
    exact decide_eq_false (by have := h r; omega)
theorem icn_top {l : List (Int × Int)} (h : Spx l) {cap : Int} (hc : 1 ≤ cap) {d : Nat} (hd : 100 ≤ d) : icn l cap d = 0 := icn_zero.mpr fun r => by have := rcn_top h hd r; omega
theorem icn_down {l : List (Int × Int)} (h : Spx l) {cap : Int} {d e : Nat} (hd : d ≤ e) (z : icn l cap d = 0) : icn l cap e = 0 := icn_zero.mpr fun r => by
  have := icn_zero.mp z r
  have := rcn_le h.up r hd
  omega
theorem least {p : Nat → Prop} [DecidablePred p] : ∀ n, p n → ∃ m, m ≤ n ∧ p m ∧ ∀ k, k < m → ¬ p k
  | 0, h => ⟨0, Nat.le_refl _, h, fun k hk => absurd hk (Nat.not_lt_zero _)⟩
  | n + 1, h => by
    by_cases q : ∃ m, m ≤ n ∧ p m
    · obtain ⟨m, h1, h2⟩ := q
      obtain ⟨k, g1, g2, g3⟩ := least m h2
      exact ⟨k, by omega, g2, g3⟩
    · exact ⟨n + 1, Nat.le_refl _, h, fun k hk z => q ⟨k, by omega, z⟩⟩
structure DeepT (l : List (Int × Int)) (cap : Int) (D : Nat) : Prop where
  le : D ≤ 100
  z : icn l cap D = 0
  p : ∀ k, k < D → 0 < icn l cap k
theorem deep_is {l : List (Int × Int)} (h : Spx l) {cap : Int} (hc : 1 ≤ cap) : ∃ D, DeepT l cap D := by
  obtain ⟨m, h1, h2, h3⟩ := least (p := fun n => icn l cap n = 0) 100 (icn_top h hc (Nat.le_refl _))
  exact ⟨m, h1, h2, fun k hk => by have := h3 k hk; have := nOf_nn (fun r => decide (cap < rcn l k r)) 0 (2 ^ k); unfold icn at *; omega⟩
theorem DeepT.uniq {l : List (Int × Int)} {cap : Int} {D E : Nat} (h : DeepT l cap D) (g : DeepT l cap E) : D = E := by
  rcases Nat.lt_trichotomy D E with q | q | q
  · have := g.p D q; have := h.z; omega
  · exact q
  · have := h.p E q; have := g.z; omega
def icL (l : List (Int × Int)) (cap : Int) (D : Nat) : List Int := (List.range (D + 1)).map (icn l cap)
theorem icL_len (l : List (Int × Int)) (cap : Int) (D : Nat) : (icL l cap D).length = D + 1 := by unfold icL; simp
theorem icL_succ (l : List (Int × Int)) (cap : Int) (D : Nat) : icL l cap (D + 1) = icL l cap D ++ [icn l cap (D + 1)] := by
  unfold icL
  rw [List.range_succ, List.map_append]; rfl
theorem icL_last (l : List (Int × Int)) (cap : Int) : ∀ D : Nat, nth (icL l cap D) ((icL l cap D).length - 1) = icn l cap D
  | 0 => by
    have e : icL l cap 0 = [] ++ [icn l cap 0] := by unfold icL; simp
    rw [e, nth_last]
  | D + 1 => by rw [icL_succ, nth_last]
structure DeepK (l : List (Int × Int)) (cap : Int) (key : Int) (E : Nat) : Prop where
  le : E ≤ 100
  z : rcn l E key ≤ cap
  p : ∀ k, k < E → cap < rcn l k key
theorem deepk_is {l : List (Int × Int)} (h : Spx l) {cap : Int} (hc : 1 ≤ cap) (key : Int) : ∃ E, DeepK l cap key E := by
  obtain ⟨m, h1, h2, h3⟩ := least (p := fun n => rcn l n key ≤ cap) 100 (by have := rcn_top h (Nat.le_refl 100) key; omega)
  exact ⟨m, h1, h2, fun k hk => by have := h3 k hk; omega⟩
theorem DeepK.uniq {l : List (Int × Int)} {cap key : Int} {D E : Nat} (h : DeepK l cap key D) (g : DeepK l cap key E) : D = E := by
  rcases Nat.lt_trichotomy D E with q | q | q
  · have := g.p D q; have := h.z; omega
  · exact q
  · have := h.p E q; have := g.z; omega
theorem DeepK.deep {l : List (Int × Int)} {cap key : Int} {D E : Nat} (h : DeepK l cap key E) (g : DeepT l cap D) : E ≤ D := by
  refine Nat.not_lt.mp fun q => ?_
  have := h.p D q
  have := icn_zero.mp g.z key
  omega
theorem DeepK.low {l : List (Int × Int)} {cap k : Int} {d : Nat} (h : DeepK l cap k d) {R : Int} (e : ∀ j, j ≤ d → rcn l j R = rcn l j k) : DeepK l cap R d :=
  ⟨h.le, by rw [e d (Nat.le_refl _)]; exact h.z, fun j hj => by rw [e j (Nat.le_of_lt hj)]; exact h.p j hj⟩
structure Odd2 (r : Int) : Prop where
  o : r % 2 = 1
theorem val_mod {r : Int} (hr : r % 2 = 1) (s x y : Int) (d : Nat) : (r * x + s) % 2 ^ d = (r * y + s) % 2 ^ d ↔ x % 2 ^ d = y % 2 ^ d := by
  have e1 : ∀ a b : Int, a % 2 ^ d = b % 2 ^ d ↔ (2 : Int) ^ d ∣ a - b := fun a b => by
    rw [Int.emod_eq_emod_iff_emod_sub_eq_zero, Int.dvd_iff_emod_eq_zero]
  rw [e1, e1]
  have e2 : r * x + s - (r * y + s) = r * (x - y) := by rw [Int.mul_sub]; omega
  rw [e2]
  exact ⟨odd_cancel hr d, fun h => Int.dvd_mul_of_dvd_right h⟩
theorem val_sur {r : Int} (hr : r % 2 = 1) (s t : Int) : ∀ d : Nat, ∃ x : Int, (2 : Int) ^ d ∣ r * x + s - t
  | 0 => ⟨0, by rw [Int.pow_zero]; exact Int.one_dvd _⟩
  | d + 1 => by
    obtain ⟨x, q, hq⟩ := val_sur hr s t d
    by_cases h : q % 2 = 0
    · refine ⟨x, q / 2, ?_⟩
      rw [hq, Int.pow_succ, Int.mul_assoc]
      congr 1; omega
    · refine ⟨x + 2 ^ d, (q + r) / 2, ?_⟩
      have e : r * (x + 2 ^ d) + s - t = 2 ^ d * q + 2 ^ d * r := by rw [← hq, Int.mul_add, Int.mul_comm (2 ^ d) r]; omega
      rw [e, ← Int.mul_add, Int.pow_succ, Int.mul_assoc]
      congr 1; omega
theorem val_tail {r : Int} (hr : r % 2 = 1) (s : Int) {t : Int} {d : Nat} (ht : 0 ≤ t ∧ t < 2 ^ d) : ∃ x : Int, (r * x + s) % 2 ^ d = t := by
  obtain ⟨x, h⟩ := val_sur hr s t d
  refine ⟨x, ?_⟩
  have : (r * x + s) % 2 ^ d = t % 2 ^ d := by
    rw [Int.emod_eq_emod_iff_emod_sub_eq_zero]
    exact Int.emod_eq_zero_of_dvd h
  rw [this, Int.emod_eq_of_lt ht.1 ht.2]
def tlL (r s : Int) (ks : List Int) (d : Nat) (t : Int) : List Int := ks.filter fun x => decide ((r * x + s) % 2 ^ d = t)
theorem tl_len {r : Int} (hr : r % 2 = 1) (s : Int) {l : List (Int × Int)} {a b : Int} (h : SpC a l b) (d : Nat) (k : Int) : ((tlL r s (keysOf l) d ((r * k + s) % 2 ^ d)).length : Int) = rcn l d k := by
  unfold rcn
  rw [← keys_count d k h]
  unfold tlL
  congr 2
  refine List.filter_congr fun x _ => ?_
  unfold Rem
  refine decide_eq_decide.mpr ?_
  rw [val_mod hr, Int.emod_eq_emod_iff_emod_sub_eq_zero]
theorem tl_zero (r s : Int) (ks : List Int) : tlL r s ks 0 0 = ks := by
  unfold tlL
  rw [List.filter_eq_self.mpr]
  intro x _
  rw [Int.pow_zero, Int.emod_one]; rfl
theorem mod_two {a t : Int} {d : Nat} (ht : 0 ≤ t ∧ t < 2 ^ d) : (a % 2 ^ (d + 1) = t → a % 2 ^ d = t) ∧ (a % 2 ^ (d + 1) = t + 2 ^ d → a % 2 ^ d = t) ∧ (a % 2 ^ d = t → a % 2 ^ (d + 1) = t ∨ a % 2 ^ (d + 1) = t + 2 ^ d) := by
  have e := Int.emod_emod_of_dvd a (pow_dvd (Nat.le_succ d))
  have hp := pw_pos d
  refine ⟨fun h => ?_, fun h => ?_, fun h => ?_⟩
  · rw [← e, h, Int.emod_eq_of_lt ht.1 ht.2]
  · rw [← e, h, Int.add_emod_right, Int.emod_eq_of_lt ht.1 ht.2]
  · have h1 := Int.emod_nonneg a (Int.ne_of_gt (pw_pos (d + 1)))
    have h2 := Int.emod_lt_of_pos a (pw_pos (d + 1))
    rw [Int.pow_succ] at h1 h2 ⊢
    rw [Int.pow_succ] at e
    generalize a % (2 ^ d * 2) = b at *
    have h3 := Int.mul_ediv_add_emod b (2 ^ d)
    rw [e, h] at h3
    by_cases q : b < 2 ^ d
    · left
      rw [← e, Int.emod_eq_of_lt h1 q] at h; exact h
    · right
      have : b % 2 ^ d = b - 2 ^ d := by
        rw [← Int.sub_emod_right b, Int.emod_eq_of_lt (by omega) (by omega)]
      rw [e, h] at this; omega
theorem tl_half (r s : Int) (ks : List Int) {d : Nat} {t : Int} (ht : 0 ≤ t ∧ t < 2 ^ d) : (tlL r s ks d t).filter (fun x => decide ((r * x + s) % 2 ^ (d + 1) = t)) = tlL r s ks (d + 1) t ∧
    (tlL r s ks d t).filter (fun x => decide ((r * x + s) % 2 ^ (d + 1) = t + 2 ^ d)) = tlL r s ks (d + 1) (t + 2 ^ d) := by
  unfold tlL
  constructor
  · rw [List.filter_filter]
    refine List.filter_congr fun x _ => ?_
    have := (mod_two (a := r * x + s) ht).1
    by_cases q : (r * x + s) % 2 ^ (d + 1) = t
    · rw [decide_eq_true q, decide_eq_true (this q)]; rfl
    · rw [decide_eq_false q]; rfl
  · rw [List.filter_filter]
    refine List.filter_congr fun x _ => ?_
    have := (mod_two (a := r * x + s) ht).2.1
    by_cases q : (r * x + s) % 2 ^ (d + 1) = t + 2 ^ d
    · rw [decide_eq_true q, decide_eq_true (this q)]; rfl
    · rw [decide_eq_false q]; rfl
theorem tl_sum (r s : Int) (ks : List Int) {d : Nat} {t : Int} (ht : 0 ≤ t ∧ t < 2 ^ d) : (tlL r s ks (d + 1) t).length + (tlL r s ks (d + 1) (t + 2 ^ d)).length = (tlL r s ks d t).length := by
  have hp := pw_pos d
  unfold tlL
  induction ks with
  | nil => rfl
  | cons x ks ih =>
    have m := mod_two (a := r * x + s) ht
    rw [List.filter_cons, List.filter_cons, List.filter_cons]
    by_cases q : (r * x + s) % 2 ^ d = t
    · rw [if_pos (decide_eq_true q)]
      rcases m.2.2 q with w | w
      · rw [if_pos (decide_eq_true w), if_neg (by rw [decide_eq_false (by omega)]; exact Bool.false_ne_true)]
        simp only [List.length_cons]; omega
      · rw [if_neg (by rw [decide_eq_false (by omega)]; exact Bool.false_ne_true), if_pos (decide_eq_true w)]
        simp only [List.length_cons]; omega
    · rw [if_neg (by rw [decide_eq_false fun w => q (m.1 w)]; exact Bool.false_ne_true), if_neg (by rw [decide_eq_false fun w => q (m.2.1 w)]; exact Bool.false_ne_true), if_neg (by rw [decide_eq_false q]; exact Bool.false_ne_true)]
      exact ih
def lvs (r s : Int) (ks : List Int) (cap : Int) : Nat → Nat → Int → List (Int × Int)
  | 0, d, t => [((d : Int), t)]
  | n + 1, d, t => if cap < ((tlL r s ks d t).length : Int) then lvs r s ks cap n (d + 1) (t + 2 ^ d) ++ lvs r s ks cap n (d + 1) t else [((d : Int), t)]
theorem lvs_ne (r s : Int) (ks : List Int) (cap : Int) : ∀ (n d : Nat) (t : Int), lvs r s ks cap n d t ≠ []
  | 0, d, t => by unfold lvs; simp
  | n + 1, d, t => by
    unfold lvs
    split
    · intro h
      exact lvs_ne r s ks cap n (d + 1) t (List.append_eq_nil_iff.mp h).2
    · simp
theorem lvs_under (r s : Int) (ks : List Int) (cap : Int) : ∀ (n d : Nat) (t : Int), 0 ≤ t ∧ t < 2 ^ d → ∀ p ∈ lvs r s ks cap n d t, ∃ e : Nat, p.1 = (e : Int) ∧ d ≤ e ∧ 0 ≤ p.2 ∧ p.2 < 2 ^ e ∧ p.2 % 2 ^ d = t
  | 0, d, t, ht, p, hp => by
    unfold lvs at hp
    rw [List.mem_singleton] at hp
    subst hp
    exact ⟨d, rfl, Nat.le_refl _, ht.1, ht.2, Int.emod_eq_of_lt ht.1 ht.2⟩
  | n + 1, d, t, ht, p, hp => by
    unfold lvs at hp
    have hpw := pw_pos d
    have e1 : (2 : Int) ^ (d + 1) = 2 ^ d * 2 := Int.pow_succ ..
    split at hp
    · rcases List.mem_append.mp hp with m | m
      · obtain ⟨e, h1, h2, h3, h4, h5⟩ := lvs_under r s ks cap n (d + 1) (t + 2 ^ d) (by omega) p m
        exact ⟨e, h1, by omega, h3, h4, (mod_two ht).2.1 h5⟩
      · obtain ⟨e, h1, h2, h3, h4, h5⟩ := lvs_under r s ks cap n (d + 1) t (by omega) p m
        exact ⟨e, h1, by omega, h3, h4, (mod_two ht).1 h5⟩
    · rw [List.mem_singleton] at hp
      subst hp
      exact ⟨d, rfl, Nat.le_refl _, ht.1, ht.2, Int.emod_eq_of_lt ht.1 ht.2⟩
theorem lvs_mem {r : Int} (hr : r % 2 = 1) (s : Int) {l : List (Int × Int)} (hl : Spx l) {cap : Int} (hc : 1 ≤ cap) : ∀ (n d : Nat) (k : Int), 100 ≤ d + n → d ≤ 100 → (∀ e, e < d → cap < rcn l e k) → ∀ p : Int × Int,
    p ∈ lvs r s (keysOf l) cap n d ((r * k + s) % 2 ^ d) ↔ ∃ (x : Int) (E : Nat), x % 2 ^ d = k % 2 ^ d ∧ DeepK l cap x E ∧ p = ((E : Int), (r * x + s) % 2 ^ E) := by
  obtain ⟨hlen, b, hsp, hb⟩ := hl
  have hl' : Spx l := ⟨hlen, b, hsp, hb⟩
  have same : ∀ {d : Nat} {x k : Int}, x % 2 ^ d = k % 2 ^ d → ∀ e, e ≤ d → rcn l e x = rcn l e k := fun {d x k} h e he => by
    rw [← rcn_low he x, ← rcn_low he k, h]
  have leaf : ∀ (d : Nat) (k : Int), d ≤ 100 → (∀ e, e < d → cap < rcn l e k) → rcn l d k ≤ cap → ∀ p : Int × Int, p ∈ [((d : Int), (r * k + s) % 2 ^ d)] ↔ ∃ (x : Int) (E : Nat), x % 2 ^ d = k % 2 ^ d ∧ DeepK l cap x E ∧ p = ((E : Int), (r * x + s) % 2 ^ E) := by
    intro d k hd hu hz p
    rw [List.mem_singleton]
    constructor
    · rintro rfl
      exact ⟨k, d, rfl, ⟨hd, hz, hu⟩, rfl⟩
    · rintro ⟨x, E, h1, h2, h3⟩
      have eE : E = d := h2.uniq ⟨hd, by rw [same h1 d (Nat.le_refl _)]; exact hz, fun e he => by rw [same h1 e (Nat.le_of_lt he)]; exact hu e he⟩
      subst eE
      rw [h3, (val_mod hr s x k E).mpr h1]
  intro n
  induction n with
  | zero =>
    intro d k h1 h2 hu p
    have := rcn_top hl' (d := d) (by omega) k
    unfold lvs
    exact leaf d k h2 hu (by omega) p
  | succ n ih =>
    intro d k h1 h2 hu p
    have hpw := pw_pos d
    have t1 := Int.emod_nonneg (r * k + s) (Int.ne_of_gt hpw)
    have t2 := Int.emod_lt_of_pos (r * k + s) hpw
    unfold lvs
    rw [tl_len hr s hsp d k]
    by_cases q : cap < rcn l d k
    · rw [if_pos q]
      have hd : d < 100 := by
        refine Nat.not_le.mp fun w => ?_
        have := rcn_top hl' w k
        omega
      -- the two halves
      have half : ∀ u : Int, (r * u + s) % 2 ^ d = (r * k + s) % 2 ^ d → ∀ p : Int × Int, p ∈ lvs r s (keysOf l) cap n (d + 1) ((r * u + s) % 2 ^ (d + 1)) ↔ ∃ (x : Int) (E : Nat), x % 2 ^ (d + 1) = u % 2 ^ (d + 1) ∧ DeepK l cap x E ∧ p = ((E : Int), (r * x + s) % 2 ^ E) := by
        intro u hu' p
        have hm := (val_mod hr s u k d).mp hu'
        refine ih (d + 1) u (by omega) (by omega) (fun e he => ?_) p
        rw [same hm e (by omega)]
        by_cases z : e = d
        · rw [z]; exact q
        · exact hu e (by omega)
      have e2 : (2 : Int) ^ (d + 1) = 2 ^ d * 2 := Int.pow_succ ..
      obtain ⟨u0, hu0⟩ := val_tail hr s (t := (r * k + s) % 2 ^ d) (d := d + 1) (by omega)
      obtain ⟨u1, hu1⟩ := val_tail hr s (t := (r * k + s) % 2 ^ d + 2 ^ d) (d := d + 1) (by omega)
      have m0 := (mod_two (a := r * u0 + s) (d := d) ⟨t1, t2⟩).1 hu0
      have m1 := (mod_two (a := r * u1 + s) (d := d) ⟨t1, t2⟩).2.1 hu1
      rw [List.mem_append, ← hu1, half u1 m1 p]
      have e3 : lvs r s (keysOf l) cap n (d + 1) ((r * k + s) % 2 ^ d) = lvs r s (keysOf l) cap n (d + 1) ((r * u0 + s) % 2 ^ (d + 1)) := by rw [hu0]
      rw [e3, half u0 m0 p]
      constructor
      · rintro (⟨x, E, g1, g2, g3⟩ | ⟨x, E, g1, g2, g3⟩)
        · refine ⟨x, E, ?_, g2, g3⟩
          rw [← val_mod hr s]
          rw [← val_mod hr s, hu1] at g1
          exact (mod_two ⟨t1, t2⟩).2.1 g1
        · refine ⟨x, E, ?_, g2, g3⟩
          rw [← val_mod hr s]
          rw [← val_mod hr s, hu0] at g1
          exact (mod_two ⟨t1, t2⟩).1 g1
      · rintro ⟨x, E, g1, g2, g3⟩
        rw [← val_mod hr s] at g1
        rcases (mod_two (a := r * x + s) ⟨t1, t2⟩).2.2 g1 with w | w
        · right
          exact ⟨x, E, by rw [← val_mod hr s, w, hu0], g2, g3⟩
        · left
          exact ⟨x, E, by rw [← val_mod hr s, w, hu1], g2, g3⟩
    · rw [if_neg q]
      exact leaf d k h2 hu (by omega) p
theorem lvs_all {r : Int} (hr : r % 2 = 1) (s : Int) {l : List (Int × Int)} (hl : Spx l) {cap : Int} (hc : 1 ≤ cap) (p : Int × Int) :
    p ∈ lvs r s (keysOf l) cap 101 0 0 ↔ ∃ (x : Int) (E : Nat), DeepK l cap x E ∧ p = ((E : Int), (r * x + s) % 2 ^ E) := by
  have h := lvs_mem hr s hl hc 101 0 0 (by omega) (by omega) (fun e he => absurd he (Nat.not_lt_zero _)) p
  have e : (r * 0 + s) % 2 ^ 0 = 0 := by rw [Int.pow_zero, Int.emod_one]
  rw [e] at h
  rw [h]
  constructor
  · rintro ⟨x, E, _, g⟩; exact ⟨x, E, g⟩
  · rintro ⟨x, E, g⟩; exact ⟨x, E, by rw [Int.pow_zero, Int.emod_one, Int.emod_one], g⟩
theorem lvs_deep {r : Int} (hr : r % 2 = 1) (s : Int) {l : List (Int × Int)} (hl : Spx l) {cap : Int} (hc : 1 ≤ cap) {D : Nat} (hD : DeepT l cap D) :
    (∀ p ∈ lvs r s (keysOf l) cap 101 0 0, p.1 ≤ (D : Int)) ∧ ∃ p ∈ lvs r s (keysOf l) cap 101 0 0, p.1 = (D : Int) := by
  constructor
  · intro p hp
    obtain ⟨x, E, h1, h2⟩ := (lvs_all hr s hl hc p).mp hp
    have := h1.deep hD
    rw [h2]
    show (E : Int) ≤ D
    omega
  · have ex : ∃ x, DeepK l cap x D := by
      by_cases z : D = 0
      · exact ⟨0, hD.le, icn_zero.mp hD.z 0, fun k hk => by omega⟩
      · have h := hD.p (D - 1) (by omega)
        have : ∃ x, cap < rcn l (D - 1) x := Classical.byContradiction fun w => by
          have : icn l cap (D - 1) = 0 := icn_zero.mpr fun x => Int.not_lt.mp fun y => w ⟨x, y⟩
          omega
        obtain ⟨x, hx⟩ := this
        refine ⟨x, hD.le, icn_zero.mp hD.z x, fun k hk => ?_⟩
        have := rcn_le hl.up x (e := k) (d := D - 1) (by omega)
        omega
    obtain ⟨x, hx⟩ := ex
    exact ⟨_, (lvs_all hr s hl hc _).mpr ⟨x, D, hx, rfl⟩, rfl⟩
theorem keys_le : ∀ {l : List (Int × Int)} {a b : Int}, SpC a l b → ((keysOf l).length : Int) ≤ b - a
  | [], a, b, h => by
    have h' : a = b := h
    show ((0 : Nat) : Int) ≤ b - a
    omega
  | x :: l, a, b, h => by
    have h1 := h.1
    have h2 := h.2.1
    have ih := keys_le h.2.2
    show ((rng x.1 x.2 ++ keysOf l).length : Int) ≤ b - a
    rw [List.length_append, len_rng]
    push_cast
    omega
theorem rng_cons {a b : Int} (h : a < b) : rng a b = a :: rng (a + 1) b := by
  rw [rng_app (a := a) (b := a + 1) (c := b) (by omega) (by omega)]
  congr 1
  unfold rng
  have e : (a + 1 - a).toNat = 1 := by omega
  rw [e]; simp
theorem first_rng {p : Int → Bool} {a v b : Int} (h1 : a ≤ v) (h2 : v < b) (h3 : ∀ x, a ≤ x → x < v → p x = false) (h4 : p v = true) : (rng a b).filter p = v :: (rng (v + 1) b).filter p := by
  rw [rng_app h1 (Int.le_of_lt h2), List.filter_append, List.filter_eq_nil_iff.mpr fun x hx => by
    have := mem_rng.mp hx
    rw [h3 x this.1 this.2]; exact Bool.false_ne_true]
  rw [rng_cons h2, List.filter_cons, if_pos h4]; rfl
theorem enum_rng {α : Type} [Inhabited α] (g : Int → α) (a : Int) (n : Nat) : enumI ((rng a (a + n)).map g) = (rng 0 n).map fun i => (i, g (a + i)) := by
  refine List.ext_getElem? fun i => ?_
  rw [enumI_at, List.getElem?_map, List.getElem?_map]
  by_cases h : i < n
  · rw [rng_at (by omega), rng_at (by omega)]
    simp
  · rw [List.getElem?_eq_none (by rw [len_rng]; omega), List.getElem?_eq_none (by rw [len_rng]; omega)]
    rfl
theorem rcn_keys {l : List (Int × Int)} {a b : Int} (h : SpC a l b) (r : Int) : rcn l 0 r = ((keysOf l).length : Int) := by
  unfold rcn
  rw [← keys_count 0 r h, List.filter_eq_self.mpr]
  intro x _
  rw [rem_iff, Int.pow_zero]; exact Int.one_dvd _
structure SB (n : Nat) (d : PyData) : Prop where
  s : d.showable = true
  l : d.leavesShort 1001 = true
  b : d.bulk ≤ n
theorem SB.mono {n m : Nat} {d : PyData} (h : SB n d) (l : n ≤ m) : SB m d := ⟨h.s, h.l, Nat.le_trans h.b l⟩
theorem SB.repr {n : Nat} {d : PyData} (h : SB n d) (hn : n ≤ 16000) : ReprF d := by
  refine ⟨h.s, Nat.le_trans (PyData.shown_le_bulk 1001 (by decide) _ h.l) ?_⟩
  have := h.b
  have : (1001 + 2) * d.bulk ≤ (1001 + 2) * 16000 := Nat.mul_le_mul_left _ (by omega)
  rw [sizeLine_eq]
  omega
theorem sb_int {i : Int} (h : i.natAbs.log2 < 1000) : SB 0 (.int i) := ⟨decide_eq_true (by omega), decide_eq_true (shown_int (k := 1000) (by decide) h), Nat.le_refl _⟩
theorem sb_sm {i : Int} {k : Nat} (h : Sm k i) (hk : k < 1000) : SB 0 (.int i) := sb_int (by have := h.lg; omega)
theorem sb_none : SB 0 .none := ⟨rfl, rfl, Nat.le_refl _⟩
theorem sb_bool (b : Bool) : SB 0 (.bool b) := ⟨rfl, by cases b <;> rfl, Nat.le_refl _⟩
theorem sb_all {α : Type} {f : α → PyData} {n : Nat} : ∀ {l : List α}, (∀ y ∈ l, SB n (f y)) → PyData.showableAll (l.map f) = true ∧ PyData.leavesShortAll 1001 (l.map f) = true ∧ PyData.bulkAll (l.map f) ≤ l.length * (n + 1)
  | [], _ => ⟨rfl, rfl, Nat.zero_le _⟩
  | x :: l, h => by
    obtain ⟨h1, h2, h3⟩ := sb_all (l := l) fun y hy => h y (List.mem_cons_of_mem _ hy)
    have hx := h x (List.mem_cons_self ..)
    refine ⟨?_, ?_, ?_⟩
    · show ((f x).showable && PyData.showableAll (l.map f)) = true
      rw [hx.s, h1]; rfl
    · show ((f x).leavesShort 1001 && PyData.leavesShortAll 1001 (l.map f)) = true
      rw [hx.l, h2]; rfl
    · show (f x).bulk + 1 + PyData.bulkAll (l.map f) ≤ (l.length + 1) * (n + 1)
      have := hx.b
      rw [Nat.succ_mul]; omega
theorem sb_list {α : Type} {f : α → PyData} {n : Nat} {l : List α} (h : ∀ y ∈ l, SB n (f y)) : SB (l.length * (n + 1)) (.list (List.map f l)) := ⟨(sb_all h).1, (sb_all h).2.1, (sb_all h).2.2⟩
theorem sb_t2 {a b : PyData} {n m : Nat} (h : SB n a) (g : SB m b) : SB (n + m + 2) (.tuple [a, b]) := by
  refine ⟨?_, ?_, ?_⟩
  · show (a.showable && (b.showable && true)) = true
    rw [h.s, g.s]; rfl
  · show (a.leavesShort 1001 && (b.leavesShort 1001 && true)) = true
    rw [h.l, g.l]; rfl
  · show a.bulk + 1 + (b.bulk + 1 + 0) ≤ n + m + 2
    have := h.b; have := g.b; omega
theorem sb_opt {α : Type} {f : α → PyData} {n : Nat} {o : Option α} (h : ∀ x, o = some x → SB n (f x)) : SB n (optD f o) := by
  cases o with
  | none => exact sb_none.mono (Nat.zero_le _)
  | some x => exact h x rfl
theorem sb_pairs {l : List (Int × Int)} (h : ∀ x ∈ l, Sm 200 x.1 ∧ Sm 200 x.2) : SB (l.length * 3) (PyData.list (List.map (fun y : Int × Int => PyData.tuple [PyData.int y.1, PyData.int y.2]) l)) :=
  sb_list fun y hy => sb_t2 (sb_sm (h y hy).1 (by decide)) (sb_sm (h y hy).2 (by decide))
theorem foldl_pick {α β : Type} (p : α → Bool) (f : α → β) {b : List β → α → List β} (hb : ∀ s x, b s x = if p x = true then s ++ [f x] else s) : ∀ (l : List α) (s : List β), l.foldl b s = s ++ (l.filter p).map f
  | [], s => by simp
  | x :: l, s => by
    rw [List.foldl_cons, foldl_pick p f hb l, hb, List.filter_cons]
    by_cases q : p x = true
    · rw [if_pos q, if_pos q]; simp
    · rw [if_neg q, if_neg q]
theorem rng_mid {n lo hi : Int} (h1 : 0 ≤ lo) (h3 : hi ≤ n) : (rng 0 n).filter (fun i => decide (lo ≤ i ∧ i < hi)) = rng lo hi :=
  strict_uniq ((rng_sorted _ _).filter _) (rng_sorted _ _) fun x => by
    rw [List.mem_filter, mem_rng, mem_rng, decide_eq_true_iff]; omega
theorem nth_rng {lo hi i : Int} (h : 0 ≤ i ∧ i < hi - lo) : nth (rng lo hi) i = lo + i := by
  have hlen : i < (rng lo hi).length := by rw [len_rng]; omega
  have e := nth_get (l := rng lo hi) (i := i) ⟨h.1, hlen⟩
  rw [rng_at (by omega)] at e
  have := Option.some.inj e
  rw [← this, Int.toNat_of_nonneg h.1]
theorem rcn_few {l : List (Int × Int)} {b : Int} (h : SpC 0 l b) {d : Nat} (hb : b ≤ 2 ^ d) (r : Int) : rcn l d r ≤ 1 := by
  have e := keys_count d r h
  have s : ((keysOf l).filter (Rem d r)).Pairwise (· < ·) := (keys_sorted h).filter _
  have m : ∀ k ∈ (keysOf l).filter (Rem d r), 0 ≤ k ∧ k < b ∧ (2 : Int) ^ d ∣ k - r := fun k hk => by
    rw [List.mem_filter] at hk
    have := h.key hk.1
    exact ⟨by omega, by omega, rem_iff.mp hk.2⟩
  unfold rcn
  rw [← e]
  match hq : (keysOf l).filter (Rem d r) with
  | [] => rw [List.length_nil]; decide
  | [_] => simp
  | x :: y :: z =>
    exfalso
    rw [hq] at s m
    rw [List.pairwise_cons] at s
    have lt := s.1 y (List.mem_cons_self ..)
    have hx := m x (List.mem_cons_self ..)
    have hy := m y (List.mem_cons_of_mem _ (List.mem_cons_self ..))
    have dv : (2 : Int) ^ d ∣ y - x := by
      have := Int.dvd_sub hy.2.2 hx.2.2
      have e : y - r - (x - r) = y - x := by omega
      rwa [e] at this
    have := Int.le_of_dvd (by omega) dv
    omega
theorem DeepK.few {l : List (Int × Int)} {b : Int} (h : SpC 0 l b) {d : Nat} (hb : b ≤ 2 ^ d) {c k : Int} (hc : 1 ≤ c) {E : Nat} (hE : DeepK l c k E) : E ≤ d := by
  refine Nat.not_lt.mp fun w => ?_
  have := hE.p d w
  have := rcn_few h hb k
  omega
theorem DeepK.iff {l : List (Int × Int)} (hl : Spx l) {c k : Int} {E : Nat} (hE : DeepK l c k E) {d : Nat} (hd : d ≤ 100) : E = d ↔ rcn l d k ≤ c ∧ (0 < d → c < rcn l (d - 1) k) := by
  constructor
  · rintro rfl
    exact ⟨hE.z, fun h => hE.p (E - 1) (by omega)⟩
  · rintro ⟨h1, h2⟩
    refine hE.uniq ⟨hd, h1, fun e he => ?_⟩
    have := h2 (by omega)
    have := rcn_le hl.up k (e := e) (d := d - 1) (by omega)
    omega
end My
end
section
set_option maxRecDepth 100000
namespace My
open PySem L2 Fw
abbrev uS (y : Int × Int) : U := U.tup [U.int y.1, U.int y.2]
abbrev eni (n : Nat) (l : List U) : List (Int × U) := (l.zipIdx n).map fun p => ((p.2 : Int), p.1)
theorem int2 (v : U) : m_is_int__2 v = true ↔ v.ty = 1 := by
  cases v <;> simp [m_is_int__2, U.isT, U.ty]
theorem whole2 {v : U} {a b : Int} : m_is_whole__2 v a b = true ↔ ∃ i, v = .int i ∧ a ≤ i ∧ i ≤ b := by
  unfold m_is_whole__2
  rw [Bool.and_eq_true, Bool.and_eq_true, int2, decide_eq_true_iff, decide_eq_true_iff]
  constructor
  · rintro ⟨h, h1, h2⟩
    cases v with
    | int i => exact ⟨i, rfl, h1, h2⟩
    | _ => cases h
  · rintro ⟨i, rfl, h1, h2⟩
    exact ⟨rfl, h1, h2⟩
theorem whole2_ok (v : U) (a b : Int) : m_is_whole__2_ok v a b := ⟨trivial, fun h => (int2 v).mp h, trivial⟩
theorem isT4 {v : U} : (!(U.isT v 4)) = false ↔ ∃ l, v = .tup l := by
  cases v <;> simp [U.isT, U.ty]
theorem isT5 {v : U} : (!(U.isT v 5)) = false ↔ ∃ l, v = .lst l := by
  cases v <;> simp [U.isT, U.ty]
theorem span2 {v : U} {a : Int} : m_is_span__2 v a = true ↔ ∃ x : Int × Int, v = uS x ∧ a ≤ x.1 ∧ x.1 < x.2 ∧ x.2 ≤ 10 ^ 30 := by
  unfold m_is_span__2
  constructor
  · intro h
    by_cases q : ((!(U.isT v 4)) || ((!decide (((U.els v).length : Int) = 2)) || (!(m_is_whole__2 (nth (U.els v) 0) a (1000000000000000000000000000000 - 1))))) = true
    · rw [if_pos q] at h; cases h
    · rw [if_neg q] at h
      have q' : ((!(U.isT v 4)) || ((!decide (((U.els v).length : Int) = 2)) || (!(m_is_whole__2 (nth (U.els v) 0) a (1000000000000000000000000000000 - 1))))) = false := by simpa using q
      rw [Bool.or_eq_false_iff, Bool.or_eq_false_iff] at q'
      obtain ⟨q1, q2, q3⟩ := q'
      obtain ⟨l, rfl⟩ := isT4.mp q1
      have q2' : ((l.length : Int) = 2) := by
        have : ((U.els (.tup l)).length : Int) = 2 := by simpa using q2
        exact this
      match l, q2' with
      | [u, w], _ =>
        have q3' : m_is_whole__2 u a (1000000000000000000000000000000 - 1) = true := by
          have : (!(m_is_whole__2 u a (1000000000000000000000000000000 - 1))) = false := q3
          simpa using this
        obtain ⟨i, rfl, i1, i2⟩ := whole2.mp q3'
        obtain ⟨j, hj, j1, j2⟩ := whole2.mp h
        have hj' : w = .int j := hj
        subst hj'
        have j1' : i + 1 ≤ j := j1
        exact ⟨(i, j), rfl, i1, by show i < j; omega, j2⟩
      | [], h => exact absurd h (by decide)
      | [_], h => simp at h
      | _ :: _ :: _ :: _, h => simp at h; omega
  · rintro ⟨x, rfl, h1, h2, h3⟩
    have w1 : m_is_whole__2 (U.int x.1) a (1000000000000000000000000000000 - 1) = true := whole2.mpr ⟨_, rfl, h1, by omega⟩
    have w2 : m_is_whole__2 (U.int x.2) (x.1 + 1) 1000000000000000000000000000000 = true := whole2.mpr ⟨_, rfl, by omega, by omega⟩
    show (if ((!true) || ((!true) || (!(m_is_whole__2 (U.int x.1) a (1000000000000000000000000000000 - 1))))) = true then false else m_is_whole__2 (U.int x.2) (x.1 + 1) 1000000000000000000000000000000) = true
    rw [w1, w2]; rfl
theorem span2_ok (v : U) (a : Int) : m_is_span__2_ok v a := by
  have two : (!decide (((U.els v).length : Int) = 2)) = false → (U.els v).length = 2 := fun h => by
    have : ((U.els v).length : Int) = 2 := by simpa using h
    omega
  have ty4 : (!(U.isT v 4)) = false → U.ty v = 4 := fun h => by
    obtain ⟨l, rfl⟩ := isT4.mp h
    rfl
  refine ⟨fun h => .inl (ty4 h), fun h1 h2 => ⟨ty4 h1, by rw [two h2]; decide⟩, fun _ _ => whole2_ok _ _ _, fun _ => trivial, fun h => ?_⟩
  rw [Bool.or_eq_false_iff, Bool.or_eq_false_iff] at h
  obtain ⟨q1, q2, q3⟩ := h
  have q3' : m_is_whole__2 (nth (U.els v) 0) a (1000000000000000000000000000000 - 1) = true := by simpa using q3
  obtain ⟨i, hi, _⟩ := whole2.mp q3'
  exact ⟨⟨ty4 q1, by rw [two q2]; decide⟩, ⟨ty4 q1, by rw [two q2]; decide⟩, by rw [hi]; rfl, whole2_ok _ _ _, trivial⟩
theorem loopR_inl {α β ρ : Type} {bd : β → α → ρ ⊕ β} {s : β} {x : α} {l : List α} {r : ρ} (h : bd s x = .inl r) : loopR bd s (x :: l) = .inl r := by
  simp only [loopR, h]
theorem loopR_inr {α β ρ : Type} {bd : β → α → ρ ⊕ β} {s s' : β} {x : α} {l : List α} (h : bd s x = .inr s') : loopR bd s (x :: l) = loopR bd s' l := by
  simp only [loopR, h]
theorem eni_enum (l : List U) : enumI l = eni 0 l := by unfold enumI; rfl
theorem unSp_of (l : List (Int × Int)) : U.unSp (.lst (l.map uS)) = l := by
  show (l.map uS).map _ = l
  rw [List.map_map]
  exact List.map_id' l
end My
end
section
set_option maxRecDepth 100000
set_option maxHeartbeats 400000
namespace My
open PySem L2 Fw TL
theorem tl_strI {i : Int} (h : 0 ≤ i) : tl (strI i) = numL i.toNat := by
  obtain ⟨n, rfl⟩ := Int.eq_ofNat_of_zero_le h
  exact tl_num n
theorem len_strI {i : Int} (h : 0 ≤ i ∧ i ≤ 10 ^ 30) : (strI i).length ≤ 31 := by
  rw [len_tl, tl_strI h.1]
  exact numL_len (by decide) (by omega)
theorem log_strI {i : Int} (h : 0 ≤ i ∧ i ≤ 10 ^ 30) : i.natAbs.log2 < 1920 := by
  have s := (sm_of (k := 100) h.1 (by omega)).lg
  omega
theorem dig_in : ∀ c, 48 ≤ c → c ≤ 57 → inS (chr c) (Str.ofString "0123456789") = true := by
  intro c h1 h2
  have h : c = 48 ∨ c = 49 ∨ c = 50 ∨ c = 51 ∨ c = 52 ∨ c = 53 ∨ c = 54 ∨ c = 55 ∨ c = 56 ∨ c = 57 := by omega
  rcases h with rfl | rfl | rfl | rfl | rfl | rfl | rfl | rfl | rfl | rfl <;> decide +kernel
theorem num_head (n : Nat) : (numL n).head? = some 48 → n = 0 := by
  induction n using Nat.strongRecOn with
  | _ n ih =>
    intro h
    by_cases q : n < 10
    · rw [numL_lt q] at h
      have : 48 + n = 48 := Option.some.inj h
      omega
    · rw [numL_step (by omega)] at h
      have e : (numL (n / 10) ++ [48 + n % 10]).head? = (numL (n / 10)).head? := by
        cases hl : numL (n / 10) with
        | nil => exact absurd hl (numL_ne _)
        | cons a r => rfl
      rw [e] at h
      have := ih (n / 10) (by omega) h
      omega
theorem atI0 (l : List Nat) : atI l 0 = l.head? := by
  cases l with
  | nil => rfl
  | cons a r =>
    unfold atI ixN
    simp
theorem no_sign {k : Nat} (hk : k ≠ 45 ∧ (k < 48 ∨ 57 < k)) (i : Int) : k ∉ tl (strI i) := PyProof.Rows.int_text_free' k hk i
theorem no_dash {i : Int} (h : 0 ≤ i) : 45 ∉ tl (strI i) := by
  rw [tl_strI h]
  exact numL_free (by decide)
theorem join3 (a b c : Str) : (((a ++ Str.ofString " ") ++ b) ++ Str.ofString " ") ++ c = Txt.join (Str.ofString " ") [a, b, c] := by
  refine ext_tl ?_
  rw [join_eq, tl_join, tl_append, tl_append, tl_append, tl_append]
  show (((tl a ++ [32]) ++ tl b) ++ [32]) ++ tl c = tl a ++ ([32] ++ (tl b ++ ([32] ++ tl c)))
  simp
theorem split3 (a b c : Int) : Txt.split (Txt.join (Str.ofString " ") [strI a, strI b, strI c]) (Str.ofString " ") = [strI a, strI b, strI c] :=
  split_join (s := 32) (S := []) rfl (by decide +kernel) (by simp) fun p hp => by
    simp only [List.mem_cons, List.not_mem_nil, or_false] at hp
    rcases hp with rfl | rfl | rfl <;> exact no_sign (by decide) _
theorem len_app (a b : Str) : (a ++ b).length = a.length + b.length := by rw [len_tl, len_tl, len_tl, tl_append, List.length_append]
theorem rule_all (b : Bag) {most : Int} (h : 0 < most ∧ most ≤ 10 ^ 30) : m_rule_ok b most ∧ TOk ⟨(m_rule b most).1.1, (m_rule b most).1.2.1, (m_rule b most).1.2.2⟩ := by
  have p1 := pick_lt b (n := 2) (by decide)
  have n1 := nth2 (9 : Int) (10 ^ 30 - 1) p1
  have p2 := pick_lt (m_pick b 2).2 (n := 2) (by decide)
  have n2 := nth2 (5 : Int) (4 * 10 ^ 29) p2
  have k1 : 9 ≤ nth ([9, 10 ^ 30 - 1] : List Int) ((m_pick b 2).1) ∧ nth ([9, 10 ^ 30 - 1] : List Int) ((m_pick b 2).1) ≤ 10 ^ 30 - 1 := by
    rcases n1 with e | e <;> rw [e] <;> decide
  have k2 : 5 ≤ nth ([5, 4 * 10 ^ 29] : List Int) ((m_pick (m_pick b 2).2 2).1) ∧ nth ([5, 4 * 10 ^ 29] : List Int) ((m_pick (m_pick b 2).2 2).1) ≤ 4 * 10 ^ 29 := by
    rcases n2 with e | e <;> rw [e] <;> decide
  refine ⟨⟨pickk _ (by decide) (by decide), p1, pickk _ (by decide) (by decide), p2, fun far hf rate hr b3 _ => ?_⟩, ?_⟩
  · rw [hf, hr]
    exact ⟨pickk _ h.1 (by omega), pickk _ (by omega) (by omega), pickk _ (by omega) (by omega), trivial⟩
  · unfold m_rule
    dsimp only
    generalize (m_pick (m_pick b 2).2 2).2 = b3
    have q1 := pick_lt b3 h.1
    have q2 := pick_lt (m_pick b3 most).2 (n := nth ([5, 4 * 10 ^ 29] : List Int) ((m_pick (m_pick b 2).2 2).1)) (by omega)
    have q3 := pick_lt (m_pick (m_pick b3 most).2 (nth ([5, 4 * 10 ^ 29] : List Int) ((m_pick (m_pick b 2).2 2).1))).2 (n := nth ([9, 10 ^ 30 - 1] : List Int) ((m_pick b 2).1) + 1) (by omega)
    refine ⟨?_, ?_, ?_, ?_⟩ <;> dsimp only <;> omega
abbrev clsL (x : Xc) : List (Str × Bool) := ([] : List (Str × Bool)) ++ [((Str.ofString "InvalidSpans"), isX x 0)] ++ [((Str.ofString "InvalidSeen"), isX x 1)] ++ [((Str.ofString "InvalidText"), isX x 2)] ++ [((Str.ofString "OverBudget"), isX x 3)] ++ [((Str.ofString "InvalidCapacity"), isX x 4)] ++ [((Str.ofString "InvalidRate"), isX x 5)] ++ [((Str.ofString "InvalidShift"), isX x 6)] ++ [((Str.ofString "InvalidTable"), isX x 7)] ++ [((Str.ofString "InvalidKey"), isX x 8)] ++ [((Str.ofString "InvalidDepth"), isX x 9)] ++ [((Str.ofString "InvalidTail"), isX x 10)] ++ [((Str.ofString "InvalidSpan"), isX x 11)] ++ [((Str.ofString "InvalidNumber"), isX x 12)] ++ [((Str.ofString "InvalidBudget"), isX x 13)] ++ [((Str.ofString "InvalidOperation"), isX x 14)] ++ [((Str.ofString "Nothing"), isX x 15)] ++ [((Str.ofString "InvalidCommand"), isX x 16)]
theorem class_ok {x : Xc} {n : Str} (h : x.c < 18) (hf : ((List.filter (fun (x_19 : Str × Bool) => x_19.2) (clsL x)).map fun (x_19 : Str × Bool) => x_19.1) = [n]) (k : m_class_u1 x [n]) : m_class_ok x := by
  unfold m_class_ok
  refine ⟨h, by simp, fun s2 e2 => ?_⟩
  refine ⟨h, by rw [e2]; simp, fun s3 e3 => ?_⟩
  subst e2
  refine ⟨h, by rw [e3]; simp, fun s4 e4 => ?_⟩
  subst e3
  refine ⟨h, by rw [e4]; simp, fun s5 e5 => ?_⟩
  subst e4
  refine ⟨h, by rw [e5]; simp, fun s6 e6 => ?_⟩
  subst e5
  refine ⟨h, by rw [e6]; simp, fun s7 e7 => ?_⟩
  subst e6
  refine ⟨h, by rw [e7]; simp, fun s8 e8 => ?_⟩
  subst e7
  refine ⟨h, by rw [e8]; simp, fun s9 e9 => ?_⟩
  subst e8
  refine ⟨h, by rw [e9]; simp, fun s10 e10 => ?_⟩
  subst e9
  refine ⟨h, by rw [e10]; simp, fun s11 e11 => ?_⟩
  subst e10
  refine ⟨h, by rw [e11]; simp, fun s12 e12 => ?_⟩
  subst e11
  refine ⟨h, by rw [e12]; simp, fun s13 e13 => ?_⟩
  subst e12
  refine ⟨h, by rw [e13]; simp, fun s14 e14 => ?_⟩
  subst e13
  refine ⟨h, by rw [e14]; simp, fun s15 e15 => ?_⟩
  subst e14
  refine ⟨h, by rw [e15]; simp, fun s16 e16 => ?_⟩
  subst e15
  refine ⟨h, by rw [e16]; simp, fun s17 e17 => ?_⟩
  subst e16
  refine ⟨h, by rw [e17]; simp, fun s18 e18 => ?_⟩
  subst e17
  refine ⟨by rw [e18]; simp, fun f ef => ?_⟩
  subst e18
  rw [ef, show (List.filter (fun (x_19 : Str × Bool) => x_19.2) _).map (fun (x_19 : Str × Bool) => x_19.1) = [n] from hf]
  exact k
theorem class_eq {x : Xc} {n : Str} (hf : ((List.filter (fun (x_19 : Str × Bool) => x_19.2) (clsL x)).map fun (x_19 : Str × Bool) => x_19.1) = [n]) : m_class x = m_class_t1 x [n] := by
  unfold m_class
  dsimp only
  rw [show (List.filter (fun (x_19 : Str × Bool) => x_19.2) _).map (fun (x_19 : Str × Bool) => x_19.1) = [n] from hf]
structure TC (x : Xc) (w : Str) : Prop where
  c : x.c < 18
  o : m_class_ok x
  v : m_class x = w
  s : (PyData.str w).canLay0 = true
theorem tc_table : TC ⟨7, none⟩ (Str.ofString "InvalidTable") := by
  have hf : ((List.filter (fun (x_19 : Str × Bool) => x_19.2) (clsL ⟨7, none⟩)).map fun (x_19 : Str × Bool) => x_19.1) = [Str.ofString "InvalidTable"] := by decide +kernel
  have i0 : 0 ≤ (0 : Int) ∧ (0 : Int) < ([Str.ofString "InvalidTable"] : List Str).length := by show 0 ≤ (0 : Int) ∧ (0 : Int) < ((1 : Nat) : Int); decide
  have d1 : decide (nth ([Str.ofString "InvalidTable"] : List Str) 0 ∈ ([(Str.ofString "InvalidSpans"), (Str.ofString "InvalidSeen")] : List Str)) = false := by decide +kernel
  have d2 : decide (nth ([Str.ofString "InvalidTable"] : List Str) 0 = (Str.ofString "InvalidText")) = false := by decide +kernel
  have d3 : decide (nth ([Str.ofString "InvalidTable"] : List Str) 0 = (Str.ofString "OverBudget")) = false := by decide +kernel
  refine ⟨by decide, class_ok (by decide) hf ?_, ?_, by decide +kernel⟩
  · refine ⟨fun _ => by decide, fun _ => trivial, fun _ => ⟨i0, fun z => ?_, fun _ => ⟨i0, fun z => ?_, fun _ => ⟨i0, i0, fun z => ?_, fun z => ?_, fun z => ?_, ?_, trivial⟩⟩⟩⟩
    · rw [d1] at z; cases z
    · rw [d2] at z; cases z
    · rw [d3] at z; cases z
    · rw [d3] at z; cases z
    · rw [d3] at z; cases z
    · rw [d3, if_neg Bool.false_ne_true]; decide +kernel
  · rw [class_eq hf]
    unfold m_class_t1
    rw [d1, d2, d3]
    decide +kernel
theorem tc_sp {o : Option Int} (h : ∀ i, o = some i → i.natAbs.log2 < 1920) {w : Str} (l : (nth ([(Str.ofString "InvalidSpans")] : List Str) 0 ++ Str.ofString " ").length + (reprO o).length ≤ 16000000) (e : (nth ([(Str.ofString "InvalidSpans")] : List Str) 0 ++ Str.ofString " ") ++ reprO o = w) (s : (PyData.str w).canLay0 = true) : TC ⟨0, some o⟩ w := by
  have hf : ((List.filter (fun (x_19 : Str × Bool) => x_19.2) (clsL ⟨0, some o⟩)).map fun (x_19 : Str × Bool) => x_19.1) = [Str.ofString "InvalidSpans"] := by
    have e : clsL ⟨0, some o⟩ = clsL ⟨0, none⟩ := rfl
    rw [e]; decide +kernel
  have d1 : decide (nth ([(Str.ofString "InvalidSpans")] : List Str) 0 ∈ ([(Str.ofString "InvalidSpans"), (Str.ofString "InvalidSeen")] : List Str)) = true := by decide +kernel
  refine ⟨by show 0 < 18; decide, class_ok (by show 0 < 18; decide) hf ?_, ?_, s⟩
  · refine ⟨fun _ => by show 0 < 18; decide, fun _ => trivial, fun _ => ⟨by decide, fun _ => ⟨by decide, by decide +kernel, ⟨by show 0 < 4; decide, rfl, rfl⟩, h, l, trivial⟩, fun z => ?_⟩⟩
    rw [d1] at z; cases z
  · rw [class_eq hf]
    unfold m_class_t1
    rw [d1]
    exact e
theorem tc_none : TC ⟨0, some none⟩ (Str.ofString "InvalidSpans None") := tc_sp (fun _ e => by cases e) (by decide +kernel) (by decide +kernel) (by decide +kernel)
theorem tc_at {i : Int} (h : 0 ≤ i ∧ i ≤ 11) : TC ⟨0, some (some i)⟩ (Str.ofString "InvalidSpans " ++ strI i) := by
  have : i = 0 ∨ i = 1 ∨ i = 2 ∨ i = 3 ∨ i = 4 ∨ i = 5 ∨ i = 6 ∨ i = 7 ∨ i = 8 ∨ i = 9 ∨ i = 10 ∨ i = 11 := by omega
  refine tc_sp (fun j e => ?_) ?_ ?_ ?_
  · cases e
    have := (sm_of (k := 100) h.1 (by omega)).lg
    omega
  all_goals rcases this with rfl | rfl | rfl | rfl | rfl | rfl | rfl | rfl | rfl | rfl | rfl | rfl <;> decide +kernel
theorem whole_t4 {v : U} (h : v.ty ≠ 1) {a b : Int} : m_is_whole__2 v a b = false := by
  rw [Bool.eq_false_iff]
  intro z
  obtain ⟨i, rfl, _⟩ := whole2.mp z
  exact h rfl
theorem sp_take : ∀ {l : List (Int × Int)} {a b : Int} (n : Nat), SpC a l b → ∃ e, SpC a (l.take n) e ∧ e ≤ b ∧ ((l.take n) = [] → e = a)
  | [], a, b, n, h => ⟨a, by rw [List.take_nil]; rfl, h.le, fun _ => rfl⟩
  | x :: l, a, b, 0, h => ⟨a, rfl, h.le, fun _ => rfl⟩
  | x :: l, a, b, n + 1, h => by
    obtain ⟨e, h1, h2, h3⟩ := sp_take n h.2.2
    exact ⟨e, ⟨h.1, h.2.1, h1⟩, h2, fun z => by cases z⟩
theorem strs2 {w : Str} (h : (PyData.str w).canLay0 = true) : StrsOk [w, w] := by
  show ((PyData.str w).canLay0 && ((PyData.str w).canLay0 && true)) = true
  rw [h]; rfl
end My
end
section
set_option maxRecDepth 100000
set_option exponentiation.threshold 1000
namespace My
open PySem L2 Fw TL
/-! a word that writes a number -/
theorem inS_one (c : Nat) (z : Str) : inS (chr c) z = decide (c ∈ z.cps.toList) := by
  unfold inS chr
  first | exact PySem.StrLaws.found_one z c | exact (PySem.StrLaws.found_one z c).symm
theorem dig_set : (Str.ofString "0123456789").cps.toList = [48, 49, 50, 51, 52, 53, 54, 55, 56, 57] := by decide +kernel
theorem dig_iff (c : Nat) : inS (chr c) (Str.ofString "0123456789") = true ↔ 48 ≤ c ∧ c ≤ 57 := by
  rw [inS_one, dig_set, decide_eq_true_iff]
  constructor
  · intro h
    simp only [List.mem_cons, List.not_mem_nil, or_false] at h
    omega
  · intro h
    have : c = 48 ∨ c = 49 ∨ c = 50 ∨ c = 51 ∨ c = 52 ∨ c = 53 ∨ c = 54 ∨ c = 55 ∨ c = 56 ∨ c = 57 := by omega
    rcases this with rfl | rfl | rfl | rfl | rfl | rfl | rfl | rfl | rfl | rfl <;> decide
theorem all_dig (w : Str) : ((List.map (fun (x_2 : Str) => inS x_2 (Str.ofString "0123456789")) (signs w)).all id) = true ↔ ∀ c ∈ w.cps.toList, 48 ≤ c ∧ c ≤ 57 := by
  unfold signs
  rw [List.all_eq_true]
  constructor
  · intro h c hc
    exact (dig_iff c).mp (h _ (List.mem_map.mpr ⟨chr c, List.mem_map.mpr ⟨c, hc, rfl⟩, rfl⟩))
  · intro h b hb
    obtain ⟨x, hx, rfl⟩ := List.mem_map.mp hb
    obtain ⟨c, hc, rfl⟩ := List.mem_map.mp hx
    exact (dig_iff c).mpr (h c hc)
abbrev oddS (l : List Str) : List Str := (List.filter (fun (x_3 : Str) => !inS x_3 (Str.ofString "0123456789")) l).map fun (x_3 : Str) => x_3
theorem odd_nil (l : List Str) : (!decide (oddS l = [])) = (!((List.map (fun (x_2 : Str) => inS x_2 (Str.ofString "0123456789")) l).all id)) := by
  congr 1
  rw [Bool.eq_iff_iff, decide_eq_true_iff, List.map_eq_nil_iff, List.filter_eq_nil_iff, List.all_eq_true]
  constructor
  · intro h b hb
    obtain ⟨x, hx, rfl⟩ := List.mem_map.mp hb
    have := h x hx
    simpa using this
  · intro h x hx
    have := h _ (List.mem_map.mpr ⟨x, hx, rfl⟩)
    have t : inS x (Str.ofString "0123456789") = true := this
    rw [t]; simp
/-! signs of a text -/
def Ch (s : Str) : Prop := ∀ c ∈ tl s, c < 0x110000
theorem ch_app {a b : Str} (h : Ch a) (g : Ch b) : Ch (a ++ b) := fun c hc => by
  rw [tl_append] at hc
  exact (List.mem_append.mp hc).elim (h c) (g c)
theorem ch_num {i : Int} (h : 0 ≤ i) : Ch (strI i) := fun c hc => by
  rw [tl_strI h] at hc
  have := numL_digits _ c hc
  omega
theorem ch_cut {s : Str} (h : Ch s) (lo hi : Option Int) : Ch (cutS s lo hi) := fun c hc => h c (List.mem_of_mem_drop (List.mem_of_mem_take hc))
theorem joinL_mem {S : List Nat} : ∀ {l : List (List Nat)} {c : Nat}, c ∈ joinL S l → c ∈ S ∨ ∃ p ∈ l, c ∈ p
  | [], _, h => by cases h
  | [p], _, h => .inr ⟨p, List.mem_singleton.mpr rfl, h⟩
  | p :: q :: r, c, h => by
    have h' : c ∈ p ++ (S ++ joinL S (q :: r)) := h
    rcases List.mem_append.mp h' with m | m
    · exact .inr ⟨p, List.mem_cons_self .., m⟩
    · rcases List.mem_append.mp m with m | m
      · exact .inl m
      · rcases joinL_mem m with m | ⟨z, hz, m⟩
        · exact .inl m
        · exact .inr ⟨z, List.mem_cons_of_mem _ hz, m⟩
theorem ch_join {a : Str} {l : List Str} (ha : Ch a) (h : ∀ p ∈ l, Ch p) : Ch (Txt.join a l) := fun c hc => by
  rw [join_eq, tl_join] at hc
  rcases joinL_mem hc with m | ⟨p, hp, m⟩
  · exact ha c m
  · obtain ⟨q, hq, rfl⟩ := List.mem_map.mp hp
    exact h q hq c m
theorem spl_mem (S : List Nat) : ∀ (L : List Nat) (k : Nat) (acc : List Nat), ∀ p ∈ spl S k acc L, ∀ c ∈ p, c ∈ acc ∨ c ∈ L
  | [], k, acc, p, hp, c, hc => by
    rw [spl_nil, List.mem_singleton] at hp
    subst hp
    exact .inl hc
  | d :: r, 0, acc, p, hp, c, hc => by
    have hp' : p ∈ if pre S (d :: r) = true then acc :: spl S (S.length - 1) [] r else spl S 0 (acc ++ [d]) r := hp
    split at hp'
    · rcases List.mem_cons.mp hp' with rfl | m
      · exact .inl hc
      · rcases spl_mem S r _ [] p m c hc with m | m
        · cases m
        · exact .inr (List.mem_cons_of_mem _ m)
    · rcases spl_mem S r 0 _ p hp' c hc with m | m
      · rcases List.mem_append.mp m with m | m
        · exact .inl m
        · rw [List.mem_singleton] at m
          subst m
          exact .inr (List.mem_cons_self ..)
      · exact .inr (List.mem_cons_of_mem _ m)
  | d :: r, k + 1, acc, p, hp, c, hc => (spl_mem S r k acc p hp c hc).imp id (List.mem_cons_of_mem _)
theorem ok_signs {w : Str} (h : Ch w) : StrsOk (oddS (signs w)) ∧ StrsOk [] := by
  refine ⟨?_, rfl⟩
  have key : ∀ l : List Str, (∀ x ∈ l, Ch x) → StrsOk l := fun l => by
    induction l with
    | nil => intro _; rfl
    | cons x l ih =>
      intro g
      have g1 : (PyData.str x).canLay0 = true := by
        show x.cps.all (· < 0x110000) = true
        rw [← Array.all_toList, List.all_eq_true]
        intro c hc
        exact decide_eq_true (g x (List.mem_cons_self ..) c hc)
      have g2 := ih fun y hy => g y (List.mem_cons_of_mem _ hy)
      show ((PyData.str x).canLay0 && PyData.canLayAll0 (l.map PyData.str)) = true
      rw [g1, Bool.true_and]
      exact g2
  refine key _ fun x hx => ?_
  have hx' : x ∈ signs w := by
    obtain ⟨y, hy, rfl⟩ := List.mem_map.mp hx
    exact (List.mem_filter.mp hy).1
  obtain ⟨c, hc, rfl⟩ := List.mem_map.mp hx'
  intro d hd
  have : d ∈ [c] := hd
  rw [List.mem_singleton] at this
  subst this
  exact h d hc
theorem num_all {w : Str} (h : w.length ≤ 10000000) (hw : Ch w) : m_whole_in_ok w ∧ m_number_ok w ∧ m_whole_in w = m_number w := by
  have lz : w.length ≤ sizeLine := by rw [sizeLine_eq]; omega
  have sg : (signs w).length < 16000000 := by
    unfold signs
    rw [List.length_map]
    have := len_tl w
    have e : w.cps.toList.length = (tl w).length := rfl
    omega
  have key : ∀ {b : Bool}, ((decide (w = (Str.ofString ""))) || ((decide (100 < (w.length : Int))) || b)) = false → b = (!((List.map (fun (x_2 : Str) => inS x_2 (Str.ofString "0123456789")) (signs w)).all id)) →
      (atI w.cps.toList (0 : Int)).isSome = true ∧ (PySem.intText? w).isSome = true ∧ w.length ≤ 640 := fun {b} hc hb => by
    rw [Bool.or_eq_false_iff, Bool.or_eq_false_iff, hb] at hc
    obtain ⟨c1, c2, c3⟩ := hc
    have n1 := of_decide_eq_false c1
    have n2 := of_decide_eq_false c2
    have d : ∀ c ∈ w.cps.toList, 48 ≤ c ∧ c ≤ 57 := (all_dig w).mp (by simpa using c3)
    have ne : w.cps.toList ≠ [] := fun e => n1 (by
      have : tl w = tl (Str.ofString "") := by show w.cps.toList = _; rw [e]; rfl
      have t2 := congrArg (fun l : List Nat => (⟨l.toArray⟩ : Str)) this
      exact (mk_tl w).symm.trans (t2.trans (mk_tl _)))
    refine ⟨?_, ?_, by omega⟩
    · rw [atI0]
      cases q : w.cps.toList with
      | nil => exact absurd q ne
      | cons a l => rfl
    · have z := intText_digits (x := w) d ne (by omega)
      rw [z]; rfl
  refine ⟨⟨fun _ => lz, fun _ _ => sg, fun _ => trivial, fun hc => ?_⟩, ⟨fun _ => lz, fun _ _ => sg, fun _ _ => ok_signs hw, fun _ => trivial, fun hc => ?_⟩, ?_⟩
  · obtain ⟨k1, k2, k3⟩ := key hc rfl
    exact ⟨⟨lz, k1⟩, fun _ => ⟨k2, k3⟩, trivial⟩
  · obtain ⟨k1, k2, k3⟩ := key hc (odd_nil _)
    exact ⟨fun _ => ⟨lz, k1⟩, fun _ => ⟨k2, k3⟩, trivial⟩
  · unfold m_whole_in m_number
    rw [show (!decide (((List.filter (fun (x_3 : Str) => !inS x_3 (Str.ofString "0123456789")) (signs w)).map fun (x_3 : Str) => x_3) = [])) = _ from odd_nil (signs w)]
    by_cases q : ((decide (w = (Str.ofString ""))) || ((decide (100 < (w.length : Int))) || (!((List.map (fun (x_2 : Str) => inS x_2 (Str.ofString "0123456789")) (signs w)).all id)))) = true
    · rw [if_pos q, if_pos q]
    · rw [if_neg q, if_neg q]
      by_cases q1 : ixS w (0 : Int) = Str.ofString "0"
      · by_cases q2 : w = Str.ofString "0"
        · rw [decide_eq_true q1, decide_eq_true q2]; rfl
        · rw [decide_eq_true q1, decide_eq_false q2]; rfl
      · rw [decide_eq_false q1]
        by_cases q2 : w = Str.ofString "0"
        · rw [decide_eq_true q2]; rfl
        · rw [decide_eq_false q2]; rfl
/-! what is cut is no longer -/
theorem spl_le (S : List Nat) : ∀ (L : List Nat) (k : Nat) (acc : List Nat), (spl S k acc L).length ≤ L.length + 1 ∧ ((spl S k acc L).map List.length).sum ≤ acc.length + L.length
  | [], k, acc => by rw [spl_nil]; simp
  | c :: r, 0, acc => by
    show (if pre S (c :: r) = true then acc :: spl S (S.length - 1) [] r else spl S 0 (acc ++ [c]) r).length ≤ _ ∧ (((if pre S (c :: r) = true then acc :: spl S (S.length - 1) [] r else spl S 0 (acc ++ [c]) r)).map List.length).sum ≤ _
    split
    · obtain ⟨h1, h2⟩ := spl_le S r (S.length - 1) []
      simp only [List.length_cons, List.map_cons, List.sum_cons, List.length_nil] at h1 h2 ⊢
      omega
    · obtain ⟨h1, h2⟩ := spl_le S r 0 (acc ++ [c])
      simp only [List.length_cons, List.length_append, List.length_nil] at h1 h2 ⊢
      omega
  | c :: r, k + 1, acc => by
    obtain ⟨h1, h2⟩ := spl_le S r k acc
    show (spl S k acc r).length ≤ _ ∧ ((spl S k acc r).map List.length).sum ≤ _
    simp only [List.length_cons]
    omega
theorem sum_mem : ∀ {l : List Nat} {x : Nat}, x ∈ l → x ≤ l.sum
  | y :: l, x, h => by
    rw [List.sum_cons]
    rcases List.mem_cons.mp h with rfl | h
    · omega
    · have := sum_mem h; omega
structure Sep (y : Str) : Prop where
  n : tl y ≠ []
  k : y.cps.all (· < 256) = true
theorem sep1 : Sep (Str.ofString " ") := ⟨by decide +kernel, by decide +kernel⟩
theorem sep2 : Sep (Str.ofString "-") := ⟨by decide +kernel, by decide +kernel⟩
theorem sep3 : Sep (Str.ofString ", ") := ⟨by decide +kernel, by decide +kernel⟩
theorem split_le {x y : Str} (h : Sep y) : (Txt.split x y).length ≤ x.length + 1 ∧ ((Txt.split x y).map (·.length)).sum ≤ x.length ∧ ∀ p ∈ Txt.split x y, p.length ≤ x.length := by
  have e := split_spl x y h.n (kind_ok h.k)
  obtain ⟨h1, h2⟩ := spl_le (tl y) (tl x) 0 []
  rw [← e] at h1 h2
  have e2 : ((Txt.split x y).map tl).map List.length = (Txt.split x y).map (·.length) := by
    rw [List.map_map]
    apply List.map_congr_left
    intro p _
    exact (len_tl p).symm
  rw [e2] at h2
  rw [List.length_map] at h1
  have lx := len_tl x
  simp only [List.length_nil, Nat.zero_add] at h2
  refine ⟨by omega, by omega, fun p hp => ?_⟩
  have := sum_mem (List.mem_map.mpr ⟨p, hp, rfl⟩ : p.length ∈ (Txt.split x y).map (·.length))
  omega
theorem ch_split {x y : Str} (h : Sep y) (hx : Ch x) : ∀ p ∈ Txt.split x y, Ch p := fun p hp c hc => by
  have e := split_spl x y h.n (kind_ok h.k)
  have m : tl p ∈ spl (tl y) 0 [] (tl x) := by rw [← e]; exact List.mem_map.mpr ⟨p, hp, rfl⟩
  rcases spl_mem _ _ _ _ _ m c hc with z | z
  · cases z
  · exact hx c z
theorem join_le (a : Str) (l : List Str) : (Txt.join a l).length ≤ (l.map (·.length)).sum + l.length * a.length := by
    rw [len_tl, join_eq, tl_join]
    induction l with
    | nil => exact Nat.zero_le _
    | cons x l ih =>
      cases l with
      | nil =>
        show (tl x).length ≤ _
        rw [← len_tl]
        simp
      | cons z r =>
        show (tl x ++ (tl a ++ joinL (tl a) ((z :: r).map tl))).length ≤ _
        rw [List.length_append, List.length_append, ← len_tl, ← len_tl]
        simp only [List.map_cons, List.sum_cons, List.length_cons] at ih ⊢
        rw [Nat.succ_mul]
        omega
/-! a table's text -/
abbrev cnd (i : Int) (n : Option Int) : Bool := ((!n.isSome) || ((!((decide ((b2i (decide (i < 2))) ≤ (unO n))) && (decide ((unO n) ≤ (10 ^ 30))))) || ((decide (i = 1)) && (decide (((unO n) % 2) = 0)))))
theorem fit_eq (i : Int) (n : Option Int) : m_fits_ok i n ∧ m_fits i n = !(cnd i n) := by
  cases n with
  | none =>
    have e : m_is_whole__2 (U.ofO none) (b2i (decide (i < (3 - 1)))) 1000000000000000000000000000000 = false := whole_t4 (by decide)
    refine ⟨⟨whole2_ok _ _ _, fun _ => trivial, fun z => ?_⟩, ?_⟩
    · rw [e] at z; cases z
    · unfold m_fits
      rw [e]; rfl
  | some v =>
    refine ⟨⟨whole2_ok _ _ _, fun _ => trivial, fun z => ⟨fun _ => rfl, trivial⟩⟩, ?_⟩
    have e : m_is_whole__2 (U.ofO (some v)) (b2i (decide (i < (3 - 1)))) 1000000000000000000000000000000 = ((decide ((b2i (decide (i < 2))) ≤ v)) && (decide (v ≤ (10 ^ 30)))) := by
      rw [Bool.eq_iff_iff, whole2, Bool.and_eq_true, decide_eq_true_iff, decide_eq_true_iff]
      constructor
      · rintro ⟨j, h1, h2, h3⟩
        have : v = j := by injection h1
        subst this
        exact ⟨h2, h3⟩
      · rintro ⟨h2, h3⟩
        exact ⟨v, rfl, h2, h3⟩
    unfold m_fits cnd
    rw [e]
    show (if (!((decide ((b2i (decide (i < 2))) ≤ v)) && (decide (v ≤ (10 ^ 30))))) = true then false else (!decide (i = 1)) || (decide ((v % 2) = 1))) = !(false || ((!((decide ((b2i (decide (i < 2))) ≤ v)) && (decide (v ≤ (10 ^ 30))))) || ((decide (i = 1)) && (decide ((v % 2) = 0)))))
    cases ((decide ((b2i (decide (i < 2))) ≤ v)) && (decide (v ≤ (10 ^ 30)))) with
    | false => rfl
    | true =>
      by_cases q : i = 1
      · rw [decide_eq_true q]
        by_cases q2 : v % 2 = 0
        · rw [decide_eq_true q2, decide_eq_false (show ¬ v % 2 = 1 by omega)]; rfl
        · rw [decide_eq_false q2, decide_eq_true (show v % 2 = 1 by omega)]; rfl
      · rw [decide_eq_false q]; rfl
abbrev enG {α : Type} (n : Nat) (l : List α) : List (Int × α) := (l.zipIdx n).map fun p => ((p.2 : Int), p.1)
theorem enG_enum {α : Type} (l : List α) : enumI l = enG 0 l := by unfold enumI; rfl
theorem tab_loop (W : List Str) (N : List (Option Int)) (X : List Str) : ∀ (ws : List Str) (n : Nat), (∀ w ∈ ws, w.length ≤ 10000000 ∧ Ch w) →
    okR (m_read_table_o1 W N) (m_read_table_b1 W N) () (enG n (ws.map fun w => m_whole_in w)) ∧ okR (m_table_due_o1 X) (m_table_due_b1 X) () (enG n ws) ∧
    ((∃ k : Nat, k < n + ws.length ∧ loopR (m_table_due_b1 X) () (enG n ws) = .inl (some (k : Int)) ∧ loopR (m_read_table_b1 W N) () (enG n (ws.map fun w => m_whole_in w)) = .inl (.inl ⟨2, some (some (k : Int))⟩)) ∨
     (loopR (m_table_due_b1 X) () (enG n ws) = .inr () ∧ loopR (m_read_table_b1 W N) () (enG n (ws.map fun w => m_whole_in w)) = .inr () ∧ ∀ (i : Nat) (w : Str), ws[i]? = some w → m_fits ((n + i : Nat) : Int) (m_whole_in w) = true))
  | [], n, _ => ⟨trivial, trivial, .inr ⟨rfl, rfl, fun i w h => by cases h⟩⟩
  | w :: ws, n, h => by
    obtain ⟨n1, n2, n3⟩ := num_all (h w (List.mem_cons_self ..)).1 (h w (List.mem_cons_self ..)).2
    obtain ⟨i1, i2, i3⟩ := tab_loop W N X ws (n + 1) fun v hv => h v (List.mem_cons_of_mem _ hv)
    obtain ⟨f1, f2⟩ := fit_eq (n : Int) (m_whole_in w)
    have o2 : m_table_due_o1 X () ((n : Int), w) := by
      refine ⟨n2, fun m hm => ?_⟩
      have some_ : (!m.isSome) = false → m.isSome = true := fun z => by simpa using z
      exact ⟨some_, fun z _ _ => some_ z, fun _ => trivial, fun _ => trivial⟩
    cases q : cnd (n : Int) (m_whole_in w) with
    | true =>
      have b1 : m_read_table_b1 W N () ((n : Int), m_whole_in w) = .inl (.inl ⟨2, some (some (n : Int))⟩) := by
        unfold m_read_table_b1
        rw [show m_fits ((n : Int), m_whole_in w).1 ((n : Int), m_whole_in w).2 = false by rw [f2, q]; rfl]
        rfl
      have b2 : m_table_due_b1 X () ((n : Int), w) = .inl (some (n : Int)) := by
        unfold m_table_due_b1 m_table_due_t2
        dsimp only
        rw [← n3]
        exact if_pos q
      refine ⟨?_, ?_, .inl ⟨n, by simp, ?_, ?_⟩⟩
      · show m_read_table_o1 W N () ((n : Int), m_whole_in w) ∧ _
        rw [b1]
        exact ⟨⟨f1, fun _ => trivial, fun _ => trivial⟩, trivial⟩
      · show m_table_due_o1 X () ((n : Int), w) ∧ _
        rw [b2]
        exact ⟨o2, trivial⟩
      · exact loopR_inl (l := enG (n + 1) ws) b2
      · exact loopR_inl (l := enG (n + 1) (ws.map fun w => m_whole_in w)) b1
    | false =>
      have f3 : m_fits (n : Int) (m_whole_in w) = true := by rw [f2, q]; rfl
      have b1 : m_read_table_b1 W N () ((n : Int), m_whole_in w) = .inr () := by
        unfold m_read_table_b1
        rw [show m_fits ((n : Int), m_whole_in w).1 ((n : Int), m_whole_in w).2 = true from f3]
        rfl
      have b2 : m_table_due_b1 X () ((n : Int), w) = .inr () := by
        unfold m_table_due_b1 m_table_due_t2
        dsimp only
        rw [← n3]
        have q' : ¬ cnd (n : Int) (m_whole_in w) = true := by rw [q]; exact Bool.false_ne_true
        exact if_neg q'
      refine ⟨?_, ?_, ?_⟩
      · show m_read_table_o1 W N () ((n : Int), m_whole_in w) ∧ _
        rw [b1]
        exact ⟨⟨f1, fun _ => trivial, fun _ => trivial⟩, i1⟩
      · show m_table_due_o1 X () ((n : Int), w) ∧ _
        rw [b2]
        exact ⟨o2, i2⟩
      · have e1 : loopR (m_table_due_b1 X) () (enG n (w :: ws)) = loopR (m_table_due_b1 X) () (enG (n + 1) ws) := loopR_inr (l := enG (n + 1) ws) b2
        have e2 : loopR (m_read_table_b1 W N) () (enG n ((w :: ws).map fun w => m_whole_in w)) = loopR (m_read_table_b1 W N) () (enG (n + 1) (ws.map fun w => m_whole_in w)) := loopR_inr (l := enG (n + 1) (ws.map fun w => m_whole_in w)) b1
        rw [e1, e2]
        rcases i3 with ⟨k, k1, k2, k3⟩ | ⟨k1, k2, k3⟩
        · exact .inl ⟨k, by simp only [List.length_cons]; omega, k2, k3⟩
        · refine .inr ⟨k1, k2, fun i v hv => ?_⟩
          cases i with
          | zero =>
            have : w = v := by simpa using hv
            subst this
            exact f3
          | succ i =>
            have := k3 i v (by simpa using hv)
            rw [show n + (i + 1) = n + 1 + i by omega]
            exact this
theorem fits_t {i : Int} {n : Option Int} (h : m_fits i n = true) : ∃ v, n = some v ∧ b2i (decide (i < 2)) ≤ v ∧ v ≤ 10 ^ 30 ∧ (i = 1 → v % 2 = 1) := by
  rw [(fit_eq i n).2] at h
  have h' : cnd i n = false := by
    cases q : cnd i n with
    | false => rfl
    | true => rw [q] at h; cases h
  unfold cnd at h'
  rw [Bool.or_eq_false_iff, Bool.or_eq_false_iff] at h'
  obtain ⟨h1, h2, h3⟩ := h'
  cases n with
  | none => cases h1
  | some v =>
    have h2s : (!((decide ((b2i (decide (i < 2))) ≤ v)) && (decide (v ≤ (10 ^ 30))))) = false := h2
    have h2' : b2i (decide (i < 2)) ≤ v ∧ v ≤ 10 ^ 30 := by simpa using h2s
    refine ⟨v, rfl, h2'.1, h2'.2, fun e => ?_⟩
    rw [decide_eq_true e, Bool.true_and] at h3
    have h3' : ¬ v % 2 = 0 := of_decide_eq_false h3
    omega
theorem tab_all {s : Str} (h : s.length ≤ 1000000) (hs : Ch s) : m_read_table_ok (.str s) ∧ m_table_due_ok s ∧
    ((m_table_due s = none ∧ xOf (m_read_table (.str s)) = none) ∨ ∃ k : Nat, k ≤ 3 ∧ m_table_due s = some (k : Int) ∧ xOf (m_read_table (.str s)) = some ⟨2, some (some (k : Int))⟩) := by
  obtain ⟨l1, l2, l3⟩ := split_le (x := s) sep1
  obtain ⟨ws, hws⟩ : ∃ ws, ws = Txt.split s (Str.ofString " ") := ⟨_, rfl⟩
  rw [← hws] at l1 l2 l3
  have len : ∀ w ∈ ws, w.length ≤ 10000000 ∧ Ch w := fun w hw => ⟨by have := l3 w hw; omega, ch_split sep1 hs w (hws ▸ hw)⟩
  have len3 : ∀ w ∈ ws.take 3, w.length ≤ 10000000 ∧ Ch w := fun w hw => len w (List.mem_of_mem_take hw)
  obtain ⟨i1, i2, i3⟩ := tab_loop ws (ws.map fun w => m_whole_in w) ws (ws.take 3) 0 len3
  have c1 : enumI (cutL (ws.map fun w => m_whole_in w) none (some 3)) = enG 0 ((ws.take 3).map fun w => m_whole_in w) := by
    rw [enG_enum, cut_take' _ (by decide), List.map_take]; rfl
  have c2 : enumI (cutL ws none (some 3)) = enG 0 (ws.take 3) := by
    rw [enG_enum, cut_take' _ (by decide)]; rfl
  have sz : ((Str.ofString " ").length == 0) = false ∧ s.length + 2 ≤ sizeLine := ⟨by decide +kernel, by rw [sizeLine_eq]; omega⟩
  refine ⟨⟨fun _ => trivial, fun _ => ⟨rfl, sz, fun W hW => ?_⟩⟩, ⟨sz, fun W hW => ?_⟩, ?_⟩
  · have hW' : W = ws := hW.trans hws.symm
    subst hW'
    refine ⟨fun w hw => (num_all (len w hw).1 (len w hw).2).1, by omega, fun N hN => ?_⟩
    subst hN
    refine ⟨by rw [c1]; exact i1, fun u hu => ?_⟩
    rw [c1] at hu
    rcases i3 with ⟨k, _, _, k3⟩ | ⟨_, _, k3⟩
    · rw [k3] at hu; cases hu
    · refine ⟨fun _ => trivial, fun hl => ?_⟩
      have hl' : ((W.length : Int) = 3) := by simpa using hl
      match W, hl' with
      | [a, b, c], _ =>
        obtain ⟨x, x1, x2, x3, _⟩ := fits_t (k3 0 a rfl)
        obtain ⟨y, y1, y2, y3, y4⟩ := fits_t (k3 1 b rfl)
        obtain ⟨z, z1, z2, z3, _⟩ := fits_t (k3 2 c rfl)
        have n0 : nth (List.map (fun w => m_whole_in w) [a, b, c]) 0 = some x := x1
        have n1 : nth (List.map (fun w => m_whole_in w) [a, b, c]) 1 = some y := y1
        have n2 : nth (List.map (fun w => m_whole_in w) [a, b, c]) 2 = some z := z1
        rw [n0, n1, n2]
        refine ⟨⟨by decide, by show (0 : Int) < ((3 : Nat) : Int); decide⟩, rfl, ⟨by decide, by show (1 : Int) < ((3 : Nat) : Int); decide⟩, rfl, ⟨by decide, by show (2 : Int) < ((3 : Nat) : Int); decide⟩, rfl, make_ok ⟨⟨x2, x3⟩, ⟨y2, y3⟩, ⟨z2, z3⟩, y4 rfl⟩, trivial⟩
      | [], h => exact absurd h (by decide)
      | [_], h => simp at h
      | [_, _], h => simp at h
      | _ :: _ :: _ :: _ :: _, h => simp at h; omega
  · have hW' : W = ws := hW.trans hws.symm
    subst hW'
    exact ⟨by rw [c2]; exact i2, fun _ _ => trivial⟩
  · unfold m_table_due m_read_table
    dsimp only
    rw [← hws, show (!(U.isT (.str s) 3)) = false from rfl, if_neg Bool.false_ne_true]
    rw [show Txt.split (U.unS (.str s)) (Str.ofString " ") = ws from hws.symm]
    unfold m_table_due_t3 m_read_table_t2
    rw [c1, c2]
    rcases i3 with ⟨k, k1, k2, k3⟩ | ⟨k1, k2, _⟩
    · rw [k2, k3]
      refine .inr ⟨k, ?_, rfl, rfl⟩
      have := List.length_take_le 3 ws
      omega
    · rw [k1, k2]
      show ((if (decide ((ws.length : Int) = 3)) = true then (none : Option Int) else some (min2 3 (ws.length : Int))) = none ∧ xOf (if (!decide ((ws.length : Int) = 3)) = true then Sum.inl (⟨2, some (some (min2 (ws.length : Int) 3))⟩ : Xc) else .inr (_ : Tbl)) = none) ∨ _
      by_cases q : (ws.length : Int) = 3
      · refine .inl ?_
        rw [decide_eq_true q]
        exact ⟨rfl, rfl⟩
      · refine .inr ⟨min 3 ws.length, Nat.min_le_left _ _, ?_, ?_⟩
        · show (if (decide ((ws.length : Int) = 3)) = true then (none : Option Int) else some (min2 3 (ws.length : Int))) = _
          rw [decide_eq_false q, if_neg Bool.false_ne_true]
          unfold min2
          congr 1
          split <;> omega
        · show xOf (if (!decide ((ws.length : Int) = 3)) = true then Sum.inl (⟨2, some (some (min2 (ws.length : Int) 3))⟩ : Xc) else .inr (_ : Tbl)) = _
          rw [decide_eq_false q]
          show some (⟨2, some (some (min2 (ws.length : Int) 3))⟩ : Xc) = _
          unfold min2
          congr 4
          split <;> omega
end My
end
section
set_option maxRecDepth 100000
set_option exponentiation.threshold 1000
set_option maxHeartbeats 400000
namespace My
open PySem L2 Fw TL
/-! a text of spans -/
abbrev cns (a : Int) (i : Int) (ns : List (Option Int)) : Bool := ((ns.any (fun o => !o.isSome)) || ((!decide ((ns.length : Int) = 2)) || ((!((decide (a ≤ (unO (nth ns 0)))) && ((decide ((unO (nth ns 0)) < (unO (nth ns 1)))) && (decide ((unO (nth ns 1)) ≤ (10 ^ 30)))))) || (decide (11 < i)))))
theorem cns_f {a i : Int} {ns : List (Option Int)} : cns a i ns = false ↔ ∃ p q : Int, ns = [some p, some q] ∧ a ≤ p ∧ p < q ∧ q ≤ 10 ^ 30 ∧ i ≤ 11 := by
  unfold cns
  rw [Bool.or_eq_false_iff, Bool.or_eq_false_iff, Bool.or_eq_false_iff]
  constructor
  · rintro ⟨h1, h2, h3, h4⟩
    have l2 : ((ns.length : Int) = 2) := by simpa using h2
    match ns, l2, h1, h3 with
    | [some p, some q], _, _, h3 =>
      have h3' : (decide (a ≤ p) && (decide (p < q) && decide (q ≤ 10 ^ 30))) = true := by
        have : (!(decide (a ≤ p) && (decide (p < q) && decide (q ≤ 10 ^ 30)))) = false := h3
        simpa using this
      rw [Bool.and_eq_true, Bool.and_eq_true, decide_eq_true_iff, decide_eq_true_iff, decide_eq_true_iff] at h3'
      have := of_decide_eq_false h4
      exact ⟨p, q, rfl, h3'.1, h3'.2.1, h3'.2.2, by omega⟩
    | [none, _], _, h, _ => cases h
    | [some _, none], _, h, _ => cases h
    | [], h, _, _ => exact absurd h (by decide)
    | [_], h, _, _ => simp at h
    | _ :: _ :: _ :: _, h, _, _ => simp at h; omega
  · rintro ⟨p, q, rfl, h1, h2, h3, h4⟩
    refine ⟨rfl, rfl, ?_, decide_eq_false (by omega)⟩
    show (!(decide (a ≤ p) && (decide (p < q) && decide (q ≤ 10 ^ 30)))) = false
    rw [decide_eq_true h1, decide_eq_true h2, decide_eq_true h3]; rfl
theorem span_in27 {p : Str} (hp : p.length ≤ 1000000) (hc : Ch p) (a : Int) : m_span_in_ok p a ∧ (∀ x ∈ Txt.split p (Str.ofString "-"), m_number_ok x) ∧
    ∀ (i : Int), i ≤ 11 → m_span_in p a = if cns a i (List.map (fun (x_5 : Str) => m_number x_5) (Txt.split p (Str.ofString "-"))) = true then none else some (unO (nth (List.map (fun (x_5 : Str) => m_number x_5) (Txt.split p (Str.ofString "-"))) 0), unO (nth (List.map (fun (x_5 : Str) => m_number x_5) (Txt.split p (Str.ofString "-"))) 1)) := by
  obtain ⟨l1, l2, l3⟩ := split_le (x := p) sep2
  obtain ⟨ws, hws⟩ : ∃ ws, ws = Txt.split p (Str.ofString "-") := ⟨_, rfl⟩
  rw [← hws] at l1 l2 l3
  have na : ∀ w ∈ ws, m_whole_in_ok w ∧ m_number_ok w ∧ m_whole_in w = m_number w := fun w hw => num_all (by have := l3 w hw; omega) (ch_split sep2 hc w (hws ▸ hw))
  have em : List.map (fun (x_3 : Str) => m_whole_in x_3) ws = List.map (fun (x_5 : Str) => m_number x_5) ws := List.map_congr_left fun w hw => (na w hw).2.2
  have un : ∀ {v : U}, m_is_span__2 v a = true → v = U.tup [U.int (U.unP v).1, U.int (U.unP v).2] := fun {v} h => by
    obtain ⟨x, rfl, _⟩ := span2.mp h
    rfl
  refine ⟨⟨⟨by decide +kernel, by rw [sizeLine_eq]; omega⟩, ?_, ?_, fun N hN => ⟨span2_ok _ _, fun h => un h, trivial⟩⟩, ?_, fun i hi => ?_⟩
  · rw [← hws]; exact fun w hw => (na w hw).1
  · rw [← hws]; omega
  · rw [← hws]; exact fun w hw => (na w hw).2.1
  · rw [← hws]
    unfold m_span_in
    dsimp only
    rw [← hws, em]
    generalize hN : List.map (fun (x_5 : Str) => m_number x_5) ws = N
    cases q : cns a i N with
    | false =>
      obtain ⟨x, y, rfl, h1, h2, h3, h4⟩ := cns_f.mp q
      have s : m_is_span__2 (U.tup (List.map (fun y : Option Int => U.ofO y) [some x, some y])) a = true := span2.mpr ⟨(x, y), rfl, h1, h2, h3⟩
      rw [s, if_pos rfl, if_neg Bool.false_ne_true]
      rfl
    | true =>
      have s : m_is_span__2 (U.tup (List.map (fun y : Option Int => U.ofO y) N)) a = false := by
        rw [Bool.eq_false_iff]
        intro z
        obtain ⟨x, e, h1, h2, h3⟩ := span2.mp z
        have e' : List.map (fun y : Option Int => U.ofO y) N = [U.int x.1, U.int x.2] := by injection e
        have : N = [some x.1, some x.2] := by
          match N, e' with
          | [u, v], e' =>
            simp only [List.map_cons, List.map_nil, List.cons.injEq, and_true] at e'
            obtain ⟨e1, e2⟩ := e'
            cases u with
            | none => cases e1
            | some u =>
              cases v with
              | none => cases e2
              | some v =>
                have e1' : U.int u = U.int x.1 := e1
                have e2' : U.int v = U.int x.2 := e2
                injection e1' with e1'
                injection e2' with e2'
                rw [e1', e2']
          | [], e' => cases e'
          | [_], e' => simp at e'
          | _ :: _ :: _ :: _, e' => simp at e'
        have := cns_f.mpr ⟨x.1, x.2, this, h1, h2, h3, hi⟩
        rw [q] at this; cases this
      rw [s, if_neg Bool.false_ne_true, if_pos rfl]
theorem sp_loop : ∀ (ps : List Str) (n : Nat) (a : Int) (f : List (Int × Int)), (∀ p ∈ ps, p.length ≤ 1000000 ∧ Ch p) → f.length + ps.length ≤ 10000000 →
    okR m_read_spans_o1 m_read_spans_b1 (f, a) (enG n ps) ∧ okR m_spans_due_o1 m_spans_due_b1 a (enG n ps) ∧
    ((∃ k : Nat, k < n + ps.length ∧ loopR m_spans_due_b1 a (enG n ps) = .inl (some (k : Int)) ∧ loopR m_read_spans_b1 (f, a) (enG n ps) = .inl (.inl ⟨2, some (some (k : Int))⟩)) ∨
     ∃ s g, loopR m_spans_due_b1 a (enG n ps) = .inr s ∧ loopR m_read_spans_b1 (f, a) (enG n ps) = .inr (g, s))
  | [], n, a, f, _, _ => ⟨trivial, trivial, .inr ⟨a, f, rfl, rfl⟩⟩
  | p :: ps, n, a, f, h, hf => by
    have hp := h p (List.mem_cons_self ..)
    obtain ⟨g1, g2, g3⟩ := span_in27 hp.1 hp.2 a
    obtain ⟨l1, l2, l3⟩ := split_le (x := p) sep2
    simp only [List.length_cons] at hf
    have o2 : m_spans_due_o1 a ((n : Int), p) := by
      refine ⟨⟨by decide +kernel, by dsimp only; rw [sizeLine_eq]; omega⟩, g2, by dsimp only; omega, fun N _ => ?_⟩
      have ln : (!decide ((N.length : Int) = 2)) = false → N.length = 2 := fun z => by
        have : ((N.length : Int) = 2) := by simpa using z
        omega
      have sm : (N.any (fun o => !o.isSome)) = false → ∀ i, 0 ≤ i ∧ i < (N.length : Int) → (nth N i).isSome = true := fun z i hi => by
        have m := nth_mem (l := N) hi
        rw [List.any_eq_false] at z
        have := z _ m
        cases h : nth N i with
        | none => rw [h] at this; exact absurd rfl this
        | some v => rfl
      have p0 : N.length = 2 → 0 ≤ (0 : Int) ∧ (0 : Int) < N.length := fun e => by omega
      have p1 : N.length = 2 → 0 ≤ (1 : Int) ∧ (1 : Int) < N.length := fun e => by omega
      refine ⟨fun x y => p0 (ln y), fun x y => sm x 0 (p0 (ln y)), fun x y _ => p1 (ln y), fun x y _ => sm x 1 (p1 (ln y)), fun _ => trivial, fun z => ?_⟩
      obtain ⟨x, y, e, _⟩ := cns_f.mp z
      rw [e]
      exact ⟨⟨by decide, by show (1 : Int) < ((2 : Nat) : Int); decide⟩, rfl, fun _ _ => trivial⟩
    have o1 : m_read_spans_o1 (f, a) ((n : Int), p) := by
      refine ⟨fun _ => g1, fun sp _ => ⟨fun _ => trivial, fun z => ?_⟩⟩
      have z' : sp.isSome = true := by simpa using z
      exact ⟨z', by show f.length < 16000000; omega, fun _ _ => ⟨z', fun _ _ => trivial⟩⟩
    have ih := fun a f' hf' => sp_loop ps (n + 1) a f' (fun v hv => h v (List.mem_cons_of_mem _ hv)) hf'
    cases q : cns a (n : Int) (List.map (fun (x_5 : Str) => m_number x_5) (Txt.split p (Str.ofString "-"))) with
    | true =>
      have b2 : m_spans_due_b1 a ((n : Int), p) = .inl (some (n : Int)) := by
        unfold m_spans_due_b1 m_spans_due_t2
        dsimp only
        exact if_pos q
      have b1 : m_read_spans_b1 (f, a) ((n : Int), p) = .inl (.inl ⟨2, some (some (n : Int))⟩) := by
        unfold m_read_spans_b1
        dsimp only
        have e : (if (decide ((n : Int) < 12)) = true then m_span_in p a else (none : Option (Int × Int))) = none := by
          by_cases w : (n : Int) < 12
          · rw [decide_eq_true w, if_pos rfl, g3 (n : Int) (by omega), if_pos q]
          · rw [decide_eq_false w, if_neg Bool.false_ne_true]
        rw [e]; rfl
      refine ⟨?_, ?_, .inl ⟨n, by simp, ?_, ?_⟩⟩
      · show m_read_spans_o1 (f, a) ((n : Int), p) ∧ _
        rw [b1]; exact ⟨o1, trivial⟩
      · show m_spans_due_o1 a ((n : Int), p) ∧ _
        rw [b2]; exact ⟨o2, trivial⟩
      · exact loopR_inl (l := enG (n + 1) ps) b2
      · exact loopR_inl (l := enG (n + 1) ps) b1
    | false =>
      obtain ⟨x, y, e, h1, h2, h3, h4⟩ := cns_f.mp q
      have b2 : m_spans_due_b1 a ((n : Int), p) = .inr y := by
        unfold m_spans_due_b1 m_spans_due_t2
        dsimp only
        rw [show (((List.map (fun (x_5 : Str) => m_number x_5) (Txt.split p (Str.ofString "-"))).any (fun o => !o.isSome)) || ((!decide (((List.map (fun (x_5 : Str) => m_number x_5) (Txt.split p (Str.ofString "-"))).length : Int) = 2)) || ((!((decide (a ≤ (unO (nth (List.map (fun (x_5 : Str) => m_number x_5) (Txt.split p (Str.ofString "-"))) 0)))) && ((decide ((unO (nth (List.map (fun (x_5 : Str) => m_number x_5) (Txt.split p (Str.ofString "-"))) 0)) < (unO (nth (List.map (fun (x_5 : Str) => m_number x_5) (Txt.split p (Str.ofString "-"))) 1)))) && (decide ((unO (nth (List.map (fun (x_5 : Str) => m_number x_5) (Txt.split p (Str.ofString "-"))) 1)) ≤ (10 ^ 30)))))) || (decide (11 < (n : Int)))))) = false from q, if_neg Bool.false_ne_true, e]
        rfl
      have b1 : m_read_spans_b1 (f, a) ((n : Int), p) = .inr (f ++ [(x, y)], y) := by
        unfold m_read_spans_b1
        dsimp only
        rw [decide_eq_true (show (n : Int) < 12 by omega), if_pos rfl, g3 (n : Int) h4, q, if_neg Bool.false_ne_true, e]
        rfl
      obtain ⟨i1, i2, i3⟩ := ih y (f ++ [(x, y)]) (by rw [List.length_append]; simp only [List.length_cons, List.length_nil]; omega)
      refine ⟨?_, ?_, ?_⟩
      · show m_read_spans_o1 (f, a) ((n : Int), p) ∧ _
        rw [b1]; exact ⟨o1, i1⟩
      · show m_spans_due_o1 a ((n : Int), p) ∧ _
        rw [b2]; exact ⟨o2, i2⟩
      · have e1 : loopR m_spans_due_b1 a (enG n (p :: ps)) = loopR m_spans_due_b1 y (enG (n + 1) ps) := loopR_inr (l := enG (n + 1) ps) b2
        have e2 : loopR m_read_spans_b1 (f, a) (enG n (p :: ps)) = loopR m_read_spans_b1 (f ++ [(x, y)], y) (enG (n + 1) ps) := loopR_inr (l := enG (n + 1) ps) b1
        rw [e1, e2]
        rcases i3 with ⟨k, k1, k2, k3⟩ | ⟨s, g, k1, k2⟩
        · exact .inl ⟨k, by simp only [List.length_cons]; omega, k2, k3⟩
        · exact .inr ⟨s, g, k1, k2⟩
theorem sps_all {s : Str} (h : s.length ≤ 1000000) (hc : Ch s) : m_read_spans_ok (.str s) ∧ m_spans_due_ok s ∧
    ((m_spans_due s = none ∧ xOf (m_read_spans (.str s)) = none) ∨ ∃ k : Nat, k ≤ 1000001 ∧ m_spans_due s = some (k : Int) ∧ xOf (m_read_spans (.str s)) = some ⟨2, some (some (k : Int))⟩) := by
  obtain ⟨l1, l2, l3⟩ := split_le (x := s) sep3
  obtain ⟨ps, hps⟩ : ∃ ps, ps = (if (decide (s = (Str.ofString ""))) = true then [] else Txt.split s (Str.ofString ", ")) := ⟨_, rfl⟩
  have hps2 : (if (!decide (s = (Str.ofString ""))) = true then Txt.split s (Str.ofString ", ") else []) = ps := by
    rw [hps]
    cases decide (s = (Str.ofString "")) <;> rfl
  have bp : ps.length ≤ s.length + 1 ∧ ∀ p ∈ ps, p.length ≤ 1000000 ∧ Ch p := by
    rw [hps]
    split
    · exact ⟨Nat.zero_le _, fun p hp => by cases hp⟩
    · exact ⟨l1, fun p hp => ⟨by have := l3 p hp; omega, ch_split sep3 hc p hp⟩⟩
  obtain ⟨i1, i2, i3⟩ := sp_loop ps 0 0 [] bp.2 (by simp only [List.length_nil]; omega)
  have sz : ((Str.ofString ", ").length == 0) = false ∧ s.length + 2 ≤ sizeLine := ⟨by decide +kernel, by rw [sizeLine_eq]; omega⟩
  refine ⟨⟨fun _ => trivial, fun _ a ha => ⟨rfl, fun _ => rfl, fun _ => sz, ?_, fun _ _ => trivial⟩⟩, fun a ha => ⟨fun _ => sz, ?_, fun _ _ => trivial⟩, ?_⟩
  · subst ha
    rw [show (if (decide ((U.unS (.str s)) = (Str.ofString ""))) = true then [] else Txt.split (U.unS (.str s)) (Str.ofString ", ")) = ps from hps.symm, enG_enum]
    exact i1
  · subst ha
    rw [hps2, enG_enum]
    exact i2
  · unfold m_spans_due m_read_spans
    dsimp only
    rw [show (!(U.isT (.str s) 3)) = false from rfl, if_neg Bool.false_ne_true]
    unfold m_spans_due_t3 m_read_spans_t3
    rw [show (if (decide ((U.unS (.str s)) = (Str.ofString ""))) = true then [] else Txt.split (U.unS (.str s)) (Str.ofString ", ")) = ps from hps.symm, hps2, enG_enum]
    rcases i3 with ⟨k, k1, k2, k3⟩ | ⟨t, g, k1, k2⟩
    · rw [k2, k3]
      exact .inr ⟨k, by omega, rfl, rfl⟩
    · rw [k1, k2]
      exact .inl ⟨rfl, rfl⟩
/-! the words -/
theorem tc_tx {o : Option Int} (h : ∀ i, o = some i → i.natAbs.log2 < 1920) (l : (Str.ofString "InvalidText ").length + (reprO o).length ≤ 16000000) : (2 : Nat) < 18 ∧ m_class_ok ⟨2, some o⟩ ∧ m_class ⟨2, some o⟩ = Str.ofString "InvalidText " ++ reprO o := by
  have hf : ((List.filter (fun (x_19 : Str × Bool) => x_19.2) (clsL ⟨2, some o⟩)).map fun (x_19 : Str × Bool) => x_19.1) = [Str.ofString "InvalidText"] := by
    have e : clsL ⟨2, some o⟩ = clsL ⟨2, none⟩ := rfl
    rw [e]; decide +kernel
  have i0 : 0 ≤ (0 : Int) ∧ (0 : Int) < ([Str.ofString "InvalidText"] : List Str).length := by show 0 ≤ (0 : Int) ∧ (0 : Int) < ((1 : Nat) : Int); decide
  have d1 : decide (nth ([(Str.ofString "InvalidText")] : List Str) 0 ∈ ([(Str.ofString "InvalidSpans"), (Str.ofString "InvalidSeen")] : List Str)) = false := by decide +kernel
  have d2 : decide (nth ([(Str.ofString "InvalidText")] : List Str) 0 = (Str.ofString "InvalidText")) = true := by decide +kernel
  refine ⟨by decide, class_ok (by show 2 < 18; decide) hf ?_, ?_⟩
  · refine ⟨fun _ => by show 2 < 18; decide, fun _ => trivial, fun _ => ⟨i0, fun z => ?_, fun _ => ⟨i0, fun _ => ⟨⟨by show 2 < 4; decide, rfl, rfl⟩, h, l, trivial⟩, fun z => ?_⟩⟩⟩
    · rw [d1] at z; cases z
    · rw [d2] at z; cases z
  · rw [class_eq hf]
    unfold m_class_t1
    rw [d1, d2]
    rfl
theorem repr_some (i : Int) : reprO (some i) = strI i := rfl
abbrev due27 (w : Int) (s : Str) : Option Int := if (decide (w = 1)) = true then m_spans_due s else m_table_due s
abbrev wrd (o : Option Int) : Str := if (!o.isSome) = true then (Str.ofString "fine") else (Str.ofString "InvalidText ") ++ (strI (unO o))
theorem word_all {w : Int} (hw : w = 0 ∨ w = 1) {s : Str} (h : s.length ≤ 1000000) (hc : Ch s) : m_word_ok w (.str s) ∧ m_word w (.str s) = wrd (due27 w s) ∧ ((decide (w = 1)) = true → m_spans_due_ok s) ∧ ((decide (w = 1)) = false → m_table_due_ok s) ∧
    ∀ v, due27 w s = some v → 0 ≤ v ∧ v ≤ 1000001 := by
  obtain ⟨a1, a2, a3⟩ := tab_all h hc
  obtain ⟨b1, b2, b3⟩ := sps_all h hc
  have main : ∀ {c : Option Xc}, (if (decide (w = 0)) = true then (xOf (m_read_table (.str s))) else (xOf (m_read_spans (.str s)))) = c → (∀ x, c = some x → x.c < 18 ∧ m_class_ok x) →
      m_word_ok w (.str s) ∧ m_word w (.str s) = if (!c.isSome) = true then (Str.ofString "fine") else m_class (unO c) := fun {c} hcc hx => by
    refine ⟨fun _ _ => ⟨fun _ => a1, fun _ => b1, fun x hx' => (hx x (hcc ▸ hx')).1, fun c' hc' => ?_⟩, ?_⟩
    · have : c' = c := hc'.trans hcc
      subst this
      refine ⟨fun z => by simpa using z, fun z => ?_, trivial⟩
      cases c' with
      | none => cases z
      | some x => exact (hx x rfl).2
    · unfold m_word
      dsimp only
      rw [hcc]
  have fin : ((due27 w s = none ∧ (if (decide (w = 0)) = true then (xOf (m_read_table (.str s))) else (xOf (m_read_spans (.str s)))) = none) ∨ ∃ k : Nat, k ≤ 1000001 ∧ due27 w s = some (k : Int) ∧ (if (decide (w = 0)) = true then (xOf (m_read_table (.str s))) else (xOf (m_read_spans (.str s)))) = some ⟨2, some (some (k : Int))⟩) →
      m_word_ok w (.str s) ∧ m_word w (.str s) = wrd (due27 w s) ∧ ((decide (w = 1)) = true → m_spans_due_ok s) ∧ ((decide (w = 1)) = false → m_table_due_ok s) ∧ ∀ v, due27 w s = some v → 0 ≤ v ∧ v ≤ 1000001 := fun q => by
    rcases q with ⟨q1, q2⟩ | ⟨k, q0, q1, q2⟩
    · obtain ⟨m1, m2⟩ := main q2 fun x e => by cases e
      have e1 : (!(none : Option Xc).isSome) = true := rfl
      have e2 : (!(none : Option Int).isSome) = true := rfl
      rw [e1, if_pos rfl] at m2
      refine ⟨m1, by rw [m2, q1]; unfold wrd; rw [e2, if_pos rfl], fun _ => b2, fun _ => a2, fun v hv => ?_⟩
      rw [q1] at hv; cases hv
    · have lg : ∀ i, some (k : Int) = some i → i.natAbs.log2 < 1920 := fun i e => by
        cases e
        exact log_strI (by omega)
      have ln := len_strI (i := (k : Int)) (by omega)
      have g12 : (Str.ofString "InvalidText ").length = 12 := by decide +kernel
      have tc := tc_tx (o := some (k : Int)) lg (by rw [repr_some]; omega)
      obtain ⟨m1, m2⟩ := main q2 fun x e => by cases e; exact ⟨by show 2 < 18; decide, tc.2.1⟩
      refine ⟨m1, ?_, fun _ => b2, fun _ => a2, fun v hv => ?_⟩
      · have e1 : (!(some (⟨2, some (some (k : Int))⟩ : Xc)).isSome) = false := rfl
        have e2 : unO (some (⟨2, some (some (k : Int))⟩ : Xc)) = ⟨2, some (some (k : Int))⟩ := rfl
        rw [e1, if_neg Bool.false_ne_true, e2, tc.2.2, repr_some] at m2
        rw [m2, q1]
        unfold wrd
        rw [show (!(some (k : Int)).isSome) = false from rfl, if_neg Bool.false_ne_true]
        rfl
      · rw [q1] at hv
        cases hv
        omega
  rcases hw with rfl | rfl
  · refine fin (a3.imp id fun ⟨k, k1, k2⟩ => ⟨k, by omega, k2⟩)
  · exact fin b3
theorem odd_all {u : U} (h : u.ty ≠ 3) (w : Int) : m_word_ok w u ∧ m_word w u = Str.ofString "InvalidText None" := by
  have t3 : (!(U.isT u 3)) = true := by
    cases u <;> first | rfl | exact absurd rfl h
  have e1 : m_read_table u = .inl ⟨2, some none⟩ := by
    unfold m_read_table
    rw [t3, if_pos rfl]
  have e2 : m_read_spans u = .inl ⟨2, some none⟩ := by
    unfold m_read_spans
    rw [t3, if_pos rfl]
  have tc := tc_tx (o := none) (fun i e => by cases e) (by decide +kernel)
  have hc : (if (decide (w = 0)) = true then (xOf (m_read_table u)) else (xOf (m_read_spans u))) = some ⟨2, some none⟩ := by
    rw [e1, e2]
    split <;> rfl
  refine ⟨fun _ _ => ⟨fun _ => ⟨fun _ => trivial, fun z => by rw [t3] at z; cases z⟩, fun _ => ⟨fun _ => trivial, fun z => by rw [t3] at z; cases z⟩, fun x hx => ?_, fun c hc' => ?_⟩, ?_⟩
  · rw [hc] at hx; cases hx; show 2 < 18; decide
  · rw [hc] at hc'
    subst hc'
    exact ⟨fun _ => rfl, fun _ => tc.2.1, trivial⟩
  · unfold m_word
    dsimp only
    rw [hc]
    have e1 : (!(some (⟨2, some none⟩ : Xc)).isSome) = false := rfl
    have e2 : unO (some (⟨2, some none⟩ : Xc)) = ⟨2, some none⟩ := rfl
    rw [e1, if_neg Bool.false_ne_true, e2, tc.2.2]
    decide +kernel
end My
end
section
set_option maxRecDepth 100000
set_option exponentiation.threshold 1000
namespace My
open PySem L2 Fw TL
/-! drawn texts -/
theorem spl_ne (S : List Nat) : ∀ (L : List Nat) (k : Nat) (acc : List Nat), spl S k acc L ≠ []
  | [], k, acc => by rw [spl_nil]; simp
  | c :: r, 0, acc => by
    show (if pre S (c :: r) = true then acc :: spl S (S.length - 1) [] r else spl S 0 (acc ++ [c]) r) ≠ []
    split
    · simp
    · exact spl_ne S r 0 _
  | c :: r, k + 1, acc => spl_ne S r k acc
theorem split_ne {x y : Str} (h : Sep y) : Txt.split x y ≠ [] := fun e => by
  have q := split_spl x y h.n (kind_ok h.k)
  rw [e] at q
  exact spl_ne _ _ _ _ q.symm
theorem sum_cut : ∀ (l : List Nat) (k : Nat), (l.take k).sum + (l.drop (k + 1)).sum ≤ l.sum
  | [], k => by simp
  | x :: l, 0 => by simp
  | x :: l, k + 1 => by
    have := sum_cut l k
    simp only [List.take_succ_cons, List.drop_succ_cons, List.sum_cons]
    omega
theorem ch_lit0 {s : Str} (h : s.cps.all (· < 256) = true) : Ch s := fun c hc => by
  rw [← Array.all_toList, List.all_eq_true] at h
  have := of_decide_eq_true (h c hc)
  omega
theorem text27 {l : List (Int × Int)} (hl : l.length ≤ 13) (h : ∀ x ∈ l, (0 ≤ x.1 ∧ x.1 ≤ 10 ^ 30) ∧ (0 ≤ x.2 ∧ x.2 ≤ 10 ^ 30)) : m_text_ok l ∧ (m_text l).length ≤ 2000 ∧ Ch (m_text l) := by
  have ls : (Str.ofString "-").length = 1 := by decide +kernel
  have lc : (Str.ofString ", ").length = 2 := by decide +kernel
  have q : ∀ {m : List (Int × Int)}, (∀ x ∈ m, x ∈ l) → ((List.map (fun (x_2 : Int × Int) => ((strI x_2.1) ++ (Str.ofString "-")) ++ (strI x_2.2)) m).map (·.length)).sum ≤ m.length * 63 := by
    intro m
    induction m with
    | nil => intro _; exact Nat.le_refl _
    | cons y m ih =>
      intro hm
      have hy := h y (hm y (List.mem_cons_self ..))
      have h2 := ih fun z hz => hm z (List.mem_cons_of_mem _ hz)
      have k1 := len_strI hy.1
      have k2 := len_strI hy.2
      simp only [List.map_cons, List.sum_cons, List.length_cons, len_app]
      omega
  have q2 := q (m := l) fun x hx => hx
  refine ⟨⟨fun x hx => log_strI (h x hx).1, fun x hx => ?_, fun x hx => log_strI (h x hx).2, fun x hx => ?_, by omega, ?_, trivial⟩, ?_, ?_⟩
  · have := len_strI (h x hx).1; omega
  · have := len_strI (h x hx).1
    have := len_strI (h x hx).2
    rw [len_app]; omega
  · rw [List.length_map, lc]
    omega
  · have := join_le (Str.ofString ", ") (List.map (fun (x_2 : Int × Int) => ((strI x_2.1) ++ (Str.ofString "-")) ++ (strI x_2.2)) l)
    rw [List.length_map, lc] at this
    show (Txt.join (Str.ofString ", ") (List.map (fun (x_2 : Int × Int) => ((strI x_2.1) ++ (Str.ofString "-")) ++ (strI x_2.2)) l)).length ≤ 2000
    omega
  · refine ch_join (a := Str.ofString ", ") (l := List.map (fun (x_2 : Int × Int) => ((strI x_2.1) ++ (Str.ofString "-")) ++ (strI x_2.2)) l) (ch_lit0 (by decide +kernel)) fun p hp => ?_
    obtain ⟨x, hx, rfl⟩ := List.mem_map.mp hp
    exact ch_app (ch_app (ch_num (h x hx).1.1) (ch_lit0 (by decide +kernel))) (ch_num (h x hx).2.1)
theorem drawn_all (b : Bag) {w : Int} : m_drawn_ok b w ∧ (m_drawn b w).1.length ≤ 2000 ∧ Ch (m_drawn b w).1 := by
  have p1 := pick_lt b (n := 2) (by decide)
  have ls : (Str.ofString " ").length = 1 := by decide +kernel
  have l0 : (decide (w = 0)) = true → _ := fun _ => trivial
  obtain ⟨r1, r2⟩ : m_rule_ok ((m_pick b 2).2) (nth ([9, 10 ^ 30] : List Int) ((m_pick b 2).1)) ∧ TOk ⟨(m_rule ((m_pick b 2).2) (nth ([9, 10 ^ 30] : List Int) ((m_pick b 2).1))).1.1, (m_rule ((m_pick b 2).2) (nth ([9, 10 ^ 30] : List Int) ((m_pick b 2).1))).1.2.1, (m_rule ((m_pick b 2).2) (nth ([9, 10 ^ 30] : List Int) ((m_pick b 2).1))).1.2.2⟩ := by
    refine rule_all _ ?_
    rcases nth2 (9 : Int) (10 ^ 30) p1 with e | e <;> rw [e] <;> decide
  have c1 := r2.c
  have c2 := r2.r
  have c3 := r2.s
  obtain ⟨z1, hz1⟩ : ∃ z, z = (m_rule ((m_pick b 2).2) (nth ([9, 10 ^ 30] : List Int) ((m_pick b 2).1))).1 := ⟨_, rfl⟩
  rw [← hz1] at c1 c2 c3
  have s1 := len_strI (i := z1.1) (by dsimp only at c1; omega)
  have s2 := len_strI (i := z1.2.1) (by dsimp only at c2; omega)
  have s3 := len_strI (i := z1.2.2) (by dsimp only at c3; omega)
  have sm : ((List.map (fun (x_3 : Int) => strI x_3) ([z1.1, z1.2.1, z1.2.2] : List Int)).map (·.length)).sum ≤ 93 := by
    simp only [List.map_cons, List.map_nil, List.sum_cons, List.sum_nil]
    omega
  have most : 5 ≤ nth ([5, 10 ^ 28] : List Int) ((m_pick b 2).1) ∧ nth ([5, 10 ^ 28] : List Int) ((m_pick b 2).1) ≤ 10 ^ 28 := by
    rcases nth2 (5 : Int) (10 ^ 28) p1 with e | e <;> rw [e] <;> decide
  have p2 := pick_lt (m_pick b 2).2 (n := 2) (by decide)
  have n14 : 4 ≤ nth ([4, 14] : List Int) ((m_pick (m_pick b 2).2 2).1) ∧ nth ([4, 14] : List Int) ((m_pick (m_pick b 2).2 2).1) ≤ 14 := by
    rcases nth2 (4 : Int) 14 p2 with e | e <;> rw [e] <;> decide
  have p3 := pick_lt (m_pick (m_pick b 2).2 2).2 (n := nth ([4, 14] : List Int) ((m_pick (m_pick b 2).2 2).1)) (by omega)
  obtain ⟨M, hM⟩ : ∃ M, M = nth ([5, 10 ^ 28] : List Int) ((m_pick b 2).1) := ⟨_, rfl⟩
  rw [← hM] at most
  obtain ⟨g1, g2, g3, g4⟩ := okF_invB (ok := m_drawn_o1 M) (b := m_drawn_b1 M) (m := 13) (fun n s => s.2.1.length = n ∧ (0 ≤ s.2.2 ∧ s.2.2 ≤ (n : Int) * (2 * 10 ^ 28)) ∧ ∀ x ∈ s.2.1, (0 ≤ x.1 ∧ x.1 ≤ 10 ^ 30) ∧ (0 ≤ x.2 ∧ x.2 ≤ 10 ^ 30))
    (l := rng 0 ((m_pick ((m_pick (m_pick b 2).2 2).2) (nth ([4, 14] : List Int) ((m_pick (m_pick b 2).2 2).1))).1)) (s := ((m_pick ((m_pick (m_pick b 2).2 2).2) (nth ([4, 14] : List Int) ((m_pick (m_pick b 2).2 2).1))).2, ([] : List (Int × Int)), 0)) (n := 0) (by rw [len_rng]; omega) ⟨rfl, ⟨Int.le_refl 0, by show (0 : Int) ≤ ((0 : Nat) : Int) * (2 * 10 ^ 28); decide⟩, fun x hx => by cases hx⟩ fun n s x hx hn hI => by
    obtain ⟨h1, ⟨h2, h3⟩, h4⟩ := hI
    have q1 := pick_lt s.1 (n := M) (by omega)
    have q2 := pick_lt (m_pick s.1 M).2 (n := M) (by omega)
    refine ⟨⟨pickk _ (by omega) (by omega), fun f hf b10 _ => ⟨pickk _ (by omega) (by omega), fun a ha b12 _ => ⟨by omega, fun _ _ => trivial⟩⟩⟩, ?_⟩
    unfold m_drawn_b1
    dsimp only
    have e : ((n + 1 : Nat) : Int) * (2 * 10 ^ 28) = (n : Int) * (2 * 10 ^ 28) + (2 * 10 ^ 28) := by
      rw [Int.natCast_add, Int.add_mul]; simp
    have n13 : (n : Int) * (2 * 10 ^ 28) ≤ 12 * (2 * 10 ^ 28) := Int.mul_le_mul_of_nonneg_right (by omega) (by decide)
    refine ⟨by rw [List.length_append, h1]; rfl, ⟨by omega, by rw [e]; omega⟩, fun y hy => ?_⟩
    rcases List.mem_append.mp hy with m | m
    · exact h4 y m
    · rw [List.mem_singleton] at m
      subst m
      dsimp only
      omega
  rw [len_rng] at g2
  obtain ⟨t1, t2, t3⟩ := text27 (by omega) g4
  refine ⟨⟨fun _ => ⟨pickk _ (by decide) (by decide), p1, r1, ?_, by show 3 < 16000000; decide, ?_, trivial⟩, fun _ => ⟨pickk _ (by decide) (by decide), p1, fun a ha m hm b4 hb => ?_⟩⟩, ?_⟩
  · rw [← hz1]
    intro x hx
    simp only [List.mem_cons, List.not_mem_nil, or_false] at hx
    rcases hx with rfl | rfl | rfl <;> exact log_strI (by dsimp only at c1 c2 c3; omega)
  · rw [← hz1, ls, List.length_map]
    show _ + 3 * 1 ≤ _
    omega
  · subst ha hb
    have hm' : m = M := hm.trans hM.symm
    subst hm'
    exact ⟨pickk _ (by decide) (by decide), p2, pickk _ (by omega) (by omega), by omega, g1, fun f hf => ⟨by rw [hf]; exact t1, trivial⟩⟩
  · unfold m_drawn
    split
    · dsimp only
      rw [← hz1]
      refine ⟨?_, ch_join (ch_lit0 (by decide +kernel)) fun p hp => ?_⟩
      rotate_left
      · simp only [List.map_cons, List.map_nil, List.mem_cons, List.not_mem_nil, or_false] at hp
        rcases hp with rfl | rfl | rfl <;> exact ch_num (by dsimp only at c1 c2 c3; omega)
      have := join_le (Str.ofString " ") (List.map (fun (x_3 : Int) => strI x_3) ([z1.1, z1.2.1, z1.2.2] : List Int))
      rw [List.length_map, ls] at this
      have e3 : ([z1.1, z1.2.1, z1.2.2] : List Int).length = 3 := rfl
      omega
    · dsimp only
      rw [← hM]
      exact ⟨t2, t3⟩
abbrev odds27 : List Str := (([(Str.ofString ""), (Str.ofString " "), (Str.ofString ", "), (Str.ofString ","), (Str.ofString "-"), (Str.ofString "0"), (Str.ofString "1"), (Str.ofString "2"), (Str.ofString "4"), (Str.ofString "9"), (Str.ofString "01"), (Str.ofString "00"), (Str.ofString "a"), (Str.ofString "-1"), (Str.ofString "+1"), (Str.ofString "1.5"), (Str.ofString "1_0"), (Str.ofString "\n")] : List Str) ++ ([(Str.ofString "5-5"), (Str.ofString "3-9")] : List Str)) ++ ([repS (Str.ofString "9") 101, (Str.ofString "1") ++ (repS (Str.ofString "0") 30), repS (Str.ofString "1") 31, (Str.ofString ", 0-1"), (Str.ofString " 7"), (Str.ofString "; ")] : List Str)
theorem odds_len : ∀ o ∈ odds27, o.length ≤ 101 := by
  have h : (odds27.all fun o => decide (o.length ≤ 101)) = true := by decide +kernel
  intro o ho
  exact of_decide_eq_true (List.all_eq_true.mp h o ho)
theorem words27 {s : Str} (h : s.length ≤ 100000) {odd : Str} (ho : odd.length ≤ 101) {sp : Int} {ws : List Str} (e : ws = Txt.split s (Str.ofString " ")) (hs : 0 ≤ sp ∧ sp < (ws.length : Int)) :
    (cutL ws none (some sp)).length + 1 ≤ 16000000 ∧ (((cutL ws none (some sp)) ++ ([odd] : List Str)).length + (cutL ws (some (sp + 1)) none).length ≤ s.length + 2) ∧
    (((((cutL ws none (some sp)) ++ ([odd] : List Str)) ++ (cutL ws (some (sp + 1)) none)).map (·.length)).sum ≤ s.length + 101) := by
  obtain ⟨l1, l2, l3⟩ := split_le (x := s) sep1
  rw [← e] at l1 l2
  have c1 : cutL ws none (some sp) = ws.take sp.toNat := cut_take ws (by omega)
  have c2 : cutL ws (some (sp + 1)) none = ws.drop (sp.toNat + 1) := by
    rw [cut_drop ws (by omega), show (sp + 1).toNat = sp.toNat + 1 by omega]
  rw [c1, c2]
  have t1 : (ws.take sp.toNat).length = sp.toNat := by rw [List.length_take]; omega
  have t2 : (ws.drop (sp.toNat + 1)).length = ws.length - (sp.toNat + 1) := List.length_drop
  have sc := sum_cut (ws.map (·.length)) sp.toNat
  rw [← List.map_take, ← List.map_drop] at sc
  refine ⟨by omega, by rw [List.length_append, t1, t2]; simp only [List.length_cons, List.length_nil]; omega, ?_⟩
  rw [List.map_append, List.map_append, List.sum_append, List.sum_append]
  simp only [List.map_cons, List.map_nil, List.sum_cons, List.sum_nil]
  omega
theorem odds_ch : ∀ o ∈ odds27, Ch o := by
  have h : (odds27.all fun o => o.cps.all (· < 256)) = true := by decide +kernel
  intro o ho
  exact ch_lit0 (List.all_eq_true.mp h o ho)
theorem bent_all (b : Bag) {s : Str} (h : s.length ≤ 100000) (hs : Ch s) : m_bent_ok b s ∧ (m_bent b s).1.length ≤ 2 * s.length + 110 ∧ Ch (m_bent b s).1 := by
  have ls : (Str.ofString " ").length = 1 := by decide +kernel
  have lz : s.length ≤ sizeLine := by rw [sizeLine_eq]; omega
  have p1 := pick_lt b (n := (odds27.length : Int)) (by decide)
  have o26 : (odds27.length : Int) = 26 := by decide +kernel
  have odd : (nth odds27 ((m_pick b (odds27.length : Int)).1)).length ≤ 101 := odds_len _ (nth_mem p1)
  have oddc : Ch (nth odds27 ((m_pick b (odds27.length : Int)).1)) := odds_ch _ (nth_mem p1)
  have p2 := pick_lt (m_pick b (odds27.length : Int)).2 (n := (s.length : Int) + 1) (by omega)
  have p3 := pick_lt (m_pick (m_pick b (odds27.length : Int)).2 ((s.length : Int) + 1)).2 (n := 4) (by decide)
  have u : ∀ {odd : Str} {at' way : Int} {b8 : Bag}, odd.length ≤ 101 → Ch odd → m_bent_u1 s odd at' way b8 ∧ (m_bent_t1 s odd at' way b8).1.length ≤ 2 * s.length + 110 ∧ Ch (m_bent_t1 s odd at' way b8).1 := by
    intro odd at' way b8 ho hoc
    have x1 := fun lo hi => ch_cut hs lo hi
    have lo : odd.length ≤ sizeLine := by rw [sizeLine_eq]; omega
    have k1 := cutS_length s none (some at')
    have k2 := cutS_length s (some at') none
    have k3 := cutS_length s (some ((at' + 1) + ((m_pick b8 3).1))) none
    have k4 := cutS_length s (some (at' + (odd.length : Int))) none
    obtain ⟨ws, hws⟩ : ∃ ws, ws = Txt.split s (Str.ofString " ") := ⟨_, rfl⟩
    have wne : 0 < ws.length := by
      rw [hws]
      exact List.length_pos_iff.mpr (split_ne sep1)
    have sp := pick_lt b8 (n := (ws.length : Int)) (by omega)
    obtain ⟨w1, w2, w3⟩ := words27 h ho hws sp
    obtain ⟨l1, _, _⟩ := split_le (x := s) sep1
    rw [← hws] at l1
    refine ⟨⟨fun _ => ⟨lz, by omega, lz, by rw [len_app]; omega, trivial⟩, fun _ => ⟨fun _ => ⟨lz, pickk _ (by decide) (by decide), lz, by omega, trivial⟩, fun _ => ⟨fun _ => ⟨lz, by omega, lo, lz, by rw [len_app]; omega, trivial⟩, fun _ => ⟨⟨by decide +kernel, by rw [sizeLine_eq]; omega⟩, fun W hW => ?_⟩⟩⟩⟩, ?_⟩
    · have hW' : W = ws := hW.trans hws.symm
      subst hW'
      refine ⟨pickk _ (by omega) (by omega), fun sp' hsp b12 _ => ?_⟩
      subst hsp
      refine ⟨w1, by omega, ?_, trivial⟩
      rw [ls, List.length_append]
      omega
    · unfold m_bent_t1
      split
      · dsimp only; exact ⟨by rw [len_app, len_app]; omega, ch_app (ch_app (x1 _ _) hoc) (x1 _ _)⟩
      · split
        · dsimp only; exact ⟨by rw [len_app]; omega, ch_app (x1 _ _) (x1 _ _)⟩
        · split
          · dsimp only; exact ⟨by rw [len_app, len_app]; omega, ch_app (ch_app (x1 _ _) hoc) (x1 _ _)⟩
          · dsimp only
            rw [← hws]
            refine ⟨?_, ch_join (ch_lit0 (by decide +kernel)) fun p hp => ?_⟩
            rotate_left
            · have wc := ch_split sep1 hs
              rw [← hws] at wc
              rw [cut_take ws (by omega), cut_drop ws (by omega)] at hp
              rcases List.mem_append.mp hp with m | m
              · rcases List.mem_append.mp m with m | m
                · exact wc p (List.mem_of_mem_take m)
                · rw [List.mem_singleton] at m
                  subst m; exact hoc
              · exact wc p (List.mem_of_mem_drop m)
            have := join_le (Str.ofString " ") (((cutL ws none (some (m_pick b8 (ws.length : Int)).1)) ++ ([odd] : List Str)) ++ (cutL ws (some ((m_pick b8 (ws.length : Int)).1 + 1)) none))
            rw [ls, List.length_append] at this
            omega
  constructor
  · refine fun o3 e3 => ⟨by rw [e3]; decide, fun o4 e4 => ⟨by decide +kernel, by rw [e4, e3]; decide, fun o5 e5 => ?_⟩⟩
    have e : o5 = odds27 := by rw [e5, e4, e3]
    clear e5 e4 e3
    subst e
    refine ⟨pickk _ (by decide) (by decide), p1, fun od hod b6 hb6 => ⟨lz, pickk _ (by omega) (by omega), pickk _ (by decide) (by decide), fun a _ w _ b8 _ => (u (by rw [hod]; exact odd) (by rw [hod]; exact oddc)).1⟩⟩
  · exact (u (odd := nth odds27 ((m_pick b (odds27.length : Int)).1)) (at' := (m_pick (m_pick b (odds27.length : Int)).2 ((s.length : Int) + 1)).1) (way := (m_pick (m_pick (m_pick b (odds27.length : Int)).2 ((s.length : Int) + 1)).2 4).1) (b8 := (m_pick (m_pick (m_pick b (odds27.length : Int)).2 ((s.length : Int) + 1)).2 4).2) odd oddc).2
theorem body27 (s : Bag) (x : Int) : m_law_o2 s x := by
  refine fun w hw => ?_
  have hw' : w = 0 ∨ w = 1 := by omega
  obtain ⟨d1, d2, d3⟩ := drawn_all s (w := w)
  refine ⟨d1, fun t ht b _ => ?_⟩
  rw [← ht] at d2 d3
  have p := pick_lt b (n := 3) (by decide)
  obtain ⟨g1, g2⟩ := okF_invB (ok := m_law_o3) (b := m_law_b3) (m := 2) (fun n st => ((n = 0 → st.2.length ≤ 2000) ∧ (n = 1 → st.2.length ≤ 4110) ∧ (n = 2 → st.2.length ≤ 8330)) ∧ Ch st.2) (l := rng 0 ((m_pick b 3).1)) (s := ((m_pick b 3).2, t)) (n := 0) (by rw [len_rng]; omega) ⟨⟨fun _ => d2, fun e => by omega, fun e => by omega⟩, d3⟩ fun n st y hy hn hI => by
    obtain ⟨hI, hI2⟩ := hI
    obtain ⟨c1, c2, c3⟩ := bent_all st.1 (s := st.2) (by omega) hI2
    refine ⟨⟨c1, fun _ _ _ _ => trivial⟩, ?_⟩
    have e : (m_law_b3 st y).2 = (m_bent st.1 st.2).1 := rfl
    rw [e]
    exact ⟨by omega, c3⟩
  obtain ⟨g2, g3⟩ := g2
  refine ⟨pickk _ (by decide) (by decide), by omega, g1, fun f hf => ?_⟩
  rw [← hf] at g2 g3
  have lf : f.2.length ≤ 8330 := by
    rw [len_rng] at g2
    omega
  obtain ⟨w1, w2, w3, w4, w5⟩ := word_all hw' (s := f.2) (by omega) g3
  refine ⟨w3, w4, fun du hdu => ?_⟩
  have hdu' : du = due27 w f.2 := hdu
  rw [← hdu'] at w2 w5
  have sm : (!du.isSome) = false → 0 ≤ unO du ∧ unO du ≤ 1000001 := fun z => by
    cases du with
    | none => cases z
    | some v => exact w5 v rfl
  have g12 : (Str.ofString "InvalidText ").length = 12 := by decide +kernel
  refine ⟨w1, fun z => by simpa using z, fun z => log_strI (by have := sm z; omega), fun z => ?_, ?_, trivial⟩
  · have := len_strI (i := unO du) (by have := sm z; omega)
    omega
  · rw [w2, decide_eq_true rfl]; rfl
theorem bad27 (s : Unit) {u : U} (h : u.ty ≠ 3) : m_law_o4 s u := by
  have o := fun w => odd_all h w
  have sc : (PyData.str (Str.ofString "InvalidText None")).canLay0 = true := by decide +kernel
  have e1 : List.map (fun (x_21 : Int) => m_word x_21 u) ([0, 1] : List Int) = [Str.ofString "InvalidText None", Str.ofString "InvalidText None"] := by
    rw [List.map_cons, List.map_cons, List.map_nil, (o 0).2, (o 1).2]
  have e2 : (List.replicate (Int.toNat (2 : Int)) ([(Str.ofString "InvalidText None")] : List Str)).flatten = [Str.ofString "InvalidText None", Str.ofString "InvalidText None"] := rfl
  refine ⟨fun x _ => (o x).1, by decide, ⟨by decide, by decide, by show 1 ≤ 1000; decide⟩, ?_, ?_, trivial⟩
  · rw [e1, e2]
    exact ⟨strs2 sc, strs2 sc⟩
  · rw [e1, e2, decide_eq_true rfl]; rfl
/-! the last texts -/
abbrev many27 : Str := Txt.join (Str.ofString ", ") (List.map (fun (x_24 : Int) => ((strI (2 * x_24)) ++ (Str.ofString "-")) ++ (strI ((2 * x_24) + 1))) (rng 0 14))
abbrev sps27 : List Str := [many27, (Str.ofString "0-5, 4-9"), (Str.ofString "0-5, 5-9"), (Str.ofString "0-5,"), (Str.ofString "5-5"), (Str.ofString "9-5"), (Str.ofString "0-1, "), (Str.ofString "-1-5")]
abbrev tbs27 : List Str := [(Str.ofString ""), (Str.ofString "2"), (Str.ofString "2 1"), (Str.ofString "2 1 0 0"), (Str.ofString "2 1 0 x"), (Str.ofString "0 1 0"), (Str.ofString "2 4 0"), (Str.ofString "2 1 -1"), (Str.ofString "2 0 x")]
abbrev dus27 : List (Option Int) := [some 12, some 1, (none : Option Int), some 0, some 0, some 0, some 1, some 0, some 0, some 1, some 2, some 3, some 3, some 0, some 1, some 2, some 1]
theorem dus_eq : List.map (fun s => m_spans_due s) sps27 ++ List.map (fun s => m_table_due s) tbs27 = dus27 := by decide +kernel
theorem sps_len : ∀ s ∈ sps27, s.length ≤ 1000000 := by
  have h : (sps27.all fun o => decide (o.length ≤ 1000000)) = true := by decide +kernel
  intro o ho
  exact of_decide_eq_true (List.all_eq_true.mp h o ho)
theorem tbs_len : ∀ s ∈ tbs27, s.length ≤ 1000000 := by
  have h : (tbs27.all fun o => decide (o.length ≤ 1000000)) = true := by decide +kernel
  intro o ho
  exact of_decide_eq_true (List.all_eq_true.mp h o ho)
theorem sps_ch : ∀ s ∈ sps27, Ch s := by
  have h : (sps27.all fun o => o.cps.all (· < 256)) = true := by decide +kernel
  intro o ho
  exact ch_lit0 (List.all_eq_true.mp h o ho)
theorem tbs_ch : ∀ s ∈ tbs27, Ch s := by
  have h : (tbs27.all fun o => o.cps.all (· < 256)) = true := by decide +kernel
  intro o ho
  exact ch_lit0 (List.all_eq_true.mp h o ho)
theorem told27 : List.map (fun (x_26 : Str) => m_word 1 (U.str x_26)) sps27 ++ List.map (fun (x_29 : Str) => m_word 0 (U.str x_29)) tbs27 = List.map wrd dus27 := by
  have a : List.map (fun (x_26 : Str) => m_word 1 (U.str x_26)) sps27 = List.map wrd (List.map (fun s => m_spans_due s) sps27) := by
    rw [List.map_map]
    exact List.map_congr_left fun s hs => (word_all (.inr rfl) (sps_len s hs) (sps_ch s hs)).2.1
  have b : List.map (fun (x_26 : Str) => m_word 0 (U.str x_26)) tbs27 = List.map wrd (List.map (fun s => m_table_due s) tbs27) := by
    rw [List.map_map]
    exact List.map_congr_left fun s hs => (word_all (.inl rfl) (tbs_len s hs) (tbs_ch s hs)).2.1
  rw [a, b, ← List.map_append, dus_eq]
theorem law_ok_all (ns : List Int) (hl : ns.length ≤ 63) (hb : ∀ z ∈ ns, Builtin.Int.intBits z ≤ 1048576) : m_law_ok ns := by
  have hc : (cutL ns none (some 6)).length ≤ 63 := by
    rw [cut_take' _ (k := 6) (by decide), List.length_take]; omega
  have ls : (Str.ofString "-").length = 1 := by decide +kernel
  have lc : (Str.ofString ", ").length = 2 := by decide +kernel
  have r14 : rng 0 14 = [0, 1, 2, 3, 4, 5, 6, 7, 8, 9, 10, 11, 12, 13] := by decide +kernel
  have g12 : (Str.ofString "InvalidText ").length = 12 := by decide +kernel
  have db : ∀ x ∈ dus27, (!x.isSome) = false → 0 ≤ unO x ∧ unO x ≤ 100 := by
    intro x hx
    have h : (dus27.all fun x => x.isSome == false || (decide (0 ≤ unO x) && decide (unO x ≤ 100))) = true := by decide +kernel
    have := List.all_eq_true.mp h x hx
    intro z
    have z' : x.isSome = true := by simpa using z
    rw [z'] at this
    have t : (decide (0 ≤ unO x) && decide (unO x ≤ 100)) = true := this
    rw [Bool.and_eq_true, decide_eq_true_iff, decide_eq_true_iff] at t
    exact t
  refine ⟨by simp only [List.length_cons, List.length_nil]; omega, ?_, fun f _ => ⟨?_, ?_, ?_, ?_, by rw [len_rng]; decide, by decide +kernel, fun many hm => ?_⟩⟩
  · refine (okF_I (fun _ => True) trivial fun s x _ _ => ⟨⟨trivial, fun b _ => ⟨(okF_I (fun _ => True) trivial fun s x _ _ => ⟨body27 s x, trivial⟩).1, fun _ _ => ⟨?_, fun _ _ => trivial⟩⟩⟩, trivial⟩).1
    refine (okF_I (fun _ => True) trivial fun s u hu _ => ⟨bad27 s ?_, trivial⟩).1
    simp only [List.mem_cons, List.not_mem_nil, or_false] at hu
    rcases hu with rfl | rfl | rfl | rfl | rfl | rfl | rfl | rfl <;> simp [U.ty]
  · intro x hx
    have := mem_rng.mp hx
    exact log_strI (by omega)
  · intro x hx
    have := mem_rng.mp hx
    have := len_strI (i := 2 * x) (by omega)
    omega
  · intro x hx
    have := mem_rng.mp hx
    exact log_strI (by omega)
  · intro x hx
    have := mem_rng.mp hx
    have := len_strI (i := 2 * x) (by omega)
    have := len_strI (i := 2 * x + 1) (by omega)
    rw [len_app]; omega
  · have hm' : many = many27 := hm
    subst hm'
    refine ⟨fun s hs => (word_all (.inr rfl) (sps_len s hs) (sps_ch s hs)).1, by decide, fun t27 h27 t28 h28 => ?_⟩
    have h28' : t28 = tbs27 := h28
    subst h28'
    refine ⟨fun s hs => (word_all (.inl rfl) (tbs_len s hs) (tbs_ch s hs)).1, by decide, by rw [h27, List.length_map, List.length_map]; decide, fun t30 h30 du hdu => ?_⟩
    have hdu' : du = dus27 := hdu
    subst hdu'
    refine ⟨fun x _ z => by simpa using z, fun x hx z => log_strI (by have := db x hx z; omega), fun x hx z => ?_, by decide, ⟨?_, ?_⟩, trivial⟩
    · have := len_strI (i := unO x) (by have := db x hx z; omega)
      omega
    · have : t30 = List.map wrd dus27 := by rw [h30, h27]; exact told27
      rw [this]
      show (PyData.list ((List.map wrd dus27).map PyData.str)).canLay0 = true
      decide +kernel
    · show (PyData.list ((List.map wrd dus27).map PyData.str)).canLay0 = true
      decide +kernel
theorem law_true (ns : List Int) (hl : ns.length ≤ 63) (hb : ∀ z ∈ ns, Builtin.Int.intBits z ≤ 1048576) : m_law ns = true := by
  unfold m_law
  dsimp only
  exact decide_eq_true told27
end My
end
section
set_option maxRecDepth 100000
set_option maxHeartbeats 8000000
namespace My
open PySem L2 Fw
abbrev s_x0 : Stmt := inClass (top 2) 0
theorem sc_x0 : FnScope ["self", "item"] ["self", "item"] (defScope s_x0) := ⟨rfl, rfl, rfl, by decide +kernel, rfl, by decide +kernel, by decide +kernel⟩
abbrev s_x1 : Stmt := inClass (top 3) 0
theorem sc_x1 : FnScope ["self", "item"] ["self", "item"] (defScope s_x1) := ⟨rfl, rfl, rfl, by decide +kernel, rfl, by decide +kernel, by decide +kernel⟩
abbrev s_x2 : Stmt := inClass (top 4) 0
theorem sc_x2 : FnScope ["self", "part"] ["self", "part"] (defScope s_x2) := ⟨rfl, rfl, rfl, by decide +kernel, rfl, by decide +kernel, by decide +kernel⟩
abbrev s_x3 : Stmt := inClass (top 5) 0
theorem sc_x3 : FnScope ["self", "total"] ["self", "total"] (defScope s_x3) := ⟨rfl, rfl, rfl, by decide +kernel, rfl, by decide +kernel, by decide +kernel⟩

theorem all_mk {l : PySem.W.OpenLaw} {w : World} {K : PySem.W.Frag} {h : Heap} {mg : Str → Option Value} {fa : Addr} (X : K.In h) (G : h.Ns mainGlobals mg) (hfa : mg "law" = some (.ref fa)) {C a_is_int a_is_int__2 a_is_whole a_is_whole__2 a_is_span__2 a_Table___init__ a_whole_in a_fits a_read_table a_span_in a_read_spans a_bag a_pick a_rule a_text a_class a_word a_number a_table_due a_spans_due a_bent a_drawn a_law X0 X1 X2 X3 X4 X5 X6 X7 X8 X9 X10 X11 X12 X13 X14 X15 X16 X17 fX0 fX1 fX2 fX3 : Addr}
    {od0 an0 od1 an1 od2 an2 od3 an3 od4 an4 od5 an5 od6 an6 od7 an7 od8 an8 od9 an9 od10 an10 od11 an11 od12 an12 od13 an13 od14 an14 od15 an15 od16 an16 od17 an17 od18 an18 od19 an19 od20 an20 od21 an21 od22 an22 : Option Addr} {sl0 sl1 sl2 sl3 sl4 sl5 sl6 sl7 sl8 sl9 sl10 sl11 sl12 sl13 sl14 sl15 sl16 sl17 sl18 sl19 sl20 sl21 sl22 : Array (Option Value)} {oc0 kV0 dc0 pm0 cd0 ct0 oc1 kV1 dc1 pm1 cd1 ct1 oc2 kV2 dc2 pm2 cd2 ct2 oc3 kV3 dc3 pm3 cd3 ct3 oc4 kV4 dc4 pm4 cd4 ct4 oc5 kV5 dc5 pm5 cd5 ct5 oc6 kV6 dc6 pm6 cd6 ct6 oc7 kV7 dc7 pm7 cd7 ct7 oc8 kV8 dc8 pm8 cd8 ct8 oc9 kV9 dc9 pm9 cd9 ct9 oc10 kV10 dc10 pm10 cd10 ct10 oc11 kV11 dc11 pm11 cd11 ct11 oc12 kV12 dc12 pm12 cd12 ct12 oc13 kV13 dc13 pm13 cd13 ct13 oc14 kV14 dc14 pm14 cd14 ct14 oc15 kV15 dc15 pm15 cd15 ct15 oc16 kV16 dc16 pm16 cd16 ct16 oc17 kV17 dc17 pm17 cd17 ct17 oc18 kV18 dc18 pm18 cd18 ct18 oc19 kV19 dc19 pm19 cd19 ct19 oc20 kV20 dc20 pm20 cd20 ct20 oc21 kV21 dc21 pm21 cd21 ct21 oc22 kV22 dc22 pm22 cd22 ct22 xoc0 xkV0 xdc0 xpm0 xcd0 xct0 xoc1 xkV1 xdc1 xpm1 xcd1 xct1 xoc2 xkV2 xdc2 xpm2 xcd2 xct2 xoc3 xkV3 xdc3 xpm3 xcd3 xct3 : Value}
    {xod0 xan0 xdd0 xod1 xan1 xdd1 xod2 xan2 xdd2 xod3 xan3 xdd3 : Option Addr} {xsl0 xsl1 xsl2 xsl3 : Array (Option Value)} {xnm0 xq0 xnm1 xq1 xnm2 xq2 xnm3 xq3 : Str} {xN0 xN1 xN2 xN3 : Addr} {xbs0 xbm0 xsu0 xbs1 xbm1 xsu1 xbs2 xbm2 xsu2 xbs3 xbm3 xsu3 : List Value} {xsn0 xsn1 xsn2 xsn3 : List Str} {xab0 xab1 xab2 xab3 : Bool} {xco0 xco1 xco2 xco3 : Option Bool} {xk00 xk10 xk20 xk30 xk50 xk01 xk11 xk21 xk31 xk51 xk02 xk12 xk22 xk32 xk52 xk03 xk13 xk23 xk33 xk53 : Option Value}
    (aC : PySem.W.nsIn K mainGlobals "Table" = some (some (.ref C)))
    (at_is_int : PySem.W.nsIn K mainGlobals "is_int" = some (some (.ref a_is_int)))
    (lk_is_int : K.lookup a_is_int = some ⟨oc0, od0, .func (PySem.W.fnOf "is_int" "is_int" (defArgs s_is_int) (defBody s_is_int) (defScope s_is_int) .none kV0 dc0 pm0 an0 cd0 ct0), sl0⟩)
    (cd_is_int : PySem.W.codeIn K cd0 "is_int" = true)
    (kp_is_int : PySem.W.keepIn K (.ref a_is_int) = true)
    (at_is_int__2 : PySem.W.nsIn K mainGlobals "is_int" = some (some (.ref a_is_int__2)))
    (lk_is_int__2 : K.lookup a_is_int__2 = some ⟨oc1, od1, .func (PySem.W.fnOf "is_int" "is_int" (defArgs s_is_int__2) (defBody s_is_int__2) (defScope s_is_int__2) .none kV1 dc1 pm1 an1 cd1 ct1), sl1⟩)
    (cd_is_int__2 : PySem.W.codeIn K cd1 "is_int" = true)
    (kp_is_int__2 : PySem.W.keepIn K (.ref a_is_int__2) = true)
    (at_is_whole : PySem.W.nsIn K mainGlobals "is_whole" = some (some (.ref a_is_whole)))
    (lk_is_whole : K.lookup a_is_whole = some ⟨oc2, od2, .func (PySem.W.fnOf "is_whole" "is_whole" (defArgs s_is_whole) (defBody s_is_whole) (defScope s_is_whole) .none kV2 dc2 pm2 an2 cd2 ct2), sl2⟩)
    (cd_is_whole : PySem.W.codeIn K cd2 "is_whole" = true)
    (kp_is_whole : PySem.W.keepIn K (.ref a_is_whole) = true)
    (at_is_whole__2 : PySem.W.nsIn K mainGlobals "is_whole" = some (some (.ref a_is_whole__2)))
    (lk_is_whole__2 : K.lookup a_is_whole__2 = some ⟨oc3, od3, .func (PySem.W.fnOf "is_whole" "is_whole" (defArgs s_is_whole__2) (defBody s_is_whole__2) (defScope s_is_whole__2) .none kV3 dc3 pm3 an3 cd3 ct3), sl3⟩)
    (cd_is_whole__2 : PySem.W.codeIn K cd3 "is_whole" = true)
    (kp_is_whole__2 : PySem.W.keepIn K (.ref a_is_whole__2) = true)
    (at_is_span__2 : PySem.W.nsIn K mainGlobals "is_span" = some (some (.ref a_is_span__2)))
    (lk_is_span__2 : K.lookup a_is_span__2 = some ⟨oc4, od4, .func (PySem.W.fnOf "is_span" "is_span" (defArgs s_is_span__2) (defBody s_is_span__2) (defScope s_is_span__2) .none kV4 dc4 pm4 an4 cd4 ct4), sl4⟩)
    (cd_is_span__2 : PySem.W.codeIn K cd4 "is_span" = true)
    (kp_is_span__2 : PySem.W.keepIn K (.ref a_is_span__2) = true)
    (at_Table___init__ : PySem.W.findIn K (.ref C) "__init__" = some (some (.ref a_Table___init__)))
    (fn_Table___init__ : PySem.W.isFn K (.ref a_Table___init__) = true)
    (lk_Table___init__ : K.lookup a_Table___init__ = some ⟨oc5, od5, .func (PySem.W.fnOf "__init__" "Table.__init__" (defArgs s_Table___init__) (defBody s_Table___init__) (defScope s_Table___init__) .none kV5 dc5 pm5 an5 cd5 ct5), sl5⟩)
    (cd_Table___init__ : PySem.W.codeIn K cd5 "Table.__init__" = true)
    (kp_Table___init__ : PySem.W.keepIn K (.ref a_Table___init__) = true)
    (at_whole_in : PySem.W.nsIn K mainGlobals "whole_in" = some (some (.ref a_whole_in)))
    (lk_whole_in : K.lookup a_whole_in = some ⟨oc6, od6, .func (PySem.W.fnOf "whole_in" "whole_in" (defArgs s_whole_in) (defBody s_whole_in) (defScope s_whole_in) .none kV6 dc6 pm6 an6 cd6 ct6), sl6⟩)
    (cd_whole_in : PySem.W.codeIn K cd6 "whole_in" = true)
    (kp_whole_in : PySem.W.keepIn K (.ref a_whole_in) = true)
    (at_fits : PySem.W.nsIn K mainGlobals "fits" = some (some (.ref a_fits)))
    (lk_fits : K.lookup a_fits = some ⟨oc7, od7, .func (PySem.W.fnOf "fits" "fits" (defArgs s_fits) (defBody s_fits) (defScope s_fits) .none kV7 dc7 pm7 an7 cd7 ct7), sl7⟩)
    (cd_fits : PySem.W.codeIn K cd7 "fits" = true)
    (kp_fits : PySem.W.keepIn K (.ref a_fits) = true)
    (at_read_table : PySem.W.nsIn K mainGlobals "read_table" = some (some (.ref a_read_table)))
    (lk_read_table : K.lookup a_read_table = some ⟨oc8, od8, .func (PySem.W.fnOf "read_table" "read_table" (defArgs s_read_table) (defBody s_read_table) (defScope s_read_table) .none kV8 dc8 pm8 an8 cd8 ct8), sl8⟩)
    (cd_read_table : PySem.W.codeIn K cd8 "read_table" = true)
    (kp_read_table : PySem.W.keepIn K (.ref a_read_table) = true)
    (at_span_in : PySem.W.nsIn K mainGlobals "span_in" = some (some (.ref a_span_in)))
    (lk_span_in : K.lookup a_span_in = some ⟨oc9, od9, .func (PySem.W.fnOf "span_in" "span_in" (defArgs s_span_in) (defBody s_span_in) (defScope s_span_in) .none kV9 dc9 pm9 an9 cd9 ct9), sl9⟩)
    (cd_span_in : PySem.W.codeIn K cd9 "span_in" = true)
    (kp_span_in : PySem.W.keepIn K (.ref a_span_in) = true)
    (at_read_spans : PySem.W.nsIn K mainGlobals "read_spans" = some (some (.ref a_read_spans)))
    (lk_read_spans : K.lookup a_read_spans = some ⟨oc10, od10, .func (PySem.W.fnOf "read_spans" "read_spans" (defArgs s_read_spans) (defBody s_read_spans) (defScope s_read_spans) .none kV10 dc10 pm10 an10 cd10 ct10), sl10⟩)
    (cd_read_spans : PySem.W.codeIn K cd10 "read_spans" = true)
    (kp_read_spans : PySem.W.keepIn K (.ref a_read_spans) = true)
    (at_bag : PySem.W.nsIn K mainGlobals "_law_bag" = some (some (.ref a_bag)))
    (lk_bag : K.lookup a_bag = some ⟨oc11, od11, .func (PySem.W.fnOf "_law_bag" "_law_bag" (defArgs s_bag) (defBody s_bag) (defScope s_bag) .none kV11 dc11 pm11 an11 cd11 ct11), sl11⟩)
    (cd_bag : PySem.W.codeIn K cd11 "_law_bag" = true)
    (kp_bag : PySem.W.keepIn K (.ref a_bag) = true)
    (at_pick : PySem.W.nsIn K mainGlobals "_law_pick" = some (some (.ref a_pick)))
    (lk_pick : K.lookup a_pick = some ⟨oc12, od12, .func (PySem.W.fnOf "_law_pick" "_law_pick" (defArgs s_pick) (defBody s_pick) (defScope s_pick) .none kV12 dc12 pm12 an12 cd12 ct12), sl12⟩)
    (cd_pick : PySem.W.codeIn K cd12 "_law_pick" = true)
    (kp_pick : PySem.W.keepIn K (.ref a_pick) = true)
    (at_rule : PySem.W.nsIn K mainGlobals "_law_rule" = some (some (.ref a_rule)))
    (lk_rule : K.lookup a_rule = some ⟨oc13, od13, .func (PySem.W.fnOf "_law_rule" "_law_rule" (defArgs s_rule) (defBody s_rule) (defScope s_rule) .none kV13 dc13 pm13 an13 cd13 ct13), sl13⟩)
    (cd_rule : PySem.W.codeIn K cd13 "_law_rule" = true)
    (kp_rule : PySem.W.keepIn K (.ref a_rule) = true)
    (at_text : PySem.W.nsIn K mainGlobals "_law_text" = some (some (.ref a_text)))
    (lk_text : K.lookup a_text = some ⟨oc14, od14, .func (PySem.W.fnOf "_law_text" "_law_text" (defArgs s_text) (defBody s_text) (defScope s_text) .none kV14 dc14 pm14 an14 cd14 ct14), sl14⟩)
    (cd_text : PySem.W.codeIn K cd14 "_law_text" = true)
    (kp_text : PySem.W.keepIn K (.ref a_text) = true)
    (at_class : PySem.W.nsIn K mainGlobals "_law_class" = some (some (.ref a_class)))
    (lk_class : K.lookup a_class = some ⟨oc15, od15, .func (PySem.W.fnOf "_law_class" "_law_class" (defArgs s_class) (defBody s_class) (defScope s_class) .none kV15 dc15 pm15 an15 cd15 ct15), sl15⟩)
    (cd_class : PySem.W.codeIn K cd15 "_law_class" = true)
    (kp_class : PySem.W.keepIn K (.ref a_class) = true)
    (at_word : PySem.W.nsIn K mainGlobals "_law_word" = some (some (.ref a_word)))
    (lk_word : K.lookup a_word = some ⟨oc16, od16, .func (PySem.W.fnOf "_law_word" "_law_word" (defArgs s_word) (defBody s_word) (defScope s_word) .none kV16 dc16 pm16 an16 cd16 ct16), sl16⟩)
    (cd_word : PySem.W.codeIn K cd16 "_law_word" = true)
    (kp_word : PySem.W.keepIn K (.ref a_word) = true)
    (at_number : PySem.W.nsIn K mainGlobals "_law_number" = some (some (.ref a_number)))
    (lk_number : K.lookup a_number = some ⟨oc17, od17, .func (PySem.W.fnOf "_law_number" "_law_number" (defArgs s_number) (defBody s_number) (defScope s_number) .none kV17 dc17 pm17 an17 cd17 ct17), sl17⟩)
    (cd_number : PySem.W.codeIn K cd17 "_law_number" = true)
    (kp_number : PySem.W.keepIn K (.ref a_number) = true)
    (at_table_due : PySem.W.nsIn K mainGlobals "_law_table_due" = some (some (.ref a_table_due)))
    (lk_table_due : K.lookup a_table_due = some ⟨oc18, od18, .func (PySem.W.fnOf "_law_table_due" "_law_table_due" (defArgs s_table_due) (defBody s_table_due) (defScope s_table_due) .none kV18 dc18 pm18 an18 cd18 ct18), sl18⟩)
    (cd_table_due : PySem.W.codeIn K cd18 "_law_table_due" = true)
    (kp_table_due : PySem.W.keepIn K (.ref a_table_due) = true)
    (at_spans_due : PySem.W.nsIn K mainGlobals "_law_spans_due" = some (some (.ref a_spans_due)))
    (lk_spans_due : K.lookup a_spans_due = some ⟨oc19, od19, .func (PySem.W.fnOf "_law_spans_due" "_law_spans_due" (defArgs s_spans_due) (defBody s_spans_due) (defScope s_spans_due) .none kV19 dc19 pm19 an19 cd19 ct19), sl19⟩)
    (cd_spans_due : PySem.W.codeIn K cd19 "_law_spans_due" = true)
    (kp_spans_due : PySem.W.keepIn K (.ref a_spans_due) = true)
    (at_bent : PySem.W.nsIn K mainGlobals "_law_bent" = some (some (.ref a_bent)))
    (lk_bent : K.lookup a_bent = some ⟨oc20, od20, .func (PySem.W.fnOf "_law_bent" "_law_bent" (defArgs s_bent) (defBody s_bent) (defScope s_bent) .none kV20 dc20 pm20 an20 cd20 ct20), sl20⟩)
    (cd_bent : PySem.W.codeIn K cd20 "_law_bent" = true)
    (kp_bent : PySem.W.keepIn K (.ref a_bent) = true)
    (at_drawn : PySem.W.nsIn K mainGlobals "_law_drawn" = some (some (.ref a_drawn)))
    (lk_drawn : K.lookup a_drawn = some ⟨oc21, od21, .func (PySem.W.fnOf "_law_drawn" "_law_drawn" (defArgs s_drawn) (defBody s_drawn) (defScope s_drawn) .none kV21 dc21 pm21 an21 cd21 ct21), sl21⟩)
    (cd_drawn : PySem.W.codeIn K cd21 "_law_drawn" = true)
    (kp_drawn : PySem.W.keepIn K (.ref a_drawn) = true)
    (at_law : PySem.W.nsIn K mainGlobals "law" = some (some (.ref a_law)))
    (lk_law : K.lookup a_law = some ⟨oc22, od22, .func (PySem.W.fnOf "law" "law" (defArgs s_law) (defBody s_law) (defScope s_law) .none kV22 dc22 pm22 an22 cd22 ct22), sl22⟩)
    (cd_law : PySem.W.codeIn K cd22 "law" = true)
    (kp_law : PySem.W.keepIn K (.ref a_law) = true)
    (oc : PySem.W.isClsIn K C = true)
    (ot : PySem.W.typeIn K (.ref C) = some (.type "type"))
    (os0 : PySem.W.subIn K (.type "NoneType") (.ref C) = some false)
    (os1 : PySem.W.subIn K (.type "int") (.ref C) = some false)
    (os2 : PySem.W.subIn K (.type "bool") (.ref C) = some false)
    (os3 : PySem.W.subIn K (.type "str") (.ref C) = some false)
    (os4 : PySem.W.subIn K (.type "tuple") (.ref C) = some false)
    (os5 : PySem.W.subIn K (.type "list") (.ref C) = some false)
    (os6 : PySem.W.subIn K (.type "dict") (.ref C) = some false)
    (pg : PySem.W.plainGet K C Str.empty = true)
    (hd : PySem.W.hasDictIn K C = true)
    (po : PySem.W.plainOver K C = true)
    (sa : PySem.W.findIn K (.ref C) "__setattr__" = some (some (.builtin "object.__setattr__")))
    (mk : PySem.W.makesIn K C = true)
    (kc : PySem.W.keepIn K (.ref C) = true)
    (nC : PySem.W.findIn K (.ref C) "own_capacity" = some none)
    (nR : PySem.W.findIn K (.ref C) "own_rate" = some none)
    (nS : PySem.W.findIn K (.ref C) "own_shift" = some none)
    (xa : PySem.W.findIn K (.ref C) "__class__" = some (some (.builtin "object.__class__")))
    (xb : PySem.W.specialIn K (.builtin "object.__class__") "__get__" = some (some (.builtin "getset_descriptor.__get__")))
    (xc : PySem.W.takesIn K (.builtin "object.__class__") = some true)
    (xd : PySem.W.mroIn K C (.type "object") = some true)
    (ts0 : PySem.W.subIn K (.ref C) (.type "NoneType") = some false)
    (ts1 : PySem.W.subIn K (.ref C) (.type "int") = some false)
    (ts2 : PySem.W.subIn K (.ref C) (.type "bool") = some false)
    (ts3 : PySem.W.subIn K (.ref C) (.type "str") = some false)
    (ts4 : PySem.W.subIn K (.ref C) (.type "tuple") = some false)
    (ts5 : PySem.W.subIn K (.ref C) (.type "list") = some false)
    (ts6 : PySem.W.subIn K (.ref C) (.type "dict") = some false)
    (xa0 : PySem.W.nsIn K mainGlobals "InvalidSpans" = some (some (.ref X0)))
    (xa1 : PySem.W.nsIn K mainGlobals "InvalidSeen" = some (some (.ref X1)))
    (xa2 : PySem.W.nsIn K mainGlobals "InvalidText" = some (some (.ref X2)))
    (xa3 : PySem.W.nsIn K mainGlobals "OverBudget" = some (some (.ref X3)))
    (xa4 : PySem.W.nsIn K mainGlobals "InvalidCapacity" = some (some (.ref X4)))
    (xa5 : PySem.W.nsIn K mainGlobals "InvalidRate" = some (some (.ref X5)))
    (xa6 : PySem.W.nsIn K mainGlobals "InvalidShift" = some (some (.ref X6)))
    (xa7 : PySem.W.nsIn K mainGlobals "InvalidTable" = some (some (.ref X7)))
    (xa8 : PySem.W.nsIn K mainGlobals "InvalidKey" = some (some (.ref X8)))
    (xa9 : PySem.W.nsIn K mainGlobals "InvalidDepth" = some (some (.ref X9)))
    (xa10 : PySem.W.nsIn K mainGlobals "InvalidTail" = some (some (.ref X10)))
    (xa11 : PySem.W.nsIn K mainGlobals "InvalidSpan" = some (some (.ref X11)))
    (xa12 : PySem.W.nsIn K mainGlobals "InvalidNumber" = some (some (.ref X12)))
    (xa13 : PySem.W.nsIn K mainGlobals "InvalidBudget" = some (some (.ref X13)))
    (xa14 : PySem.W.nsIn K mainGlobals "InvalidOperation" = some (some (.ref X14)))
    (xa15 : PySem.W.nsIn K mainGlobals "Nothing" = some (some (.ref X15)))
    (xa16 : PySem.W.nsIn K mainGlobals "InvalidCommand" = some (some (.ref X16)))
    (xa17 : PySem.W.nsIn K mainGlobals "HashError" = some (some (.ref X17)))
    (xhn : PySem.W.specialIn K (.builtin "object.__class__") "__get__" = some (some (.builtin "getset_descriptor.__get__")))
    (xht : PySem.W.takesIn K (.builtin "object.__class__") = some true)
    (xc0 : PySem.W.isClsIn K X0 = true ∧ PySem.W.findIn K (.ref X0) "__getattribute__" = some (some (.builtin "BaseException.__getattribute__")) ∧ PySem.W.findIn K (.ref X0) "__getattr__" = some none ∧ PySem.W.subIn K (.ref X0) (.type "BaseException") = some true ∧ PySem.W.hasDictIn K X0 = true ∧ PySem.W.findIn K (.ref X0) "__class__" = some (some (.builtin "object.__class__")) ∧ PySem.W.mroIn K X0 (.type "object") = some true ∧ PySem.W.typeIn K (.ref X0) = some (.type "type") ∧ PySem.W.keepIn K (.ref X0) = true ∧ PySem.W.subIn K (.ref X0) (.type "ValueError") = some true)
    (xs0 : PySem.W.subIn K (.ref X0) (.ref X0) = some true ∧ PySem.W.subIn K (.ref X0) (.ref X1) = some false ∧ PySem.W.subIn K (.ref X0) (.ref X2) = some false ∧ PySem.W.subIn K (.ref X0) (.ref X3) = some false ∧ PySem.W.subIn K (.ref X0) (.ref X4) = some false ∧ PySem.W.subIn K (.ref X0) (.ref X5) = some false ∧ PySem.W.subIn K (.ref X0) (.ref X6) = some false ∧ PySem.W.subIn K (.ref X0) (.ref X7) = some false ∧ PySem.W.subIn K (.ref X0) (.ref X8) = some false ∧ PySem.W.subIn K (.ref X0) (.ref X9) = some false ∧ PySem.W.subIn K (.ref X0) (.ref X10) = some false ∧ PySem.W.subIn K (.ref X0) (.ref X11) = some false ∧ PySem.W.subIn K (.ref X0) (.ref X12) = some false ∧ PySem.W.subIn K (.ref X0) (.ref X13) = some false ∧ PySem.W.subIn K (.ref X0) (.ref X14) = some false ∧ PySem.W.subIn K (.ref X0) (.ref X15) = some false ∧ PySem.W.subIn K (.ref X0) (.ref X16) = some false ∧ PySem.W.subIn K (.ref X0) (.ref X17) = some true)
    (xno0 : PySem.W.findIn K (.ref X0) "item" = some none)
    (xsa0 : PySem.W.findIn K (.ref X0) "__setattr__" = some (some (.builtin "object.__setattr__")))
    (xic0 : PySem.W.findIn K (.ref X0) "__init__" = some (some (.ref fX0)))
    (xit0 : PySem.W.typeIn K (.ref fX0) = some (.type "function"))
    (xlk0 : K.lookup fX0 = some ⟨xoc0, xod0, .func (PySem.W.fnOf "__init__" "InvalidSpans.__init__" (defArgs s_x0) (defBody s_x0) (defScope s_x0) .none xkV0 xdc0 xpm0 xan0 xcd0 xct0), xsl0⟩)
    (xcd_0 : PySem.W.codeIn K xcd0 "InvalidSpans.__init__" = true)
    (xik0 : PySem.W.keepIn K (.ref fX0) = true)
    (xls0 : K.lookup X0 = some (excClassObj xnm0 xq0 X0 xN0 xbs0 xbm0 true xsn0 xsu0 xab0 xco0 xdd0 xk00 xk10 xk20 xk30 xk50 "ValueError.__new__"))
    (xrv0 : PySem.HandSPX.refsVE xbm0 = true)
    (xc1 : PySem.W.isClsIn K X1 = true ∧ PySem.W.findIn K (.ref X1) "__getattribute__" = some (some (.builtin "BaseException.__getattribute__")) ∧ PySem.W.findIn K (.ref X1) "__getattr__" = some none ∧ PySem.W.subIn K (.ref X1) (.type "BaseException") = some true ∧ PySem.W.hasDictIn K X1 = true ∧ PySem.W.findIn K (.ref X1) "__class__" = some (some (.builtin "object.__class__")) ∧ PySem.W.mroIn K X1 (.type "object") = some true ∧ PySem.W.typeIn K (.ref X1) = some (.type "type") ∧ PySem.W.keepIn K (.ref X1) = true ∧ PySem.W.subIn K (.ref X1) (.type "ValueError") = some true)
    (xs1 : PySem.W.subIn K (.ref X1) (.ref X0) = some false ∧ PySem.W.subIn K (.ref X1) (.ref X1) = some true ∧ PySem.W.subIn K (.ref X1) (.ref X2) = some false ∧ PySem.W.subIn K (.ref X1) (.ref X3) = some false ∧ PySem.W.subIn K (.ref X1) (.ref X4) = some false ∧ PySem.W.subIn K (.ref X1) (.ref X5) = some false ∧ PySem.W.subIn K (.ref X1) (.ref X6) = some false ∧ PySem.W.subIn K (.ref X1) (.ref X7) = some false ∧ PySem.W.subIn K (.ref X1) (.ref X8) = some false ∧ PySem.W.subIn K (.ref X1) (.ref X9) = some false ∧ PySem.W.subIn K (.ref X1) (.ref X10) = some false ∧ PySem.W.subIn K (.ref X1) (.ref X11) = some false ∧ PySem.W.subIn K (.ref X1) (.ref X12) = some false ∧ PySem.W.subIn K (.ref X1) (.ref X13) = some false ∧ PySem.W.subIn K (.ref X1) (.ref X14) = some false ∧ PySem.W.subIn K (.ref X1) (.ref X15) = some false ∧ PySem.W.subIn K (.ref X1) (.ref X16) = some false ∧ PySem.W.subIn K (.ref X1) (.ref X17) = some true)
    (xno1 : PySem.W.findIn K (.ref X1) "item" = some none)
    (xsa1 : PySem.W.findIn K (.ref X1) "__setattr__" = some (some (.builtin "object.__setattr__")))
    (xic1 : PySem.W.findIn K (.ref X1) "__init__" = some (some (.ref fX1)))
    (xit1 : PySem.W.typeIn K (.ref fX1) = some (.type "function"))
    (xlk1 : K.lookup fX1 = some ⟨xoc1, xod1, .func (PySem.W.fnOf "__init__" "InvalidSeen.__init__" (defArgs s_x1) (defBody s_x1) (defScope s_x1) .none xkV1 xdc1 xpm1 xan1 xcd1 xct1), xsl1⟩)
    (xcd_1 : PySem.W.codeIn K xcd1 "InvalidSeen.__init__" = true)
    (xik1 : PySem.W.keepIn K (.ref fX1) = true)
    (xls1 : K.lookup X1 = some (excClassObj xnm1 xq1 X1 xN1 xbs1 xbm1 true xsn1 xsu1 xab1 xco1 xdd1 xk01 xk11 xk21 xk31 xk51 "ValueError.__new__"))
    (xrv1 : PySem.HandSPX.refsVE xbm1 = true)
    (xc2 : PySem.W.isClsIn K X2 = true ∧ PySem.W.findIn K (.ref X2) "__getattribute__" = some (some (.builtin "BaseException.__getattribute__")) ∧ PySem.W.findIn K (.ref X2) "__getattr__" = some none ∧ PySem.W.subIn K (.ref X2) (.type "BaseException") = some true ∧ PySem.W.hasDictIn K X2 = true ∧ PySem.W.findIn K (.ref X2) "__class__" = some (some (.builtin "object.__class__")) ∧ PySem.W.mroIn K X2 (.type "object") = some true ∧ PySem.W.typeIn K (.ref X2) = some (.type "type") ∧ PySem.W.keepIn K (.ref X2) = true ∧ PySem.W.subIn K (.ref X2) (.type "ValueError") = some true)
    (xs2 : PySem.W.subIn K (.ref X2) (.ref X0) = some false ∧ PySem.W.subIn K (.ref X2) (.ref X1) = some false ∧ PySem.W.subIn K (.ref X2) (.ref X2) = some true ∧ PySem.W.subIn K (.ref X2) (.ref X3) = some false ∧ PySem.W.subIn K (.ref X2) (.ref X4) = some false ∧ PySem.W.subIn K (.ref X2) (.ref X5) = some false ∧ PySem.W.subIn K (.ref X2) (.ref X6) = some false ∧ PySem.W.subIn K (.ref X2) (.ref X7) = some false ∧ PySem.W.subIn K (.ref X2) (.ref X8) = some false ∧ PySem.W.subIn K (.ref X2) (.ref X9) = some false ∧ PySem.W.subIn K (.ref X2) (.ref X10) = some false ∧ PySem.W.subIn K (.ref X2) (.ref X11) = some false ∧ PySem.W.subIn K (.ref X2) (.ref X12) = some false ∧ PySem.W.subIn K (.ref X2) (.ref X13) = some false ∧ PySem.W.subIn K (.ref X2) (.ref X14) = some false ∧ PySem.W.subIn K (.ref X2) (.ref X15) = some false ∧ PySem.W.subIn K (.ref X2) (.ref X16) = some false ∧ PySem.W.subIn K (.ref X2) (.ref X17) = some true)
    (xno2 : PySem.W.findIn K (.ref X2) "part" = some none)
    (xsa2 : PySem.W.findIn K (.ref X2) "__setattr__" = some (some (.builtin "object.__setattr__")))
    (xic2 : PySem.W.findIn K (.ref X2) "__init__" = some (some (.ref fX2)))
    (xit2 : PySem.W.typeIn K (.ref fX2) = some (.type "function"))
    (xlk2 : K.lookup fX2 = some ⟨xoc2, xod2, .func (PySem.W.fnOf "__init__" "InvalidText.__init__" (defArgs s_x2) (defBody s_x2) (defScope s_x2) .none xkV2 xdc2 xpm2 xan2 xcd2 xct2), xsl2⟩)
    (xcd_2 : PySem.W.codeIn K xcd2 "InvalidText.__init__" = true)
    (xik2 : PySem.W.keepIn K (.ref fX2) = true)
    (xls2 : K.lookup X2 = some (excClassObj xnm2 xq2 X2 xN2 xbs2 xbm2 true xsn2 xsu2 xab2 xco2 xdd2 xk02 xk12 xk22 xk32 xk52 "ValueError.__new__"))
    (xrv2 : PySem.HandSPX.refsVE xbm2 = true)
    (xc3 : PySem.W.isClsIn K X3 = true ∧ PySem.W.findIn K (.ref X3) "__getattribute__" = some (some (.builtin "BaseException.__getattribute__")) ∧ PySem.W.findIn K (.ref X3) "__getattr__" = some none ∧ PySem.W.subIn K (.ref X3) (.type "BaseException") = some true ∧ PySem.W.hasDictIn K X3 = true ∧ PySem.W.findIn K (.ref X3) "__class__" = some (some (.builtin "object.__class__")) ∧ PySem.W.mroIn K X3 (.type "object") = some true ∧ PySem.W.typeIn K (.ref X3) = some (.type "type") ∧ PySem.W.keepIn K (.ref X3) = true ∧ PySem.W.subIn K (.ref X3) (.type "ValueError") = some true)
    (xs3 : PySem.W.subIn K (.ref X3) (.ref X0) = some false ∧ PySem.W.subIn K (.ref X3) (.ref X1) = some false ∧ PySem.W.subIn K (.ref X3) (.ref X2) = some false ∧ PySem.W.subIn K (.ref X3) (.ref X3) = some true ∧ PySem.W.subIn K (.ref X3) (.ref X4) = some false ∧ PySem.W.subIn K (.ref X3) (.ref X5) = some false ∧ PySem.W.subIn K (.ref X3) (.ref X6) = some false ∧ PySem.W.subIn K (.ref X3) (.ref X7) = some false ∧ PySem.W.subIn K (.ref X3) (.ref X8) = some false ∧ PySem.W.subIn K (.ref X3) (.ref X9) = some false ∧ PySem.W.subIn K (.ref X3) (.ref X10) = some false ∧ PySem.W.subIn K (.ref X3) (.ref X11) = some false ∧ PySem.W.subIn K (.ref X3) (.ref X12) = some false ∧ PySem.W.subIn K (.ref X3) (.ref X13) = some false ∧ PySem.W.subIn K (.ref X3) (.ref X14) = some false ∧ PySem.W.subIn K (.ref X3) (.ref X15) = some false ∧ PySem.W.subIn K (.ref X3) (.ref X16) = some false ∧ PySem.W.subIn K (.ref X3) (.ref X17) = some true)
    (xno3 : PySem.W.findIn K (.ref X3) "total" = some none)
    (xsa3 : PySem.W.findIn K (.ref X3) "__setattr__" = some (some (.builtin "object.__setattr__")))
    (xic3 : PySem.W.findIn K (.ref X3) "__init__" = some (some (.ref fX3)))
    (xit3 : PySem.W.typeIn K (.ref fX3) = some (.type "function"))
    (xlk3 : K.lookup fX3 = some ⟨xoc3, xod3, .func (PySem.W.fnOf "__init__" "OverBudget.__init__" (defArgs s_x3) (defBody s_x3) (defScope s_x3) .none xkV3 xdc3 xpm3 xan3 xcd3 xct3), xsl3⟩)
    (xcd_3 : PySem.W.codeIn K xcd3 "OverBudget.__init__" = true)
    (xik3 : PySem.W.keepIn K (.ref fX3) = true)
    (xls3 : K.lookup X3 = some (excClassObj xnm3 xq3 X3 xN3 xbs3 xbm3 true xsn3 xsu3 xab3 xco3 xdd3 xk03 xk13 xk23 xk33 xk53 "ValueError.__new__"))
    (xrv3 : PySem.HandSPX.refsVE xbm3 = true)
    (xc4 : PySem.W.isClsIn K X4 = true ∧ PySem.W.findIn K (.ref X4) "__getattribute__" = some (some (.builtin "BaseException.__getattribute__")) ∧ PySem.W.findIn K (.ref X4) "__getattr__" = some none ∧ PySem.W.subIn K (.ref X4) (.type "BaseException") = some true ∧ PySem.W.hasDictIn K X4 = true ∧ PySem.W.findIn K (.ref X4) "__class__" = some (some (.builtin "object.__class__")) ∧ PySem.W.mroIn K X4 (.type "object") = some true ∧ PySem.W.typeIn K (.ref X4) = some (.type "type") ∧ PySem.W.keepIn K (.ref X4) = true ∧ PySem.W.subIn K (.ref X4) (.type "ValueError") = some true)
    (xs4 : PySem.W.subIn K (.ref X4) (.ref X0) = some false ∧ PySem.W.subIn K (.ref X4) (.ref X1) = some false ∧ PySem.W.subIn K (.ref X4) (.ref X2) = some false ∧ PySem.W.subIn K (.ref X4) (.ref X3) = some false ∧ PySem.W.subIn K (.ref X4) (.ref X4) = some true ∧ PySem.W.subIn K (.ref X4) (.ref X5) = some false ∧ PySem.W.subIn K (.ref X4) (.ref X6) = some false ∧ PySem.W.subIn K (.ref X4) (.ref X7) = some false ∧ PySem.W.subIn K (.ref X4) (.ref X8) = some false ∧ PySem.W.subIn K (.ref X4) (.ref X9) = some false ∧ PySem.W.subIn K (.ref X4) (.ref X10) = some false ∧ PySem.W.subIn K (.ref X4) (.ref X11) = some false ∧ PySem.W.subIn K (.ref X4) (.ref X12) = some false ∧ PySem.W.subIn K (.ref X4) (.ref X13) = some false ∧ PySem.W.subIn K (.ref X4) (.ref X14) = some false ∧ PySem.W.subIn K (.ref X4) (.ref X15) = some false ∧ PySem.W.subIn K (.ref X4) (.ref X16) = some false ∧ PySem.W.subIn K (.ref X4) (.ref X17) = some true)
    (xe4 : PySem.W.excIn K X4 [.type "ValueError", .type "Exception", .type "BaseException", .type "object"] "ValueError.__new__" = true)
    (xc5 : PySem.W.isClsIn K X5 = true ∧ PySem.W.findIn K (.ref X5) "__getattribute__" = some (some (.builtin "BaseException.__getattribute__")) ∧ PySem.W.findIn K (.ref X5) "__getattr__" = some none ∧ PySem.W.subIn K (.ref X5) (.type "BaseException") = some true ∧ PySem.W.hasDictIn K X5 = true ∧ PySem.W.findIn K (.ref X5) "__class__" = some (some (.builtin "object.__class__")) ∧ PySem.W.mroIn K X5 (.type "object") = some true ∧ PySem.W.typeIn K (.ref X5) = some (.type "type") ∧ PySem.W.keepIn K (.ref X5) = true ∧ PySem.W.subIn K (.ref X5) (.type "ValueError") = some true)
    (xs5 : PySem.W.subIn K (.ref X5) (.ref X0) = some false ∧ PySem.W.subIn K (.ref X5) (.ref X1) = some false ∧ PySem.W.subIn K (.ref X5) (.ref X2) = some false ∧ PySem.W.subIn K (.ref X5) (.ref X3) = some false ∧ PySem.W.subIn K (.ref X5) (.ref X4) = some false ∧ PySem.W.subIn K (.ref X5) (.ref X5) = some true ∧ PySem.W.subIn K (.ref X5) (.ref X6) = some false ∧ PySem.W.subIn K (.ref X5) (.ref X7) = some false ∧ PySem.W.subIn K (.ref X5) (.ref X8) = some false ∧ PySem.W.subIn K (.ref X5) (.ref X9) = some false ∧ PySem.W.subIn K (.ref X5) (.ref X10) = some false ∧ PySem.W.subIn K (.ref X5) (.ref X11) = some false ∧ PySem.W.subIn K (.ref X5) (.ref X12) = some false ∧ PySem.W.subIn K (.ref X5) (.ref X13) = some false ∧ PySem.W.subIn K (.ref X5) (.ref X14) = some false ∧ PySem.W.subIn K (.ref X5) (.ref X15) = some false ∧ PySem.W.subIn K (.ref X5) (.ref X16) = some false ∧ PySem.W.subIn K (.ref X5) (.ref X17) = some true)
    (xe5 : PySem.W.excIn K X5 [.type "ValueError", .type "Exception", .type "BaseException", .type "object"] "ValueError.__new__" = true)
    (xc6 : PySem.W.isClsIn K X6 = true ∧ PySem.W.findIn K (.ref X6) "__getattribute__" = some (some (.builtin "BaseException.__getattribute__")) ∧ PySem.W.findIn K (.ref X6) "__getattr__" = some none ∧ PySem.W.subIn K (.ref X6) (.type "BaseException") = some true ∧ PySem.W.hasDictIn K X6 = true ∧ PySem.W.findIn K (.ref X6) "__class__" = some (some (.builtin "object.__class__")) ∧ PySem.W.mroIn K X6 (.type "object") = some true ∧ PySem.W.typeIn K (.ref X6) = some (.type "type") ∧ PySem.W.keepIn K (.ref X6) = true ∧ PySem.W.subIn K (.ref X6) (.type "ValueError") = some true)
    (xs6 : PySem.W.subIn K (.ref X6) (.ref X0) = some false ∧ PySem.W.subIn K (.ref X6) (.ref X1) = some false ∧ PySem.W.subIn K (.ref X6) (.ref X2) = some false ∧ PySem.W.subIn K (.ref X6) (.ref X3) = some false ∧ PySem.W.subIn K (.ref X6) (.ref X4) = some false ∧ PySem.W.subIn K (.ref X6) (.ref X5) = some false ∧ PySem.W.subIn K (.ref X6) (.ref X6) = some true ∧ PySem.W.subIn K (.ref X6) (.ref X7) = some false ∧ PySem.W.subIn K (.ref X6) (.ref X8) = some false ∧ PySem.W.subIn K (.ref X6) (.ref X9) = some false ∧ PySem.W.subIn K (.ref X6) (.ref X10) = some false ∧ PySem.W.subIn K (.ref X6) (.ref X11) = some false ∧ PySem.W.subIn K (.ref X6) (.ref X12) = some false ∧ PySem.W.subIn K (.ref X6) (.ref X13) = some false ∧ PySem.W.subIn K (.ref X6) (.ref X14) = some false ∧ PySem.W.subIn K (.ref X6) (.ref X15) = some false ∧ PySem.W.subIn K (.ref X6) (.ref X16) = some false ∧ PySem.W.subIn K (.ref X6) (.ref X17) = some true)
    (xe6 : PySem.W.excIn K X6 [.type "ValueError", .type "Exception", .type "BaseException", .type "object"] "ValueError.__new__" = true)
    (xc7 : PySem.W.isClsIn K X7 = true ∧ PySem.W.findIn K (.ref X7) "__getattribute__" = some (some (.builtin "BaseException.__getattribute__")) ∧ PySem.W.findIn K (.ref X7) "__getattr__" = some none ∧ PySem.W.subIn K (.ref X7) (.type "BaseException") = some true ∧ PySem.W.hasDictIn K X7 = true ∧ PySem.W.findIn K (.ref X7) "__class__" = some (some (.builtin "object.__class__")) ∧ PySem.W.mroIn K X7 (.type "object") = some true ∧ PySem.W.typeIn K (.ref X7) = some (.type "type") ∧ PySem.W.keepIn K (.ref X7) = true ∧ PySem.W.subIn K (.ref X7) (.type "ValueError") = some true)
    (xs7 : PySem.W.subIn K (.ref X7) (.ref X0) = some false ∧ PySem.W.subIn K (.ref X7) (.ref X1) = some false ∧ PySem.W.subIn K (.ref X7) (.ref X2) = some false ∧ PySem.W.subIn K (.ref X7) (.ref X3) = some false ∧ PySem.W.subIn K (.ref X7) (.ref X4) = some false ∧ PySem.W.subIn K (.ref X7) (.ref X5) = some false ∧ PySem.W.subIn K (.ref X7) (.ref X6) = some false ∧ PySem.W.subIn K (.ref X7) (.ref X7) = some true ∧ PySem.W.subIn K (.ref X7) (.ref X8) = some false ∧ PySem.W.subIn K (.ref X7) (.ref X9) = some false ∧ PySem.W.subIn K (.ref X7) (.ref X10) = some false ∧ PySem.W.subIn K (.ref X7) (.ref X11) = some false ∧ PySem.W.subIn K (.ref X7) (.ref X12) = some false ∧ PySem.W.subIn K (.ref X7) (.ref X13) = some false ∧ PySem.W.subIn K (.ref X7) (.ref X14) = some false ∧ PySem.W.subIn K (.ref X7) (.ref X15) = some false ∧ PySem.W.subIn K (.ref X7) (.ref X16) = some false ∧ PySem.W.subIn K (.ref X7) (.ref X17) = some true)
    (xe7 : PySem.W.excIn K X7 [.type "ValueError", .type "Exception", .type "BaseException", .type "object"] "ValueError.__new__" = true)
    (xc8 : PySem.W.isClsIn K X8 = true ∧ PySem.W.findIn K (.ref X8) "__getattribute__" = some (some (.builtin "BaseException.__getattribute__")) ∧ PySem.W.findIn K (.ref X8) "__getattr__" = some none ∧ PySem.W.subIn K (.ref X8) (.type "BaseException") = some true ∧ PySem.W.hasDictIn K X8 = true ∧ PySem.W.findIn K (.ref X8) "__class__" = some (some (.builtin "object.__class__")) ∧ PySem.W.mroIn K X8 (.type "object") = some true ∧ PySem.W.typeIn K (.ref X8) = some (.type "type") ∧ PySem.W.keepIn K (.ref X8) = true ∧ PySem.W.subIn K (.ref X8) (.type "ValueError") = some true)
    (xs8 : PySem.W.subIn K (.ref X8) (.ref X0) = some false ∧ PySem.W.subIn K (.ref X8) (.ref X1) = some false ∧ PySem.W.subIn K (.ref X8) (.ref X2) = some false ∧ PySem.W.subIn K (.ref X8) (.ref X3) = some false ∧ PySem.W.subIn K (.ref X8) (.ref X4) = some false ∧ PySem.W.subIn K (.ref X8) (.ref X5) = some false ∧ PySem.W.subIn K (.ref X8) (.ref X6) = some false ∧ PySem.W.subIn K (.ref X8) (.ref X7) = some false ∧ PySem.W.subIn K (.ref X8) (.ref X8) = some true ∧ PySem.W.subIn K (.ref X8) (.ref X9) = some false ∧ PySem.W.subIn K (.ref X8) (.ref X10) = some false ∧ PySem.W.subIn K (.ref X8) (.ref X11) = some false ∧ PySem.W.subIn K (.ref X8) (.ref X12) = some false ∧ PySem.W.subIn K (.ref X8) (.ref X13) = some false ∧ PySem.W.subIn K (.ref X8) (.ref X14) = some false ∧ PySem.W.subIn K (.ref X8) (.ref X15) = some false ∧ PySem.W.subIn K (.ref X8) (.ref X16) = some false ∧ PySem.W.subIn K (.ref X8) (.ref X17) = some true)
    (xe8 : PySem.W.excIn K X8 [.type "ValueError", .type "Exception", .type "BaseException", .type "object"] "ValueError.__new__" = true)
    (xc9 : PySem.W.isClsIn K X9 = true ∧ PySem.W.findIn K (.ref X9) "__getattribute__" = some (some (.builtin "BaseException.__getattribute__")) ∧ PySem.W.findIn K (.ref X9) "__getattr__" = some none ∧ PySem.W.subIn K (.ref X9) (.type "BaseException") = some true ∧ PySem.W.hasDictIn K X9 = true ∧ PySem.W.findIn K (.ref X9) "__class__" = some (some (.builtin "object.__class__")) ∧ PySem.W.mroIn K X9 (.type "object") = some true ∧ PySem.W.typeIn K (.ref X9) = some (.type "type") ∧ PySem.W.keepIn K (.ref X9) = true ∧ PySem.W.subIn K (.ref X9) (.type "ValueError") = some true)
    (xs9 : PySem.W.subIn K (.ref X9) (.ref X0) = some false ∧ PySem.W.subIn K (.ref X9) (.ref X1) = some false ∧ PySem.W.subIn K (.ref X9) (.ref X2) = some false ∧ PySem.W.subIn K (.ref X9) (.ref X3) = some false ∧ PySem.W.subIn K (.ref X9) (.ref X4) = some false ∧ PySem.W.subIn K (.ref X9) (.ref X5) = some false ∧ PySem.W.subIn K (.ref X9) (.ref X6) = some false ∧ PySem.W.subIn K (.ref X9) (.ref X7) = some false ∧ PySem.W.subIn K (.ref X9) (.ref X8) = some false ∧ PySem.W.subIn K (.ref X9) (.ref X9) = some true ∧ PySem.W.subIn K (.ref X9) (.ref X10) = some false ∧ PySem.W.subIn K (.ref X9) (.ref X11) = some false ∧ PySem.W.subIn K (.ref X9) (.ref X12) = some false ∧ PySem.W.subIn K (.ref X9) (.ref X13) = some false ∧ PySem.W.subIn K (.ref X9) (.ref X14) = some false ∧ PySem.W.subIn K (.ref X9) (.ref X15) = some false ∧ PySem.W.subIn K (.ref X9) (.ref X16) = some false ∧ PySem.W.subIn K (.ref X9) (.ref X17) = some true)
    (xe9 : PySem.W.excIn K X9 [.type "ValueError", .type "Exception", .type "BaseException", .type "object"] "ValueError.__new__" = true)
    (xc10 : PySem.W.isClsIn K X10 = true ∧ PySem.W.findIn K (.ref X10) "__getattribute__" = some (some (.builtin "BaseException.__getattribute__")) ∧ PySem.W.findIn K (.ref X10) "__getattr__" = some none ∧ PySem.W.subIn K (.ref X10) (.type "BaseException") = some true ∧ PySem.W.hasDictIn K X10 = true ∧ PySem.W.findIn K (.ref X10) "__class__" = some (some (.builtin "object.__class__")) ∧ PySem.W.mroIn K X10 (.type "object") = some true ∧ PySem.W.typeIn K (.ref X10) = some (.type "type") ∧ PySem.W.keepIn K (.ref X10) = true ∧ PySem.W.subIn K (.ref X10) (.type "ValueError") = some true)
    (xs10 : PySem.W.subIn K (.ref X10) (.ref X0) = some false ∧ PySem.W.subIn K (.ref X10) (.ref X1) = some false ∧ PySem.W.subIn K (.ref X10) (.ref X2) = some false ∧ PySem.W.subIn K (.ref X10) (.ref X3) = some false ∧ PySem.W.subIn K (.ref X10) (.ref X4) = some false ∧ PySem.W.subIn K (.ref X10) (.ref X5) = some false ∧ PySem.W.subIn K (.ref X10) (.ref X6) = some false ∧ PySem.W.subIn K (.ref X10) (.ref X7) = some false ∧ PySem.W.subIn K (.ref X10) (.ref X8) = some false ∧ PySem.W.subIn K (.ref X10) (.ref X9) = some false ∧ PySem.W.subIn K (.ref X10) (.ref X10) = some true ∧ PySem.W.subIn K (.ref X10) (.ref X11) = some false ∧ PySem.W.subIn K (.ref X10) (.ref X12) = some false ∧ PySem.W.subIn K (.ref X10) (.ref X13) = some false ∧ PySem.W.subIn K (.ref X10) (.ref X14) = some false ∧ PySem.W.subIn K (.ref X10) (.ref X15) = some false ∧ PySem.W.subIn K (.ref X10) (.ref X16) = some false ∧ PySem.W.subIn K (.ref X10) (.ref X17) = some true)
    (xe10 : PySem.W.excIn K X10 [.type "ValueError", .type "Exception", .type "BaseException", .type "object"] "ValueError.__new__" = true)
    (xc11 : PySem.W.isClsIn K X11 = true ∧ PySem.W.findIn K (.ref X11) "__getattribute__" = some (some (.builtin "BaseException.__getattribute__")) ∧ PySem.W.findIn K (.ref X11) "__getattr__" = some none ∧ PySem.W.subIn K (.ref X11) (.type "BaseException") = some true ∧ PySem.W.hasDictIn K X11 = true ∧ PySem.W.findIn K (.ref X11) "__class__" = some (some (.builtin "object.__class__")) ∧ PySem.W.mroIn K X11 (.type "object") = some true ∧ PySem.W.typeIn K (.ref X11) = some (.type "type") ∧ PySem.W.keepIn K (.ref X11) = true ∧ PySem.W.subIn K (.ref X11) (.type "ValueError") = some true)
    (xs11 : PySem.W.subIn K (.ref X11) (.ref X0) = some false ∧ PySem.W.subIn K (.ref X11) (.ref X1) = some false ∧ PySem.W.subIn K (.ref X11) (.ref X2) = some false ∧ PySem.W.subIn K (.ref X11) (.ref X3) = some false ∧ PySem.W.subIn K (.ref X11) (.ref X4) = some false ∧ PySem.W.subIn K (.ref X11) (.ref X5) = some false ∧ PySem.W.subIn K (.ref X11) (.ref X6) = some false ∧ PySem.W.subIn K (.ref X11) (.ref X7) = some false ∧ PySem.W.subIn K (.ref X11) (.ref X8) = some false ∧ PySem.W.subIn K (.ref X11) (.ref X9) = some false ∧ PySem.W.subIn K (.ref X11) (.ref X10) = some false ∧ PySem.W.subIn K (.ref X11) (.ref X11) = some true ∧ PySem.W.subIn K (.ref X11) (.ref X12) = some false ∧ PySem.W.subIn K (.ref X11) (.ref X13) = some false ∧ PySem.W.subIn K (.ref X11) (.ref X14) = some false ∧ PySem.W.subIn K (.ref X11) (.ref X15) = some false ∧ PySem.W.subIn K (.ref X11) (.ref X16) = some false ∧ PySem.W.subIn K (.ref X11) (.ref X17) = some true)
    (xe11 : PySem.W.excIn K X11 [.type "ValueError", .type "Exception", .type "BaseException", .type "object"] "ValueError.__new__" = true)
    (xc12 : PySem.W.isClsIn K X12 = true ∧ PySem.W.findIn K (.ref X12) "__getattribute__" = some (some (.builtin "BaseException.__getattribute__")) ∧ PySem.W.findIn K (.ref X12) "__getattr__" = some none ∧ PySem.W.subIn K (.ref X12) (.type "BaseException") = some true ∧ PySem.W.hasDictIn K X12 = true ∧ PySem.W.findIn K (.ref X12) "__class__" = some (some (.builtin "object.__class__")) ∧ PySem.W.mroIn K X12 (.type "object") = some true ∧ PySem.W.typeIn K (.ref X12) = some (.type "type") ∧ PySem.W.keepIn K (.ref X12) = true ∧ PySem.W.subIn K (.ref X12) (.type "ValueError") = some true)
    (xs12 : PySem.W.subIn K (.ref X12) (.ref X0) = some false ∧ PySem.W.subIn K (.ref X12) (.ref X1) = some false ∧ PySem.W.subIn K (.ref X12) (.ref X2) = some false ∧ PySem.W.subIn K (.ref X12) (.ref X3) = some false ∧ PySem.W.subIn K (.ref X12) (.ref X4) = some false ∧ PySem.W.subIn K (.ref X12) (.ref X5) = some false ∧ PySem.W.subIn K (.ref X12) (.ref X6) = some false ∧ PySem.W.subIn K (.ref X12) (.ref X7) = some false ∧ PySem.W.subIn K (.ref X12) (.ref X8) = some false ∧ PySem.W.subIn K (.ref X12) (.ref X9) = some false ∧ PySem.W.subIn K (.ref X12) (.ref X10) = some false ∧ PySem.W.subIn K (.ref X12) (.ref X11) = some false ∧ PySem.W.subIn K (.ref X12) (.ref X12) = some true ∧ PySem.W.subIn K (.ref X12) (.ref X13) = some false ∧ PySem.W.subIn K (.ref X12) (.ref X14) = some false ∧ PySem.W.subIn K (.ref X12) (.ref X15) = some false ∧ PySem.W.subIn K (.ref X12) (.ref X16) = some false ∧ PySem.W.subIn K (.ref X12) (.ref X17) = some true)
    (xe12 : PySem.W.excIn K X12 [.type "ValueError", .type "Exception", .type "BaseException", .type "object"] "ValueError.__new__" = true)
    (xc13 : PySem.W.isClsIn K X13 = true ∧ PySem.W.findIn K (.ref X13) "__getattribute__" = some (some (.builtin "BaseException.__getattribute__")) ∧ PySem.W.findIn K (.ref X13) "__getattr__" = some none ∧ PySem.W.subIn K (.ref X13) (.type "BaseException") = some true ∧ PySem.W.hasDictIn K X13 = true ∧ PySem.W.findIn K (.ref X13) "__class__" = some (some (.builtin "object.__class__")) ∧ PySem.W.mroIn K X13 (.type "object") = some true ∧ PySem.W.typeIn K (.ref X13) = some (.type "type") ∧ PySem.W.keepIn K (.ref X13) = true ∧ PySem.W.subIn K (.ref X13) (.type "ValueError") = some true)
    (xs13 : PySem.W.subIn K (.ref X13) (.ref X0) = some false ∧ PySem.W.subIn K (.ref X13) (.ref X1) = some false ∧ PySem.W.subIn K (.ref X13) (.ref X2) = some false ∧ PySem.W.subIn K (.ref X13) (.ref X3) = some false ∧ PySem.W.subIn K (.ref X13) (.ref X4) = some false ∧ PySem.W.subIn K (.ref X13) (.ref X5) = some false ∧ PySem.W.subIn K (.ref X13) (.ref X6) = some false ∧ PySem.W.subIn K (.ref X13) (.ref X7) = some false ∧ PySem.W.subIn K (.ref X13) (.ref X8) = some false ∧ PySem.W.subIn K (.ref X13) (.ref X9) = some false ∧ PySem.W.subIn K (.ref X13) (.ref X10) = some false ∧ PySem.W.subIn K (.ref X13) (.ref X11) = some false ∧ PySem.W.subIn K (.ref X13) (.ref X12) = some false ∧ PySem.W.subIn K (.ref X13) (.ref X13) = some true ∧ PySem.W.subIn K (.ref X13) (.ref X14) = some false ∧ PySem.W.subIn K (.ref X13) (.ref X15) = some false ∧ PySem.W.subIn K (.ref X13) (.ref X16) = some false ∧ PySem.W.subIn K (.ref X13) (.ref X17) = some true)
    (xe13 : PySem.W.excIn K X13 [.type "ValueError", .type "Exception", .type "BaseException", .type "object"] "ValueError.__new__" = true)
    (xc14 : PySem.W.isClsIn K X14 = true ∧ PySem.W.findIn K (.ref X14) "__getattribute__" = some (some (.builtin "BaseException.__getattribute__")) ∧ PySem.W.findIn K (.ref X14) "__getattr__" = some none ∧ PySem.W.subIn K (.ref X14) (.type "BaseException") = some true ∧ PySem.W.hasDictIn K X14 = true ∧ PySem.W.findIn K (.ref X14) "__class__" = some (some (.builtin "object.__class__")) ∧ PySem.W.mroIn K X14 (.type "object") = some true ∧ PySem.W.typeIn K (.ref X14) = some (.type "type") ∧ PySem.W.keepIn K (.ref X14) = true ∧ PySem.W.subIn K (.ref X14) (.type "ValueError") = some true)
    (xs14 : PySem.W.subIn K (.ref X14) (.ref X0) = some false ∧ PySem.W.subIn K (.ref X14) (.ref X1) = some false ∧ PySem.W.subIn K (.ref X14) (.ref X2) = some false ∧ PySem.W.subIn K (.ref X14) (.ref X3) = some false ∧ PySem.W.subIn K (.ref X14) (.ref X4) = some false ∧ PySem.W.subIn K (.ref X14) (.ref X5) = some false ∧ PySem.W.subIn K (.ref X14) (.ref X6) = some false ∧ PySem.W.subIn K (.ref X14) (.ref X7) = some false ∧ PySem.W.subIn K (.ref X14) (.ref X8) = some false ∧ PySem.W.subIn K (.ref X14) (.ref X9) = some false ∧ PySem.W.subIn K (.ref X14) (.ref X10) = some false ∧ PySem.W.subIn K (.ref X14) (.ref X11) = some false ∧ PySem.W.subIn K (.ref X14) (.ref X12) = some false ∧ PySem.W.subIn K (.ref X14) (.ref X13) = some false ∧ PySem.W.subIn K (.ref X14) (.ref X14) = some true ∧ PySem.W.subIn K (.ref X14) (.ref X15) = some false ∧ PySem.W.subIn K (.ref X14) (.ref X16) = some false ∧ PySem.W.subIn K (.ref X14) (.ref X17) = some true)
    (xe14 : PySem.W.excIn K X14 [.type "ValueError", .type "Exception", .type "BaseException", .type "object"] "ValueError.__new__" = true)
    (xc15 : PySem.W.isClsIn K X15 = true ∧ PySem.W.findIn K (.ref X15) "__getattribute__" = some (some (.builtin "BaseException.__getattribute__")) ∧ PySem.W.findIn K (.ref X15) "__getattr__" = some none ∧ PySem.W.subIn K (.ref X15) (.type "BaseException") = some true ∧ PySem.W.hasDictIn K X15 = true ∧ PySem.W.findIn K (.ref X15) "__class__" = some (some (.builtin "object.__class__")) ∧ PySem.W.mroIn K X15 (.type "object") = some true ∧ PySem.W.typeIn K (.ref X15) = some (.type "type") ∧ PySem.W.keepIn K (.ref X15) = true ∧ PySem.W.subIn K (.ref X15) (.type "ValueError") = some true)
    (xs15 : PySem.W.subIn K (.ref X15) (.ref X0) = some false ∧ PySem.W.subIn K (.ref X15) (.ref X1) = some false ∧ PySem.W.subIn K (.ref X15) (.ref X2) = some false ∧ PySem.W.subIn K (.ref X15) (.ref X3) = some false ∧ PySem.W.subIn K (.ref X15) (.ref X4) = some false ∧ PySem.W.subIn K (.ref X15) (.ref X5) = some false ∧ PySem.W.subIn K (.ref X15) (.ref X6) = some false ∧ PySem.W.subIn K (.ref X15) (.ref X7) = some false ∧ PySem.W.subIn K (.ref X15) (.ref X8) = some false ∧ PySem.W.subIn K (.ref X15) (.ref X9) = some false ∧ PySem.W.subIn K (.ref X15) (.ref X10) = some false ∧ PySem.W.subIn K (.ref X15) (.ref X11) = some false ∧ PySem.W.subIn K (.ref X15) (.ref X12) = some false ∧ PySem.W.subIn K (.ref X15) (.ref X13) = some false ∧ PySem.W.subIn K (.ref X15) (.ref X14) = some false ∧ PySem.W.subIn K (.ref X15) (.ref X15) = some true ∧ PySem.W.subIn K (.ref X15) (.ref X16) = some false ∧ PySem.W.subIn K (.ref X15) (.ref X17) = some true)
    (xe15 : PySem.W.excIn K X15 [.type "ValueError", .type "Exception", .type "BaseException", .type "object"] "ValueError.__new__" = true)
    (xc16 : PySem.W.isClsIn K X16 = true ∧ PySem.W.findIn K (.ref X16) "__getattribute__" = some (some (.builtin "BaseException.__getattribute__")) ∧ PySem.W.findIn K (.ref X16) "__getattr__" = some none ∧ PySem.W.subIn K (.ref X16) (.type "BaseException") = some true ∧ PySem.W.hasDictIn K X16 = true ∧ PySem.W.findIn K (.ref X16) "__class__" = some (some (.builtin "object.__class__")) ∧ PySem.W.mroIn K X16 (.type "object") = some true ∧ PySem.W.typeIn K (.ref X16) = some (.type "type") ∧ PySem.W.keepIn K (.ref X16) = true ∧ PySem.W.subIn K (.ref X16) (.type "ValueError") = some true)
    (xs16 : PySem.W.subIn K (.ref X16) (.ref X0) = some false ∧ PySem.W.subIn K (.ref X16) (.ref X1) = some false ∧ PySem.W.subIn K (.ref X16) (.ref X2) = some false ∧ PySem.W.subIn K (.ref X16) (.ref X3) = some false ∧ PySem.W.subIn K (.ref X16) (.ref X4) = some false ∧ PySem.W.subIn K (.ref X16) (.ref X5) = some false ∧ PySem.W.subIn K (.ref X16) (.ref X6) = some false ∧ PySem.W.subIn K (.ref X16) (.ref X7) = some false ∧ PySem.W.subIn K (.ref X16) (.ref X8) = some false ∧ PySem.W.subIn K (.ref X16) (.ref X9) = some false ∧ PySem.W.subIn K (.ref X16) (.ref X10) = some false ∧ PySem.W.subIn K (.ref X16) (.ref X11) = some false ∧ PySem.W.subIn K (.ref X16) (.ref X12) = some false ∧ PySem.W.subIn K (.ref X16) (.ref X13) = some false ∧ PySem.W.subIn K (.ref X16) (.ref X14) = some false ∧ PySem.W.subIn K (.ref X16) (.ref X15) = some false ∧ PySem.W.subIn K (.ref X16) (.ref X16) = some true ∧ PySem.W.subIn K (.ref X16) (.ref X17) = some true)
    (xe16 : PySem.W.excIn K X16 [.type "ValueError", .type "Exception", .type "BaseException", .type "object"] "ValueError.__new__" = true)
    (xc17 : PySem.W.isClsIn K X17 = true ∧ PySem.W.findIn K (.ref X17) "__getattribute__" = some (some (.builtin "BaseException.__getattribute__")) ∧ PySem.W.findIn K (.ref X17) "__getattr__" = some none ∧ PySem.W.subIn K (.ref X17) (.type "BaseException") = some true ∧ PySem.W.hasDictIn K X17 = true ∧ PySem.W.findIn K (.ref X17) "__class__" = some (some (.builtin "object.__class__")) ∧ PySem.W.mroIn K X17 (.type "object") = some true ∧ PySem.W.typeIn K (.ref X17) = some (.type "type") ∧ PySem.W.keepIn K (.ref X17) = true ∧ PySem.W.subIn K (.ref X17) (.type "ValueError") = some true)
    (xs17 : PySem.W.subIn K (.ref X17) (.ref X0) = some false ∧ PySem.W.subIn K (.ref X17) (.ref X1) = some false ∧ PySem.W.subIn K (.ref X17) (.ref X2) = some false ∧ PySem.W.subIn K (.ref X17) (.ref X3) = some false ∧ PySem.W.subIn K (.ref X17) (.ref X4) = some false ∧ PySem.W.subIn K (.ref X17) (.ref X5) = some false ∧ PySem.W.subIn K (.ref X17) (.ref X6) = some false ∧ PySem.W.subIn K (.ref X17) (.ref X7) = some false ∧ PySem.W.subIn K (.ref X17) (.ref X8) = some false ∧ PySem.W.subIn K (.ref X17) (.ref X9) = some false ∧ PySem.W.subIn K (.ref X17) (.ref X10) = some false ∧ PySem.W.subIn K (.ref X17) (.ref X11) = some false ∧ PySem.W.subIn K (.ref X17) (.ref X12) = some false ∧ PySem.W.subIn K (.ref X17) (.ref X13) = some false ∧ PySem.W.subIn K (.ref X17) (.ref X14) = some false ∧ PySem.W.subIn K (.ref X17) (.ref X15) = some false ∧ PySem.W.subIn K (.ref X17) (.ref X16) = some false ∧ PySem.W.subIn K (.ref X17) (.ref X17) = some true)
    (xe17 : PySem.W.excIn K X17 [.type "ValueError", .type "Exception", .type "BaseException", .type "object"] "ValueError.__new__" = true)
    (zn_ValueError : PySem.W.nsIn K mainGlobals "ValueError" = some none)
    (zn_all : PySem.W.nsIn K mainGlobals "all" = some none)
    (zn_bool : PySem.W.nsIn K mainGlobals "bool" = some none)
    (zn_enumerate : PySem.W.nsIn K mainGlobals "enumerate" = some none)
    (zn_int : PySem.W.nsIn K mainGlobals "int" = some none)
    (zn_isinstance : PySem.W.nsIn K mainGlobals "isinstance" = some none)
    (zn_len : PySem.W.nsIn K mainGlobals "len" = some none)
    (zn_max : PySem.W.nsIn K mainGlobals "max" = some none)
    (zn_min : PySem.W.nsIn K mainGlobals "min" = some none)
    (zn_range : PySem.W.nsIn K mainGlobals "range" = some none)
    (zn_repr : PySem.W.nsIn K mainGlobals "repr" = some none)
    (zn_str : PySem.W.nsIn K mainGlobals "str" = some none)
    (zn_tuple : PySem.W.nsIn K mainGlobals "tuple" = some none)
    (zc_MOST_DIGITS : ∃ t, PySem.W.nsIn K mainGlobals "MOST_DIGITS" = some (some (.int 100 t)))
    (zc_MOST_KEY : ∃ t, PySem.W.nsIn K mainGlobals "MOST_KEY" = some (some (.int 1000000000000000000000000000000 t)))
    (zc_MOST_SPANS : ∃ t, PySem.W.nsIn K mainGlobals "MOST_SPANS" = some (some (.int 12 t)))
    (zc_WORDS : ∃ t, PySem.W.nsIn K mainGlobals "WORDS" = some (some (.int 3 t)))
    : ∃ fd : FuncData, (∀ (s : Shared) (v : Value), BindsTo s fd ⟨[v], []⟩ [("_law_script", v)]) ∧ ∀ base : Heap, K.In base → base.Ns mainGlobals mg → (∃ mm, base.Ns sysModules mm) → FnG l.prog w K mg base CX0 7 fa fd ["_law_script"] (sp_law K default) := by
  have e := hfa.symm.trans (PySem.W.mg_of X G at_law)
  cases e
  have TT : TblTxt K mg C := ⟨⟨pg, hd, po, sa⟩, nC, nR, nS, PySem.W.mg_of X G aC, if_pos (beq_self_eq_true _), xa, xb, xc, xd⟩
  have NO : OddNo K C := ⟨oc, ot, os0, os1, os2, os3, os4, os5, os6⟩
  let AD : Nat → Addr := (fun i => [X0, X1, X2, X3, X4, X5, X6, X7, X8, X9, X10, X11, X12, X13, X14, X15, X16, X17, C].getD i X0)
  have XX : XT K AD := ⟨fun i hi => match i, hi with
    | 0, _ => (⟨xc0.1, xc0.2.1, xc0.2.2.1, xc0.2.2.2.1, xc0.2.2.2.2.1, xc0.2.2.2.2.2.1, xhn, xht, xc0.2.2.2.2.2.2.1⟩ : XcC K X0)
    | 1, _ => (⟨xc1.1, xc1.2.1, xc1.2.2.1, xc1.2.2.2.1, xc1.2.2.2.2.1, xc1.2.2.2.2.2.1, xhn, xht, xc1.2.2.2.2.2.2.1⟩ : XcC K X1)
    | 2, _ => (⟨xc2.1, xc2.2.1, xc2.2.2.1, xc2.2.2.2.1, xc2.2.2.2.2.1, xc2.2.2.2.2.2.1, xhn, xht, xc2.2.2.2.2.2.2.1⟩ : XcC K X2)
    | 3, _ => (⟨xc3.1, xc3.2.1, xc3.2.2.1, xc3.2.2.2.1, xc3.2.2.2.2.1, xc3.2.2.2.2.2.1, xhn, xht, xc3.2.2.2.2.2.2.1⟩ : XcC K X3)
    | 4, _ => (⟨xc4.1, xc4.2.1, xc4.2.2.1, xc4.2.2.2.1, xc4.2.2.2.2.1, xc4.2.2.2.2.2.1, xhn, xht, xc4.2.2.2.2.2.2.1⟩ : XcC K X4)
    | 5, _ => (⟨xc5.1, xc5.2.1, xc5.2.2.1, xc5.2.2.2.1, xc5.2.2.2.2.1, xc5.2.2.2.2.2.1, xhn, xht, xc5.2.2.2.2.2.2.1⟩ : XcC K X5)
    | 6, _ => (⟨xc6.1, xc6.2.1, xc6.2.2.1, xc6.2.2.2.1, xc6.2.2.2.2.1, xc6.2.2.2.2.2.1, xhn, xht, xc6.2.2.2.2.2.2.1⟩ : XcC K X6)
    | 7, _ => (⟨xc7.1, xc7.2.1, xc7.2.2.1, xc7.2.2.2.1, xc7.2.2.2.2.1, xc7.2.2.2.2.2.1, xhn, xht, xc7.2.2.2.2.2.2.1⟩ : XcC K X7)
    | 8, _ => (⟨xc8.1, xc8.2.1, xc8.2.2.1, xc8.2.2.2.1, xc8.2.2.2.2.1, xc8.2.2.2.2.2.1, xhn, xht, xc8.2.2.2.2.2.2.1⟩ : XcC K X8)
    | 9, _ => (⟨xc9.1, xc9.2.1, xc9.2.2.1, xc9.2.2.2.1, xc9.2.2.2.2.1, xc9.2.2.2.2.2.1, xhn, xht, xc9.2.2.2.2.2.2.1⟩ : XcC K X9)
    | 10, _ => (⟨xc10.1, xc10.2.1, xc10.2.2.1, xc10.2.2.2.1, xc10.2.2.2.2.1, xc10.2.2.2.2.2.1, xhn, xht, xc10.2.2.2.2.2.2.1⟩ : XcC K X10)
    | 11, _ => (⟨xc11.1, xc11.2.1, xc11.2.2.1, xc11.2.2.2.1, xc11.2.2.2.2.1, xc11.2.2.2.2.2.1, xhn, xht, xc11.2.2.2.2.2.2.1⟩ : XcC K X11)
    | 12, _ => (⟨xc12.1, xc12.2.1, xc12.2.2.1, xc12.2.2.2.1, xc12.2.2.2.2.1, xc12.2.2.2.2.2.1, xhn, xht, xc12.2.2.2.2.2.2.1⟩ : XcC K X12)
    | 13, _ => (⟨xc13.1, xc13.2.1, xc13.2.2.1, xc13.2.2.2.1, xc13.2.2.2.2.1, xc13.2.2.2.2.2.1, xhn, xht, xc13.2.2.2.2.2.2.1⟩ : XcC K X13)
    | 14, _ => (⟨xc14.1, xc14.2.1, xc14.2.2.1, xc14.2.2.2.1, xc14.2.2.2.2.1, xc14.2.2.2.2.2.1, xhn, xht, xc14.2.2.2.2.2.2.1⟩ : XcC K X14)
    | 15, _ => (⟨xc15.1, xc15.2.1, xc15.2.2.1, xc15.2.2.2.1, xc15.2.2.2.2.1, xc15.2.2.2.2.2.1, xhn, xht, xc15.2.2.2.2.2.2.1⟩ : XcC K X15)
    | 16, _ => (⟨xc16.1, xc16.2.1, xc16.2.2.1, xc16.2.2.2.1, xc16.2.2.2.2.1, xc16.2.2.2.2.2.1, xhn, xht, xc16.2.2.2.2.2.2.1⟩ : XcC K X16)
    | 17, _ => (⟨xc17.1, xc17.2.1, xc17.2.2.1, xc17.2.2.2.1, xc17.2.2.2.2.1, xc17.2.2.2.2.2.1, xhn, xht, xc17.2.2.2.2.2.2.1⟩ : XcC K X17)
    | n + 18, h => absurd h (by omega),
    fun i hi => match i, hi with
    | 0, _ => fun j hj => match j, hj with
      | 0, _ => (kit_refs xc0.1 xc0.2.2.2.2.2.2.2.1 xs0.1 xs0.1 : PySem.W.kitOne K (.ref X0) (.ref X0) = some true)
      | 1, _ => (kit_refs xc1.1 xc1.2.2.2.2.2.2.2.1 xs0.2.1 xs0.1 : PySem.W.kitOne K (.ref X0) (.ref X1) = some false)
      | 2, _ => (kit_refs xc2.1 xc2.2.2.2.2.2.2.2.1 xs0.2.2.1 xs0.1 : PySem.W.kitOne K (.ref X0) (.ref X2) = some false)
      | 3, _ => (kit_refs xc3.1 xc3.2.2.2.2.2.2.2.1 xs0.2.2.2.1 xs0.1 : PySem.W.kitOne K (.ref X0) (.ref X3) = some false)
      | 4, _ => (kit_refs xc4.1 xc4.2.2.2.2.2.2.2.1 xs0.2.2.2.2.1 xs0.1 : PySem.W.kitOne K (.ref X0) (.ref X4) = some false)
      | 5, _ => (kit_refs xc5.1 xc5.2.2.2.2.2.2.2.1 xs0.2.2.2.2.2.1 xs0.1 : PySem.W.kitOne K (.ref X0) (.ref X5) = some false)
      | 6, _ => (kit_refs xc6.1 xc6.2.2.2.2.2.2.2.1 xs0.2.2.2.2.2.2.1 xs0.1 : PySem.W.kitOne K (.ref X0) (.ref X6) = some false)
      | 7, _ => (kit_refs xc7.1 xc7.2.2.2.2.2.2.2.1 xs0.2.2.2.2.2.2.2.1 xs0.1 : PySem.W.kitOne K (.ref X0) (.ref X7) = some false)
      | 8, _ => (kit_refs xc8.1 xc8.2.2.2.2.2.2.2.1 xs0.2.2.2.2.2.2.2.2.1 xs0.1 : PySem.W.kitOne K (.ref X0) (.ref X8) = some false)
      | 9, _ => (kit_refs xc9.1 xc9.2.2.2.2.2.2.2.1 xs0.2.2.2.2.2.2.2.2.2.1 xs0.1 : PySem.W.kitOne K (.ref X0) (.ref X9) = some false)
      | 10, _ => (kit_refs xc10.1 xc10.2.2.2.2.2.2.2.1 xs0.2.2.2.2.2.2.2.2.2.2.1 xs0.1 : PySem.W.kitOne K (.ref X0) (.ref X10) = some false)
      | 11, _ => (kit_refs xc11.1 xc11.2.2.2.2.2.2.2.1 xs0.2.2.2.2.2.2.2.2.2.2.2.1 xs0.1 : PySem.W.kitOne K (.ref X0) (.ref X11) = some false)
      | 12, _ => (kit_refs xc12.1 xc12.2.2.2.2.2.2.2.1 xs0.2.2.2.2.2.2.2.2.2.2.2.2.1 xs0.1 : PySem.W.kitOne K (.ref X0) (.ref X12) = some false)
      | 13, _ => (kit_refs xc13.1 xc13.2.2.2.2.2.2.2.1 xs0.2.2.2.2.2.2.2.2.2.2.2.2.2.1 xs0.1 : PySem.W.kitOne K (.ref X0) (.ref X13) = some false)
      | 14, _ => (kit_refs xc14.1 xc14.2.2.2.2.2.2.2.1 xs0.2.2.2.2.2.2.2.2.2.2.2.2.2.2.1 xs0.1 : PySem.W.kitOne K (.ref X0) (.ref X14) = some false)
      | 15, _ => (kit_refs xc15.1 xc15.2.2.2.2.2.2.2.1 xs0.2.2.2.2.2.2.2.2.2.2.2.2.2.2.2.1 xs0.1 : PySem.W.kitOne K (.ref X0) (.ref X15) = some false)
      | 16, _ => (kit_refs xc16.1 xc16.2.2.2.2.2.2.2.1 xs0.2.2.2.2.2.2.2.2.2.2.2.2.2.2.2.2.1 xs0.1 : PySem.W.kitOne K (.ref X0) (.ref X16) = some false)
      | 17, _ => (kit_refs xc17.1 xc17.2.2.2.2.2.2.2.1 xs0.2.2.2.2.2.2.2.2.2.2.2.2.2.2.2.2.2 xs0.1 : PySem.W.kitOne K (.ref X0) (.ref X17) = some true)
      | n + 18, h => absurd h (by omega)
    | 1, _ => fun j hj => match j, hj with
      | 0, _ => (kit_refs xc0.1 xc0.2.2.2.2.2.2.2.1 xs1.1 xs1.2.1 : PySem.W.kitOne K (.ref X1) (.ref X0) = some false)
      | 1, _ => (kit_refs xc1.1 xc1.2.2.2.2.2.2.2.1 xs1.2.1 xs1.2.1 : PySem.W.kitOne K (.ref X1) (.ref X1) = some true)
      | 2, _ => (kit_refs xc2.1 xc2.2.2.2.2.2.2.2.1 xs1.2.2.1 xs1.2.1 : PySem.W.kitOne K (.ref X1) (.ref X2) = some false)
      | 3, _ => (kit_refs xc3.1 xc3.2.2.2.2.2.2.2.1 xs1.2.2.2.1 xs1.2.1 : PySem.W.kitOne K (.ref X1) (.ref X3) = some false)
      | 4, _ => (kit_refs xc4.1 xc4.2.2.2.2.2.2.2.1 xs1.2.2.2.2.1 xs1.2.1 : PySem.W.kitOne K (.ref X1) (.ref X4) = some false)
      | 5, _ => (kit_refs xc5.1 xc5.2.2.2.2.2.2.2.1 xs1.2.2.2.2.2.1 xs1.2.1 : PySem.W.kitOne K (.ref X1) (.ref X5) = some false)
      | 6, _ => (kit_refs xc6.1 xc6.2.2.2.2.2.2.2.1 xs1.2.2.2.2.2.2.1 xs1.2.1 : PySem.W.kitOne K (.ref X1) (.ref X6) = some false)
      | 7, _ => (kit_refs xc7.1 xc7.2.2.2.2.2.2.2.1 xs1.2.2.2.2.2.2.2.1 xs1.2.1 : PySem.W.kitOne K (.ref X1) (.ref X7) = some false)
      | 8, _ => (kit_refs xc8.1 xc8.2.2.2.2.2.2.2.1 xs1.2.2.2.2.2.2.2.2.1 xs1.2.1 : PySem.W.kitOne K (.ref X1) (.ref X8) = some false)
      | 9, _ => (kit_refs xc9.1 xc9.2.2.2.2.2.2.2.1 xs1.2.2.2.2.2.2.2.2.2.1 xs1.2.1 : PySem.W.kitOne K (.ref X1) (.ref X9) = some false)
      | 10, _ => (kit_refs xc10.1 xc10.2.2.2.2.2.2.2.1 xs1.2.2.2.2.2.2.2.2.2.2.1 xs1.2.1 : PySem.W.kitOne K (.ref X1) (.ref X10) = some false)
      | 11, _ => (kit_refs xc11.1 xc11.2.2.2.2.2.2.2.1 xs1.2.2.2.2.2.2.2.2.2.2.2.1 xs1.2.1 : PySem.W.kitOne K (.ref X1) (.ref X11) = some false)
      | 12, _ => (kit_refs xc12.1 xc12.2.2.2.2.2.2.2.1 xs1.2.2.2.2.2.2.2.2.2.2.2.2.1 xs1.2.1 : PySem.W.kitOne K (.ref X1) (.ref X12) = some false)
      | 13, _ => (kit_refs xc13.1 xc13.2.2.2.2.2.2.2.1 xs1.2.2.2.2.2.2.2.2.2.2.2.2.2.1 xs1.2.1 : PySem.W.kitOne K (.ref X1) (.ref X13) = some false)
      | 14, _ => (kit_refs xc14.1 xc14.2.2.2.2.2.2.2.1 xs1.2.2.2.2.2.2.2.2.2.2.2.2.2.2.1 xs1.2.1 : PySem.W.kitOne K (.ref X1) (.ref X14) = some false)
      | 15, _ => (kit_refs xc15.1 xc15.2.2.2.2.2.2.2.1 xs1.2.2.2.2.2.2.2.2.2.2.2.2.2.2.2.1 xs1.2.1 : PySem.W.kitOne K (.ref X1) (.ref X15) = some false)
      | 16, _ => (kit_refs xc16.1 xc16.2.2.2.2.2.2.2.1 xs1.2.2.2.2.2.2.2.2.2.2.2.2.2.2.2.2.1 xs1.2.1 : PySem.W.kitOne K (.ref X1) (.ref X16) = some false)
      | 17, _ => (kit_refs xc17.1 xc17.2.2.2.2.2.2.2.1 xs1.2.2.2.2.2.2.2.2.2.2.2.2.2.2.2.2.2 xs1.2.1 : PySem.W.kitOne K (.ref X1) (.ref X17) = some true)
      | n + 18, h => absurd h (by omega)
    | 2, _ => fun j hj => match j, hj with
      | 0, _ => (kit_refs xc0.1 xc0.2.2.2.2.2.2.2.1 xs2.1 xs2.2.2.1 : PySem.W.kitOne K (.ref X2) (.ref X0) = some false)
      | 1, _ => (kit_refs xc1.1 xc1.2.2.2.2.2.2.2.1 xs2.2.1 xs2.2.2.1 : PySem.W.kitOne K (.ref X2) (.ref X1) = some false)
      | 2, _ => (kit_refs xc2.1 xc2.2.2.2.2.2.2.2.1 xs2.2.2.1 xs2.2.2.1 : PySem.W.kitOne K (.ref X2) (.ref X2) = some true)
      | 3, _ => (kit_refs xc3.1 xc3.2.2.2.2.2.2.2.1 xs2.2.2.2.1 xs2.2.2.1 : PySem.W.kitOne K (.ref X2) (.ref X3) = some false)
      | 4, _ => (kit_refs xc4.1 xc4.2.2.2.2.2.2.2.1 xs2.2.2.2.2.1 xs2.2.2.1 : PySem.W.kitOne K (.ref X2) (.ref X4) = some false)
      | 5, _ => (kit_refs xc5.1 xc5.2.2.2.2.2.2.2.1 xs2.2.2.2.2.2.1 xs2.2.2.1 : PySem.W.kitOne K (.ref X2) (.ref X5) = some false)
      | 6, _ => (kit_refs xc6.1 xc6.2.2.2.2.2.2.2.1 xs2.2.2.2.2.2.2.1 xs2.2.2.1 : PySem.W.kitOne K (.ref X2) (.ref X6) = some false)
      | 7, _ => (kit_refs xc7.1 xc7.2.2.2.2.2.2.2.1 xs2.2.2.2.2.2.2.2.1 xs2.2.2.1 : PySem.W.kitOne K (.ref X2) (.ref X7) = some false)
      | 8, _ => (kit_refs xc8.1 xc8.2.2.2.2.2.2.2.1 xs2.2.2.2.2.2.2.2.2.1 xs2.2.2.1 : PySem.W.kitOne K (.ref X2) (.ref X8) = some false)
      | 9, _ => (kit_refs xc9.1 xc9.2.2.2.2.2.2.2.1 xs2.2.2.2.2.2.2.2.2.2.1 xs2.2.2.1 : PySem.W.kitOne K (.ref X2) (.ref X9) = some false)
      | 10, _ => (kit_refs xc10.1 xc10.2.2.2.2.2.2.2.1 xs2.2.2.2.2.2.2.2.2.2.2.1 xs2.2.2.1 : PySem.W.kitOne K (.ref X2) (.ref X10) = some false)
      | 11, _ => (kit_refs xc11.1 xc11.2.2.2.2.2.2.2.1 xs2.2.2.2.2.2.2.2.2.2.2.2.1 xs2.2.2.1 : PySem.W.kitOne K (.ref X2) (.ref X11) = some false)
      | 12, _ => (kit_refs xc12.1 xc12.2.2.2.2.2.2.2.1 xs2.2.2.2.2.2.2.2.2.2.2.2.2.1 xs2.2.2.1 : PySem.W.kitOne K (.ref X2) (.ref X12) = some false)
      | 13, _ => (kit_refs xc13.1 xc13.2.2.2.2.2.2.2.1 xs2.2.2.2.2.2.2.2.2.2.2.2.2.2.1 xs2.2.2.1 : PySem.W.kitOne K (.ref X2) (.ref X13) = some false)
      | 14, _ => (kit_refs xc14.1 xc14.2.2.2.2.2.2.2.1 xs2.2.2.2.2.2.2.2.2.2.2.2.2.2.2.1 xs2.2.2.1 : PySem.W.kitOne K (.ref X2) (.ref X14) = some false)
      | 15, _ => (kit_refs xc15.1 xc15.2.2.2.2.2.2.2.1 xs2.2.2.2.2.2.2.2.2.2.2.2.2.2.2.2.1 xs2.2.2.1 : PySem.W.kitOne K (.ref X2) (.ref X15) = some false)
      | 16, _ => (kit_refs xc16.1 xc16.2.2.2.2.2.2.2.1 xs2.2.2.2.2.2.2.2.2.2.2.2.2.2.2.2.2.1 xs2.2.2.1 : PySem.W.kitOne K (.ref X2) (.ref X16) = some false)
      | 17, _ => (kit_refs xc17.1 xc17.2.2.2.2.2.2.2.1 xs2.2.2.2.2.2.2.2.2.2.2.2.2.2.2.2.2.2 xs2.2.2.1 : PySem.W.kitOne K (.ref X2) (.ref X17) = some true)
      | n + 18, h => absurd h (by omega)
    | 3, _ => fun j hj => match j, hj with
      | 0, _ => (kit_refs xc0.1 xc0.2.2.2.2.2.2.2.1 xs3.1 xs3.2.2.2.1 : PySem.W.kitOne K (.ref X3) (.ref X0) = some false)
      | 1, _ => (kit_refs xc1.1 xc1.2.2.2.2.2.2.2.1 xs3.2.1 xs3.2.2.2.1 : PySem.W.kitOne K (.ref X3) (.ref X1) = some false)
      | 2, _ => (kit_refs xc2.1 xc2.2.2.2.2.2.2.2.1 xs3.2.2.1 xs3.2.2.2.1 : PySem.W.kitOne K (.ref X3) (.ref X2) = some false)
      | 3, _ => (kit_refs xc3.1 xc3.2.2.2.2.2.2.2.1 xs3.2.2.2.1 xs3.2.2.2.1 : PySem.W.kitOne K (.ref X3) (.ref X3) = some true)
      | 4, _ => (kit_refs xc4.1 xc4.2.2.2.2.2.2.2.1 xs3.2.2.2.2.1 xs3.2.2.2.1 : PySem.W.kitOne K (.ref X3) (.ref X4) = some false)
      | 5, _ => (kit_refs xc5.1 xc5.2.2.2.2.2.2.2.1 xs3.2.2.2.2.2.1 xs3.2.2.2.1 : PySem.W.kitOne K (.ref X3) (.ref X5) = some false)
      | 6, _ => (kit_refs xc6.1 xc6.2.2.2.2.2.2.2.1 xs3.2.2.2.2.2.2.1 xs3.2.2.2.1 : PySem.W.kitOne K (.ref X3) (.ref X6) = some false)
      | 7, _ => (kit_refs xc7.1 xc7.2.2.2.2.2.2.2.1 xs3.2.2.2.2.2.2.2.1 xs3.2.2.2.1 : PySem.W.kitOne K (.ref X3) (.ref X7) = some false)
      | 8, _ => (kit_refs xc8.1 xc8.2.2.2.2.2.2.2.1 xs3.2.2.2.2.2.2.2.2.1 xs3.2.2.2.1 : PySem.W.kitOne K (.ref X3) (.ref X8) = some false)
      | 9, _ => (kit_refs xc9.1 xc9.2.2.2.2.2.2.2.1 xs3.2.2.2.2.2.2.2.2.2.1 xs3.2.2.2.1 : PySem.W.kitOne K (.ref X3) (.ref X9) = some false)
      | 10, _ => (kit_refs xc10.1 xc10.2.2.2.2.2.2.2.1 xs3.2.2.2.2.2.2.2.2.2.2.1 xs3.2.2.2.1 : PySem.W.kitOne K (.ref X3) (.ref X10) = some false)
      | 11, _ => (kit_refs xc11.1 xc11.2.2.2.2.2.2.2.1 xs3.2.2.2.2.2.2.2.2.2.2.2.1 xs3.2.2.2.1 : PySem.W.kitOne K (.ref X3) (.ref X11) = some false)
      | 12, _ => (kit_refs xc12.1 xc12.2.2.2.2.2.2.2.1 xs3.2.2.2.2.2.2.2.2.2.2.2.2.1 xs3.2.2.2.1 : PySem.W.kitOne K (.ref X3) (.ref X12) = some false)
      | 13, _ => (kit_refs xc13.1 xc13.2.2.2.2.2.2.2.1 xs3.2.2.2.2.2.2.2.2.2.2.2.2.2.1 xs3.2.2.2.1 : PySem.W.kitOne K (.ref X3) (.ref X13) = some false)
      | 14, _ => (kit_refs xc14.1 xc14.2.2.2.2.2.2.2.1 xs3.2.2.2.2.2.2.2.2.2.2.2.2.2.2.1 xs3.2.2.2.1 : PySem.W.kitOne K (.ref X3) (.ref X14) = some false)
      | 15, _ => (kit_refs xc15.1 xc15.2.2.2.2.2.2.2.1 xs3.2.2.2.2.2.2.2.2.2.2.2.2.2.2.2.1 xs3.2.2.2.1 : PySem.W.kitOne K (.ref X3) (.ref X15) = some false)
      | 16, _ => (kit_refs xc16.1 xc16.2.2.2.2.2.2.2.1 xs3.2.2.2.2.2.2.2.2.2.2.2.2.2.2.2.2.1 xs3.2.2.2.1 : PySem.W.kitOne K (.ref X3) (.ref X16) = some false)
      | 17, _ => (kit_refs xc17.1 xc17.2.2.2.2.2.2.2.1 xs3.2.2.2.2.2.2.2.2.2.2.2.2.2.2.2.2.2 xs3.2.2.2.1 : PySem.W.kitOne K (.ref X3) (.ref X17) = some true)
      | n + 18, h => absurd h (by omega)
    | 4, _ => fun j hj => match j, hj with
      | 0, _ => (kit_refs xc0.1 xc0.2.2.2.2.2.2.2.1 xs4.1 xs4.2.2.2.2.1 : PySem.W.kitOne K (.ref X4) (.ref X0) = some false)
      | 1, _ => (kit_refs xc1.1 xc1.2.2.2.2.2.2.2.1 xs4.2.1 xs4.2.2.2.2.1 : PySem.W.kitOne K (.ref X4) (.ref X1) = some false)
      | 2, _ => (kit_refs xc2.1 xc2.2.2.2.2.2.2.2.1 xs4.2.2.1 xs4.2.2.2.2.1 : PySem.W.kitOne K (.ref X4) (.ref X2) = some false)
      | 3, _ => (kit_refs xc3.1 xc3.2.2.2.2.2.2.2.1 xs4.2.2.2.1 xs4.2.2.2.2.1 : PySem.W.kitOne K (.ref X4) (.ref X3) = some false)
      | 4, _ => (kit_refs xc4.1 xc4.2.2.2.2.2.2.2.1 xs4.2.2.2.2.1 xs4.2.2.2.2.1 : PySem.W.kitOne K (.ref X4) (.ref X4) = some true)
      | 5, _ => (kit_refs xc5.1 xc5.2.2.2.2.2.2.2.1 xs4.2.2.2.2.2.1 xs4.2.2.2.2.1 : PySem.W.kitOne K (.ref X4) (.ref X5) = some false)
      | 6, _ => (kit_refs xc6.1 xc6.2.2.2.2.2.2.2.1 xs4.2.2.2.2.2.2.1 xs4.2.2.2.2.1 : PySem.W.kitOne K (.ref X4) (.ref X6) = some false)
      | 7, _ => (kit_refs xc7.1 xc7.2.2.2.2.2.2.2.1 xs4.2.2.2.2.2.2.2.1 xs4.2.2.2.2.1 : PySem.W.kitOne K (.ref X4) (.ref X7) = some false)
      | 8, _ => (kit_refs xc8.1 xc8.2.2.2.2.2.2.2.1 xs4.2.2.2.2.2.2.2.2.1 xs4.2.2.2.2.1 : PySem.W.kitOne K (.ref X4) (.ref X8) = some false)
      | 9, _ => (kit_refs xc9.1 xc9.2.2.2.2.2.2.2.1 xs4.2.2.2.2.2.2.2.2.2.1 xs4.2.2.2.2.1 : PySem.W.kitOne K (.ref X4) (.ref X9) = some false)
      | 10, _ => (kit_refs xc10.1 xc10.2.2.2.2.2.2.2.1 xs4.2.2.2.2.2.2.2.2.2.2.1 xs4.2.2.2.2.1 : PySem.W.kitOne K (.ref X4) (.ref X10) = some false)
      | 11, _ => (kit_refs xc11.1 xc11.2.2.2.2.2.2.2.1 xs4.2.2.2.2.2.2.2.2.2.2.2.1 xs4.2.2.2.2.1 : PySem.W.kitOne K (.ref X4) (.ref X11) = some false)
      | 12, _ => (kit_refs xc12.1 xc12.2.2.2.2.2.2.2.1 xs4.2.2.2.2.2.2.2.2.2.2.2.2.1 xs4.2.2.2.2.1 : PySem.W.kitOne K (.ref X4) (.ref X12) = some false)
      | 13, _ => (kit_refs xc13.1 xc13.2.2.2.2.2.2.2.1 xs4.2.2.2.2.2.2.2.2.2.2.2.2.2.1 xs4.2.2.2.2.1 : PySem.W.kitOne K (.ref X4) (.ref X13) = some false)
      | 14, _ => (kit_refs xc14.1 xc14.2.2.2.2.2.2.2.1 xs4.2.2.2.2.2.2.2.2.2.2.2.2.2.2.1 xs4.2.2.2.2.1 : PySem.W.kitOne K (.ref X4) (.ref X14) = some false)
      | 15, _ => (kit_refs xc15.1 xc15.2.2.2.2.2.2.2.1 xs4.2.2.2.2.2.2.2.2.2.2.2.2.2.2.2.1 xs4.2.2.2.2.1 : PySem.W.kitOne K (.ref X4) (.ref X15) = some false)
      | 16, _ => (kit_refs xc16.1 xc16.2.2.2.2.2.2.2.1 xs4.2.2.2.2.2.2.2.2.2.2.2.2.2.2.2.2.1 xs4.2.2.2.2.1 : PySem.W.kitOne K (.ref X4) (.ref X16) = some false)
      | 17, _ => (kit_refs xc17.1 xc17.2.2.2.2.2.2.2.1 xs4.2.2.2.2.2.2.2.2.2.2.2.2.2.2.2.2.2 xs4.2.2.2.2.1 : PySem.W.kitOne K (.ref X4) (.ref X17) = some true)
      | n + 18, h => absurd h (by omega)
    | 5, _ => fun j hj => match j, hj with
      | 0, _ => (kit_refs xc0.1 xc0.2.2.2.2.2.2.2.1 xs5.1 xs5.2.2.2.2.2.1 : PySem.W.kitOne K (.ref X5) (.ref X0) = some false)
      | 1, _ => (kit_refs xc1.1 xc1.2.2.2.2.2.2.2.1 xs5.2.1 xs5.2.2.2.2.2.1 : PySem.W.kitOne K (.ref X5) (.ref X1) = some false)
      | 2, _ => (kit_refs xc2.1 xc2.2.2.2.2.2.2.2.1 xs5.2.2.1 xs5.2.2.2.2.2.1 : PySem.W.kitOne K (.ref X5) (.ref X2) = some false)
      | 3, _ => (kit_refs xc3.1 xc3.2.2.2.2.2.2.2.1 xs5.2.2.2.1 xs5.2.2.2.2.2.1 : PySem.W.kitOne K (.ref X5) (.ref X3) = some false)
      | 4, _ => (kit_refs xc4.1 xc4.2.2.2.2.2.2.2.1 xs5.2.2.2.2.1 xs5.2.2.2.2.2.1 : PySem.W.kitOne K (.ref X5) (.ref X4) = some false)
      | 5, _ => (kit_refs xc5.1 xc5.2.2.2.2.2.2.2.1 xs5.2.2.2.2.2.1 xs5.2.2.2.2.2.1 : PySem.W.kitOne K (.ref X5) (.ref X5) = some true)
      | 6, _ => (kit_refs xc6.1 xc6.2.2.2.2.2.2.2.1 xs5.2.2.2.2.2.2.1 xs5.2.2.2.2.2.1 : PySem.W.kitOne K (.ref X5) (.ref X6) = some false)
      | 7, _ => (kit_refs xc7.1 xc7.2.2.2.2.2.2.2.1 xs5.2.2.2.2.2.2.2.1 xs5.2.2.2.2.2.1 : PySem.W.kitOne K (.ref X5) (.ref X7) = some false)
      | 8, _ => (kit_refs xc8.1 xc8.2.2.2.2.2.2.2.1 xs5.2.2.2.2.2.2.2.2.1 xs5.2.2.2.2.2.1 : PySem.W.kitOne K (.ref X5) (.ref X8) = some false)
      | 9, _ => (kit_refs xc9.1 xc9.2.2.2.2.2.2.2.1 xs5.2.2.2.2.2.2.2.2.2.1 xs5.2.2.2.2.2.1 : PySem.W.kitOne K (.ref X5) (.ref X9) = some false)
      | 10, _ => (kit_refs xc10.1 xc10.2.2.2.2.2.2.2.1 xs5.2.2.2.2.2.2.2.2.2.2.1 xs5.2.2.2.2.2.1 : PySem.W.kitOne K (.ref X5) (.ref X10) = some false)
      | 11, _ => (kit_refs xc11.1 xc11.2.2.2.2.2.2.2.1 xs5.2.2.2.2.2.2.2.2.2.2.2.1 xs5.2.2.2.2.2.1 : PySem.W.kitOne K (.ref X5) (.ref X11) = some false)
      | 12, _ => (kit_refs xc12.1 xc12.2.2.2.2.2.2.2.1 xs5.2.2.2.2.2.2.2.2.2.2.2.2.1 xs5.2.2.2.2.2.1 : PySem.W.kitOne K (.ref X5) (.ref X12) = some false)
      | 13, _ => (kit_refs xc13.1 xc13.2.2.2.2.2.2.2.1 xs5.2.2.2.2.2.2.2.2.2.2.2.2.2.1 xs5.2.2.2.2.2.1 : PySem.W.kitOne K (.ref X5) (.ref X13) = some false)
      | 14, _ => (kit_refs xc14.1 xc14.2.2.2.2.2.2.2.1 xs5.2.2.2.2.2.2.2.2.2.2.2.2.2.2.1 xs5.2.2.2.2.2.1 : PySem.W.kitOne K (.ref X5) (.ref X14) = some false)
      | 15, _ => (kit_refs xc15.1 xc15.2.2.2.2.2.2.2.1 xs5.2.2.2.2.2.2.2.2.2.2.2.2.2.2.2.1 xs5.2.2.2.2.2.1 : PySem.W.kitOne K (.ref X5) (.ref X15) = some false)
      | 16, _ => (kit_refs xc16.1 xc16.2.2.2.2.2.2.2.1 xs5.2.2.2.2.2.2.2.2.2.2.2.2.2.2.2.2.1 xs5.2.2.2.2.2.1 : PySem.W.kitOne K (.ref X5) (.ref X16) = some false)
      | 17, _ => (kit_refs xc17.1 xc17.2.2.2.2.2.2.2.1 xs5.2.2.2.2.2.2.2.2.2.2.2.2.2.2.2.2.2 xs5.2.2.2.2.2.1 : PySem.W.kitOne K (.ref X5) (.ref X17) = some true)
      | n + 18, h => absurd h (by omega)
    | 6, _ => fun j hj => match j, hj with
      | 0, _ => (kit_refs xc0.1 xc0.2.2.2.2.2.2.2.1 xs6.1 xs6.2.2.2.2.2.2.1 : PySem.W.kitOne K (.ref X6) (.ref X0) = some false)
      | 1, _ => (kit_refs xc1.1 xc1.2.2.2.2.2.2.2.1 xs6.2.1 xs6.2.2.2.2.2.2.1 : PySem.W.kitOne K (.ref X6) (.ref X1) = some false)
      | 2, _ => (kit_refs xc2.1 xc2.2.2.2.2.2.2.2.1 xs6.2.2.1 xs6.2.2.2.2.2.2.1 : PySem.W.kitOne K (.ref X6) (.ref X2) = some false)
      | 3, _ => (kit_refs xc3.1 xc3.2.2.2.2.2.2.2.1 xs6.2.2.2.1 xs6.2.2.2.2.2.2.1 : PySem.W.kitOne K (.ref X6) (.ref X3) = some false)
      | 4, _ => (kit_refs xc4.1 xc4.2.2.2.2.2.2.2.1 xs6.2.2.2.2.1 xs6.2.2.2.2.2.2.1 : PySem.W.kitOne K (.ref X6) (.ref X4) = some false)
      | 5, _ => (kit_refs xc5.1 xc5.2.2.2.2.2.2.2.1 xs6.2.2.2.2.2.1 xs6.2.2.2.2.2.2.1 : PySem.W.kitOne K (.ref X6) (.ref X5) = some false)
      | 6, _ => (kit_refs xc6.1 xc6.2.2.2.2.2.2.2.1 xs6.2.2.2.2.2.2.1 xs6.2.2.2.2.2.2.1 : PySem.W.kitOne K (.ref X6) (.ref X6) = some true)
      | 7, _ => (kit_refs xc7.1 xc7.2.2.2.2.2.2.2.1 xs6.2.2.2.2.2.2.2.1 xs6.2.2.2.2.2.2.1 : PySem.W.kitOne K (.ref X6) (.ref X7) = some false)
      | 8, _ => (kit_refs xc8.1 xc8.2.2.2.2.2.2.2.1 xs6.2.2.2.2.2.2.2.2.1 xs6.2.2.2.2.2.2.1 : PySem.W.kitOne K (.ref X6) (.ref X8) = some false)
      | 9, _ => (kit_refs xc9.1 xc9.2.2.2.2.2.2.2.1 xs6.2.2.2.2.2.2.2.2.2.1 xs6.2.2.2.2.2.2.1 : PySem.W.kitOne K (.ref X6) (.ref X9) = some false)
      | 10, _ => (kit_refs xc10.1 xc10.2.2.2.2.2.2.2.1 xs6.2.2.2.2.2.2.2.2.2.2.1 xs6.2.2.2.2.2.2.1 : PySem.W.kitOne K (.ref X6) (.ref X10) = some false)
      | 11, _ => (kit_refs xc11.1 xc11.2.2.2.2.2.2.2.1 xs6.2.2.2.2.2.2.2.2.2.2.2.1 xs6.2.2.2.2.2.2.1 : PySem.W.kitOne K (.ref X6) (.ref X11) = some false)
      | 12, _ => (kit_refs xc12.1 xc12.2.2.2.2.2.2.2.1 xs6.2.2.2.2.2.2.2.2.2.2.2.2.1 xs6.2.2.2.2.2.2.1 : PySem.W.kitOne K (.ref X6) (.ref X12) = some false)
      | 13, _ => (kit_refs xc13.1 xc13.2.2.2.2.2.2.2.1 xs6.2.2.2.2.2.2.2.2.2.2.2.2.2.1 xs6.2.2.2.2.2.2.1 : PySem.W.kitOne K (.ref X6) (.ref X13) = some false)
      | 14, _ => (kit_refs xc14.1 xc14.2.2.2.2.2.2.2.1 xs6.2.2.2.2.2.2.2.2.2.2.2.2.2.2.1 xs6.2.2.2.2.2.2.1 : PySem.W.kitOne K (.ref X6) (.ref X14) = some false)
      | 15, _ => (kit_refs xc15.1 xc15.2.2.2.2.2.2.2.1 xs6.2.2.2.2.2.2.2.2.2.2.2.2.2.2.2.1 xs6.2.2.2.2.2.2.1 : PySem.W.kitOne K (.ref X6) (.ref X15) = some false)
      | 16, _ => (kit_refs xc16.1 xc16.2.2.2.2.2.2.2.1 xs6.2.2.2.2.2.2.2.2.2.2.2.2.2.2.2.2.1 xs6.2.2.2.2.2.2.1 : PySem.W.kitOne K (.ref X6) (.ref X16) = some false)
      | 17, _ => (kit_refs xc17.1 xc17.2.2.2.2.2.2.2.1 xs6.2.2.2.2.2.2.2.2.2.2.2.2.2.2.2.2.2 xs6.2.2.2.2.2.2.1 : PySem.W.kitOne K (.ref X6) (.ref X17) = some true)
      | n + 18, h => absurd h (by omega)
    | 7, _ => fun j hj => match j, hj with
      | 0, _ => (kit_refs xc0.1 xc0.2.2.2.2.2.2.2.1 xs7.1 xs7.2.2.2.2.2.2.2.1 : PySem.W.kitOne K (.ref X7) (.ref X0) = some false)
      | 1, _ => (kit_refs xc1.1 xc1.2.2.2.2.2.2.2.1 xs7.2.1 xs7.2.2.2.2.2.2.2.1 : PySem.W.kitOne K (.ref X7) (.ref X1) = some false)
      | 2, _ => (kit_refs xc2.1 xc2.2.2.2.2.2.2.2.1 xs7.2.2.1 xs7.2.2.2.2.2.2.2.1 : PySem.W.kitOne K (.ref X7) (.ref X2) = some false)
      | 3, _ => (kit_refs xc3.1 xc3.2.2.2.2.2.2.2.1 xs7.2.2.2.1 xs7.2.2.2.2.2.2.2.1 : PySem.W.kitOne K (.ref X7) (.ref X3) = some false)
      | 4, _ => (kit_refs xc4.1 xc4.2.2.2.2.2.2.2.1 xs7.2.2.2.2.1 xs7.2.2.2.2.2.2.2.1 : PySem.W.kitOne K (.ref X7) (.ref X4) = some false)
      | 5, _ => (kit_refs xc5.1 xc5.2.2.2.2.2.2.2.1 xs7.2.2.2.2.2.1 xs7.2.2.2.2.2.2.2.1 : PySem.W.kitOne K (.ref X7) (.ref X5) = some false)
      | 6, _ => (kit_refs xc6.1 xc6.2.2.2.2.2.2.2.1 xs7.2.2.2.2.2.2.1 xs7.2.2.2.2.2.2.2.1 : PySem.W.kitOne K (.ref X7) (.ref X6) = some false)
      | 7, _ => (kit_refs xc7.1 xc7.2.2.2.2.2.2.2.1 xs7.2.2.2.2.2.2.2.1 xs7.2.2.2.2.2.2.2.1 : PySem.W.kitOne K (.ref X7) (.ref X7) = some true)
      | 8, _ => (kit_refs xc8.1 xc8.2.2.2.2.2.2.2.1 xs7.2.2.2.2.2.2.2.2.1 xs7.2.2.2.2.2.2.2.1 : PySem.W.kitOne K (.ref X7) (.ref X8) = some false)
      | 9, _ => (kit_refs xc9.1 xc9.2.2.2.2.2.2.2.1 xs7.2.2.2.2.2.2.2.2.2.1 xs7.2.2.2.2.2.2.2.1 : PySem.W.kitOne K (.ref X7) (.ref X9) = some false)
      | 10, _ => (kit_refs xc10.1 xc10.2.2.2.2.2.2.2.1 xs7.2.2.2.2.2.2.2.2.2.2.1 xs7.2.2.2.2.2.2.2.1 : PySem.W.kitOne K (.ref X7) (.ref X10) = some false)
      | 11, _ => (kit_refs xc11.1 xc11.2.2.2.2.2.2.2.1 xs7.2.2.2.2.2.2.2.2.2.2.2.1 xs7.2.2.2.2.2.2.2.1 : PySem.W.kitOne K (.ref X7) (.ref X11) = some false)
      | 12, _ => (kit_refs xc12.1 xc12.2.2.2.2.2.2.2.1 xs7.2.2.2.2.2.2.2.2.2.2.2.2.1 xs7.2.2.2.2.2.2.2.1 : PySem.W.kitOne K (.ref X7) (.ref X12) = some false)
      | 13, _ => (kit_refs xc13.1 xc13.2.2.2.2.2.2.2.1 xs7.2.2.2.2.2.2.2.2.2.2.2.2.2.1 xs7.2.2.2.2.2.2.2.1 : PySem.W.kitOne K (.ref X7) (.ref X13) = some false)
      | 14, _ => (kit_refs xc14.1 xc14.2.2.2.2.2.2.2.1 xs7.2.2.2.2.2.2.2.2.2.2.2.2.2.2.1 xs7.2.2.2.2.2.2.2.1 : PySem.W.kitOne K (.ref X7) (.ref X14) = some false)
      | 15, _ => (kit_refs xc15.1 xc15.2.2.2.2.2.2.2.1 xs7.2.2.2.2.2.2.2.2.2.2.2.2.2.2.2.1 xs7.2.2.2.2.2.2.2.1 : PySem.W.kitOne K (.ref X7) (.ref X15) = some false)
      | 16, _ => (kit_refs xc16.1 xc16.2.2.2.2.2.2.2.1 xs7.2.2.2.2.2.2.2.2.2.2.2.2.2.2.2.2.1 xs7.2.2.2.2.2.2.2.1 : PySem.W.kitOne K (.ref X7) (.ref X16) = some false)
      | 17, _ => (kit_refs xc17.1 xc17.2.2.2.2.2.2.2.1 xs7.2.2.2.2.2.2.2.2.2.2.2.2.2.2.2.2.2 xs7.2.2.2.2.2.2.2.1 : PySem.W.kitOne K (.ref X7) (.ref X17) = some true)
      | n + 18, h => absurd h (by omega)
    | 8, _ => fun j hj => match j, hj with
      | 0, _ => (kit_refs xc0.1 xc0.2.2.2.2.2.2.2.1 xs8.1 xs8.2.2.2.2.2.2.2.2.1 : PySem.W.kitOne K (.ref X8) (.ref X0) = some false)
      | 1, _ => (kit_refs xc1.1 xc1.2.2.2.2.2.2.2.1 xs8.2.1 xs8.2.2.2.2.2.2.2.2.1 : PySem.W.kitOne K (.ref X8) (.ref X1) = some false)
      | 2, _ => (kit_refs xc2.1 xc2.2.2.2.2.2.2.2.1 xs8.2.2.1 xs8.2.2.2.2.2.2.2.2.1 : PySem.W.kitOne K (.ref X8) (.ref X2) = some false)
      | 3, _ => (kit_refs xc3.1 xc3.2.2.2.2.2.2.2.1 xs8.2.2.2.1 xs8.2.2.2.2.2.2.2.2.1 : PySem.W.kitOne K (.ref X8) (.ref X3) = some false)
      | 4, _ => (kit_refs xc4.1 xc4.2.2.2.2.2.2.2.1 xs8.2.2.2.2.1 xs8.2.2.2.2.2.2.2.2.1 : PySem.W.kitOne K (.ref X8) (.ref X4) = some false)
      | 5, _ => (kit_refs xc5.1 xc5.2.2.2.2.2.2.2.1 xs8.2.2.2.2.2.1 xs8.2.2.2.2.2.2.2.2.1 : PySem.W.kitOne K (.ref X8) (.ref X5) = some false)
      | 6, _ => (kit_refs xc6.1 xc6.2.2.2.2.2.2.2.1 xs8.2.2.2.2.2.2.1 xs8.2.2.2.2.2.2.2.2.1 : PySem.W.kitOne K (.ref X8) (.ref X6) = some false)
      | 7, _ => (kit_refs xc7.1 xc7.2.2.2.2.2.2.2.1 xs8.2.2.2.2.2.2.2.1 xs8.2.2.2.2.2.2.2.2.1 : PySem.W.kitOne K (.ref X8) (.ref X7) = some false)
      | 8, _ => (kit_refs xc8.1 xc8.2.2.2.2.2.2.2.1 xs8.2.2.2.2.2.2.2.2.1 xs8.2.2.2.2.2.2.2.2.1 : PySem.W.kitOne K (.ref X8) (.ref X8) = some true)
      | 9, _ => (kit_refs xc9.1 xc9.2.2.2.2.2.2.2.1 xs8.2.2.2.2.2.2.2.2.2.1 xs8.2.2.2.2.2.2.2.2.1 : PySem.W.kitOne K (.ref X8) (.ref X9) = some false)
      | 10, _ => (kit_refs xc10.1 xc10.2.2.2.2.2.2.2.1 xs8.2.2.2.2.2.2.2.2.2.2.1 xs8.2.2.2.2.2.2.2.2.1 : PySem.W.kitOne K (.ref X8) (.ref X10) = some false)
      | 11, _ => (kit_refs xc11.1 xc11.2.2.2.2.2.2.2.1 xs8.2.2.2.2.2.2.2.2.2.2.2.1 xs8.2.2.2.2.2.2.2.2.1 : PySem.W.kitOne K (.ref X8) (.ref X11) = some false)
      | 12, _ => (kit_refs xc12.1 xc12.2.2.2.2.2.2.2.1 xs8.2.2.2.2.2.2.2.2.2.2.2.2.1 xs8.2.2.2.2.2.2.2.2.1 : PySem.W.kitOne K (.ref X8) (.ref X12) = some false)
      | 13, _ => (kit_refs xc13.1 xc13.2.2.2.2.2.2.2.1 xs8.2.2.2.2.2.2.2.2.2.2.2.2.2.1 xs8.2.2.2.2.2.2.2.2.1 : PySem.W.kitOne K (.ref X8) (.ref X13) = some false)
      | 14, _ => (kit_refs xc14.1 xc14.2.2.2.2.2.2.2.1 xs8.2.2.2.2.2.2.2.2.2.2.2.2.2.2.1 xs8.2.2.2.2.2.2.2.2.1 : PySem.W.kitOne K (.ref X8) (.ref X14) = some false)
      | 15, _ => (kit_refs xc15.1 xc15.2.2.2.2.2.2.2.1 xs8.2.2.2.2.2.2.2.2.2.2.2.2.2.2.2.1 xs8.2.2.2.2.2.2.2.2.1 : PySem.W.kitOne K (.ref X8) (.ref X15) = some false)
      | 16, _ => (kit_refs xc16.1 xc16.2.2.2.2.2.2.2.1 xs8.2.2.2.2.2.2.2.2.2.2.2.2.2.2.2.2.1 xs8.2.2.2.2.2.2.2.2.1 : PySem.W.kitOne K (.ref X8) (.ref X16) = some false)
      | 17, _ => (kit_refs xc17.1 xc17.2.2.2.2.2.2.2.1 xs8.2.2.2.2.2.2.2.2.2.2.2.2.2.2.2.2.2 xs8.2.2.2.2.2.2.2.2.1 : PySem.W.kitOne K (.ref X8) (.ref X17) = some true)
      | n + 18, h => absurd h (by omega)
    | 9, _ => fun j hj => match j, hj with
      | 0, _ => (kit_refs xc0.1 xc0.2.2.2.2.2.2.2.1 xs9.1 xs9.2.2.2.2.2.2.2.2.2.1 : PySem.W.kitOne K (.ref X9) (.ref X0) = some false)
      | 1, _ => (kit_refs xc1.1 xc1.2.2.2.2.2.2.2.1 xs9.2.1 xs9.2.2.2.2.2.2.2.2.2.1 : PySem.W.kitOne K (.ref X9) (.ref X1) = some false)
      | 2, _ => (kit_refs xc2.1 xc2.2.2.2.2.2.2.2.1 xs9.2.2.1 xs9.2.2.2.2.2.2.2.2.2.1 : PySem.W.kitOne K (.ref X9) (.ref X2) = some false)
      | 3, _ => (kit_refs xc3.1 xc3.2.2.2.2.2.2.2.1 xs9.2.2.2.1 xs9.2.2.2.2.2.2.2.2.2.1 : PySem.W.kitOne K (.ref X9) (.ref X3) = some false)
      | 4, _ => (kit_refs xc4.1 xc4.2.2.2.2.2.2.2.1 xs9.2.2.2.2.1 xs9.2.2.2.2.2.2.2.2.2.1 : PySem.W.kitOne K (.ref X9) (.ref X4) = some false)
      | 5, _ => (kit_refs xc5.1 xc5.2.2.2.2.2.2.2.1 xs9.2.2.2.2.2.1 xs9.2.2.2.2.2.2.2.2.2.1 : PySem.W.kitOne K (.ref X9) (.ref X5) = some false)
      | 6, _ => (kit_refs xc6.1 xc6.2.2.2.2.2.2.2.1 xs9.2.2.2.2.2.2.1 xs9.2.2.2.2.2.2.2.2.2.1 : PySem.W.kitOne K (.ref X9) (.ref X6) = some false)
      | 7, _ => (kit_refs xc7.1 xc7.2.2.2.2.2.2.2.1 xs9.2.2.2.2.2.2.2.1 xs9.2.2.2.2.2.2.2.2.2.1 : PySem.W.kitOne K (.ref X9) (.ref X7) = some false)
      | 8, _ => (kit_refs xc8.1 xc8.2.2.2.2.2.2.2.1 xs9.2.2.2.2.2.2.2.2.1 xs9.2.2.2.2.2.2.2.2.2.1 : PySem.W.kitOne K (.ref X9) (.ref X8) = some false)
      | 9, _ => (kit_refs xc9.1 xc9.2.2.2.2.2.2.2.1 xs9.2.2.2.2.2.2.2.2.2.1 xs9.2.2.2.2.2.2.2.2.2.1 : PySem.W.kitOne K (.ref X9) (.ref X9) = some true)
      | 10, _ => (kit_refs xc10.1 xc10.2.2.2.2.2.2.2.1 xs9.2.2.2.2.2.2.2.2.2.2.1 xs9.2.2.2.2.2.2.2.2.2.1 : PySem.W.kitOne K (.ref X9) (.ref X10) = some false)
      | 11, _ => (kit_refs xc11.1 xc11.2.2.2.2.2.2.2.1 xs9.2.2.2.2.2.2.2.2.2.2.2.1 xs9.2.2.2.2.2.2.2.2.2.1 : PySem.W.kitOne K (.ref X9) (.ref X11) = some false)
      | 12, _ => (kit_refs xc12.1 xc12.2.2.2.2.2.2.2.1 xs9.2.2.2.2.2.2.2.2.2.2.2.2.1 xs9.2.2.2.2.2.2.2.2.2.1 : PySem.W.kitOne K (.ref X9) (.ref X12) = some false)
      | 13, _ => (kit_refs xc13.1 xc13.2.2.2.2.2.2.2.1 xs9.2.2.2.2.2.2.2.2.2.2.2.2.2.1 xs9.2.2.2.2.2.2.2.2.2.1 : PySem.W.kitOne K (.ref X9) (.ref X13) = some false)
      | 14, _ => (kit_refs xc14.1 xc14.2.2.2.2.2.2.2.1 xs9.2.2.2.2.2.2.2.2.2.2.2.2.2.2.1 xs9.2.2.2.2.2.2.2.2.2.1 : PySem.W.kitOne K (.ref X9) (.ref X14) = some false)
      | 15, _ => (kit_refs xc15.1 xc15.2.2.2.2.2.2.2.1 xs9.2.2.2.2.2.2.2.2.2.2.2.2.2.2.2.1 xs9.2.2.2.2.2.2.2.2.2.1 : PySem.W.kitOne K (.ref X9) (.ref X15) = some false)
      | 16, _ => (kit_refs xc16.1 xc16.2.2.2.2.2.2.2.1 xs9.2.2.2.2.2.2.2.2.2.2.2.2.2.2.2.2.1 xs9.2.2.2.2.2.2.2.2.2.1 : PySem.W.kitOne K (.ref X9) (.ref X16) = some false)
      | 17, _ => (kit_refs xc17.1 xc17.2.2.2.2.2.2.2.1 xs9.2.2.2.2.2.2.2.2.2.2.2.2.2.2.2.2.2 xs9.2.2.2.2.2.2.2.2.2.1 : PySem.W.kitOne K (.ref X9) (.ref X17) = some true)
      | n + 18, h => absurd h (by omega)
    | 10, _ => fun j hj => match j, hj with
      | 0, _ => (kit_refs xc0.1 xc0.2.2.2.2.2.2.2.1 xs10.1 xs10.2.2.2.2.2.2.2.2.2.2.1 : PySem.W.kitOne K (.ref X10) (.ref X0) = some false)
      | 1, _ => (kit_refs xc1.1 xc1.2.2.2.2.2.2.2.1 xs10.2.1 xs10.2.2.2.2.2.2.2.2.2.2.1 : PySem.W.kitOne K (.ref X10) (.ref X1) = some false)
      | 2, _ => (kit_refs xc2.1 xc2.2.2.2.2.2.2.2.1 xs10.2.2.1 xs10.2.2.2.2.2.2.2.2.2.2.1 : PySem.W.kitOne K (.ref X10) (.ref X2) = some false)
      | 3, _ => (kit_refs xc3.1 xc3.2.2.2.2.2.2.2.1 xs10.2.2.2.1 xs10.2.2.2.2.2.2.2.2.2.2.1 : PySem.W.kitOne K (.ref X10) (.ref X3) = some false)
      | 4, _ => (kit_refs xc4.1 xc4.2.2.2.2.2.2.2.1 xs10.2.2.2.2.1 xs10.2.2.2.2.2.2.2.2.2.2.1 : PySem.W.kitOne K (.ref X10) (.ref X4) = some false)
      | 5, _ => (kit_refs xc5.1 xc5.2.2.2.2.2.2.2.1 xs10.2.2.2.2.2.1 xs10.2.2.2.2.2.2.2.2.2.2.1 : PySem.W.kitOne K (.ref X10) (.ref X5) = some false)
      | 6, _ => (kit_refs xc6.1 xc6.2.2.2.2.2.2.2.1 xs10.2.2.2.2.2.2.1 xs10.2.2.2.2.2.2.2.2.2.2.1 : PySem.W.kitOne K (.ref X10) (.ref X6) = some false)
      | 7, _ => (kit_refs xc7.1 xc7.2.2.2.2.2.2.2.1 xs10.2.2.2.2.2.2.2.1 xs10.2.2.2.2.2.2.2.2.2.2.1 : PySem.W.kitOne K (.ref X10) (.ref X7) = some false)
      | 8, _ => (kit_refs xc8.1 xc8.2.2.2.2.2.2.2.1 xs10.2.2.2.2.2.2.2.2.1 xs10.2.2.2.2.2.2.2.2.2.2.1 : PySem.W.kitOne K (.ref X10) (.ref X8) = some false)
      | 9, _ => (kit_refs xc9.1 xc9.2.2.2.2.2.2.2.1 xs10.2.2.2.2.2.2.2.2.2.1 xs10.2.2.2.2.2.2.2.2.2.2.1 : PySem.W.kitOne K (.ref X10) (.ref X9) = some false)
      | 10, _ => (kit_refs xc10.1 xc10.2.2.2.2.2.2.2.1 xs10.2.2.2.2.2.2.2.2.2.2.1 xs10.2.2.2.2.2.2.2.2.2.2.1 : PySem.W.kitOne K (.ref X10) (.ref X10) = some true)
      | 11, _ => (kit_refs xc11.1 xc11.2.2.2.2.2.2.2.1 xs10.2.2.2.2.2.2.2.2.2.2.2.1 xs10.2.2.2.2.2.2.2.2.2.2.1 : PySem.W.kitOne K (.ref X10) (.ref X11) = some false)
      | 12, _ => (kit_refs xc12.1 xc12.2.2.2.2.2.2.2.1 xs10.2.2.2.2.2.2.2.2.2.2.2.2.1 xs10.2.2.2.2.2.2.2.2.2.2.1 : PySem.W.kitOne K (.ref X10) (.ref X12) = some false)
      | 13, _ => (kit_refs xc13.1 xc13.2.2.2.2.2.2.2.1 xs10.2.2.2.2.2.2.2.2.2.2.2.2.2.1 xs10.2.2.2.2.2.2.2.2.2.2.1 : PySem.W.kitOne K (.ref X10) (.ref X13) = some false)
      | 14, _ => (kit_refs xc14.1 xc14.2.2.2.2.2.2.2.1 xs10.2.2.2.2.2.2.2.2.2.2.2.2.2.2.1 xs10.2.2.2.2.2.2.2.2.2.2.1 : PySem.W.kitOne K (.ref X10) (.ref X14) = some false)
      | 15, _ => (kit_refs xc15.1 xc15.2.2.2.2.2.2.2.1 xs10.2.2.2.2.2.2.2.2.2.2.2.2.2.2.2.1 xs10.2.2.2.2.2.2.2.2.2.2.1 : PySem.W.kitOne K (.ref X10) (.ref X15) = some false)
      | 16, _ => (kit_refs xc16.1 xc16.2.2.2.2.2.2.2.1 xs10.2.2.2.2.2.2.2.2.2.2.2.2.2.2.2.2.1 xs10.2.2.2.2.2.2.2.2.2.2.1 : PySem.W.kitOne K (.ref X10) (.ref X16) = some false)
      | 17, _ => (kit_refs xc17.1 xc17.2.2.2.2.2.2.2.1 xs10.2.2.2.2.2.2.2.2.2.2.2.2.2.2.2.2.2 xs10.2.2.2.2.2.2.2.2.2.2.1 : PySem.W.kitOne K (.ref X10) (.ref X17) = some true)
      | n + 18, h => absurd h (by omega)
    | 11, _ => fun j hj => match j, hj with
      | 0, _ => (kit_refs xc0.1 xc0.2.2.2.2.2.2.2.1 xs11.1 xs11.2.2.2.2.2.2.2.2.2.2.2.1 : PySem.W.kitOne K (.ref X11) (.ref X0) = some false)
      | 1, _ => (kit_refs xc1.1 xc1.2.2.2.2.2.2.2.1 xs11.2.1 xs11.2.2.2.2.2.2.2.2.2.2.2.1 : PySem.W.kitOne K (.ref X11) (.ref X1) = some false)
      | 2, _ => (kit_refs xc2.1 xc2.2.2.2.2.2.2.2.1 xs11.2.2.1 xs11.2.2.2.2.2.2.2.2.2.2.2.1 : PySem.W.kitOne K (.ref X11) (.ref X2) = some false)
      | 3, _ => (kit_refs xc3.1 xc3.2.2.2.2.2.2.2.1 xs11.2.2.2.1 xs11.2.2.2.2.2.2.2.2.2.2.2.1 : PySem.W.kitOne K (.ref X11) (.ref X3) = some false)
      | 4, _ => (kit_refs xc4.1 xc4.2.2.2.2.2.2.2.1 xs11.2.2.2.2.1 xs11.2.2.2.2.2.2.2.2.2.2.2.1 : PySem.W.kitOne K (.ref X11) (.ref X4) = some false)
      | 5, _ => (kit_refs xc5.1 xc5.2.2.2.2.2.2.2.1 xs11.2.2.2.2.2.1 xs11.2.2.2.2.2.2.2.2.2.2.2.1 : PySem.W.kitOne K (.ref X11) (.ref X5) = some false)
      | 6, _ => (kit_refs xc6.1 xc6.2.2.2.2.2.2.2.1 xs11.2.2.2.2.2.2.1 xs11.2.2.2.2.2.2.2.2.2.2.2.1 : PySem.W.kitOne K (.ref X11) (.ref X6) = some false)
      | 7, _ => (kit_refs xc7.1 xc7.2.2.2.2.2.2.2.1 xs11.2.2.2.2.2.2.2.1 xs11.2.2.2.2.2.2.2.2.2.2.2.1 : PySem.W.kitOne K (.ref X11) (.ref X7) = some false)
      | 8, _ => (kit_refs xc8.1 xc8.2.2.2.2.2.2.2.1 xs11.2.2.2.2.2.2.2.2.1 xs11.2.2.2.2.2.2.2.2.2.2.2.1 : PySem.W.kitOne K (.ref X11) (.ref X8) = some false)
      | 9, _ => (kit_refs xc9.1 xc9.2.2.2.2.2.2.2.1 xs11.2.2.2.2.2.2.2.2.2.1 xs11.2.2.2.2.2.2.2.2.2.2.2.1 : PySem.W.kitOne K (.ref X11) (.ref X9) = some false)
      | 10, _ => (kit_refs xc10.1 xc10.2.2.2.2.2.2.2.1 xs11.2.2.2.2.2.2.2.2.2.2.1 xs11.2.2.2.2.2.2.2.2.2.2.2.1 : PySem.W.kitOne K (.ref X11) (.ref X10) = some false)
      | 11, _ => (kit_refs xc11.1 xc11.2.2.2.2.2.2.2.1 xs11.2.2.2.2.2.2.2.2.2.2.2.1 xs11.2.2.2.2.2.2.2.2.2.2.2.1 : PySem.W.kitOne K (.ref X11) (.ref X11) = some true)
      | 12, _ => (kit_refs xc12.1 xc12.2.2.2.2.2.2.2.1 xs11.2.2.2.2.2.2.2.2.2.2.2.2.1 xs11.2.2.2.2.2.2.2.2.2.2.2.1 : PySem.W.kitOne K (.ref X11) (.ref X12) = some false)
      | 13, _ => (kit_refs xc13.1 xc13.2.2.2.2.2.2.2.1 xs11.2.2.2.2.2.2.2.2.2.2.2.2.2.1 xs11.2.2.2.2.2.2.2.2.2.2.2.1 : PySem.W.kitOne K (.ref X11) (.ref X13) = some false)
      | 14, _ => (kit_refs xc14.1 xc14.2.2.2.2.2.2.2.1 xs11.2.2.2.2.2.2.2.2.2.2.2.2.2.2.1 xs11.2.2.2.2.2.2.2.2.2.2.2.1 : PySem.W.kitOne K (.ref X11) (.ref X14) = some false)
      | 15, _ => (kit_refs xc15.1 xc15.2.2.2.2.2.2.2.1 xs11.2.2.2.2.2.2.2.2.2.2.2.2.2.2.2.1 xs11.2.2.2.2.2.2.2.2.2.2.2.1 : PySem.W.kitOne K (.ref X11) (.ref X15) = some false)
      | 16, _ => (kit_refs xc16.1 xc16.2.2.2.2.2.2.2.1 xs11.2.2.2.2.2.2.2.2.2.2.2.2.2.2.2.2.1 xs11.2.2.2.2.2.2.2.2.2.2.2.1 : PySem.W.kitOne K (.ref X11) (.ref X16) = some false)
      | 17, _ => (kit_refs xc17.1 xc17.2.2.2.2.2.2.2.1 xs11.2.2.2.2.2.2.2.2.2.2.2.2.2.2.2.2.2 xs11.2.2.2.2.2.2.2.2.2.2.2.1 : PySem.W.kitOne K (.ref X11) (.ref X17) = some true)
      | n + 18, h => absurd h (by omega)
    | 12, _ => fun j hj => match j, hj with
      | 0, _ => (kit_refs xc0.1 xc0.2.2.2.2.2.2.2.1 xs12.1 xs12.2.2.2.2.2.2.2.2.2.2.2.2.1 : PySem.W.kitOne K (.ref X12) (.ref X0) = some false)
      | 1, _ => (kit_refs xc1.1 xc1.2.2.2.2.2.2.2.1 xs12.2.1 xs12.2.2.2.2.2.2.2.2.2.2.2.2.1 : PySem.W.kitOne K (.ref X12) (.ref X1) = some false)
      | 2, _ => (kit_refs xc2.1 xc2.2.2.2.2.2.2.2.1 xs12.2.2.1 xs12.2.2.2.2.2.2.2.2.2.2.2.2.1 : PySem.W.kitOne K (.ref X12) (.ref X2) = some false)
      | 3, _ => (kit_refs xc3.1 xc3.2.2.2.2.2.2.2.1 xs12.2.2.2.1 xs12.2.2.2.2.2.2.2.2.2.2.2.2.1 : PySem.W.kitOne K (.ref X12) (.ref X3) = some false)
      | 4, _ => (kit_refs xc4.1 xc4.2.2.2.2.2.2.2.1 xs12.2.2.2.2.1 xs12.2.2.2.2.2.2.2.2.2.2.2.2.1 : PySem.W.kitOne K (.ref X12) (.ref X4) = some false)
      | 5, _ => (kit_refs xc5.1 xc5.2.2.2.2.2.2.2.1 xs12.2.2.2.2.2.1 xs12.2.2.2.2.2.2.2.2.2.2.2.2.1 : PySem.W.kitOne K (.ref X12) (.ref X5) = some false)
      | 6, _ => (kit_refs xc6.1 xc6.2.2.2.2.2.2.2.1 xs12.2.2.2.2.2.2.1 xs12.2.2.2.2.2.2.2.2.2.2.2.2.1 : PySem.W.kitOne K (.ref X12) (.ref X6) = some false)
      | 7, _ => (kit_refs xc7.1 xc7.2.2.2.2.2.2.2.1 xs12.2.2.2.2.2.2.2.1 xs12.2.2.2.2.2.2.2.2.2.2.2.2.1 : PySem.W.kitOne K (.ref X12) (.ref X7) = some false)
      | 8, _ => (kit_refs xc8.1 xc8.2.2.2.2.2.2.2.1 xs12.2.2.2.2.2.2.2.2.1 xs12.2.2.2.2.2.2.2.2.2.2.2.2.1 : PySem.W.kitOne K (.ref X12) (.ref X8) = some false)
      | 9, _ => (kit_refs xc9.1 xc9.2.2.2.2.2.2.2.1 xs12.2.2.2.2.2.2.2.2.2.1 xs12.2.2.2.2.2.2.2.2.2.2.2.2.1 : PySem.W.kitOne K (.ref X12) (.ref X9) = some false)
      | 10, _ => (kit_refs xc10.1 xc10.2.2.2.2.2.2.2.1 xs12.2.2.2.2.2.2.2.2.2.2.1 xs12.2.2.2.2.2.2.2.2.2.2.2.2.1 : PySem.W.kitOne K (.ref X12) (.ref X10) = some false)
      | 11, _ => (kit_refs xc11.1 xc11.2.2.2.2.2.2.2.1 xs12.2.2.2.2.2.2.2.2.2.2.2.1 xs12.2.2.2.2.2.2.2.2.2.2.2.2.1 : PySem.W.kitOne K (.ref X12) (.ref X11) = some false)
      | 12, _ => (kit_refs xc12.1 xc12.2.2.2.2.2.2.2.1 xs12.2.2.2.2.2.2.2.2.2.2.2.2.1 xs12.2.2.2.2.2.2.2.2.2.2.2.2.1 : PySem.W.kitOne K (.ref X12) (.ref X12) = some true)
      | 13, _ => (kit_refs xc13.1 xc13.2.2.2.2.2.2.2.1 xs12.2.2.2.2.2.2.2.2.2.2.2.2.2.1 xs12.2.2.2.2.2.2.2.2.2.2.2.2.1 : PySem.W.kitOne K (.ref X12) (.ref X13) = some false)
      | 14, _ => (kit_refs xc14.1 xc14.2.2.2.2.2.2.2.1 xs12.2.2.2.2.2.2.2.2.2.2.2.2.2.2.1 xs12.2.2.2.2.2.2.2.2.2.2.2.2.1 : PySem.W.kitOne K (.ref X12) (.ref X14) = some false)
      | 15, _ => (kit_refs xc15.1 xc15.2.2.2.2.2.2.2.1 xs12.2.2.2.2.2.2.2.2.2.2.2.2.2.2.2.1 xs12.2.2.2.2.2.2.2.2.2.2.2.2.1 : PySem.W.kitOne K (.ref X12) (.ref X15) = some false)
      | 16, _ => (kit_refs xc16.1 xc16.2.2.2.2.2.2.2.1 xs12.2.2.2.2.2.2.2.2.2.2.2.2.2.2.2.2.1 xs12.2.2.2.2.2.2.2.2.2.2.2.2.1 : PySem.W.kitOne K (.ref X12) (.ref X16) = some false)
      | 17, _ => (kit_refs xc17.1 xc17.2.2.2.2.2.2.2.1 xs12.2.2.2.2.2.2.2.2.2.2.2.2.2.2.2.2.2 xs12.2.2.2.2.2.2.2.2.2.2.2.2.1 : PySem.W.kitOne K (.ref X12) (.ref X17) = some true)
      | n + 18, h => absurd h (by omega)
    | 13, _ => fun j hj => match j, hj with
      | 0, _ => (kit_refs xc0.1 xc0.2.2.2.2.2.2.2.1 xs13.1 xs13.2.2.2.2.2.2.2.2.2.2.2.2.2.1 : PySem.W.kitOne K (.ref X13) (.ref X0) = some false)
      | 1, _ => (kit_refs xc1.1 xc1.2.2.2.2.2.2.2.1 xs13.2.1 xs13.2.2.2.2.2.2.2.2.2.2.2.2.2.1 : PySem.W.kitOne K (.ref X13) (.ref X1) = some false)
      | 2, _ => (kit_refs xc2.1 xc2.2.2.2.2.2.2.2.1 xs13.2.2.1 xs13.2.2.2.2.2.2.2.2.2.2.2.2.2.1 : PySem.W.kitOne K (.ref X13) (.ref X2) = some false)
      | 3, _ => (kit_refs xc3.1 xc3.2.2.2.2.2.2.2.1 xs13.2.2.2.1 xs13.2.2.2.2.2.2.2.2.2.2.2.2.2.1 : PySem.W.kitOne K (.ref X13) (.ref X3) = some false)
      | 4, _ => (kit_refs xc4.1 xc4.2.2.2.2.2.2.2.1 xs13.2.2.2.2.1 xs13.2.2.2.2.2.2.2.2.2.2.2.2.2.1 : PySem.W.kitOne K (.ref X13) (.ref X4) = some false)
      | 5, _ => (kit_refs xc5.1 xc5.2.2.2.2.2.2.2.1 xs13.2.2.2.2.2.1 xs13.2.2.2.2.2.2.2.2.2.2.2.2.2.1 : PySem.W.kitOne K (.ref X13) (.ref X5) = some false)
      | 6, _ => (kit_refs xc6.1 xc6.2.2.2.2.2.2.2.1 xs13.2.2.2.2.2.2.1 xs13.2.2.2.2.2.2.2.2.2.2.2.2.2.1 : PySem.W.kitOne K (.ref X13) (.ref X6) = some false)
      | 7, _ => (kit_refs xc7.1 xc7.2.2.2.2.2.2.2.1 xs13.2.2.2.2.2.2.2.1 xs13.2.2.2.2.2.2.2.2.2.2.2.2.2.1 : PySem.W.kitOne K (.ref X13) (.ref X7) = some false)
      | 8, _ => (kit_refs xc8.1 xc8.2.2.2.2.2.2.2.1 xs13.2.2.2.2.2.2.2.2.1 xs13.2.2.2.2.2.2.2.2.2.2.2.2.2.1 : PySem.W.kitOne K (.ref X13) (.ref X8) = some false)
      | 9, _ => (kit_refs xc9.1 xc9.2.2.2.2.2.2.2.1 xs13.2.2.2.2.2.2.2.2.2.1 xs13.2.2.2.2.2.2.2.2.2.2.2.2.2.1 : PySem.W.kitOne K (.ref X13) (.ref X9) = some false)
      | 10, _ => (kit_refs xc10.1 xc10.2.2.2.2.2.2.2.1 xs13.2.2.2.2.2.2.2.2.2.2.1 xs13.2.2.2.2.2.2.2.2.2.2.2.2.2.1 : PySem.W.kitOne K (.ref X13) (.ref X10) = some false)
      | 11, _ => (kit_refs xc11.1 xc11.2.2.2.2.2.2.2.1 xs13.2.2.2.2.2.2.2.2.2.2.2.1 xs13.2.2.2.2.2.2.2.2.2.2.2.2.2.1 : PySem.W.kitOne K (.ref X13) (.ref X11) = some false)
      | 12, _ => (kit_refs xc12.1 xc12.2.2.2.2.2.2.2.1 xs13.2.2.2.2.2.2.2.2.2.2.2.2.1 xs13.2.2.2.2.2.2.2.2.2.2.2.2.2.1 : PySem.W.kitOne K (.ref X13) (.ref X12) = some false)
      | 13, _ => (kit_refs xc13.1 xc13.2.2.2.2.2.2.2.1 xs13.2.2.2.2.2.2.2.2.2.2.2.2.2.1 xs13.2.2.2.2.2.2.2.2.2.2.2.2.2.1 : PySem.W.kitOne K (.ref X13) (.ref X13) = some true)
      | 14, _ => (kit_refs xc14.1 xc14.2.2.2.2.2.2.2.1 xs13.2.2.2.2.2.2.2.2.2.2.2.2.2.2.1 xs13.2.2.2.2.2.2.2.2.2.2.2.2.2.1 : PySem.W.kitOne K (.ref X13) (.ref X14) = some false)
      | 15, _ => (kit_refs xc15.1 xc15.2.2.2.2.2.2.2.1 xs13.2.2.2.2.2.2.2.2.2.2.2.2.2.2.2.1 xs13.2.2.2.2.2.2.2.2.2.2.2.2.2.1 : PySem.W.kitOne K (.ref X13) (.ref X15) = some false)
      | 16, _ => (kit_refs xc16.1 xc16.2.2.2.2.2.2.2.1 xs13.2.2.2.2.2.2.2.2.2.2.2.2.2.2.2.2.1 xs13.2.2.2.2.2.2.2.2.2.2.2.2.2.1 : PySem.W.kitOne K (.ref X13) (.ref X16) = some false)
      | 17, _ => (kit_refs xc17.1 xc17.2.2.2.2.2.2.2.1 xs13.2.2.2.2.2.2.2.2.2.2.2.2.2.2.2.2.2 xs13.2.2.2.2.2.2.2.2.2.2.2.2.2.1 : PySem.W.kitOne K (.ref X13) (.ref X17) = some true)
      | n + 18, h => absurd h (by omega)
    | 14, _ => fun j hj => match j, hj with
      | 0, _ => (kit_refs xc0.1 xc0.2.2.2.2.2.2.2.1 xs14.1 xs14.2.2.2.2.2.2.2.2.2.2.2.2.2.2.1 : PySem.W.kitOne K (.ref X14) (.ref X0) = some false)
      | 1, _ => (kit_refs xc1.1 xc1.2.2.2.2.2.2.2.1 xs14.2.1 xs14.2.2.2.2.2.2.2.2.2.2.2.2.2.2.1 : PySem.W.kitOne K (.ref X14) (.ref X1) = some false)
      | 2, _ => (kit_refs xc2.1 xc2.2.2.2.2.2.2.2.1 xs14.2.2.1 xs14.2.2.2.2.2.2.2.2.2.2.2.2.2.2.1 : PySem.W.kitOne K (.ref X14) (.ref X2) = some false)
      | 3, _ => (kit_refs xc3.1 xc3.2.2.2.2.2.2.2.1 xs14.2.2.2.1 xs14.2.2.2.2.2.2.2.2.2.2.2.2.2.2.1 : PySem.W.kitOne K (.ref X14) (.ref X3) = some false)
      | 4, _ => (kit_refs xc4.1 xc4.2.2.2.2.2.2.2.1 xs14.2.2.2.2.1 xs14.2.2.2.2.2.2.2.2.2.2.2.2.2.2.1 : PySem.W.kitOne K (.ref X14) (.ref X4) = some false)
      | 5, _ => (kit_refs xc5.1 xc5.2.2.2.2.2.2.2.1 xs14.2.2.2.2.2.1 xs14.2.2.2.2.2.2.2.2.2.2.2.2.2.2.1 : PySem.W.kitOne K (.ref X14) (.ref X5) = some false)
      | 6, _ => (kit_refs xc6.1 xc6.2.2.2.2.2.2.2.1 xs14.2.2.2.2.2.2.1 xs14.2.2.2.2.2.2.2.2.2.2.2.2.2.2.1 : PySem.W.kitOne K (.ref X14) (.ref X6) = some false)
      | 7, _ => (kit_refs xc7.1 xc7.2.2.2.2.2.2.2.1 xs14.2.2.2.2.2.2.2.1 xs14.2.2.2.2.2.2.2.2.2.2.2.2.2.2.1 : PySem.W.kitOne K (.ref X14) (.ref X7) = some false)
      | 8, _ => (kit_refs xc8.1 xc8.2.2.2.2.2.2.2.1 xs14.2.2.2.2.2.2.2.2.1 xs14.2.2.2.2.2.2.2.2.2.2.2.2.2.2.1 : PySem.W.kitOne K (.ref X14) (.ref X8) = some false)
      | 9, _ => (kit_refs xc9.1 xc9.2.2.2.2.2.2.2.1 xs14.2.2.2.2.2.2.2.2.2.1 xs14.2.2.2.2.2.2.2.2.2.2.2.2.2.2.1 : PySem.W.kitOne K (.ref X14) (.ref X9) = some false)
      | 10, _ => (kit_refs xc10.1 xc10.2.2.2.2.2.2.2.1 xs14.2.2.2.2.2.2.2.2.2.2.1 xs14.2.2.2.2.2.2.2.2.2.2.2.2.2.2.1 : PySem.W.kitOne K (.ref X14) (.ref X10) = some false)
      | 11, _ => (kit_refs xc11.1 xc11.2.2.2.2.2.2.2.1 xs14.2.2.2.2.2.2.2.2.2.2.2.1 xs14.2.2.2.2.2.2.2.2.2.2.2.2.2.2.1 : PySem.W.kitOne K (.ref X14) (.ref X11) = some false)
      | 12, _ => (kit_refs xc12.1 xc12.2.2.2.2.2.2.2.1 xs14.2.2.2.2.2.2.2.2.2.2.2.2.1 xs14.2.2.2.2.2.2.2.2.2.2.2.2.2.2.1 : PySem.W.kitOne K (.ref X14) (.ref X12) = some false)
      | 13, _ => (kit_refs xc13.1 xc13.2.2.2.2.2.2.2.1 xs14.2.2.2.2.2.2.2.2.2.2.2.2.2.1 xs14.2.2.2.2.2.2.2.2.2.2.2.2.2.2.1 : PySem.W.kitOne K (.ref X14) (.ref X13) = some false)
      | 14, _ => (kit_refs xc14.1 xc14.2.2.2.2.2.2.2.1 xs14.2.2.2.2.2.2.2.2.2.2.2.2.2.2.1 xs14.2.2.2.2.2.2.2.2.2.2.2.2.2.2.1 : PySem.W.kitOne K (.ref X14) (.ref X14) = some true)
      | 15, _ => (kit_refs xc15.1 xc15.2.2.2.2.2.2.2.1 xs14.2.2.2.2.2.2.2.2.2.2.2.2.2.2.2.1 xs14.2.2.2.2.2.2.2.2.2.2.2.2.2.2.1 : PySem.W.kitOne K (.ref X14) (.ref X15) = some false)
      | 16, _ => (kit_refs xc16.1 xc16.2.2.2.2.2.2.2.1 xs14.2.2.2.2.2.2.2.2.2.2.2.2.2.2.2.2.1 xs14.2.2.2.2.2.2.2.2.2.2.2.2.2.2.1 : PySem.W.kitOne K (.ref X14) (.ref X16) = some false)
      | 17, _ => (kit_refs xc17.1 xc17.2.2.2.2.2.2.2.1 xs14.2.2.2.2.2.2.2.2.2.2.2.2.2.2.2.2.2 xs14.2.2.2.2.2.2.2.2.2.2.2.2.2.2.1 : PySem.W.kitOne K (.ref X14) (.ref X17) = some true)
      | n + 18, h => absurd h (by omega)
    | 15, _ => fun j hj => match j, hj with
      | 0, _ => (kit_refs xc0.1 xc0.2.2.2.2.2.2.2.1 xs15.1 xs15.2.2.2.2.2.2.2.2.2.2.2.2.2.2.2.1 : PySem.W.kitOne K (.ref X15) (.ref X0) = some false)
      | 1, _ => (kit_refs xc1.1 xc1.2.2.2.2.2.2.2.1 xs15.2.1 xs15.2.2.2.2.2.2.2.2.2.2.2.2.2.2.2.1 : PySem.W.kitOne K (.ref X15) (.ref X1) = some false)
      | 2, _ => (kit_refs xc2.1 xc2.2.2.2.2.2.2.2.1 xs15.2.2.1 xs15.2.2.2.2.2.2.2.2.2.2.2.2.2.2.2.1 : PySem.W.kitOne K (.ref X15) (.ref X2) = some false)
      | 3, _ => (kit_refs xc3.1 xc3.2.2.2.2.2.2.2.1 xs15.2.2.2.1 xs15.2.2.2.2.2.2.2.2.2.2.2.2.2.2.2.1 : PySem.W.kitOne K (.ref X15) (.ref X3) = some false)
      | 4, _ => (kit_refs xc4.1 xc4.2.2.2.2.2.2.2.1 xs15.2.2.2.2.1 xs15.2.2.2.2.2.2.2.2.2.2.2.2.2.2.2.1 : PySem.W.kitOne K (.ref X15) (.ref X4) = some false)
      | 5, _ => (kit_refs xc5.1 xc5.2.2.2.2.2.2.2.1 xs15.2.2.2.2.2.1 xs15.2.2.2.2.2.2.2.2.2.2.2.2.2.2.2.1 : PySem.W.kitOne K (.ref X15) (.ref X5) = some false)
      | 6, _ => (kit_refs xc6.1 xc6.2.2.2.2.2.2.2.1 xs15.2.2.2.2.2.2.1 xs15.2.2.2.2.2.2.2.2.2.2.2.2.2.2.2.1 : PySem.W.kitOne K (.ref X15) (.ref X6) = some false)
      | 7, _ => (kit_refs xc7.1 xc7.2.2.2.2.2.2.2.1 xs15.2.2.2.2.2.2.2.1 xs15.2.2.2.2.2.2.2.2.2.2.2.2.2.2.2.1 : PySem.W.kitOne K (.ref X15) (.ref X7) = some false)
      | 8, _ => (kit_refs xc8.1 xc8.2.2.2.2.2.2.2.1 xs15.2.2.2.2.2.2.2.2.1 xs15.2.2.2.2.2.2.2.2.2.2.2.2.2.2.2.1 : PySem.W.kitOne K (.ref X15) (.ref X8) = some false)
      | 9, _ => (kit_refs xc9.1 xc9.2.2.2.2.2.2.2.1 xs15.2.2.2.2.2.2.2.2.2.1 xs15.2.2.2.2.2.2.2.2.2.2.2.2.2.2.2.1 : PySem.W.kitOne K (.ref X15) (.ref X9) = some false)
      | 10, _ => (kit_refs xc10.1 xc10.2.2.2.2.2.2.2.1 xs15.2.2.2.2.2.2.2.2.2.2.1 xs15.2.2.2.2.2.2.2.2.2.2.2.2.2.2.2.1 : PySem.W.kitOne K (.ref X15) (.ref X10) = some false)
      | 11, _ => (kit_refs xc11.1 xc11.2.2.2.2.2.2.2.1 xs15.2.2.2.2.2.2.2.2.2.2.2.1 xs15.2.2.2.2.2.2.2.2.2.2.2.2.2.2.2.1 : PySem.W.kitOne K (.ref X15) (.ref X11) = some false)
      | 12, _ => (kit_refs xc12.1 xc12.2.2.2.2.2.2.2.1 xs15.2.2.2.2.2.2.2.2.2.2.2.2.1 xs15.2.2.2.2.2.2.2.2.2.2.2.2.2.2.2.1 : PySem.W.kitOne K (.ref X15) (.ref X12) = some false)
      | 13, _ => (kit_refs xc13.1 xc13.2.2.2.2.2.2.2.1 xs15.2.2.2.2.2.2.2.2.2.2.2.2.2.1 xs15.2.2.2.2.2.2.2.2.2.2.2.2.2.2.2.1 : PySem.W.kitOne K (.ref X15) (.ref X13) = some false)
      | 14, _ => (kit_refs xc14.1 xc14.2.2.2.2.2.2.2.1 xs15.2.2.2.2.2.2.2.2.2.2.2.2.2.2.1 xs15.2.2.2.2.2.2.2.2.2.2.2.2.2.2.2.1 : PySem.W.kitOne K (.ref X15) (.ref X14) = some false)
      | 15, _ => (kit_refs xc15.1 xc15.2.2.2.2.2.2.2.1 xs15.2.2.2.2.2.2.2.2.2.2.2.2.2.2.2.1 xs15.2.2.2.2.2.2.2.2.2.2.2.2.2.2.2.1 : PySem.W.kitOne K (.ref X15) (.ref X15) = some true)
      | 16, _ => (kit_refs xc16.1 xc16.2.2.2.2.2.2.2.1 xs15.2.2.2.2.2.2.2.2.2.2.2.2.2.2.2.2.1 xs15.2.2.2.2.2.2.2.2.2.2.2.2.2.2.2.1 : PySem.W.kitOne K (.ref X15) (.ref X16) = some false)
      | 17, _ => (kit_refs xc17.1 xc17.2.2.2.2.2.2.2.1 xs15.2.2.2.2.2.2.2.2.2.2.2.2.2.2.2.2.2 xs15.2.2.2.2.2.2.2.2.2.2.2.2.2.2.2.1 : PySem.W.kitOne K (.ref X15) (.ref X17) = some true)
      | n + 18, h => absurd h (by omega)
    | 16, _ => fun j hj => match j, hj with
      | 0, _ => (kit_refs xc0.1 xc0.2.2.2.2.2.2.2.1 xs16.1 xs16.2.2.2.2.2.2.2.2.2.2.2.2.2.2.2.2.1 : PySem.W.kitOne K (.ref X16) (.ref X0) = some false)
      | 1, _ => (kit_refs xc1.1 xc1.2.2.2.2.2.2.2.1 xs16.2.1 xs16.2.2.2.2.2.2.2.2.2.2.2.2.2.2.2.2.1 : PySem.W.kitOne K (.ref X16) (.ref X1) = some false)
      | 2, _ => (kit_refs xc2.1 xc2.2.2.2.2.2.2.2.1 xs16.2.2.1 xs16.2.2.2.2.2.2.2.2.2.2.2.2.2.2.2.2.1 : PySem.W.kitOne K (.ref X16) (.ref X2) = some false)
      | 3, _ => (kit_refs xc3.1 xc3.2.2.2.2.2.2.2.1 xs16.2.2.2.1 xs16.2.2.2.2.2.2.2.2.2.2.2.2.2.2.2.2.1 : PySem.W.kitOne K (.ref X16) (.ref X3) = some false)
      | 4, _ => (kit_refs xc4.1 xc4.2.2.2.2.2.2.2.1 xs16.2.2.2.2.1 xs16.2.2.2.2.2.2.2.2.2.2.2.2.2.2.2.2.1 : PySem.W.kitOne K (.ref X16) (.ref X4) = some false)
      | 5, _ => (kit_refs xc5.1 xc5.2.2.2.2.2.2.2.1 xs16.2.2.2.2.2.1 xs16.2.2.2.2.2.2.2.2.2.2.2.2.2.2.2.2.1 : PySem.W.kitOne K (.ref X16) (.ref X5) = some false)
      | 6, _ => (kit_refs xc6.1 xc6.2.2.2.2.2.2.2.1 xs16.2.2.2.2.2.2.1 xs16.2.2.2.2.2.2.2.2.2.2.2.2.2.2.2.2.1 : PySem.W.kitOne K (.ref X16) (.ref X6) = some false)
      | 7, _ => (kit_refs xc7.1 xc7.2.2.2.2.2.2.2.1 xs16.2.2.2.2.2.2.2.1 xs16.2.2.2.2.2.2.2.2.2.2.2.2.2.2.2.2.1 : PySem.W.kitOne K (.ref X16) (.ref X7) = some false)
      | 8, _ => (kit_refs xc8.1 xc8.2.2.2.2.2.2.2.1 xs16.2.2.2.2.2.2.2.2.1 xs16.2.2.2.2.2.2.2.2.2.2.2.2.2.2.2.2.1 : PySem.W.kitOne K (.ref X16) (.ref X8) = some false)
      | 9, _ => (kit_refs xc9.1 xc9.2.2.2.2.2.2.2.1 xs16.2.2.2.2.2.2.2.2.2.1 xs16.2.2.2.2.2.2.2.2.2.2.2.2.2.2.2.2.1 : PySem.W.kitOne K (.ref X16) (.ref X9) = some false)
      | 10, _ => (kit_refs xc10.1 xc10.2.2.2.2.2.2.2.1 xs16.2.2.2.2.2.2.2.2.2.2.1 xs16.2.2.2.2.2.2.2.2.2.2.2.2.2.2.2.2.1 : PySem.W.kitOne K (.ref X16) (.ref X10) = some false)
      | 11, _ => (kit_refs xc11.1 xc11.2.2.2.2.2.2.2.1 xs16.2.2.2.2.2.2.2.2.2.2.2.1 xs16.2.2.2.2.2.2.2.2.2.2.2.2.2.2.2.2.1 : PySem.W.kitOne K (.ref X16) (.ref X11) = some false)
      | 12, _ => (kit_refs xc12.1 xc12.2.2.2.2.2.2.2.1 xs16.2.2.2.2.2.2.2.2.2.2.2.2.1 xs16.2.2.2.2.2.2.2.2.2.2.2.2.2.2.2.2.1 : PySem.W.kitOne K (.ref X16) (.ref X12) = some false)
      | 13, _ => (kit_refs xc13.1 xc13.2.2.2.2.2.2.2.1 xs16.2.2.2.2.2.2.2.2.2.2.2.2.2.1 xs16.2.2.2.2.2.2.2.2.2.2.2.2.2.2.2.2.1 : PySem.W.kitOne K (.ref X16) (.ref X13) = some false)
      | 14, _ => (kit_refs xc14.1 xc14.2.2.2.2.2.2.2.1 xs16.2.2.2.2.2.2.2.2.2.2.2.2.2.2.1 xs16.2.2.2.2.2.2.2.2.2.2.2.2.2.2.2.2.1 : PySem.W.kitOne K (.ref X16) (.ref X14) = some false)
      | 15, _ => (kit_refs xc15.1 xc15.2.2.2.2.2.2.2.1 xs16.2.2.2.2.2.2.2.2.2.2.2.2.2.2.2.1 xs16.2.2.2.2.2.2.2.2.2.2.2.2.2.2.2.2.1 : PySem.W.kitOne K (.ref X16) (.ref X15) = some false)
      | 16, _ => (kit_refs xc16.1 xc16.2.2.2.2.2.2.2.1 xs16.2.2.2.2.2.2.2.2.2.2.2.2.2.2.2.2.1 xs16.2.2.2.2.2.2.2.2.2.2.2.2.2.2.2.2.1 : PySem.W.kitOne K (.ref X16) (.ref X16) = some true)
      | 17, _ => (kit_refs xc17.1 xc17.2.2.2.2.2.2.2.1 xs16.2.2.2.2.2.2.2.2.2.2.2.2.2.2.2.2.2 xs16.2.2.2.2.2.2.2.2.2.2.2.2.2.2.2.2.1 : PySem.W.kitOne K (.ref X16) (.ref X17) = some true)
      | n + 18, h => absurd h (by omega)
    | 17, _ => fun j hj => match j, hj with
      | 0, _ => (kit_refs xc0.1 xc0.2.2.2.2.2.2.2.1 xs17.1 xs17.2.2.2.2.2.2.2.2.2.2.2.2.2.2.2.2.2 : PySem.W.kitOne K (.ref X17) (.ref X0) = some false)
      | 1, _ => (kit_refs xc1.1 xc1.2.2.2.2.2.2.2.1 xs17.2.1 xs17.2.2.2.2.2.2.2.2.2.2.2.2.2.2.2.2.2 : PySem.W.kitOne K (.ref X17) (.ref X1) = some false)
      | 2, _ => (kit_refs xc2.1 xc2.2.2.2.2.2.2.2.1 xs17.2.2.1 xs17.2.2.2.2.2.2.2.2.2.2.2.2.2.2.2.2.2 : PySem.W.kitOne K (.ref X17) (.ref X2) = some false)
      | 3, _ => (kit_refs xc3.1 xc3.2.2.2.2.2.2.2.1 xs17.2.2.2.1 xs17.2.2.2.2.2.2.2.2.2.2.2.2.2.2.2.2.2 : PySem.W.kitOne K (.ref X17) (.ref X3) = some false)
      | 4, _ => (kit_refs xc4.1 xc4.2.2.2.2.2.2.2.1 xs17.2.2.2.2.1 xs17.2.2.2.2.2.2.2.2.2.2.2.2.2.2.2.2.2 : PySem.W.kitOne K (.ref X17) (.ref X4) = some false)
      | 5, _ => (kit_refs xc5.1 xc5.2.2.2.2.2.2.2.1 xs17.2.2.2.2.2.1 xs17.2.2.2.2.2.2.2.2.2.2.2.2.2.2.2.2.2 : PySem.W.kitOne K (.ref X17) (.ref X5) = some false)
      | 6, _ => (kit_refs xc6.1 xc6.2.2.2.2.2.2.2.1 xs17.2.2.2.2.2.2.1 xs17.2.2.2.2.2.2.2.2.2.2.2.2.2.2.2.2.2 : PySem.W.kitOne K (.ref X17) (.ref X6) = some false)
      | 7, _ => (kit_refs xc7.1 xc7.2.2.2.2.2.2.2.1 xs17.2.2.2.2.2.2.2.1 xs17.2.2.2.2.2.2.2.2.2.2.2.2.2.2.2.2.2 : PySem.W.kitOne K (.ref X17) (.ref X7) = some false)
      | 8, _ => (kit_refs xc8.1 xc8.2.2.2.2.2.2.2.1 xs17.2.2.2.2.2.2.2.2.1 xs17.2.2.2.2.2.2.2.2.2.2.2.2.2.2.2.2.2 : PySem.W.kitOne K (.ref X17) (.ref X8) = some false)
      | 9, _ => (kit_refs xc9.1 xc9.2.2.2.2.2.2.2.1 xs17.2.2.2.2.2.2.2.2.2.1 xs17.2.2.2.2.2.2.2.2.2.2.2.2.2.2.2.2.2 : PySem.W.kitOne K (.ref X17) (.ref X9) = some false)
      | 10, _ => (kit_refs xc10.1 xc10.2.2.2.2.2.2.2.1 xs17.2.2.2.2.2.2.2.2.2.2.1 xs17.2.2.2.2.2.2.2.2.2.2.2.2.2.2.2.2.2 : PySem.W.kitOne K (.ref X17) (.ref X10) = some false)
      | 11, _ => (kit_refs xc11.1 xc11.2.2.2.2.2.2.2.1 xs17.2.2.2.2.2.2.2.2.2.2.2.1 xs17.2.2.2.2.2.2.2.2.2.2.2.2.2.2.2.2.2 : PySem.W.kitOne K (.ref X17) (.ref X11) = some false)
      | 12, _ => (kit_refs xc12.1 xc12.2.2.2.2.2.2.2.1 xs17.2.2.2.2.2.2.2.2.2.2.2.2.1 xs17.2.2.2.2.2.2.2.2.2.2.2.2.2.2.2.2.2 : PySem.W.kitOne K (.ref X17) (.ref X12) = some false)
      | 13, _ => (kit_refs xc13.1 xc13.2.2.2.2.2.2.2.1 xs17.2.2.2.2.2.2.2.2.2.2.2.2.2.1 xs17.2.2.2.2.2.2.2.2.2.2.2.2.2.2.2.2.2 : PySem.W.kitOne K (.ref X17) (.ref X13) = some false)
      | 14, _ => (kit_refs xc14.1 xc14.2.2.2.2.2.2.2.1 xs17.2.2.2.2.2.2.2.2.2.2.2.2.2.2.1 xs17.2.2.2.2.2.2.2.2.2.2.2.2.2.2.2.2.2 : PySem.W.kitOne K (.ref X17) (.ref X14) = some false)
      | 15, _ => (kit_refs xc15.1 xc15.2.2.2.2.2.2.2.1 xs17.2.2.2.2.2.2.2.2.2.2.2.2.2.2.2.1 xs17.2.2.2.2.2.2.2.2.2.2.2.2.2.2.2.2.2 : PySem.W.kitOne K (.ref X17) (.ref X15) = some false)
      | 16, _ => (kit_refs xc16.1 xc16.2.2.2.2.2.2.2.1 xs17.2.2.2.2.2.2.2.2.2.2.2.2.2.2.2.2.1 xs17.2.2.2.2.2.2.2.2.2.2.2.2.2.2.2.2.2 : PySem.W.kitOne K (.ref X17) (.ref X16) = some false)
      | 17, _ => (kit_refs xc17.1 xc17.2.2.2.2.2.2.2.1 xs17.2.2.2.2.2.2.2.2.2.2.2.2.2.2.2.2.2 xs17.2.2.2.2.2.2.2.2.2.2.2.2.2.2.2.2.2 : PySem.W.kitOne K (.ref X17) (.ref X17) = some true)
      | n + 18, h => absurd h (by omega)
    | n + 18, h => absurd h (by omega),
    fun i hi => match i, hi with
    | 0, _ => (kit_type (by decide +kernel) xc0.2.2.2.2.2.2.2.2.2 : PySem.W.kitOne K (.ref X0) (.type "ValueError") = some true)
    | 1, _ => (kit_type (by decide +kernel) xc1.2.2.2.2.2.2.2.2.2 : PySem.W.kitOne K (.ref X1) (.type "ValueError") = some true)
    | 2, _ => (kit_type (by decide +kernel) xc2.2.2.2.2.2.2.2.2.2 : PySem.W.kitOne K (.ref X2) (.type "ValueError") = some true)
    | 3, _ => (kit_type (by decide +kernel) xc3.2.2.2.2.2.2.2.2.2 : PySem.W.kitOne K (.ref X3) (.type "ValueError") = some true)
    | 4, _ => (kit_type (by decide +kernel) xc4.2.2.2.2.2.2.2.2.2 : PySem.W.kitOne K (.ref X4) (.type "ValueError") = some true)
    | 5, _ => (kit_type (by decide +kernel) xc5.2.2.2.2.2.2.2.2.2 : PySem.W.kitOne K (.ref X5) (.type "ValueError") = some true)
    | 6, _ => (kit_type (by decide +kernel) xc6.2.2.2.2.2.2.2.2.2 : PySem.W.kitOne K (.ref X6) (.type "ValueError") = some true)
    | 7, _ => (kit_type (by decide +kernel) xc7.2.2.2.2.2.2.2.2.2 : PySem.W.kitOne K (.ref X7) (.type "ValueError") = some true)
    | 8, _ => (kit_type (by decide +kernel) xc8.2.2.2.2.2.2.2.2.2 : PySem.W.kitOne K (.ref X8) (.type "ValueError") = some true)
    | 9, _ => (kit_type (by decide +kernel) xc9.2.2.2.2.2.2.2.2.2 : PySem.W.kitOne K (.ref X9) (.type "ValueError") = some true)
    | 10, _ => (kit_type (by decide +kernel) xc10.2.2.2.2.2.2.2.2.2 : PySem.W.kitOne K (.ref X10) (.type "ValueError") = some true)
    | 11, _ => (kit_type (by decide +kernel) xc11.2.2.2.2.2.2.2.2.2 : PySem.W.kitOne K (.ref X11) (.type "ValueError") = some true)
    | 12, _ => (kit_type (by decide +kernel) xc12.2.2.2.2.2.2.2.2.2 : PySem.W.kitOne K (.ref X12) (.type "ValueError") = some true)
    | 13, _ => (kit_type (by decide +kernel) xc13.2.2.2.2.2.2.2.2.2 : PySem.W.kitOne K (.ref X13) (.type "ValueError") = some true)
    | 14, _ => (kit_type (by decide +kernel) xc14.2.2.2.2.2.2.2.2.2 : PySem.W.kitOne K (.ref X14) (.type "ValueError") = some true)
    | 15, _ => (kit_type (by decide +kernel) xc15.2.2.2.2.2.2.2.2.2 : PySem.W.kitOne K (.ref X15) (.type "ValueError") = some true)
    | 16, _ => (kit_type (by decide +kernel) xc16.2.2.2.2.2.2.2.2.2 : PySem.W.kitOne K (.ref X16) (.type "ValueError") = some true)
    | 17, _ => (kit_type (by decide +kernel) xc17.2.2.2.2.2.2.2.2.2 : PySem.W.kitOne K (.ref X17) (.type "ValueError") = some true)
    | n + 18, h => absurd h (by omega),
    fun i hi => match i, hi with
    | 0, _ => (xno0 : PySem.W.findIn K (.ref X0) "item" = some none)
    | 1, _ => (xno1 : PySem.W.findIn K (.ref X1) "item" = some none)
    | 2, _ => (xno2 : PySem.W.findIn K (.ref X2) "part" = some none)
    | 3, _ => (xno3 : PySem.W.findIn K (.ref X3) "total" = some none)
    | n + 4, h => absurd h (by omega)⟩
  have xg0 : mg "InvalidSpans" = some (.ref (AD 0)) := PySem.W.mg_of X G xa0
  have xg1 : mg "InvalidSeen" = some (.ref (AD 1)) := PySem.W.mg_of X G xa1
  have xg2 : mg "InvalidText" = some (.ref (AD 2)) := PySem.W.mg_of X G xa2
  have xg3 : mg "OverBudget" = some (.ref (AD 3)) := PySem.W.mg_of X G xa3
  have xg4 : mg "InvalidCapacity" = some (.ref (AD 4)) := PySem.W.mg_of X G xa4
  have xg5 : mg "InvalidRate" = some (.ref (AD 5)) := PySem.W.mg_of X G xa5
  have xg6 : mg "InvalidShift" = some (.ref (AD 6)) := PySem.W.mg_of X G xa6
  have xg7 : mg "InvalidTable" = some (.ref (AD 7)) := PySem.W.mg_of X G xa7
  have xg8 : mg "InvalidKey" = some (.ref (AD 8)) := PySem.W.mg_of X G xa8
  have xg9 : mg "InvalidDepth" = some (.ref (AD 9)) := PySem.W.mg_of X G xa9
  have xg10 : mg "InvalidTail" = some (.ref (AD 10)) := PySem.W.mg_of X G xa10
  have xg11 : mg "InvalidSpan" = some (.ref (AD 11)) := PySem.W.mg_of X G xa11
  have xg12 : mg "InvalidNumber" = some (.ref (AD 12)) := PySem.W.mg_of X G xa12
  have xg13 : mg "InvalidBudget" = some (.ref (AD 13)) := PySem.W.mg_of X G xa13
  have xg14 : mg "InvalidOperation" = some (.ref (AD 14)) := PySem.W.mg_of X G xa14
  have xg15 : mg "Nothing" = some (.ref (AD 15)) := PySem.W.mg_of X G xa15
  have xg16 : mg "InvalidCommand" = some (.ref (AD 16)) := PySem.W.mg_of X G xa16
  have xg17 : mg "HashError" = some (.ref (AD 17)) := PySem.W.mg_of X G xa17
  have xn4 : PySem.W.excIn K (AD 4) [.type "ValueError", .type "Exception", .type "BaseException", .type "object"] "ValueError.__new__" = true ∧ PySem.W.keepIn K (.ref (AD 4)) = true := ⟨xe4, xc4.2.2.2.2.2.2.2.2.1⟩
  have xn5 : PySem.W.excIn K (AD 5) [.type "ValueError", .type "Exception", .type "BaseException", .type "object"] "ValueError.__new__" = true ∧ PySem.W.keepIn K (.ref (AD 5)) = true := ⟨xe5, xc5.2.2.2.2.2.2.2.2.1⟩
  have xn6 : PySem.W.excIn K (AD 6) [.type "ValueError", .type "Exception", .type "BaseException", .type "object"] "ValueError.__new__" = true ∧ PySem.W.keepIn K (.ref (AD 6)) = true := ⟨xe6, xc6.2.2.2.2.2.2.2.2.1⟩
  have xn7 : PySem.W.excIn K (AD 7) [.type "ValueError", .type "Exception", .type "BaseException", .type "object"] "ValueError.__new__" = true ∧ PySem.W.keepIn K (.ref (AD 7)) = true := ⟨xe7, xc7.2.2.2.2.2.2.2.2.1⟩
  have xn8 : PySem.W.excIn K (AD 8) [.type "ValueError", .type "Exception", .type "BaseException", .type "object"] "ValueError.__new__" = true ∧ PySem.W.keepIn K (.ref (AD 8)) = true := ⟨xe8, xc8.2.2.2.2.2.2.2.2.1⟩
  have xn9 : PySem.W.excIn K (AD 9) [.type "ValueError", .type "Exception", .type "BaseException", .type "object"] "ValueError.__new__" = true ∧ PySem.W.keepIn K (.ref (AD 9)) = true := ⟨xe9, xc9.2.2.2.2.2.2.2.2.1⟩
  have xn10 : PySem.W.excIn K (AD 10) [.type "ValueError", .type "Exception", .type "BaseException", .type "object"] "ValueError.__new__" = true ∧ PySem.W.keepIn K (.ref (AD 10)) = true := ⟨xe10, xc10.2.2.2.2.2.2.2.2.1⟩
  have xn11 : PySem.W.excIn K (AD 11) [.type "ValueError", .type "Exception", .type "BaseException", .type "object"] "ValueError.__new__" = true ∧ PySem.W.keepIn K (.ref (AD 11)) = true := ⟨xe11, xc11.2.2.2.2.2.2.2.2.1⟩
  have xn12 : PySem.W.excIn K (AD 12) [.type "ValueError", .type "Exception", .type "BaseException", .type "object"] "ValueError.__new__" = true ∧ PySem.W.keepIn K (.ref (AD 12)) = true := ⟨xe12, xc12.2.2.2.2.2.2.2.2.1⟩
  have xn13 : PySem.W.excIn K (AD 13) [.type "ValueError", .type "Exception", .type "BaseException", .type "object"] "ValueError.__new__" = true ∧ PySem.W.keepIn K (.ref (AD 13)) = true := ⟨xe13, xc13.2.2.2.2.2.2.2.2.1⟩
  have xn14 : PySem.W.excIn K (AD 14) [.type "ValueError", .type "Exception", .type "BaseException", .type "object"] "ValueError.__new__" = true ∧ PySem.W.keepIn K (.ref (AD 14)) = true := ⟨xe14, xc14.2.2.2.2.2.2.2.2.1⟩
  have xn15 : PySem.W.excIn K (AD 15) [.type "ValueError", .type "Exception", .type "BaseException", .type "object"] "ValueError.__new__" = true ∧ PySem.W.keepIn K (.ref (AD 15)) = true := ⟨xe15, xc15.2.2.2.2.2.2.2.2.1⟩
  have xn16 : PySem.W.excIn K (AD 16) [.type "ValueError", .type "Exception", .type "BaseException", .type "object"] "ValueError.__new__" = true ∧ PySem.W.keepIn K (.ref (AD 16)) = true := ⟨xe16, xc16.2.2.2.2.2.2.2.2.1⟩
  have xn17 : PySem.W.excIn K (AD 17) [.type "ValueError", .type "Exception", .type "BaseException", .type "object"] "ValueError.__new__" = true ∧ PySem.W.keepIn K (.ref (AD 17)) = true := ⟨xe17, xc17.2.2.2.2.2.2.2.2.1⟩
  have XO0 : OexC K X0 := ⟨⟨_, _, _, _, _, _, _, _, _, _, _, _, _, _, _, xls0, xrv0⟩, xsa0, xc0.2.2.2.1, xc0.2.2.2.2.2.2.2.1, xc0.2.2.2.2.2.2.2.2.1⟩
  have XB0 := (fun_mk (st := s_x0) xlk0 xcd_0 xik0).binds (ps := ["self", "item"]) fun _ _ _ _ _ _ us hl => match us, hl with | [_, _], _ => rfl
  have XF0 : ∀ base : Heap, FnOk l.prog w K mg base CX0 1 fX0 _ ["self", "item"] (spXi X0 "item") := fun base => fn_xi (CX := CX0) (k := 0) xlk0 xcd_0 sc_x0 rfl rfl XO0 xno0
  have XO1 : OexC K X1 := ⟨⟨_, _, _, _, _, _, _, _, _, _, _, _, _, _, _, xls1, xrv1⟩, xsa1, xc1.2.2.2.1, xc1.2.2.2.2.2.2.2.1, xc1.2.2.2.2.2.2.2.2.1⟩
  have XB1 := (fun_mk (st := s_x1) xlk1 xcd_1 xik1).binds (ps := ["self", "item"]) fun _ _ _ _ _ _ us hl => match us, hl with | [_, _], _ => rfl
  have XF1 : ∀ base : Heap, FnOk l.prog w K mg base CX0 1 fX1 _ ["self", "item"] (spXi X1 "item") := fun base => fn_xi (CX := CX0) (k := 0) xlk1 xcd_1 sc_x1 rfl rfl XO1 xno1
  have XO2 : OexC K X2 := ⟨⟨_, _, _, _, _, _, _, _, _, _, _, _, _, _, _, xls2, xrv2⟩, xsa2, xc2.2.2.2.1, xc2.2.2.2.2.2.2.2.1, xc2.2.2.2.2.2.2.2.2.1⟩
  have XB2 := (fun_mk (st := s_x2) xlk2 xcd_2 xik2).binds (ps := ["self", "part"]) fun _ _ _ _ _ _ us hl => match us, hl with | [_, _], _ => rfl
  have XF2 : ∀ base : Heap, FnOk l.prog w K mg base CX0 1 fX2 _ ["self", "part"] (spXi X2 "part") := fun base => fn_xi (CX := CX0) (k := 0) xlk2 xcd_2 sc_x2 rfl rfl XO2 xno2
  have XO3 : OexC K X3 := ⟨⟨_, _, _, _, _, _, _, _, _, _, _, _, _, _, _, xls3, xrv3⟩, xsa3, xc3.2.2.2.1, xc3.2.2.2.2.2.2.2.1, xc3.2.2.2.2.2.2.2.2.1⟩
  have XB3 := (fun_mk (st := s_x3) xlk3 xcd_3 xik3).binds (ps := ["self", "total"]) fun _ _ _ _ _ _ us hl => match us, hl with | [_, _], _ => rfl
  have XF3 : ∀ base : Heap, FnOk l.prog w K mg base CX0 1 fX3 _ ["self", "total"] (spXi X3 "total") := fun base => fn_xi (CX := CX0) (k := 0) xlk3 xcd_3 sc_x3 rfl rfl XO3 xno3
  have TY : TbTy K C := ⟨fun t F H v e h => ty_ins TT.cl TT.xa TT.xb TT.xc TT.xd F H v e h, fun n hn => match n, hn with
    | 0, _ => kit_type (by decide +kernel) ts0
    | 1, _ => kit_type (by decide +kernel) ts1
    | 2, _ => kit_type (by decide +kernel) ts2
    | 3, _ => kit_type (by decide +kernel) ts3
    | 4, _ => kit_type (by decide +kernel) ts4
    | 5, _ => kit_type (by decide +kernel) ts5
    | 6, _ => kit_type (by decide +kernel) ts6
    | n + 7, h => absurd h (by omega), NO, TT.isT⟩
  have XM : ∀ i, i < 18 → PySem.W.exmOne K (.ref (AD i)) (.ref (AD 17)) = some true := fun i hi => match i, hi with
    | 0, _ => (exm_of xc17.2.2.2.1 xc17.1 xc17.2.2.2.2.2.2.2.1 xs0.2.2.2.2.2.2.2.2.2.2.2.2.2.2.2.2.2 : PySem.W.exmOne K (.ref X0) (.ref X17) = some true)
    | 1, _ => (exm_of xc17.2.2.2.1 xc17.1 xc17.2.2.2.2.2.2.2.1 xs1.2.2.2.2.2.2.2.2.2.2.2.2.2.2.2.2.2 : PySem.W.exmOne K (.ref X1) (.ref X17) = some true)
    | 2, _ => (exm_of xc17.2.2.2.1 xc17.1 xc17.2.2.2.2.2.2.2.1 xs2.2.2.2.2.2.2.2.2.2.2.2.2.2.2.2.2.2 : PySem.W.exmOne K (.ref X2) (.ref X17) = some true)
    | 3, _ => (exm_of xc17.2.2.2.1 xc17.1 xc17.2.2.2.2.2.2.2.1 xs3.2.2.2.2.2.2.2.2.2.2.2.2.2.2.2.2.2 : PySem.W.exmOne K (.ref X3) (.ref X17) = some true)
    | 4, _ => (exm_of xc17.2.2.2.1 xc17.1 xc17.2.2.2.2.2.2.2.1 xs4.2.2.2.2.2.2.2.2.2.2.2.2.2.2.2.2.2 : PySem.W.exmOne K (.ref X4) (.ref X17) = some true)
    | 5, _ => (exm_of xc17.2.2.2.1 xc17.1 xc17.2.2.2.2.2.2.2.1 xs5.2.2.2.2.2.2.2.2.2.2.2.2.2.2.2.2.2 : PySem.W.exmOne K (.ref X5) (.ref X17) = some true)
    | 6, _ => (exm_of xc17.2.2.2.1 xc17.1 xc17.2.2.2.2.2.2.2.1 xs6.2.2.2.2.2.2.2.2.2.2.2.2.2.2.2.2.2 : PySem.W.exmOne K (.ref X6) (.ref X17) = some true)
    | 7, _ => (exm_of xc17.2.2.2.1 xc17.1 xc17.2.2.2.2.2.2.2.1 xs7.2.2.2.2.2.2.2.2.2.2.2.2.2.2.2.2.2 : PySem.W.exmOne K (.ref X7) (.ref X17) = some true)
    | 8, _ => (exm_of xc17.2.2.2.1 xc17.1 xc17.2.2.2.2.2.2.2.1 xs8.2.2.2.2.2.2.2.2.2.2.2.2.2.2.2.2.2 : PySem.W.exmOne K (.ref X8) (.ref X17) = some true)
    | 9, _ => (exm_of xc17.2.2.2.1 xc17.1 xc17.2.2.2.2.2.2.2.1 xs9.2.2.2.2.2.2.2.2.2.2.2.2.2.2.2.2.2 : PySem.W.exmOne K (.ref X9) (.ref X17) = some true)
    | 10, _ => (exm_of xc17.2.2.2.1 xc17.1 xc17.2.2.2.2.2.2.2.1 xs10.2.2.2.2.2.2.2.2.2.2.2.2.2.2.2.2.2 : PySem.W.exmOne K (.ref X10) (.ref X17) = some true)
    | 11, _ => (exm_of xc17.2.2.2.1 xc17.1 xc17.2.2.2.2.2.2.2.1 xs11.2.2.2.2.2.2.2.2.2.2.2.2.2.2.2.2.2 : PySem.W.exmOne K (.ref X11) (.ref X17) = some true)
    | 12, _ => (exm_of xc17.2.2.2.1 xc17.1 xc17.2.2.2.2.2.2.2.1 xs12.2.2.2.2.2.2.2.2.2.2.2.2.2.2.2.2.2 : PySem.W.exmOne K (.ref X12) (.ref X17) = some true)
    | 13, _ => (exm_of xc17.2.2.2.1 xc17.1 xc17.2.2.2.2.2.2.2.1 xs13.2.2.2.2.2.2.2.2.2.2.2.2.2.2.2.2.2 : PySem.W.exmOne K (.ref X13) (.ref X17) = some true)
    | 14, _ => (exm_of xc17.2.2.2.1 xc17.1 xc17.2.2.2.2.2.2.2.1 xs14.2.2.2.2.2.2.2.2.2.2.2.2.2.2.2.2.2 : PySem.W.exmOne K (.ref X14) (.ref X17) = some true)
    | 15, _ => (exm_of xc17.2.2.2.1 xc17.1 xc17.2.2.2.2.2.2.2.1 xs15.2.2.2.2.2.2.2.2.2.2.2.2.2.2.2.2.2 : PySem.W.exmOne K (.ref X15) (.ref X17) = some true)
    | 16, _ => (exm_of xc17.2.2.2.1 xc17.1 xc17.2.2.2.2.2.2.2.1 xs16.2.2.2.2.2.2.2.2.2.2.2.2.2.2.2.2.2 : PySem.W.exmOne K (.ref X16) (.ref X17) = some true)
    | 17, _ => (exm_of xc17.2.2.2.1 xc17.1 xc17.2.2.2.2.2.2.2.1 xs17.2.2.2.2.2.2.2.2.2.2.2.2.2.2.2.2.2 : PySem.W.exmOne K (.ref X17) (.ref X17) = some true)
    | n + 18, h => absurd h (by omega)
  have n_ValueError := PySem.W.mg_none_of X G zn_ValueError
  have n_all := PySem.W.mg_none_of X G zn_all
  have n_bool := PySem.W.mg_none_of X G zn_bool
  have n_enumerate := PySem.W.mg_none_of X G zn_enumerate
  have n_int := PySem.W.mg_none_of X G zn_int
  have n_isinstance := PySem.W.mg_none_of X G zn_isinstance
  have n_len := PySem.W.mg_none_of X G zn_len
  have n_max := PySem.W.mg_none_of X G zn_max
  have n_min := PySem.W.mg_none_of X G zn_min
  have n_range := PySem.W.mg_none_of X G zn_range
  have n_repr := PySem.W.mg_none_of X G zn_repr
  have n_str := PySem.W.mg_none_of X G zn_str
  have n_tuple := PySem.W.mg_none_of X G zn_tuple
  have c_MOST_DIGITS : ∃ t, mg "MOST_DIGITS" = some (.int 100 t) := zc_MOST_DIGITS.imp fun _ z => PySem.W.mg_of X G z
  have c_MOST_KEY : ∃ t, mg "MOST_KEY" = some (.int 1000000000000000000000000000000 t) := zc_MOST_KEY.imp fun _ z => PySem.W.mg_of X G z
  have c_MOST_SPANS : ∃ t, mg "MOST_SPANS" = some (.int 12 t) := zc_MOST_SPANS.imp fun _ z => PySem.W.mg_of X G z
  have c_WORDS : ∃ t, mg "WORDS" = some (.int 3 t) := zc_WORDS.imp fun _ z => PySem.W.mg_of X G z
  have F_is_int := fun_mk (st := s_is_int) lk_is_int cd_is_int kp_is_int
  have j_is_int := PySem.W.mg_of X G at_is_int
  have b_is_int := F_is_int.binds (ps := ["value"]) fun _ _ _ _ _ _ us hl => match us, hl with | [_], _ => rfl
  have F_is_int__2 := fun_mk (st := s_is_int__2) lk_is_int__2 cd_is_int__2 kp_is_int__2
  have j_is_int__2 := PySem.W.mg_of X G at_is_int__2
  have b_is_int__2 := F_is_int__2.binds (ps := ["value"]) fun _ _ _ _ _ _ us hl => match us, hl with | [_], _ => rfl
  have F_is_whole := fun_mk (st := s_is_whole) lk_is_whole cd_is_whole kp_is_whole
  have j_is_whole := PySem.W.mg_of X G at_is_whole
  have b_is_whole := F_is_whole.binds (ps := ["value", "low", "high"]) fun _ _ _ _ _ _ us hl => match us, hl with | [_, _, _], _ => rfl
  have F_is_whole__2 := fun_mk (st := s_is_whole__2) lk_is_whole__2 cd_is_whole__2 kp_is_whole__2
  have j_is_whole__2 := PySem.W.mg_of X G at_is_whole__2
  have b_is_whole__2 := F_is_whole__2.binds (ps := ["value", "low", "high"]) fun _ _ _ _ _ _ us hl => match us, hl with | [_, _, _], _ => rfl
  have F_is_span__2 := fun_mk (st := s_is_span__2) lk_is_span__2 cd_is_span__2 kp_is_span__2
  have j_is_span__2 := PySem.W.mg_of X G at_is_span__2
  have b_is_span__2 := F_is_span__2.binds (ps := ["value", "ahead"]) fun _ _ _ _ _ _ us hl => match us, hl with | [_, _], _ => rfl
  have F_Table___init__ := fun_mk (st := s_Table___init__) lk_Table___init__ cd_Table___init__ kp_Table___init__
  have MT : Mk K C a_Table___init__ := ⟨mk, at_Table___init__, fn_Table___init__, kc⟩
  have b_Table___init__ := F_Table___init__.binds (ps := ["self", "capacity", "rate", "shift"]) fun _ _ _ _ _ _ us hl => match us, hl with | [_, _, _, _], _ => rfl
  have F_whole_in := fun_mk (st := s_whole_in) lk_whole_in cd_whole_in kp_whole_in
  have j_whole_in := PySem.W.mg_of X G at_whole_in
  have b_whole_in := F_whole_in.binds (ps := ["word"]) fun _ _ _ _ _ _ us hl => match us, hl with | [_], _ => rfl
  have F_fits := fun_mk (st := s_fits) lk_fits cd_fits kp_fits
  have j_fits := PySem.W.mg_of X G at_fits
  have b_fits := F_fits.binds (ps := ["index", "number"]) fun _ _ _ _ _ _ us hl => match us, hl with | [_, _], _ => rfl
  have F_read_table := fun_mk (st := s_read_table) lk_read_table cd_read_table kp_read_table
  have j_read_table := PySem.W.mg_of X G at_read_table
  have b_read_table := F_read_table.binds (ps := ["text"]) fun _ _ _ _ _ _ us hl => match us, hl with | [_], _ => rfl
  have F_span_in := fun_mk (st := s_span_in) lk_span_in cd_span_in kp_span_in
  have j_span_in := PySem.W.mg_of X G at_span_in
  have b_span_in := F_span_in.binds (ps := ["part", "ahead"]) fun _ _ _ _ _ _ us hl => match us, hl with | [_, _], _ => rfl
  have F_read_spans := fun_mk (st := s_read_spans) lk_read_spans cd_read_spans kp_read_spans
  have j_read_spans := PySem.W.mg_of X G at_read_spans
  have b_read_spans := F_read_spans.binds (ps := ["text"]) fun _ _ _ _ _ _ us hl => match us, hl with | [_], _ => rfl
  have F_bag := fun_mk (st := s_bag) lk_bag cd_bag kp_bag
  have j_bag := PySem.W.mg_of X G at_bag
  have b_bag := F_bag.binds (ps := ["_law_cell"]) fun _ _ _ _ _ _ us hl => match us, hl with | [_], _ => rfl
  have F_pick := fun_mk (st := s_pick) lk_pick cd_pick kp_pick
  have j_pick := PySem.W.mg_of X G at_pick
  have b_pick := F_pick.binds (ps := ["_law_bag_here", "_law_many"]) fun _ _ _ _ _ _ us hl => match us, hl with | [_, _], _ => rfl
  have F_rule := fun_mk (st := s_rule) lk_rule cd_rule kp_rule
  have j_rule := PySem.W.mg_of X G at_rule
  have b_rule := F_rule.binds (ps := ["_law_bag_here", "_law_most"]) fun _ _ _ _ _ _ us hl => match us, hl with | [_, _], _ => rfl
  have F_text := fun_mk (st := s_text) lk_text cd_text kp_text
  have j_text := PySem.W.mg_of X G at_text
  have b_text := F_text.binds (ps := ["_law_spans_here"]) fun _ _ _ _ _ _ us hl => match us, hl with | [_], _ => rfl
  have F_class := fun_mk (st := s_class) lk_class cd_class kp_class
  have j_class := PySem.W.mg_of X G at_class
  have b_class := F_class.binds (ps := ["_law_caught"]) fun _ _ _ _ _ _ us hl => match us, hl with | [_], _ => rfl
  have F_word := fun_mk (st := s_word) lk_word cd_word kp_word
  have j_word := PySem.W.mg_of X G at_word
  have b_word := F_word.binds (ps := ["_law_way", "_law_text_here"]) fun _ _ _ _ _ _ us hl => match us, hl with | [_, _], _ => rfl
  have F_number := fun_mk (st := s_number) lk_number cd_number kp_number
  have j_number := PySem.W.mg_of X G at_number
  have b_number := F_number.binds (ps := ["_law_some"]) fun _ _ _ _ _ _ us hl => match us, hl with | [_], _ => rfl
  have F_table_due := fun_mk (st := s_table_due) lk_table_due cd_table_due kp_table_due
  have j_table_due := PySem.W.mg_of X G at_table_due
  have b_table_due := F_table_due.binds (ps := ["_law_text_here"]) fun _ _ _ _ _ _ us hl => match us, hl with | [_], _ => rfl
  have F_spans_due := fun_mk (st := s_spans_due) lk_spans_due cd_spans_due kp_spans_due
  have j_spans_due := PySem.W.mg_of X G at_spans_due
  have b_spans_due := F_spans_due.binds (ps := ["_law_text_here"]) fun _ _ _ _ _ _ us hl => match us, hl with | [_], _ => rfl
  have F_bent := fun_mk (st := s_bent) lk_bent cd_bent kp_bent
  have j_bent := PySem.W.mg_of X G at_bent
  have b_bent := F_bent.binds (ps := ["_law_bag_here", "_law_text_here"]) fun _ _ _ _ _ _ us hl => match us, hl with | [_, _], _ => rfl
  have F_drawn := fun_mk (st := s_drawn) lk_drawn cd_drawn kp_drawn
  have j_drawn := PySem.W.mg_of X G at_drawn
  have b_drawn := F_drawn.binds (ps := ["_law_bag_here", "_law_way"]) fun _ _ _ _ _ _ us hl => match us, hl with | [_, _], _ => rfl
  have F_law := fun_mk (st := s_law) lk_law cd_law kp_law
  have j_law := PySem.W.mg_of X G at_law
  have b_law := F_law.binds (ps := ["_law_script"]) fun _ _ _ _ _ _ us hl => match us, hl with | [_], _ => rfl
  refine ⟨PySem.W.fnOf "law" "law" (defArgs s_law) (defBody s_law) (defScope s_law) .none kV22 dc22 pm22 an22 cd22 ct22, fun s v => .of_eq rfl, fun base _ _ SM => ?_⟩
  have XD0 : XDs l.prog w K mg base AD 0 fX0 _ "item" := ⟨XO0, xic0, xit0, XF0 base, XB0⟩
  have XD1 : XDs l.prog w K mg base AD 1 fX1 _ "item" := ⟨XO1, xic1, xit1, XF1 base, XB1⟩
  have XD2 : XDs l.prog w K mg base AD 2 fX2 _ "part" := ⟨XO2, xic2, xit2, XF2 base, XB2⟩
  have XD3 : XDs l.prog w K mg base AD 3 fX3 _ "total" := ⟨XO3, xic3, xit3, XF3 base, XB3⟩
  have G_is_int : FnG l.prog w K mg base CX0 1 a_is_int _ ["value"] (sp_is_int K AD) := ok_is_int F_is_int n_bool n_int n_isinstance
  have G_is_int__2 : FnG l.prog w K mg base CX0 1 a_is_int__2 _ ["value"] (sp_is_int__2 K AD) := ok_is_int__2 F_is_int__2 n_bool n_int n_isinstance TY
  have G_is_whole : FnG l.prog w K mg base CX0 2 a_is_whole _ ["value", "low", "high"] (sp_is_whole K AD) := ok_is_whole F_is_whole F_is_int G_is_int j_is_int b_is_int
  have G_is_whole__2 : FnG l.prog w K mg base CX0 2 a_is_whole__2 _ ["value", "low", "high"] (sp_is_whole__2 K AD) := ok_is_whole__2 F_is_whole__2 F_is_int__2 G_is_int__2 j_is_int__2 b_is_int__2
  have G_is_span__2 : FnG l.prog w K mg base CX0 3 a_is_span__2 _ ["value", "ahead"] (sp_is_span__2 K AD) := ok_is_span__2 F_is_span__2 F_is_whole__2 G_is_whole__2 j_is_whole__2 b_is_whole__2 n_isinstance n_len n_tuple c_MOST_KEY TY
  have G_Table___init__ : FnG l.prog w K mg base CX0 3 a_Table___init__ _ ["self", "capacity", "rate", "shift"] (sp_Table___init__ K AD) := ok_Table___init__ F_Table___init__ F_is_whole G_is_whole j_is_whole b_is_whole c_MOST_KEY TT
  have G_whole_in : FnG l.prog w K mg base CX0 1 a_whole_in _ ["word"] (sp_whole_in K AD) := ok_whole_in F_whole_in n_all n_int n_len c_MOST_DIGITS
  have G_fits : FnG l.prog w K mg base CX0 3 a_fits _ ["index", "number"] (sp_fits K AD) := ok_fits F_fits F_is_whole__2 G_is_whole__2 j_is_whole__2 b_is_whole__2 n_int c_MOST_KEY c_WORDS
  have G_read_table : FnG l.prog w K mg base (L2.CX l.prog w) 5 a_read_table _ ["text"] (sp_read_table K AD) := ok_read_table F_read_table F_whole_in G_whole_in j_whole_in b_whole_in F_fits G_fits j_fits b_fits F_Table___init__ G_Table___init__ MT b_Table___init__ n_enumerate n_isinstance n_len n_min n_str TY c_WORDS XD2 xg2 TT
  have G_span_in : FnG l.prog w K mg base CX0 4 a_span_in _ ["part", "ahead"] (sp_span_in K AD) := ok_span_in F_span_in F_whole_in G_whole_in j_whole_in b_whole_in F_is_span__2 G_is_span__2 j_is_span__2 b_is_span__2 n_tuple
  have G_read_spans : FnG l.prog w K mg base (L2.CX l.prog w) 5 a_read_spans _ ["text"] (sp_read_spans K AD) := ok_read_spans F_read_spans F_span_in G_span_in j_span_in b_span_in n_enumerate n_isinstance n_str c_MOST_SPANS TY XD2 xg2
  have G_bag : FnG l.prog w K mg base CX0 1 a_bag _ ["_law_cell"] (sp_bag K AD) := ok_bag F_bag n_max
  have G_pick : FnG l.prog w K mg base CX0 1 a_pick _ ["_law_bag_here", "_law_many"] (sp_pick K AD) := ok_pick F_pick n_int
  have G_rule : FnG l.prog w K mg base CX0 2 a_rule _ ["_law_bag_here", "_law_most"] (sp_rule K AD) := ok_rule F_rule F_pick G_pick j_pick b_pick
  have G_text : FnG l.prog w K mg base CX0 1 a_text _ ["_law_spans_here"] (sp_text K AD) := ok_text F_text n_str
  have G_class : FnG l.prog w K mg base CX0 1 a_class _ ["_law_caught"] (sp_class K AD) := ok_class F_class n_ValueError n_isinstance n_len n_repr XX xg0 xg1 xg10 xg11 xg12 xg13 xg14 xg15 xg16 xg2 xg3 xg4 xg5 xg6 xg7 xg8 xg9
  have G_word : FnG l.prog w K mg base CX0 6 a_word _ ["_law_way", "_law_text_here"] (sp_word K AD) := ok_word F_word F_read_table G_read_table j_read_table b_read_table F_read_spans G_read_spans j_read_spans b_read_spans F_class G_class j_class b_class XM XX xg17
  have G_number : FnG l.prog w K mg base CX0 1 a_number _ ["_law_some"] (sp_number K AD) := ok_number F_number n_int n_len
  have G_table_due : FnG l.prog w K mg base CX0 2 a_table_due _ ["_law_text_here"] (sp_table_due K AD) := ok_table_due F_table_due F_number G_number j_number b_number n_enumerate n_int n_len n_min
  have G_spans_due : FnG l.prog w K mg base CX0 2 a_spans_due _ ["_law_text_here"] (sp_spans_due K AD) := ok_spans_due F_spans_due F_number G_number j_number b_number n_enumerate n_len
  have G_bent : FnG l.prog w K mg base CX0 2 a_bent _ ["_law_bag_here", "_law_text_here"] (sp_bent K AD) := ok_bent F_bent F_pick G_pick j_pick b_pick n_len
  have G_drawn : FnG l.prog w K mg base CX0 3 a_drawn _ ["_law_bag_here", "_law_way"] (sp_drawn K AD) := ok_drawn F_drawn F_rule G_rule j_rule b_rule F_pick G_pick j_pick b_pick F_text G_text j_text b_text n_range n_str
  have r := ok_law (CT := AD) F_law F_bag G_bag j_bag b_bag F_drawn G_drawn j_drawn b_drawn F_pick G_pick j_pick b_pick F_bent G_bent j_bent b_bent F_spans_due G_spans_due j_spans_due b_spans_due F_table_due G_table_due j_table_due b_table_due F_word G_word j_word b_word n_int n_range n_str
  exact r
end My
open PySem PySem.W PyProof.Rows
set_option maxRecDepth 100000 in
set_option maxHeartbeats 0 in
theorem PySem.Challenge.cw_hashdoors_k27_texts_refused_holds : PySem.Challenge.rw_hashdoors_k27_texts_refused.Holds := by
  w_on; o_law; k_head; (case hw => w_witness2)
  k_fill
  refine Fw.walk_ofG3 (l := PySem.Challenge.rw_hashdoors_k27_texts_refused) (n := 63) (k := 7) (x := "_law_script") (sp := fun K => My.sp_law K default) rfl (by decide) rfl ⟨rfl, by decide, by decide⟩ (by decide +kernel) (fun w h Y => PySem.W.kIn_of Y) ?F (fun K H a ns hl hb S => Fw.law_pr S (My.law_ok_all ns hl hb) (My.law_true ns hl hb))
  case F =>
    intro w mg fa h KX G hmg
    refine' My.all_mk KX G hmg ?aC ?at_is_int ?lk_is_int ?cd_is_int ?kp_is_int ?at_is_int__2 ?lk_is_int__2 ?cd_is_int__2 ?kp_is_int__2 ?at_is_whole ?lk_is_whole ?cd_is_whole ?kp_is_whole ?at_is_whole__2 ?lk_is_whole__2 ?cd_is_whole__2 ?kp_is_whole__2 ?at_is_span__2 ?lk_is_span__2 ?cd_is_span__2 ?kp_is_span__2 ?at_Table___init__ ?fn_Table___init__ ?lk_Table___init__ ?cd_Table___init__ ?kp_Table___init__ ?at_whole_in ?lk_whole_in ?cd_whole_in ?kp_whole_in ?at_fits ?lk_fits ?cd_fits ?kp_fits ?at_read_table ?lk_read_table ?cd_read_table ?kp_read_table ?at_span_in ?lk_span_in ?cd_span_in ?kp_span_in ?at_read_spans ?lk_read_spans ?cd_read_spans ?kp_read_spans ?at_bag ?lk_bag ?cd_bag ?kp_bag ?at_pick ?lk_pick ?cd_pick ?kp_pick ?at_rule ?lk_rule ?cd_rule ?kp_rule ?at_text ?lk_text ?cd_text ?kp_text ?at_class ?lk_class ?cd_class ?kp_class ?at_word ?lk_word ?cd_word ?kp_word ?at_number ?lk_number ?cd_number ?kp_number ?at_table_due ?lk_table_due ?cd_table_due ?kp_table_due ?at_spans_due ?lk_spans_due ?cd_spans_due ?kp_spans_due ?at_bent ?lk_bent ?cd_bent ?kp_bent ?at_drawn ?lk_drawn ?cd_drawn ?kp_drawn ?at_law ?lk_law ?cd_law ?kp_law ?oc ?ot ?os0 ?os1 ?os2 ?os3 ?os4 ?os5 ?os6 ?pg ?hd ?po ?sa ?mk ?kc ?nC ?nR ?nS ?xa ?xb ?xc ?xd ?ts0 ?ts1 ?ts2 ?ts3 ?ts4 ?ts5 ?ts6 ?xa0 ?xa1 ?xa2 ?xa3 ?xa4 ?xa5 ?xa6 ?xa7 ?xa8 ?xa9 ?xa10 ?xa11 ?xa12 ?xa13 ?xa14 ?xa15 ?xa16 ?xa17 ?xhn ?xht ?xc0 ?xs0 ?xno0 ?xsa0 ?xic0 ?xit0 ?xlk0 ?xcd_0 ?xik0 ?xls0 ?xrv0 ?xc1 ?xs1 ?xno1 ?xsa1 ?xic1 ?xit1 ?xlk1 ?xcd_1 ?xik1 ?xls1 ?xrv1 ?xc2 ?xs2 ?xno2 ?xsa2 ?xic2 ?xit2 ?xlk2 ?xcd_2 ?xik2 ?xls2 ?xrv2 ?xc3 ?xs3 ?xno3 ?xsa3 ?xic3 ?xit3 ?xlk3 ?xcd_3 ?xik3 ?xls3 ?xrv3 ?xc4 ?xs4 ?xe4 ?xc5 ?xs5 ?xe5 ?xc6 ?xs6 ?xe6 ?xc7 ?xs7 ?xe7 ?xc8 ?xs8 ?xe8 ?xc9 ?xs9 ?xe9 ?xc10 ?xs10 ?xe10 ?xc11 ?xs11 ?xe11 ?xc12 ?xs12 ?xe12 ?xc13 ?xs13 ?xe13 ?xc14 ?xs14 ?xe14 ?xc15 ?xs15 ?xe15 ?xc16 ?xs16 ?xe16 ?xc17 ?xs17 ?xe17 ?zn_ValueError ?zn_all ?zn_bool ?zn_enumerate ?zn_int ?zn_isinstance ?zn_len ?zn_max ?zn_min ?zn_range ?zn_repr ?zn_str ?zn_tuple ?zc_MOST_DIGITS ?zc_MOST_KEY ?zc_MOST_SPANS ?zc_WORDS
    (case aC => k_is)
    (case at_is_int => k_is)
    (case lk_is_int => k_is)
    (case cd_is_int => k_is)
    (case kp_is_int => k_is)
    (case at_is_int__2 => k_is)
    (case lk_is_int__2 => k_is)
    (case cd_is_int__2 => k_is)
    (case kp_is_int__2 => k_is)
    (case at_is_whole => k_is)
    (case lk_is_whole => k_is)
    (case cd_is_whole => k_is)
    (case kp_is_whole => k_is)
    (case at_is_whole__2 => k_is)
    (case lk_is_whole__2 => k_is)
    (case cd_is_whole__2 => k_is)
    (case kp_is_whole__2 => k_is)
    (case at_is_span__2 => k_is)
    (case lk_is_span__2 => k_is)
    (case cd_is_span__2 => k_is)
    (case kp_is_span__2 => k_is)
    (case at_Table___init__ => k_is)
    (case fn_Table___init__ => k_is)
    (case lk_Table___init__ => k_is)
    (case cd_Table___init__ => k_is)
    (case kp_Table___init__ => k_is)
    (case at_whole_in => k_is)
    (case lk_whole_in => k_is)
    (case cd_whole_in => k_is)
    (case kp_whole_in => k_is)
    (case at_fits => k_is)
    (case lk_fits => k_is)
    (case cd_fits => k_is)
    (case kp_fits => k_is)
    (case at_read_table => k_is)
    (case lk_read_table => k_is)
    (case cd_read_table => k_is)
    (case kp_read_table => k_is)
    (case at_span_in => k_is)
    (case lk_span_in => k_is)
    (case cd_span_in => k_is)
    (case kp_span_in => k_is)
    (case at_read_spans => k_is)
    (case lk_read_spans => k_is)
    (case cd_read_spans => k_is)
    (case kp_read_spans => k_is)
    (case at_bag => k_is)
    (case lk_bag => k_is)
    (case cd_bag => k_is)
    (case kp_bag => k_is)
    (case at_pick => k_is)
    (case lk_pick => k_is)
    (case cd_pick => k_is)
    (case kp_pick => k_is)
    (case at_rule => k_is)
    (case lk_rule => k_is)
    (case cd_rule => k_is)
    (case kp_rule => k_is)
    (case at_text => k_is)
    (case lk_text => k_is)
    (case cd_text => k_is)
    (case kp_text => k_is)
    (case at_class => k_is)
    (case lk_class => k_is)
    (case cd_class => k_is)
    (case kp_class => k_is)
    (case at_word => k_is)
    (case lk_word => k_is)
    (case cd_word => k_is)
    (case kp_word => k_is)
    (case at_number => k_is)
    (case lk_number => k_is)
    (case cd_number => k_is)
    (case kp_number => k_is)
    (case at_table_due => k_is)
    (case lk_table_due => k_is)
    (case cd_table_due => k_is)
    (case kp_table_due => k_is)
    (case at_spans_due => k_is)
    (case lk_spans_due => k_is)
    (case cd_spans_due => k_is)
    (case kp_spans_due => k_is)
    (case at_bent => k_is)
    (case lk_bent => k_is)
    (case cd_bent => k_is)
    (case kp_bent => k_is)
    (case at_drawn => k_is)
    (case lk_drawn => k_is)
    (case cd_drawn => k_is)
    (case kp_drawn => k_is)
    (case at_law => k_is)
    (case lk_law => k_is)
    (case cd_law => k_is)
    (case kp_law => k_is)
    (case oc => k_is)
    (case ot => k_is)
    (case os0 => k_is)
    (case os1 => k_is)
    (case os2 => k_is)
    (case os3 => k_is)
    (case os4 => k_is)
    (case os5 => k_is)
    (case os6 => k_is)
    (case pg => k_is)
    (case hd => k_is)
    (case po => k_is)
    (case sa => k_is)
    (case mk => k_is)
    (case kc => k_is)
    (case nC => k_is)
    (case nR => k_is)
    (case nS => k_is)
    (case xa => k_is)
    (case xb => k_is)
    (case xc => k_is)
    (case xd => k_is)
    (case ts0 => k_is)
    (case ts1 => k_is)
    (case ts2 => k_is)
    (case ts3 => k_is)
    (case ts4 => k_is)
    (case ts5 => k_is)
    (case ts6 => k_is)
    (case xa0 => k_is)
    (case xa1 => k_is)
    (case xa2 => k_is)
    (case xa3 => k_is)
    (case xa4 => k_is)
    (case xa5 => k_is)
    (case xa6 => k_is)
    (case xa7 => k_is)
    (case xa8 => k_is)
    (case xa9 => k_is)
    (case xa10 => k_is)
    (case xa11 => k_is)
    (case xa12 => k_is)
    (case xa13 => k_is)
    (case xa14 => k_is)
    (case xa15 => k_is)
    (case xa16 => k_is)
    (case xa17 => k_is)
    (case xhn => k_is)
    (case xht => k_is)
    (case xc0 => refine ⟨?_, ?_, ?_, ?_, ?_, ?_, ?_, ?_, ?_, ?_⟩ <;> k_is)
    (case xs0 => refine ⟨?_, ?_, ?_, ?_, ?_, ?_, ?_, ?_, ?_, ?_, ?_, ?_, ?_, ?_, ?_, ?_, ?_, ?_⟩ <;> k_is)
    (case xno0 => k_is)
    (case xsa0 => k_is)
    (case xic0 => k_is)
    (case xit0 => k_is)
    (case xlk0 => k_is)
    (case xcd_0 => k_is)
    (case xik0 => k_is)
    (case xls0 => k_is)
    (case xrv0 => decide +kernel)
    (case xc1 => refine ⟨?_, ?_, ?_, ?_, ?_, ?_, ?_, ?_, ?_, ?_⟩ <;> k_is)
    (case xs1 => refine ⟨?_, ?_, ?_, ?_, ?_, ?_, ?_, ?_, ?_, ?_, ?_, ?_, ?_, ?_, ?_, ?_, ?_, ?_⟩ <;> k_is)
    (case xno1 => k_is)
    (case xsa1 => k_is)
    (case xic1 => k_is)
    (case xit1 => k_is)
    (case xlk1 => k_is)
    (case xcd_1 => k_is)
    (case xik1 => k_is)
    (case xls1 => k_is)
    (case xrv1 => decide +kernel)
    (case xc2 => refine ⟨?_, ?_, ?_, ?_, ?_, ?_, ?_, ?_, ?_, ?_⟩ <;> k_is)
    (case xs2 => refine ⟨?_, ?_, ?_, ?_, ?_, ?_, ?_, ?_, ?_, ?_, ?_, ?_, ?_, ?_, ?_, ?_, ?_, ?_⟩ <;> k_is)
    (case xno2 => k_is)
    (case xsa2 => k_is)
    (case xic2 => k_is)
    (case xit2 => k_is)
    (case xlk2 => k_is)
    (case xcd_2 => k_is)
    (case xik2 => k_is)
    (case xls2 => k_is)
    (case xrv2 => decide +kernel)
    (case xc3 => refine ⟨?_, ?_, ?_, ?_, ?_, ?_, ?_, ?_, ?_, ?_⟩ <;> k_is)
    (case xs3 => refine ⟨?_, ?_, ?_, ?_, ?_, ?_, ?_, ?_, ?_, ?_, ?_, ?_, ?_, ?_, ?_, ?_, ?_, ?_⟩ <;> k_is)
    (case xno3 => k_is)
    (case xsa3 => k_is)
    (case xic3 => k_is)
    (case xit3 => k_is)
    (case xlk3 => k_is)
    (case xcd_3 => k_is)
    (case xik3 => k_is)
    (case xls3 => k_is)
    (case xrv3 => decide +kernel)
    (case xc4 => refine ⟨?_, ?_, ?_, ?_, ?_, ?_, ?_, ?_, ?_, ?_⟩ <;> k_is)
    (case xs4 => refine ⟨?_, ?_, ?_, ?_, ?_, ?_, ?_, ?_, ?_, ?_, ?_, ?_, ?_, ?_, ?_, ?_, ?_, ?_⟩ <;> k_is)
    (case xe4 => k_exc)
    (case xc5 => refine ⟨?_, ?_, ?_, ?_, ?_, ?_, ?_, ?_, ?_, ?_⟩ <;> k_is)
    (case xs5 => refine ⟨?_, ?_, ?_, ?_, ?_, ?_, ?_, ?_, ?_, ?_, ?_, ?_, ?_, ?_, ?_, ?_, ?_, ?_⟩ <;> k_is)
    (case xe5 => k_exc)
    (case xc6 => refine ⟨?_, ?_, ?_, ?_, ?_, ?_, ?_, ?_, ?_, ?_⟩ <;> k_is)
    (case xs6 => refine ⟨?_, ?_, ?_, ?_, ?_, ?_, ?_, ?_, ?_, ?_, ?_, ?_, ?_, ?_, ?_, ?_, ?_, ?_⟩ <;> k_is)
    (case xe6 => k_exc)
    (case xc7 => refine ⟨?_, ?_, ?_, ?_, ?_, ?_, ?_, ?_, ?_, ?_⟩ <;> k_is)
    (case xs7 => refine ⟨?_, ?_, ?_, ?_, ?_, ?_, ?_, ?_, ?_, ?_, ?_, ?_, ?_, ?_, ?_, ?_, ?_, ?_⟩ <;> k_is)
    (case xe7 => k_exc)
    (case xc8 => refine ⟨?_, ?_, ?_, ?_, ?_, ?_, ?_, ?_, ?_, ?_⟩ <;> k_is)
    (case xs8 => refine ⟨?_, ?_, ?_, ?_, ?_, ?_, ?_, ?_, ?_, ?_, ?_, ?_, ?_, ?_, ?_, ?_, ?_, ?_⟩ <;> k_is)
    (case xe8 => k_exc)
    (case xc9 => refine ⟨?_, ?_, ?_, ?_, ?_, ?_, ?_, ?_, ?_, ?_⟩ <;> k_is)
    (case xs9 => refine ⟨?_, ?_, ?_, ?_, ?_, ?_, ?_, ?_, ?_, ?_, ?_, ?_, ?_, ?_, ?_, ?_, ?_, ?_⟩ <;> k_is)
    (case xe9 => k_exc)
    (case xc10 => refine ⟨?_, ?_, ?_, ?_, ?_, ?_, ?_, ?_, ?_, ?_⟩ <;> k_is)
    (case xs10 => refine ⟨?_, ?_, ?_, ?_, ?_, ?_, ?_, ?_, ?_, ?_, ?_, ?_, ?_, ?_, ?_, ?_, ?_, ?_⟩ <;> k_is)
    (case xe10 => k_exc)
    (case xc11 => refine ⟨?_, ?_, ?_, ?_, ?_, ?_, ?_, ?_, ?_, ?_⟩ <;> k_is)
    (case xs11 => refine ⟨?_, ?_, ?_, ?_, ?_, ?_, ?_, ?_, ?_, ?_, ?_, ?_, ?_, ?_, ?_, ?_, ?_, ?_⟩ <;> k_is)
    (case xe11 => k_exc)
    (case xc12 => refine ⟨?_, ?_, ?_, ?_, ?_, ?_, ?_, ?_, ?_, ?_⟩ <;> k_is)
    (case xs12 => refine ⟨?_, ?_, ?_, ?_, ?_, ?_, ?_, ?_, ?_, ?_, ?_, ?_, ?_, ?_, ?_, ?_, ?_, ?_⟩ <;> k_is)
    (case xe12 => k_exc)
    (case xc13 => refine ⟨?_, ?_, ?_, ?_, ?_, ?_, ?_, ?_, ?_, ?_⟩ <;> k_is)
    (case xs13 => refine ⟨?_, ?_, ?_, ?_, ?_, ?_, ?_, ?_, ?_, ?_, ?_, ?_, ?_, ?_, ?_, ?_, ?_, ?_⟩ <;> k_is)
    (case xe13 => k_exc)
    (case xc14 => refine ⟨?_, ?_, ?_, ?_, ?_, ?_, ?_, ?_, ?_, ?_⟩ <;> k_is)
    (case xs14 => refine ⟨?_, ?_, ?_, ?_, ?_, ?_, ?_, ?_, ?_, ?_, ?_, ?_, ?_, ?_, ?_, ?_, ?_, ?_⟩ <;> k_is)
    (case xe14 => k_exc)
    (case xc15 => refine ⟨?_, ?_, ?_, ?_, ?_, ?_, ?_, ?_, ?_, ?_⟩ <;> k_is)
    (case xs15 => refine ⟨?_, ?_, ?_, ?_, ?_, ?_, ?_, ?_, ?_, ?_, ?_, ?_, ?_, ?_, ?_, ?_, ?_, ?_⟩ <;> k_is)
    (case xe15 => k_exc)
    (case xc16 => refine ⟨?_, ?_, ?_, ?_, ?_, ?_, ?_, ?_, ?_, ?_⟩ <;> k_is)
    (case xs16 => refine ⟨?_, ?_, ?_, ?_, ?_, ?_, ?_, ?_, ?_, ?_, ?_, ?_, ?_, ?_, ?_, ?_, ?_, ?_⟩ <;> k_is)
    (case xe16 => k_exc)
    (case xc17 => refine ⟨?_, ?_, ?_, ?_, ?_, ?_, ?_, ?_, ?_, ?_⟩ <;> k_is)
    (case xs17 => refine ⟨?_, ?_, ?_, ?_, ?_, ?_, ?_, ?_, ?_, ?_, ?_, ?_, ?_, ?_, ?_, ?_, ?_, ?_⟩ <;> k_is)
    (case xe17 => k_exc)
    (case zn_ValueError => k_is)
    (case zn_all => k_is)
    (case zn_bool => k_is)
    (case zn_enumerate => k_is)
    (case zn_int => k_is)
    (case zn_isinstance => k_is)
    (case zn_len => k_is)
    (case zn_max => k_is)
    (case zn_min => k_is)
    (case zn_range => k_is)
    (case zn_repr => k_is)
    (case zn_str => k_is)
    (case zn_tuple => k_is)
    (case zc_MOST_DIGITS => exact ⟨_, by k_is⟩)
    (case zc_MOST_KEY => exact ⟨_, by k_is⟩)
    (case zc_MOST_SPANS => exact ⟨_, by k_is⟩)
    (case zc_WORDS => exact ⟨_, by k_is⟩)
#print axioms PySem.Challenge.cw_hashdoors_k27_texts_refused_holds
end
