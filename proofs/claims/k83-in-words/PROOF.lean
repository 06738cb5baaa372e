import PyProof.Rows.All
import Wide.All
import OpenK.AllK
import Wide.FinOn
import HandS.ForMost
import HandS.Exc
import HandS.TryOnly
import HandS.ExcOwn
import HandS.WordsExc
import HandS.Defaults
import HandS.HeadHook1
import HandS.HeadHook2
import HandS.Text
import HandS.StrMore
import HandS.IsInst
import HandS.ReplaceList
import HandS.ReplaceLit
import HandS.Ends
import HandS.Head0
import HandS.Head1
import HandS.Head2
import HandS.HeadEnd
import HandS.More
import HandS.HeadHook3
import PySem.Challenge.RW_modehand_k83_in_words
set_option Elab.async false
set_option linter.all false
set_option maxRecDepth 100000
set_option maxHeartbeats 4000000
/-! Dl1: data as values: what a value of the layer stands for (Rep), heaps that grow, slots (SR), expressions and statements as functions of data (liftE, liftS). -/
namespace Dl
open PySem PySem.Spec PyProof.Rows L2

/-- a datum: texts by their codes; slst: a list that is only read; olst: a list that its def still owns (it may yet change); obj: anything else, by its own value -/
inductive D where
  | non | bl (b : Bool) | int (i : Int) | str (l : List Nat) | tup (l : List D) | lst (l : List D) | slst (l : List D) | olst (l : List D) | obj (v : V)
instance : Inhabited D := ⟨.non⟩
def S (l : List Nat) : Str := ⟨l.toArray⟩
theorem S_len (l : List Nat) : (S l).length = l.length := by show l.toArray.size = l.length; simp
theorem S_inj {a b : List Nat} (h : S a = S b) : a = b := by
  have e : (S a).cps.toList = (S b).cps.toList := by rw [h]
  exact e
theorem S_of (x : Str) : S x.cps.toList = x := by
  obtain ⟨a⟩ := x
  show (⟨a.toList.toArray⟩ : Str) = ⟨a⟩
  rw [Array.toArray_toList]

abbrev Exc := Str × Option D
/-- what an expression comes to -/
inductive R (α : Type) where
  | ok (a : α) | exc (e : Exc) | bad
def R.bind {α β : Type} : R α → (α → R β) → R β
  | .ok a, f => f a
  | .exc e, _ => .exc e
  | .bad, _ => .bad
@[simp] theorem R.bind_ok {α β : Type} (a : α) (f : α → R β) : (R.ok a).bind f = f a := rfl
@[simp] theorem R.bind_exc {α β : Type} (e : Exc) (f : α → R β) : (R.exc e).bind f = .exc e := rfl
@[simp] theorem R.bind_bad {α β : Type} (f : α → R β) : (R.bad).bind f = .bad := rfl

/-! ### heaps that grow -/
def Ex (H H' : Hp) : Prop := ∀ a o, H a = some o → H' a = some o
theorem Ex.refl (H : Hp) : Ex H H := fun _ _ h => h
theorem Ex.trans {H H1 H2 : Hp} (a : Ex H H1) (b : Ex H1 H2) : Ex H H2 := fun x o h => b x o (a x o h)
theorem Ex.gone {H H' : Hp} (e : Ex H H') {a : Addr} (h : H' a = none) : H a = none := by
  cases q : H a with
  | none => rfl
  | some o => rw [e a o q] at h; cases h
theorem Ex.up {H H' : Hp} (e : Ex H H') {p : Addr} {o : HO} (h : H p = none) : Ex H (upd H' p o) := fun a u q => by
  have ne : a ≠ p := fun z => by rw [z, h] at q; cases q
  rw [upd_ne ne]
  exact e a u q
theorem Ex.upd2 {G H : Hp} (e : Ex G H) {p : Addr} {o : HO} (h : H p = none) : Ex (upd G p o) (upd H p o) := fun a u q => by
  by_cases z : a = p
  · subst z
    rw [upd_same] at q ⊢
    exact q
  · rw [upd_ne z] at q ⊢
    exact e a u q
/-- G: what never changes any more; H: the whole; both grow, and what is new in G was new to H -/
structure Grow (G H G' H' : Hp) : Prop where
  g : Ex G G'
  i : Ex G' H'
  h : Ex H H'
  f : ∀ a, G a = none → H a ≠ none → G' a = none
theorem Grow.refl {G H : Hp} (e : Ex G H) : Grow G H G H := ⟨Ex.refl _, e, Ex.refl _, fun _ h _ => h⟩
theorem Grow.trans {G H G1 H1 G2 H2 : Hp} (a : Grow G H G1 H1) (b : Grow G1 H1 G2 H2) : Grow G H G2 H2 :=
  ⟨a.g.trans b.g, b.i, a.h.trans b.h, fun x h1 h2 => b.f x (a.f x h1 h2) fun z => h2 (a.h.gone z)⟩
/-- a new object that stays as it is -/
theorem Grow.new {G H : Hp} (e : Ex G H) {p : Addr} (o : HO) (h : H p = none) : Grow G H (upd G p o) (upd H p o) :=
  ⟨(Ex.refl G).up (e.gone h), e.upd2 h, (Ex.refl H).up h, fun a h1 h2 => by
    have ne : a ≠ p := fun z => h2 (by rw [z]; exact h)
    rw [upd_ne ne]; exact h1⟩
/-- a new object of the whole alone -/
theorem Grow.newH {G H : Hp} (e : Ex G H) {p : Addr} (o : HO) (h : H p = none) : Grow G H G (upd H p o) :=
  ⟨Ex.refl G, e.up (e.gone h), (Ex.refl H).up h, fun a h1 _ => h1⟩

/-! ### what a value stands for -/
mutual
inductive Rep (K : PySem.W.Frag) (G : Hp) : D → V → Prop
  | non : Rep K G .non .non
  | bl (b : Bool) : Rep K G (.bl b) (.bl b)
  | int (i : Int) : Rep K G (.int i) (.int i)
  | str (l : List Nat) : Rep K G (.str l) (.str (S l))
  | obj (v : V) : Rep K G (.obj v) v
  | tup {a : Addr} {vs : List V} {ds : List D} : SqT K G a vs → Reps K G ds vs → Rep K G (.tup ds) (.ref a)
  | lst {a : Addr} {vs : List V} {ds : List D} : G a = some (.lst vs) → Reps K G ds vs → Rep K G (.lst ds) (.ref a)
  | slst {a : Addr} {vs : List V} {ds : List D} : SqL K G a vs → Reps K G ds vs → Rep K G (.slst ds) (.ref a)
inductive Reps (K : PySem.W.Frag) (G : Hp) : List D → List V → Prop
  | nil : Reps K G [] []
  | cons {d : D} {v : V} {ds : List D} {vs : List V} : Rep K G d v → Reps K G ds vs → Reps K G (d :: ds) (v :: vs)
end
section
variable {K : PySem.W.Frag} {G G' H H' H0 : Hp}
theorem rd_mono (e : Ex G G') {a : Addr} {u : HO} (h : Rd G a u) : Rd G' a u := by
  rcases h with h | ⟨o, h⟩
  · exact Or.inl (e _ _ h)
  · exact Or.inr ⟨o, e _ _ h⟩
theorem sqT_mono (e : Ex G G') {a : Addr} {vs : List V} (h : SqT K G a vs) : SqT K G' a vs := h.imp (rd_mono e) id
theorem sqL_mono (e : Ex G G') {a : Addr} {vs : List V} (h : SqL K G a vs) : SqL K G' a vs := h.imp (rd_mono e) id
mutual
theorem Rep.mono (e : Ex G G') : ∀ {d : D} {v : V}, Rep K G d v → Rep K G' d v
  | _, _, .non => .non
  | _, _, .bl b => .bl b
  | _, _, .int i => .int i
  | _, _, .str l => .str l
  | _, _, .obj v => .obj v
  | _, _, .tup h r => .tup (sqT_mono e h) (Reps.mono e r)
  | _, _, .lst h r => .lst (e _ _ h) (Reps.mono e r)
  | _, _, .slst h r => .slst (sqL_mono e h) (Reps.mono e r)
theorem Reps.mono (e : Ex G G') : ∀ {ds : List D} {vs : List V}, Reps K G ds vs → Reps K G' ds vs
  | _, _, .nil => .nil
  | _, _, .cons h r => .cons (Rep.mono e h) (Reps.mono e r)
end
theorem Reps.length : ∀ {ds : List D} {vs : List V}, Reps K G ds vs → vs.length = ds.length
  | _, _, .nil => rfl
  | _, _, .cons _ r => by rw [List.length_cons, List.length_cons, Reps.length r]
theorem Reps.append : ∀ {ds ds' : List D} {vs vs' : List V}, Reps K G ds vs → Reps K G ds' vs' → Reps K G (ds ++ ds') (vs ++ vs')
  | _, _, _, _, .nil, b => b
  | _, _, _, _, .cons h r, b => .cons h (Reps.append r b)
theorem Reps.at_ : ∀ {ds : List D} {vs : List V} {i : Nat} {d : D}, Reps K G ds vs → ds[i]? = some d → ∃ v, vs[i]? = some v ∧ Rep K G d v
  | _, _, 0, d, .cons (d := d') h _, e => by
    have e' : d' = d := Option.some.inj e
    subst e'
    exact ⟨_, rfl, h⟩
  | _, _, i + 1, _, .cons _ r, e => Reps.at_ (i := i) r e
theorem Reps.at' : ∀ {ds : List D} {vs : List V} {i : Nat} {v : V}, Reps K G ds vs → vs[i]? = some v → ∃ d, ds[i]? = some d ∧ Rep K G d v
  | _, _, 0, v, .cons (v := v') h _, e => by
    have e' : v' = v := Option.some.inj e
    subst e'
    exact ⟨_, rfl, h⟩
  | _, _, i + 1, _, .cons _ r, e => Reps.at' (i := i) r e
theorem Reps.take : ∀ {ds : List D} {vs : List V} (n : Nat), Reps K G ds vs → Reps K G (ds.take n) (vs.take n)
  | _, _, 0, _ => .nil
  | _, _, _ + 1, .nil => .nil
  | _, _, n + 1, .cons h r => .cons h (Reps.take n r)
theorem Reps.drop : ∀ {ds : List D} {vs : List V} (n : Nat), Reps K G ds vs → Reps K G (ds.drop n) (vs.drop n)
  | _, _, 0, r => r
  | _, _, _ + 1, .nil => .nil
  | _, _, n + 1, .cons _ r => Reps.drop n r
theorem Reps.set : ∀ {ds : List D} {vs : List V} (n : Nat) {d : D} {v : V}, Reps K G ds vs → Rep K G d v → Reps K G (ds.set n d) (vs.set n v)
  | _, _, _, _, _, .nil, _ => .nil
  | _, _, 0, _, _, .cons _ r, h => .cons h r
  | _, _, n + 1, _, _, .cons h' r, h => .cons h' (Reps.set n r h)
/-- .. at a moment: a list that its def owns, too -/
def BRep (K : PySem.W.Frag) (G H : Hp) (d : D) (v : V) : Prop := Rep K G d v ∨ ∃ ds p vs, d = .olst ds ∧ v = .ref p ∧ H p = some (.lst vs) ∧ Reps K G ds vs
theorem BRep.mono (g : Grow G H G' H') {d : D} {v : V} (h : BRep K G H d v) : BRep K G' H' d v := by
  rcases h with h | ⟨ds, p, vs, e1, e2, h, r⟩
  · exact Or.inl (h.mono g.g)
  · exact Or.inr ⟨ds, p, vs, e1, e2, g.h _ _ h, r.mono g.g⟩
theorem BRep.of (h : Rep K G d v) : BRep K G H d v := Or.inl h
def isO : D → Bool
  | .olst _ => true
  | _ => false
theorem BRep.rep {d : D} {v : V} (h : BRep K G H d v) (e : isO d = false) : Rep K G d v := by
  rcases h with h | ⟨ds, p, vs, e1, e2, h, r⟩
  · exact h
  · subst e1; cases e
theorem brep_int {n : Int} {v : V} (h : BRep K G H (.int n) v) : v = .int n := by
  rcases h with h | ⟨_, _, _, e, _⟩
  · cases h; rfl
  · cases e
theorem brep_bl {n : Bool} {v : V} (h : BRep K G H (.bl n) v) : v = .bl n := by
  rcases h with h | ⟨_, _, _, e, _⟩
  · cases h; rfl
  · cases e
theorem brep_str {n : List Nat} {v : V} (h : BRep K G H (.str n) v) : v = .str (S n) := by
  rcases h with h | ⟨_, _, _, e, _⟩
  · cases h; rfl
  · cases e
theorem brep_non {v : V} (h : BRep K G H .non v) : v = .non := by
  rcases h with h | ⟨_, _, _, e, _⟩
  · cases h; rfl
  · cases e
theorem brep_obj {x v : V} (h : BRep K G H (.obj x) v) : v = x := by
  rcases h with h | ⟨_, _, _, e, _⟩
  · cases h; rfl
  · cases e
theorem brep_tup {ds : List D} {v : V} (h : BRep K G H (.tup ds) v) : ∃ a vs, v = .ref a ∧ SqT K G a vs ∧ Reps K G ds vs := by
  rcases h with h | ⟨_, _, _, e, _⟩
  · cases h with
    | tup h r => exact ⟨_, _, rfl, h, r⟩
  · cases e
/-- a list's items, owned or not -/
def asL : D → Option (List D)
  | .lst l => some l
  | .slst l => some l
  | .olst l => some l
  | _ => none
theorem brep_lst {d : D} {ds : List D} {v : V} (i : Ex G H) (h : BRep K G H d v) (e : asL d = some ds) : ∃ a vs, v = .ref a ∧ SqL K H a vs ∧ Reps K G ds vs := by
  rcases h with h | ⟨ds', p, vs, e1, e2, h, r⟩
  · cases h with
    | lst h r => cases e; exact ⟨_, _, rfl, .inl (.inl (i _ _ h)), r⟩
    | slst h r => cases e; exact ⟨_, _, rfl, sqL_mono i h, r⟩
    | _ => cases e
  · subst e1 e2
    cases e
    exact ⟨_, _, rfl, .inl (.inl h), r⟩

/-- .. one that stands in the whole by itself -/
def asL2 : D → Option (List D)
  | .lst l => some l
  | .olst l => some l
  | _ => none
theorem brep_lst2 {d : D} {ds : List D} {v : V} (i : Ex G H) (h : BRep K G H d v) (e : asL2 d = some ds) : ∃ a vs, v = .ref a ∧ H a = some (.lst vs) ∧ Reps K G ds vs := by
  rcases h with h | ⟨ds', p, vs, e1, e2, h, r⟩
  · cases h with
    | lst h r => cases e; exact ⟨_, _, rfl, i _ _ h, r⟩
    | _ => cases e
  · subst e1 e2
    cases e
    exact ⟨_, _, rfl, h, r⟩

/-! ### slots -/
inductive Sl where
  | un | dat (d : D) | own (ds : List D)
abbrev DSt := List Sl
/-- H0: the entry's whole; an owned list is new since then, no part of G -/
structure SR (K : PySem.W.Frag) (H0 G H : Hp) (σ : L2.St) (δ : DSt) : Prop where
  len : σ.length = δ.length
  dat : ∀ (i : Nat) (d : D), δ[i]? = some (.dat d) → ∃ v, σ[i]? = some (some v) ∧ Rep K G d v
  own : ∀ (i : Nat) (ds : List D), δ[i]? = some (.own ds) → ∃ p vs, σ[i]? = some (some (.ref p)) ∧ H p = some (.lst vs) ∧ H0 p = none ∧ G p = none ∧ Reps K G ds vs
  ne : ∀ (i j : Nat) (ds es : List D) (p : Addr), δ[i]? = some (.own ds) → δ[j]? = some (.own es) → σ[i]? = some (some (.ref p)) → σ[j]? = some (some (.ref p)) → i = j
variable {σ : L2.St} {δ : DSt}
theorem SR.grow (s : SR K H0 G H σ δ) (g : Grow G H G' H') : SR K H0 G' H' σ δ := by
  refine ⟨s.len, fun i d e => ?_, fun i ds e => ?_, s.ne⟩
  · obtain ⟨v, e1, r⟩ := s.dat i d e
    exact ⟨v, e1, r.mono g.g⟩
  · obtain ⟨p, vs, e1, h, h0, hg, r⟩ := s.own i ds e
    exact ⟨p, vs, e1, g.h _ _ h, h0, g.f p hg (fun z => by rw [h] at z; cases z), r.mono g.g⟩
theorem SR.set_dat (s : SR K H0 G H σ δ) (i : Nat) {d : D} {v : V} (r : Rep K G d v) : SR K H0 G H (σ.set i (some v)) (δ.set i (.dat d)) := by
  refine ⟨by simp [s.len], fun j e h => ?_, fun j ds h => ?_, fun j k ds es p h1 h2 h3 h4 => ?_⟩
  · by_cases hj : i = j
    · subst hj
      rw [List.getElem?_set] at h
      by_cases hl : i < δ.length
      · simp [hl] at h
        subst h
        exact ⟨v, by rw [List.getElem?_set_self (by rw [s.len]; exact hl)], r⟩
      · simp [hl] at h
    · rw [List.getElem?_set_ne hj] at h ⊢
      exact s.dat j e h
  · by_cases hj : i = j
    · subst hj
      rw [List.getElem?_set] at h
      by_cases hl : i < δ.length
      · simp [hl] at h
      · simp [hl] at h
    · rw [List.getElem?_set_ne hj] at h ⊢
      exact s.own j ds h
  · have aux : ∀ {m : Nat} {fs : List D}, (δ.set i (.dat d))[m]? = some (.own fs) → i ≠ m := fun {m fs} q z => by
      subst z
      rw [List.getElem?_set] at q
      by_cases hl : i < δ.length
      · simp [hl] at q
      · simp [hl] at q
    have n1 := aux h1
    have n2 := aux h2
    rw [List.getElem?_set_ne n1] at h1 h3
    rw [List.getElem?_set_ne n2] at h2 h4
    exact s.ne j k ds es p h1 h2 h3 h4
theorem SR.set_own (s : SR K H0 G H σ δ) (i : Nat) {ds : List D} {p : Addr} {vs : List V} (hp : H p = none) (h0 : H0 p = none) (eg : Ex G H) (r : Reps K G ds vs) : SR K H0 G (upd H p (.lst vs)) (σ.set i (some (.ref p))) (δ.set i (.own ds)) := by
  have old : ∀ (j : Nat) (es : List D), δ[j]? = some (.own es) → σ[j]? ≠ some (some (.ref p)) := fun j es h q => by
    obtain ⟨p', vs', e1, h1, _⟩ := s.own j es h
    rw [q] at e1
    cases e1
    rw [hp] at h1; cases h1
  refine ⟨by simp [s.len], fun j e h => ?_, fun j es h => ?_, fun j k es fs p' h1 h2 h3 h4 => ?_⟩
  · by_cases hj : i = j
    · subst hj
      rw [List.getElem?_set] at h
      by_cases hl : i < δ.length
      · simp [hl] at h
      · simp [hl] at h
    · rw [List.getElem?_set_ne hj] at h ⊢
      exact s.dat j e h
  · by_cases hj : i = j
    · subst hj
      rw [List.getElem?_set] at h
      by_cases hl : i < δ.length
      · simp [hl] at h
        subst h
        exact ⟨p, vs, by rw [List.getElem?_set_self (by rw [s.len]; exact hl)], upd_same, h0, eg.gone hp, r⟩
      · simp [hl] at h
    · rw [List.getElem?_set_ne hj] at h ⊢
      obtain ⟨p', vs', e1, h1, h2, h3, r'⟩ := s.own j es h
      exact ⟨p', vs', e1, by rw [upd_ne (fun z => by rw [z, hp] at h1; cases h1)]; exact h1, h2, h3, r'⟩
  · by_cases hj : i = j
    · by_cases hk : i = k
      · omega
      · subst hj
        rw [List.getElem?_set_ne hk] at h2 h4
        rw [List.getElem?_set] at h3
        by_cases hl : i < σ.length
        · simp [hl] at h3
          subst h3
          exact absurd h4 (old k fs h2)
        · simp [hl] at h3
    · by_cases hk : i = k
      · subst hk
        rw [List.getElem?_set_ne hj] at h1 h3
        rw [List.getElem?_set] at h4
        by_cases hl : i < σ.length
        · simp [hl] at h4
          subst h4
          exact absurd h3 (old j es h1)
        · simp [hl] at h4
      · rw [List.getElem?_set_ne hj] at h1 h3
        rw [List.getElem?_set_ne hk] at h2 h4
        exact s.ne j k es fs p' h1 h2 h3 h4
/-- an owned list changes in place -/
theorem SR.mut (s : SR K H0 G H σ δ) (i : Nat) {ds ds' : List D} {p : Addr} {vs' : List V} (e : δ[i]? = some (.own ds)) (ep : σ[i]? = some (some (.ref p))) (r : Reps K G ds' vs') : SR K H0 G (upd H p (.lst vs')) σ (δ.set i (.own ds')) := by
  obtain ⟨p0, vs0, e0, h0, h00, hg0, r0⟩ := s.own i ds e
  rw [ep] at e0
  cases e0
  have li : i < δ.length := (List.getElem?_eq_some_iff.mp e).1
  refine ⟨by simp [s.len], fun j d h => ?_, fun j es h => ?_, fun j k es fs p' h1 h2 h3 h4 => ?_⟩
  · by_cases hj : i = j
    · subst hj
      rw [List.getElem?_set_self li] at h; cases h
    · rw [List.getElem?_set_ne hj] at h
      exact s.dat j d h
  · by_cases hj : i = j
    · subst hj
      rw [List.getElem?_set_self li] at h
      cases h
      exact ⟨p, vs', ep, upd_same, h00, hg0, r⟩
    · rw [List.getElem?_set_ne hj] at h
      obtain ⟨p', vs', e1, h1, h2, h3, r'⟩ := s.own j es h
      exact ⟨p', vs', e1, by rw [upd_ne (fun z => hj (s.ne i j ds es p e h ep (by rw [z] at e1; exact e1)))]; exact h1, h2, h3, r'⟩
  · have aux : ∀ {m : Nat} {fs : List D}, (δ.set i (.own ds'))[m]? = some (.own fs) → ∃ gs, δ[m]? = some (.own gs) := fun {m fs} q => by
      by_cases hm : i = m
      · subst hm; exact ⟨_, e⟩
      · rw [List.getElem?_set_ne hm] at q; exact ⟨_, q⟩
    obtain ⟨g1, q1⟩ := aux h1
    obtain ⟨g2, q2⟩ := aux h2
    exact s.ne j k g1 g2 p' q1 q2 h3 h4
/-- an owned list is given up: it stays as it is from now on -/
def frz (i : Nat) (δ : DSt) : DSt := match δ[i]? with
  | some (.own ds) => δ.set i (.dat (.lst ds))
  | _ => δ
theorem SR.frz (s : SR K H0 G H σ δ) (eg : Ex G H) (i : Nat) : ∃ G', Ex G G' ∧ Ex G' H ∧ (∀ a, H0 a ≠ none → G' a = G a) ∧ SR K H0 G' H σ (frz i δ) := by
  unfold Dl.frz
  split
  · rename_i ds e
    obtain ⟨p, vs, ep, hp, hp0, hg, r⟩ := s.own i ds e
    have ex : Ex G (upd G p (.lst vs)) := (Ex.refl G).up hg
    have li : i < δ.length := (List.getElem?_eq_some_iff.mp e).1
    refine ⟨upd G p (.lst vs), ex, fun a o q => ?_, fun a ha => ?_, ?_⟩
    · by_cases z : a = p
      · subst z; rw [upd_same] at q; rw [hp]; exact q
      · rw [upd_ne z] at q; exact eg a o q
    · rw [upd_ne (fun z => ha (by rw [z]; exact hp0))]
    · refine ⟨by simp [s.len], fun j d h => ?_, fun j es h => ?_, fun j k es fs p' h1 h2 h3 h4 => ?_⟩
      · by_cases hj : i = j
        · subst hj
          rw [List.getElem?_set_self li] at h
          cases h
          exact ⟨_, ep, .lst upd_same (r.mono ex)⟩
        · rw [List.getElem?_set_ne hj] at h
          obtain ⟨v, e1, r'⟩ := s.dat j d h
          exact ⟨v, e1, r'.mono ex⟩
      · by_cases hj : i = j
        · subst hj
          rw [List.getElem?_set_self li] at h; cases h
        · rw [List.getElem?_set_ne hj] at h
          obtain ⟨p', vs', e1, h1, h2, h3, r'⟩ := s.own j es h
          exact ⟨p', vs', e1, h1, h2, by rw [upd_ne (fun z => hj (s.ne i j ds es p e h ep (by rw [z] at e1; exact e1)))]; exact h3, r'.mono ex⟩
      · have aux : ∀ {m : Nat} {fs : List D}, (δ.set i (.dat (.lst ds)))[m]? = some (.own fs) → δ[m]? = some (.own fs) := fun {m fs} q => by
          by_cases hm : i = m
          · subst hm; rw [List.getElem?_set_self li] at q; cases q
          · rw [List.getElem?_set_ne hm] at q; exact q
        exact s.ne j k es fs p' (aux h1) (aux h2) h3 h4
  · exact ⟨G, Ex.refl G, eg, fun _ _ => rfl, s⟩
end
end Dl
set_option Elab.async false
set_option linter.all false
set_option maxRecDepth 100000
set_option maxHeartbeats 4000000
/-! Dl2: expressions, statements, blocks, defs as functions of data. -/
namespace Dl
open PySem PySem.Spec PyProof.Rows L2

theorem PE.weak {X : Cx} {e : Expr} {t t' : TE} (h : PE X e t) (w : ∀ σ H Q, t' σ H Q → t σ H Q) : PE X e t' := ⟨fun pins s σ H Q I q => h.run pins s σ H Q I (w σ H Q q)⟩
theorem PT.weak {X : Cx} {e : Expr} {t t' : TT} (h : PT X e t) (w : ∀ σ H Q, t' σ H Q → t σ H Q) : PT X e t' := ⟨fun pins s σ H Q I q => h.run pins s σ H Q I (w σ H Q q)⟩
theorem PW.weak {X : Cx} {e : Expr} {t t' : TT} (h : PW X e t) (w : ∀ σ H Q, t' σ H Q → t σ H Q) : PW X e t' := ⟨fun wh pins s σ H Q I q => h.run wh pins s σ H Q I (w σ H Q q)⟩
theorem PA.weak {X : Cx} {es : List Expr} {t t' : TA} (h : PA X es t) (w : ∀ σ H Q, t' σ H Q → t σ H Q) : PA X es t' := ⟨fun pos pins s σ H Q I q => h.run pos pins s σ H Q I (w σ H Q q)⟩
theorem PS.weak {X : Cx} {st : Stmt} {t t' : TS} (h : PS X st t) (w : ∀ D σ H, t' D σ H → t D σ H) : PS X st t' := ⟨fun pins s σ H D I q => h.run pins s σ H D I (w D σ H q)⟩
theorem PSs.weak {X : Cx} {st : List Stmt} {t t' : TS} (h : PSs X st t) (w : ∀ D σ H, t' D σ H → t D σ H) : PSs X st t' := ⟨fun pins s σ H D I q => h.run pins s σ H D I (w D σ H q)⟩
theorem PI.weak {X : Cx} {tg e : Expr} {t t' : TI} (h : PI X tg e t) (w : ∀ σ H Q, t' σ H Q → t σ H Q) : PI X tg e t' := ⟨fun pins s σ H Q I q => h.run pins s σ H Q I (w σ H Q q)⟩

def ExcR (K : PySem.W.Frag) (G H : Hp) (c : Exc) (cls : Value) (dd : Option Addr) : Prop :=
  cls = .ref (He.ga K c.1) ∧ match c.2 with
    | none => dd = none
    | some n => ∃ d v, dd = some d ∧ H d = some (.xd [(("number" : Str), v)]) ∧ Rep K G n v
/-- what is wanted of an answer r, from G and H on -/
def PX {α β : Type} (K : PySem.W.Frag) (W : WX) (rel : Hp → Hp → α → β → Prop) (σ : L2.St) (G H : Hp) (r : R α) (Q : β → Hp → Prop) : Prop := match r with
  | .ok a => ∀ v G' H', Grow G H G' H' → rel G' H' a v → Q v H'
  | .exc c => ∀ G' H' cls dd, Grow G H G' H' → ExcR K G' H' c cls dd → W cls dd σ H'
  | .bad => False
def liftX {α β : Type} (K : PySem.W.Frag) (W : WX) (rel : Hp → Hp → α → β → Prop) (de : DSt → R α) (σ : L2.St) (H : Hp) (Q : β → Hp → Prop) : Prop :=
  ∃ (H0 G : Hp) (δ : DSt), Ex G H ∧ SR K H0 G H σ δ ∧ PX K W rel σ G H (de δ) Q
section
variable {α β γ ε : Type} {K : PySem.W.Frag} {W : WX} {rel : Hp → Hp → α → β → Prop} {rel2 : Hp → Hp → γ → ε → Prop} {σ : L2.St} {G H G' H' : Hp}
theorem PX.mono {r : R α} {Q : β → Hp → Prop} (h : PX K W rel σ G H r Q) (g : Grow G H G' H') : PX K W rel σ G' H' r Q := by
  cases r with
  | ok a => exact fun v G2 H2 g2 q => h v G2 H2 (g.trans g2) q
  | exc c => exact fun G2 H2 cls dd g2 q => h G2 H2 cls dd (g.trans g2) q
  | bad => exact h
/-- first da, then what its answer leads to -/
theorem at_bind {da : DSt → R α} {k : α → R γ} {H0 : Hp} {δ : DSt} {Q : ε → Hp → Prop} {Q1 : β → Hp → Prop} (e : Ex G H) (s : SR K H0 G H σ δ) (p : PX K W rel2 σ G H ((da δ).bind k) Q)
    (hq : ∀ (G1 H1 : Hp) (a : α) (x : β), Grow G H G1 H1 → SR K H0 G1 H1 σ δ → rel G1 H1 a x → PX K W rel2 σ G1 H1 (k a) Q → Q1 x H1) : liftX K W rel da σ H Q1 := by
  refine ⟨H0, G, δ, e, s, ?_⟩
  cases q : da δ with
  | ok a =>
    rw [q] at p
    exact fun v G1 H1 g1 r1 => hq G1 H1 a v g1 (s.grow g1) r1 (PX.mono p g1)
  | exc c => rw [q] at p; exact p
  | bad => rw [q] at p; exact p
theorem liftX_mono {da : DSt → R α} {Q Q' : β → Hp → Prop} (h : liftX K W rel da σ H Q) (hq : ∀ x H1, Q x H1 → Q' x H1) : liftX K W rel da σ H Q' := by
  obtain ⟨H0, G, δ, e, s, p⟩ := h
  refine ⟨H0, G, δ, e, s, ?_⟩
  cases q : da δ with
  | ok a => rw [q] at p; exact fun v G1 H1 g1 r1 => hq _ _ (p v G1 H1 g1 r1)
  | exc c => rw [q] at p; exact p
  | bad => rw [q] at p; exact p
end
abbrev DE := DSt → R D
abbrev DT := DSt → R Bool
abbrev DA := DSt → R (List D)
def liftE (K : PySem.W.Frag) (W : WX) (de : DE) : TE := liftX K W (BRep K) de
def liftT (K : PySem.W.Frag) (W : WX) (dt : DT) : TT := liftX K W (fun _ _ a b => a = b) dt
inductive BReps (K : PySem.W.Frag) (G H : Hp) : List D → List V → Prop
  | nil : BReps K G H [] []
  | cons {d : D} {v : V} {ds : List D} {vs : List V} : BRep K G H d v → BReps K G H ds vs → BReps K G H (d :: ds) (v :: vs)
theorem BReps.rep {K : PySem.W.Frag} {G H : Hp} : ∀ {ds : List D} {vs : List V}, BReps K G H ds vs → ds.all (fun d => !isO d) = true → Reps K G ds vs
  | _, _, .nil, _ => .nil
  | _, _, .cons (d := d) (ds := ds) h r, e => by
    have e1 : ((!isO d) && ds.all fun d => !isO d) = true := e
    obtain ⟨a, b⟩ := Bool.and_eq_true_iff.mp e1
    exact .cons (h.rep (by simpa using a)) (BReps.rep r b)
def liftA (K : PySem.W.Frag) (W : WX) (da : DA) : TA := liftX K W (BReps K) da

section
variable {X : Cx} {W : WX} {e a b c : Expr} {pos : Pos} {es : List Expr}
/-! ### names, constants -/
def dVar (i : Nat) : DE := fun δ => match δ[i]? with
  | some (.dat d) => .ok d
  | some (.own ds) => .ok (.olst ds)
  | _ => .bad
def dC (d : D) : DE := fun _ => .ok d
theorem l_var {i : Nat} {x : Str} (hN : X.N[i]? = some x) (hv : Vis X.env.scope x) (hd : (x == ("__debug__" : Str)) = false := by decide) (hcd : (x == ("__classdict__" : Str)) = false := by decide) : PE X (.Name x pos) (liftE X.K W (dVar i)) :=
  PE.weak (pe_var hN hv hd hcd) fun σ H Q h => by
    obtain ⟨H0, G, δ, eg, s, p⟩ := h
    unfold dVar at p
    split at p
    · rename_i d q
      obtain ⟨v, ev, r⟩ := s.dat i d q
      exact ⟨v, ev, p v G H (Grow.refl eg) (.inl r)⟩
    · rename_i ds q
      obtain ⟨v, vs, ev, hp, h0, hg, r⟩ := s.own i ds q
      exact ⟨_, ev, p _ G H (Grow.refl eg) (.inr ⟨ds, v, vs, rfl, rfl, hp, r⟩)⟩
    · exact p.elim
theorem l_c {v : V} {d : D} (h : PE X e (tC v)) (r : ∀ G, Rep X.K G d v) : PE X e (liftE X.K W (dC d)) :=
  PE.weak h fun σ H Q h => by
    obtain ⟨H0, G, δ, eg, s, p⟩ := h
    exact p v G H (Grow.refl eg) (.inl (r G))
theorem l_int {i : Int} {j : Nat} : PE X (.Constant (.int i) j pos) (liftE X.K W (dC (.int i))) := l_c pe_int fun _ => .int i
theorem l_bl {i : Bool} {j : Nat} : PE X (.Constant (.bool i) j pos) (liftE X.K W (dC (.bl i))) := l_c pe_bl fun _ => .bl i
theorem l_non {j : Nat} : PE X (.Constant .none j pos) (liftE X.K W (dC .non)) := l_c pe_non fun _ => .non
theorem l_str {x : Str} {l : List Nat} {j : Nat} (h : x = S l) : PE X (.Constant (.str x) j pos) (liftE X.K W (dC (.str l))) := l_c pe_str fun _ => by rw [h]; exact .str l
/-- a constant of the module that is a text -/
theorem l_gstr {x y : Str} {l : List Nat} {t : Tok} (hg : Gl X x) (hm : X.mg x = some (.str y t)) (h : y = S l) (hd : (x == ("__debug__" : Str)) = false := by decide) : PE X (.Name x pos) (liftE X.K W (dC (.str l))) :=
  l_c (pe_glob hg hm (v := .str y) ⟨t, rfl⟩ hd) fun _ => by rw [h]; exact .str l
theorem l_gint {x : Str} {i : Int} {t : Tok} (hg : Gl X x) (hm : X.mg x = some (.int i t)) (hd : (x == ("__debug__" : Str)) = false := by decide) : PE X (.Name x pos) (liftE X.K W (dC (.int i))) :=
  l_c (pe_glob hg hm (v := .int i) ⟨t, rfl⟩ hd) fun _ => .int i

/-! ### operators by values -/
def R.of {α : Type} : Option α → R α
  | some a => .ok a
  | none => .bad
@[simp] theorem R.of_some {α : Type} (a : α) : R.of (some a) = .ok a := rfl
@[simp] theorem R.of_none {α : Type} : (R.of none : R α) = .bad := rfl
def PO (K : PySem.W.Frag) (G H : Hp) (r : Option D) (Q : VK) : Prop := match r with
  | some d => ∀ v G' H', Grow G H G' H' → BRep K G' H' d v → Q v H'
  | none => False
theorem PO.of {K : PySem.W.Frag} {G H : Hp} {σ : L2.St} {r : Option D} {Q : VK} (h : PX K W (BRep K) σ G H (R.of r) Q) : PO K G H r Q := by
  cases r with
  | some d => exact h
  | none => exact h
def r2 (K : PySem.W.Frag) (f : D → D → Option D) : R2 := fun x y H Q => ∃ (G : Hp) (a b : D), Ex G H ∧ BRep K G H a x ∧ BRep K G H b y ∧ PO K G H (f a b) Q
def r1 (K : PySem.W.Frag) (f : D → Option D) : V → Hp → VK → Prop := fun x H Q => ∃ (G : Hp) (a : D), Ex G H ∧ BRep K G H a x ∧ PO K G H (f a) Q
def rA (K : PySem.W.Frag) (f : List D → Option D) : List V → Hp → VK → Prop := fun xs H Q => ∃ (G : Hp) (ds : List D), Ex G H ∧ BReps K G H ds xs ∧ PO K G H (f ds) Q
def dOp2 (f : D → D → Option D) (da db : DE) : DE := fun δ => (da δ).bind fun a => (db δ).bind fun b => R.of (f a b)
def dOp1 (f : D → Option D) (da : DE) : DE := fun δ => (da δ).bind fun a => R.of (f a)
def dOpA (f : List D → Option D) (da : DA) : DE := fun δ => (da δ).bind fun a => R.of (f a)
theorem tOp_lift {f : D → D → Option D} {da db : DE} {σ : L2.St} {H : Hp} {Q : VK} (h : liftE X.K W (dOp2 f da db) σ H Q) : tOp (r2 X.K f) (liftE X.K W da) (liftE X.K W db) σ H Q := by
  obtain ⟨H0, G, δ, e, s, p⟩ := h
  exact at_bind e s p fun G1 H1 a x g1 s1 ra p1 => at_bind g1.i s1 p1 fun G2 H2 b y g2 s2 rb p2 => ⟨G2, a, b, g2.i, ra.mono g2, rb, PO.of p2⟩
theorem l_op2 {op : Operator} {f : D → D → Option D} {da db : DE} (ho : OpR X (binaryOp op) (r2 X.K f)) (ha : PE X a (liftE X.K W da)) (hb : PE X b (liftE X.K W db)) : PE X (.BinOp a op b pos) (liftE X.K W (dOp2 f da db)) :=
  PE.weak (pe_op ho ha hb) fun _ _ _ h => tOp_lift h
theorem l_cmp {op : CmpOp} {f : D → D → Option D} {da db : DE} (ho : OpR X (compareOp op) (r2 X.K f)) (ha : PE X a (liftE X.K W da)) (hb : PE X b (liftE X.K W db)) (hm : behindInMarks op b = false := by rfl) : PE X (.Compare a [op] [b] pos) (liftE X.K W (dOp2 f da db)) :=
  PE.weak (pe_cmpR ho ha hb hm) fun _ _ _ h => tOp_lift h
theorem l_un {op : UnaryOp} {f : D → Option D} {da : DE} (ho : UnR X (unaryOp op) (r1 X.K f)) (ha : PE X a (liftE X.K W da)) : PE X (.UnaryOp op a pos) (liftE X.K W (dOp1 f da)) :=
  PE.weak (pe_un ho ha) fun σ H Q h => by
    obtain ⟨H0, G, δ, e, s, p⟩ := h
    exact at_bind e s p fun G1 H1 a x g1 s1 ra p1 => ⟨G1, a, g1.i, ra, PO.of p1⟩
/-! ### tests -/
def toB : D → R Bool
  | .bl b => .ok b
  | _ => .bad
def dB (de : DE) : DT := fun δ => (de δ).bind toB
theorem t_val {da : DE} (ha : PE X a (liftE X.K W da)) (he : ∀ whole, isTrue a X.env whole = (do let v ← whole; standAt a.pos; holding [v] (truthy v)) := by intro _; rfl) : PT X a (liftT X.K W (dB da)) :=
  PT.weak (pt_val ha he) fun σ H Q h => by
    obtain ⟨H0, G, δ, e, s, p⟩ := h
    refine at_bind e s p fun G1 H1 d x g1 s1 ra p1 => ?_
    cases d with
    | bl b => exact ⟨b, brep_bl ra, p1 b G1 H1 (Grow.refl g1.i) rfl⟩
    | _ => exact p1.elim
theorem t_cmp {op : CmpOp} {f : D → D → Option D} {da db : DE} (ho : OpR X (compareOp op) (r2 X.K f)) (ha : PE X a (liftE X.K W da)) (hb : PE X b (liftE X.K W db)) (hm : behindInMarks op b = false := by rfl) : PT X (.Compare a [op] [b] pos) (liftT X.K W (dB (dOp2 f da db))) :=
  PT.weak (pt_cmpR ho ha hb hm) fun σ H Q h => tOp_lift (W := W) (by
    obtain ⟨H0, G, δ, e, s, p⟩ := h
    refine ⟨H0, G, δ, e, s, ?_⟩
    have p' : PX X.K W (fun _ _ (x y : Bool) => x = y) σ G H ((dOp2 f da db δ).bind toB) Q := p
    cases q : dOp2 f da db δ with
    | ok d =>
      rw [q] at p'
      intro v G1 H1 g1 r
      cases d with
      | bl k => exact ⟨k, brep_bl r, p' k G1 H1 g1 rfl⟩
      | _ => exact p'.elim
    | exc c => rw [q] at p'; exact p'
    | bad => rw [q] at p'; exact p')
def dAndT (a b : DT) : DT := fun δ => (a δ).bind fun x => if x = true then b δ else .ok false
def dOrT (a b : DT) : DT := fun δ => (a δ).bind fun x => if x = true then .ok true else b δ
def dNotT (a : DT) : DT := fun δ => (a δ).bind fun x => .ok (!x)
theorem tAnd_lift {da db : DT} {σ : L2.St} {H : Hp} {Q : Bool → Hp → Prop} (h : liftT X.K W (dAndT da db) σ H Q) : tAnd (liftT X.K W da) (liftT X.K W db) σ H Q := by
  obtain ⟨H0, G, δ, e, s, p⟩ := h
  refine at_bind e s p fun G1 H1 x b g1 s1 rb p1 => ?_
  subst rb
  cases x with
  | true => exact ⟨H0, G1, δ, g1.i, s1, p1⟩
  | false => exact p1 false G1 H1 (Grow.refl g1.i) rfl
theorem tOr_lift {da db : DT} {σ : L2.St} {H : Hp} {Q : Bool → Hp → Prop} (h : liftT X.K W (dOrT da db) σ H Q) : tOr (liftT X.K W da) (liftT X.K W db) σ H Q := by
  obtain ⟨H0, G, δ, e, s, p⟩ := h
  refine at_bind e s p fun G1 H1 x b g1 s1 rb p1 => ?_
  subst rb
  cases x with
  | true => exact p1 true G1 H1 (Grow.refl g1.i) rfl
  | false => exact ⟨H0, G1, δ, g1.i, s1, p1⟩
theorem t_not {da : DT} (ha : PT X a (liftT X.K W da)) : PT X (.UnaryOp .Not a pos) (liftT X.K W (dNotT da)) :=
  PT.weak (pt_not ha) fun σ H Q h => by
    obtain ⟨H0, G, δ, e, s, p⟩ := h
    refine at_bind e s p fun G1 H1 x b g1 s1 rb p1 => ?_
    subst rb
    exact p1 (!x) G1 H1 (Grow.refl g1.i) rfl
end
end Dl
set_option Elab.async false
set_option linter.all false
set_option maxRecDepth 100000
set_option maxHeartbeats 4000000
/-! Dl3: values by truth, displays, arguments, calls of defs, statements. -/
namespace Dl
open PySem PySem.Spec PyProof.Rows L2
section
variable {X : Cx} {W : WX} {e a b c : Expr} {pos : Pos} {es : List Expr}
/-! ### and, or, not, if as values -/
def dAndV (da db : DE) : DE := fun δ => (da δ).bind fun x => (toB x).bind fun k => if k = true then db δ else .ok (.bl false)
def dOrV (da db : DE) : DE := fun δ => (da δ).bind fun x => (toB x).bind fun k => if k = true then .ok (.bl true) else db δ
def dNotV (da : DE) : DE := fun δ => (da δ).bind fun x => (toB x).bind fun k => .ok (.bl (!k))
def dIfE (c : DT) (da db : DE) : DE := fun δ => (c δ).bind fun k => if k = true then da δ else db δ
theorem l_and {rest : List Expr} {da db : DE} (ha : PE X a (liftE X.K W da)) (hb : PE X (.BoolOp .And (b :: rest) pos) (liftE X.K W db)) : PE X (.BoolOp .And (a :: b :: rest) pos) (liftE X.K W (dAndV da db)) :=
  PE.weak (pe_and ha hb) fun σ H Q h => by
    obtain ⟨H0, G, δ, e, s, p⟩ := h
    refine at_bind e s p fun G1 H1 d x g1 s1 ra p1 => ?_
    cases d with
    | bl k =>
      refine ⟨k, brep_bl ra, ?_⟩
      cases k with
      | true => exact ⟨H0, G1, δ, g1.i, s1, p1⟩
      | false => exact p1 _ G1 H1 (Grow.refl g1.i) (.inl (.bl false))
    | _ => exact p1.elim
theorem l_or {rest : List Expr} {da db : DE} (ha : PE X a (liftE X.K W da)) (hb : PE X (.BoolOp .Or (b :: rest) pos) (liftE X.K W db)) : PE X (.BoolOp .Or (a :: b :: rest) pos) (liftE X.K W (dOrV da db)) :=
  PE.weak (pe_or ha hb) fun σ H Q h => by
    obtain ⟨H0, G, δ, e, s, p⟩ := h
    refine at_bind e s p fun G1 H1 d x g1 s1 ra p1 => ?_
    cases d with
    | bl k =>
      refine ⟨k, brep_bl ra, ?_⟩
      cases k with
      | true => exact p1 _ G1 H1 (Grow.refl g1.i) (.inl (.bl true))
      | false => exact ⟨H0, G1, δ, g1.i, s1, p1⟩
    | _ => exact p1.elim
theorem l_not {da : DE} (ha : PE X a (liftE X.K W da)) : PE X (.UnaryOp .Not a pos) (liftE X.K W (dNotV da)) :=
  PE.weak (pe_not ha) fun σ H Q h => by
    obtain ⟨H0, G, δ, e, s, p⟩ := h
    refine at_bind e s p fun G1 H1 d x g1 s1 ra p1 => ?_
    cases d with
    | bl k => exact ⟨k, brep_bl ra, p1 _ G1 H1 (Grow.refl g1.i) (.inl (.bl (!k)))⟩
    | _ => exact p1.elim
theorem l_ifE {dt : DT} {da db : DE} (hc : PT X c (liftT X.K W dt)) (ha : PE X a (liftE X.K W da)) (hb : PE X b (liftE X.K W db)) : PE X (.IfExp c a b pos) (liftE X.K W (dIfE dt da db)) :=
  PE.weak (pe_ifExp hc ha hb) fun σ H Q h => by
    obtain ⟨H0, G, δ, e, s, p⟩ := h
    refine at_bind e s p fun G1 H1 d x g1 s1 ra p1 => ?_
    subst ra
    cases d with
    | true => exact ⟨H0, G1, δ, g1.i, s1, p1⟩
    | false => exact ⟨H0, G1, δ, g1.i, s1, p1⟩
theorem w_and {rest : List Expr} {da db : DT} (ha : PT X a (liftT X.K W da)) (hb : PW X (.BoolOp .And (b :: rest) pos) (liftT X.K W db)) : PW X (.BoolOp .And (a :: b :: rest) pos) (liftT X.K W (dAndT da db)) := PW.weak (pw_and ha hb) fun _ _ _ h => tAnd_lift h
theorem w_or {rest : List Expr} {da db : DT} (ha : PT X a (liftT X.K W da)) (hb : PW X (.BoolOp .Or (b :: rest) pos) (liftT X.K W db)) : PW X (.BoolOp .Or (a :: b :: rest) pos) (liftT X.K W (dOrT da db)) := PW.weak (pw_or ha hb) fun _ _ _ h => tOr_lift h

/-! ### arguments, displays -/
def dNil : DA := fun _ => .ok []
def dCons (da : DE) (dr : DA) : DA := fun δ => (da δ).bind fun x => (dr δ).bind fun xs => .ok (x :: xs)
theorem BReps.mono {K : PySem.W.Frag} {G H G' H' : Hp} (g : Grow G H G' H') : ∀ {ds : List D} {vs : List V}, BReps K G H ds vs → BReps K G' H' ds vs
  | _, _, .nil => .nil
  | _, _, .cons h r => .cons (h.mono g) (BReps.mono g r)
theorem BReps.length {K : PySem.W.Frag} {G H : Hp} : ∀ {ds : List D} {vs : List V}, BReps K G H ds vs → vs.length = ds.length
  | _, _, .nil => rfl
  | _, _, .cons _ r => by rw [List.length_cons, List.length_cons, BReps.length r]
theorem BReps.of {K : PySem.W.Frag} {G H : Hp} : ∀ {ds : List D} {vs : List V}, Reps K G ds vs → BReps K G H ds vs
  | _, _, .nil => .nil
  | _, _, .cons h r => .cons (.inl h) (BReps.of r)
theorem a_nil : PA X [] (liftA X.K W dNil) := PA.weak pa_nil fun σ H Q h => by
  obtain ⟨H0, G, δ, e, s, p⟩ := h
  exact p [] G H (Grow.refl e) .nil
theorem a_cons {da : DE} {dr : DA} (ha : PE X e (liftE X.K W da)) (hr : PA X es (liftA X.K W dr)) (hs : starEach (e :: es) X.env = (false, eval e X.env) :: starEach es X.env := by rfl) : PA X (e :: es) (liftA X.K W (dCons da dr)) :=
  PA.weak (pa_cons ha hr hs) fun σ H Q h => by
    obtain ⟨H0, G, δ, e, s, p⟩ := h
    refine at_bind e s p fun G1 H1 d x g1 s1 ra p1 => ?_
    refine at_bind g1.i s1 p1 fun G2 H2 ds xs g2 s2 rb p2 => ?_
    exact p2 (x :: xs) G2 H2 (Grow.refl g2.i) (.cons (ra.mono g2) rb)
def allR (ds : List D) : Bool := ds.all fun d => !isO d
def mkTup (ds : List D) : R D := if allR ds && decide (ds.length ≤ 1000) then .ok (.tup ds) else .bad
def dTup (da : DA) : DE := fun δ => (da δ).bind mkTup
/-- a list's items, ready to be a new list -/
def mkLst (ds : List D) : R (List D) := if allR ds && decide (ds.length ≤ 1000) then .ok ds else .bad
def dItems (da : DA) : DA := fun δ => (da δ).bind mkLst
theorem line_of {n : Nat} (h : n ≤ 1000) : n ≤ sizeLine := Nat.le_trans h (by rw [sizeLine_eq]; decide)
theorem l_tup {k : Nat} {da : DA} (ha : PA X es (liftA X.K W da)) : PE X (.Tuple es k pos) (liftE X.K W (dTup da)) :=
  PE.weak (pe_tup ha) fun σ H Q h => by
    obtain ⟨H0, G, δ, e, s, p⟩ := h
    refine at_bind e s p fun G1 H1 ds xs g1 s1 ra p1 => ?_
    unfold mkTup at p1
    by_cases q : (allR ds && decide (ds.length ≤ 1000)) = true
    · rw [if_pos q] at p1
      obtain ⟨q1, q2⟩ := Bool.and_eq_true_iff.mp q
      have rr := ra.rep q1
      refine ⟨line_of (by rw [ra.length]; exact of_decide_eq_true q2), fun pp hp => ?_⟩
      have gn := Grow.new g1.i (.tup xs) hp
      exact p1 _ _ _ gn (.inl (.tup (.inl (.inl upd_same)) (rr.mono gn.g)))
    · rw [if_neg q] at p1
      exact p1.elim
/-- a new list, nothing else yet knows of it: at p, its items ds -/
def relF (K : PySem.W.Frag) (G H : Hp) (ds : List D) (v : V) : Prop := ∃ p vs, v = .ref p ∧ H p = some (.lst vs) ∧ G p = none ∧ Reps K G ds vs
/-- .. and new since the beginning of the expression -/
def PF (K : PySem.W.Frag) (W : WX) (σ : L2.St) (G H : Hp) (r : R (List D)) (Q : V → Hp → Prop) : Prop := match r with
  | .ok ds => ∀ p vs G' H', Grow G H G' H' → H p = none → H' p = some (.lst vs) → G' p = none → Reps K G' ds vs → Q (.ref p) H'
  | .exc c => ∀ G' H' cls dd, Grow G H G' H' → ExcR K G' H' c cls dd → W cls dd σ H'
  | .bad => False
def liftF (K : PySem.W.Frag) (W : WX) (da : DA) : TE := fun σ H Q => ∃ (H0 G : Hp) (δ : DSt), Ex G H ∧ SR K H0 G H σ δ ∧ PF K W σ G H (da δ) Q
/-- .. that stays as it is from now on -/
def dFix (da : DA) : DE := fun δ => (da δ).bind fun ds => .ok (.lst ds)
theorem l_fix {da : DA} (h : PE X e (liftF X.K W da)) : PE X e (liftE X.K W (dFix da)) :=
  PE.weak h fun σ H Q h => by
    obtain ⟨H0, G, δ, eg, s, p⟩ := h
    refine ⟨H0, G, δ, eg, s, ?_⟩
    have p' : PX X.K W (BRep X.K) σ G H ((da δ).bind fun ds => .ok (.lst ds)) Q := p
    cases q : da δ with
    | ok ds =>
      rw [q] at p'
      intro pp vs G1 H1 g1 hp hp1 hg r
      have ex1 : Ex G1 (upd G1 pp (.lst vs)) := (Ex.refl G1).up hg
      refine p' (.ref pp) (upd G1 pp (.lst vs)) H1 ⟨g1.g.trans ex1, fun x o z => ?_, g1.h, fun x h1 h2 => ?_⟩ (.inl (.lst upd_same (r.mono ex1)))
      · by_cases ne : x = pp
        · subst ne; rw [upd_same] at z; rw [hp1]; exact z
        · rw [upd_ne ne] at z; exact g1.i x o z
      · have ne : x ≠ pp := fun z => h2 (by rw [z]; exact hp)
        rw [upd_ne ne]; exact g1.f x h1 h2
    | exc c => rw [q] at p'; exact p'
    | bad => rw [q] at p'; exact p'
theorem f_lst {da : DA} (ha : PA X es (liftA X.K W da)) : PE X (.List es pos) (liftF X.K W (dItems da)) :=
  PE.weak (pe_lst ha) fun σ H Q h => by
    obtain ⟨H0, G, δ, e, s, p⟩ := h
    refine ⟨H0, G, δ, e, s, ?_⟩
    have p' : PF X.K W σ G H ((da δ).bind mkLst) Q := p
    cases q : da δ with
    | ok ds =>
      rw [q] at p'
      have p2 : PF X.K W σ G H (mkLst ds) Q := p'
      unfold mkLst at p2
      by_cases q : (allR ds && decide (ds.length ≤ 1000)) = true
      · rw [if_pos q] at p2
        obtain ⟨q1, q2⟩ := Bool.and_eq_true_iff.mp q
        intro xs G1 H1 g1 ra
        refine ⟨line_of (by rw [ra.length]; exact of_decide_eq_true q2), fun pp hp => ?_⟩
        exact p2 pp xs G1 (upd H1 pp (.lst xs)) (g1.trans (Grow.newH g1.i _ hp)) (g1.h.gone hp) upd_same (g1.i.gone hp) (ra.rep q1)
      · rw [if_neg q] at p2
        exact p2.elim
    | exc c => rw [q] at p'; exact p'
    | bad => rw [q] at p'; exact p'
theorem l_lst {da : DA} (ha : PA X es (liftA X.K W da)) : PE X (.List es pos) (liftE X.K W (dFix (dItems da))) := l_fix (f_lst ha)

/-! ### defs -/
/-- what the def whose answer is f promises; n: how many parameters -/
def spM (K : PySem.W.Frag) (n : Nat) (f : List D → R D) : Sp := fun vs H Q E => ∃ (G : Hp) (ds : List D), Ex G H ∧ Reps K G ds vs ∧ ds.length = n ∧ match f ds with
  | .ok d => ∀ v G' H', Grow G H G' H' → Rep K G' d v → Q v H'
  | .exc c => ∀ G' H' cls dd, Grow G H G' H' → ExcR K G' H' c cls dd → E cls dd H'
  | .bad => False
theorem spM_len {K : PySem.W.Frag} {n : Nat} {f : List D → R D} {vs : List V} {H : Hp} {Q : VK} {E : XK} (h : spM K n f vs H Q E) : vs.length = n := by
  obtain ⟨G, ds, _, r, l, _⟩ := h
  rw [r.length, l]
def chk (n : Nat) (f : List D → R D) (ds : List D) : R D := if allR ds && decide (ds.length = n) then f ds else .bad
def dCall (n : Nat) (f : List D → R D) (da : DA) : DE := fun δ => (da δ).bind (chk n f)
theorem call_lift {n : Nat} {f : List D → R D} {da : DA} {σ : L2.St} {H : Hp} {Q : VK} (h : liftE X.K W (dCall n f da) σ H Q) : liftA X.K W da σ H fun vs H1 => spM X.K n f vs H1 Q (fun cls d H => W cls d σ H) := by
  obtain ⟨H0, G, δ, e, s, p⟩ := h
  refine at_bind e s p fun G1 H1 ds xs g1 s1 ra p1 => ?_
  unfold chk at p1
  by_cases q : (allR ds && decide (ds.length = n)) = true
  · rw [if_pos q] at p1
    obtain ⟨q1, q2⟩ := Bool.and_eq_true_iff.mp q
    refine ⟨G1, ds, g1.i, ra.rep q1, of_decide_eq_true q2, ?_⟩
    cases q3 : f ds with
    | ok d => rw [q3] at p1; exact fun v G' H' g r => p1 v G' H' g (.inl r)
    | exc c => rw [q3] at p1; exact p1
    | bad => rw [q3] at p1; exact p1
  · rw [if_neg q] at p1
    exact p1.elim
theorem l_call {x : Str} {k n : Nat} {f : Addr} {fd : FuncData} {ps : List Str} {g : List D → R D} {da : DA} {p : Pos} (F : FnOk X.prog X.w X.K X.mg X.base (L2.CX X.prog X.w) k f fd ps (spM X.K n g)) (hr : Room k X.A) (tk : Takes X W) (hg : Gl X x) (hm : X.mg x = some (.ref f)) (hk : PySem.W.keepIn X.K (.ref f) = true)
    (hb : Binds X.K fd ps []) (ha : PA X (e :: es) (liftA X.K W da)) (hdb : (x == ("__debug__" : Str)) = false := by decide) (he : starEach (e :: es) X.env = (false, eval e X.env) :: starEach es X.env := by rfl) (hpl : (backTo pos (starEach es X.env)).any (·.1) = false := by rfl) :
    PE X (.Call (.Name x p) (e :: es) [] pos) (liftE X.K W (dCall n g da)) :=
  PE.weak (pe_callS F hr hg hm hk hb (fun σ => passAt tk σ) ha hdb he hpl) fun σ H Q h => call_lift h
/-- a built-in by its name, by values -/
theorem l_blt {x : Str} {id : String} {f : List D → Option D} {da : DA} {p : Pos} (hc : CallR X (.builtin id) (rA X.K f)) (hg : Gl X x) (hm : X.mg x = none) (hv : bootBuiltins x = some (.builtin id)) (ha : PA X (e :: es) (liftA X.K W da)) (hn : x ≠ "__name__" := by decide) (hdb : (x == ("__debug__" : Str)) = false := by decide)
    (he : starEach (e :: es) X.env = (false, eval e X.env) :: starEach es X.env := by rfl) (hpl : (backTo pos (starEach es X.env)).any (·.1) = false := by rfl) : PE X (.Call (.Name x p) (e :: es) [] pos) (liftE X.K W (dOpA f da)) :=
  PE.weak (pe_callB hc hg hm hv ha hn hdb he hpl) fun σ H Q h => by
    obtain ⟨H0, G, δ, e, s, p⟩ := h
    exact at_bind e s p fun G1 H1 ds xs g1 s1 ra p1 => ⟨G1, ds, g1.i, ra, PO.of p1⟩
theorem l_bty {x : Str} {T : String} {f : List D → Option D} {da : DA} {p : Pos} (hc : CallR X (.type T) (rA X.K f)) (hg : Gl X x) (hm : X.mg x = none) (hv : bootBuiltins x = some (.type T)) (ha : PA X (e :: es) (liftA X.K W da)) (hn : x ≠ "__name__" := by decide) (hdb : (x == ("__debug__" : Str)) = false := by decide)
    (he : starEach (e :: es) X.env = (false, eval e X.env) :: starEach es X.env := by rfl) (hpl : (backTo pos (starEach es X.env)).any (·.1) = false := by rfl) : PE X (.Call (.Name x p) (e :: es) [] pos) (liftE X.K W (dOpA f da)) :=
  PE.weak (pe_callTy hc hg hm hv ha hn hdb he hpl) fun σ H Q h => by
    obtain ⟨H0, G, δ, e, s, p⟩ := h
    exact at_bind e s p fun G1 H1 ds xs g1 s1 ra p1 => ⟨G1, ds, g1.i, ra, PO.of p1⟩
end
end Dl
set_option Elab.async false
set_option linter.all false
set_option maxRecDepth 100000
set_option maxHeartbeats 4000000
/-! Dl4: statements, loops, a def's body. -/
namespace Dl
open PySem PySem.Spec PyProof.Rows L2
inductive Out where
  | nx (δ : DSt) | ret (d : D) | brk (δ : DSt) | cont (δ : DSt) | exc (c : Exc) (δ : DSt) | bad
abbrev DS := DSt → Out
/-- an expression in a statement -/
def R.out {α : Type} (r : R α) (δ : DSt) (k : α → Out) : Out := match r with
  | .ok a => k a
  | .exc c => .exc c δ
  | .bad => .bad
@[simp] theorem R.out_ok {α : Type} (a : α) (δ : DSt) (k : α → Out) : (R.ok a).out δ k = k a := rfl
@[simp] theorem R.out_exc {α : Type} (c : Exc) (δ : DSt) (k : α → Out) : (R.exc c : R α).out δ k = .exc c δ := rfl
@[simp] theorem R.out_bad {α : Type} (δ : DSt) (k : α → Out) : (R.bad : R α).out δ k = .bad := rfl
/-- what is wanted of an outcome: G0, H0 the def's entry; G: what stands by now -/
def PSo (K : PySem.W.Frag) (W : WX) (D : Ends) (G0 H0 G : Hp) : Out → Prop
  | .nx δ' => ∀ σ' G' H', Ex G G' → Grow G0 H0 G' H' → SR K H0 G' H' σ' δ' → D.nx σ' H'
  | .ret d => ∀ v G' H', Grow G0 H0 G' H' → Rep K G' d v → D.rt v H'
  | .brk δ' => ∀ σ' G' H', Ex G G' → Grow G0 H0 G' H' → SR K H0 G' H' σ' δ' → D.bk σ' H'
  | .cont δ' => ∀ σ' G' H', Ex G G' → Grow G0 H0 G' H' → SR K H0 G' H' σ' δ' → D.ct σ' H'
  | .exc c δ' => ∀ σ' G' H' cls dd, Ex G G' → Grow G0 H0 G' H' → SR K H0 G' H' σ' δ' → ExcR K G' H' c cls dd → W cls dd σ' H'
  | .bad => False
def liftS (K : PySem.W.Frag) (W : WX) (ds : DS) : TS := fun D σ H => ∃ (H0 G0 G : Hp) (δ : DSt), Grow G0 H0 G H ∧ SR K H0 G H σ δ ∧ PSo K W D G0 H0 G (ds δ)
section
variable {K : PySem.W.Frag} {W : WX} {En : Ends} {G0 H0 G G' H : Hp} {σ : L2.St} {δ : DSt}
theorem PSo.mono {o : Out} (h : PSo K W En G0 H0 G o) (e : Ex G G') : PSo K W En G0 H0 G' o := by
  cases o with
  | nx δ' => exact fun σ' G2 H2 e2 => h σ' G2 H2 (e.trans e2)
  | ret d => exact h
  | brk δ' => exact fun σ' G2 H2 e2 => h σ' G2 H2 (e.trans e2)
  | cont δ' => exact fun σ' G2 H2 e2 => h σ' G2 H2 (e.trans e2)
  | exc c δ' => exact fun σ' G2 H2 cls dd e2 => h σ' G2 H2 cls dd (e.trans e2)
  | bad => exact h
/-- an expression's reading in a statement -/
theorem stm {α β : Type} {rel : Hp → Hp → α → β → Prop} {de : DSt → R α} {k : α → Out} {Q : β → Hp → Prop} (g : Grow G0 H0 G H) (s : SR K H0 G H σ δ) (p : PSo K W En G0 H0 G ((de δ).out δ k))
    (hq : ∀ (G1 H1 : Hp) (a : α) (x : β), Grow G H G1 H1 → Grow G0 H0 G1 H1 → SR K H0 G1 H1 σ δ → rel G1 H1 a x → PSo K W En G0 H0 G1 (k a) → Q x H1) : liftX K W rel de σ H Q := by
  refine ⟨H0, G, δ, g.i, s, ?_⟩
  cases q : de δ with
  | ok a =>
    rw [q] at p
    exact fun v G1 H1 g1 r1 => hq G1 H1 a v g1 (g.trans g1) (s.grow g1) r1 (p.mono g1.g)
  | exc c =>
    rw [q] at p
    exact fun G1 H1 cls dd g1 r1 => p σ G1 H1 cls dd g1.g (g.trans g1) (s.grow g1) r1
  | bad => rw [q] at p; exact p
theorem stmF {da : DA} {k : List D → Out} {Q : V → Hp → Prop} (g : Grow G0 H0 G H) (s : SR K H0 G H σ δ) (p : PSo K W En G0 H0 G ((da δ).out δ k))
    (hq : ∀ (G1 H1 : Hp) (ds : List D) (pp : Addr) (vs : List V), Grow G H G1 H1 → Grow G0 H0 G1 H1 → SR K H0 G1 H1 σ δ → H pp = none → H1 pp = some (.lst vs) → G1 pp = none → Reps K G1 ds vs → PSo K W En G0 H0 G1 (k ds) → Q (.ref pp) H1) : liftF K W da σ H Q := by
  refine ⟨H0, G, δ, g.i, s, ?_⟩
  cases q : da δ with
  | ok a =>
    rw [q] at p
    exact fun pp vs G1 H1 g1 h1 h2 h3 h4 => hq G1 H1 a pp vs g1 (g.trans g1) (s.grow g1) h1 h2 h3 h4 (p.mono g1.g)
  | exc c =>
    rw [q] at p
    exact fun G1 H1 cls dd g1 r1 => p σ G1 H1 cls dd g1.g (g.trans g1) (s.grow g1) r1
  | bad => rw [q] at p; exact p
end
section
variable {X : Cx} {W : WX} {st : Stmt} {rest : List Stmt} {e : Expr} {pos : Pos}
/-! ### blocks -/
def dSeq (a b : DS) : DS := fun δ => match a δ with
  | .nx δ' => b δ'
  | o => o
def dSkip : DS := fun δ => .nx δ
theorem b_nil : PSs X [] (liftS X.K W dSkip) := PSs.weak pss_nil fun D σ H h => by
  obtain ⟨H0, G0, G, δ, g, s, p⟩ := h
  exact p σ G H (Ex.refl G) g s
theorem b_cons {a b : DS} (h1 : PS X st (liftS X.K W a)) (h2 : PSs X rest (liftS X.K W b)) : PSs X (st :: rest) (liftS X.K W (dSeq a b)) := PSs.weak (pss_cons h1 h2) fun D σ H h => by
  obtain ⟨H0, G0, G, δ, g, s, p⟩ := h
  refine ⟨H0, G0, G, δ, g, s, ?_⟩
  have p' : PSo X.K W D G0 H0 G (match a δ with | .nx δ' => b δ' | o => o) := p
  cases q : a δ with
  | nx δ' =>
    rw [q] at p'
    exact fun σ' G' H' e' g' s' => ⟨H0, G0, G', δ', g', s', PSo.mono p' e'⟩
  | ret d => rw [q] at p'; exact p'
  | brk δ' => rw [q] at p'; exact p'
  | cont δ' => rw [q] at p'; exact p'
  | exc c δ' => rw [q] at p'; exact p'
  | bad => rw [q] at p'; exact p'
theorem b_one {a : DS} (h1 : PS X st (liftS X.K W a)) : PSs X [st] (liftS X.K W a) := pss_one h1
theorem s_pass : PS X (.Pass pos) (liftS X.K W dSkip) := PS.weak ps_pass fun D σ H h => by
  obtain ⟨H0, G0, G, δ, g, s, p⟩ := h
  exact p σ G H (Ex.refl G) g s
def dBreak : DS := fun δ => .brk δ
def dCont : DS := fun δ => .cont δ
theorem s_break : PS X (.Break pos) (liftS X.K W dBreak) := PS.weak ps_break fun D σ H h => by
  obtain ⟨H0, G0, G, δ, g, s, p⟩ := h
  exact p σ G H (Ex.refl G) g s
theorem s_cont : PS X (.Continue pos) (liftS X.K W dCont) := PS.weak ps_continue fun D σ H h => by
  obtain ⟨H0, G0, G, δ, g, s, p⟩ := h
  exact p σ G H (Ex.refl G) g s
/-! ### assignments -/
/-- a value to a slot -/
def putS (i : Nat) (δ : DSt) (d : D) : Out := if isO d then .bad else .nx (δ.set i (.dat d))
def dSet (i : Nat) (de : DE) : DS := fun δ => (de δ).out δ (putS i δ)
theorem s_set {i : Nat} {x : Str} {de : DE} {pos' : Pos} (hN : X.N.Nodup) (hi : X.N[i]? = some x) (hx : Loc X.env.scope x) (he : PE X e (liftE X.K W de)) (hf : X.fn x = true ∨ X.env.scope.names.lookup x = some .local := by first | exact .inl rfl | exact .inr rfl) (hs : swapsWith e (some (.Name x pos')) pos.line X.env = pure false := by rfl) :
    PS X (.Assign [.Name x pos'] e pos) (liftS X.K W (dSet i de)) := PS.weak (ps_set hN hi hx he hs hf) fun D σ H h => by
  obtain ⟨H0, G0, G, δ, g, s, p⟩ := h
  refine stm g s p fun G1 H1 d x g1 g01 s1 r p1 => ?_
  unfold putS at p1
  by_cases q : isO d = true
  · rw [if_pos q] at p1; exact p1.elim
  · rw [if_neg q] at p1
    exact p1 _ G1 H1 (Ex.refl G1) g01 (s1.set_dat i (r.rep (by simpa using q)))
/-- a new list to a slot, which owns it -/
def dOwn (i : Nat) (da : DA) : DS := fun δ => (da δ).out δ fun ds => .nx (δ.set i (.own ds))
theorem SR.set_own' {K : PySem.W.Frag} {H0 G H : Hp} {σ : L2.St} {δ : DSt} (s : SR K H0 G H σ δ) (i : Nat) {ds : List D} {p : Addr} {vs : List V} (hp : H p = some (.lst vs)) (h0 : H0 p = none) (hg : G p = none) (r : Reps K G ds vs) (old : ∀ (j : Nat) (es : List D), δ[j]? = some (.own es) → σ[j]? ≠ some (some (.ref p))) : SR K H0 G H (σ.set i (some (.ref p))) (δ.set i (.own ds)) := by
  refine ⟨by simp [s.len], fun j e h => ?_, fun j es h => ?_, fun j k es fs p' h1 h2 h3 h4 => ?_⟩
  · by_cases hj : i = j
    · subst hj
      rw [List.getElem?_set] at h
      by_cases hl : i < δ.length
      · simp [hl] at h
      · simp [hl] at h
    · rw [List.getElem?_set_ne hj] at h ⊢
      exact s.dat j e h
  · by_cases hj : i = j
    · subst hj
      rw [List.getElem?_set] at h
      by_cases hl : i < δ.length
      · simp [hl] at h
        subst h
        exact ⟨p, vs, by rw [List.getElem?_set_self (by rw [s.len]; exact hl)], hp, h0, hg, r⟩
      · simp [hl] at h
    · rw [List.getElem?_set_ne hj] at h ⊢
      exact s.own j es h
  · by_cases hj : i = j
    · by_cases hk : i = k
      · omega
      · subst hj
        rw [List.getElem?_set_ne hk] at h2 h4
        rw [List.getElem?_set] at h3
        by_cases hl : i < σ.length
        · simp [hl] at h3
          subst h3
          exact absurd h4 (old k fs h2)
        · simp [hl] at h3
    · by_cases hk : i = k
      · subst hk
        rw [List.getElem?_set_ne hj] at h1 h3
        rw [List.getElem?_set] at h4
        by_cases hl : i < σ.length
        · simp [hl] at h4
          subst h4
          exact absurd h3 (old j es h1)
        · simp [hl] at h4
      · rw [List.getElem?_set_ne hj] at h1 h3
        rw [List.getElem?_set_ne hk] at h2 h4
        exact s.ne j k es fs p' h1 h2 h3 h4
theorem s_own {i : Nat} {x : Str} {da : DA} {pos' : Pos} (hN : X.N.Nodup) (hi : X.N[i]? = some x) (hx : Loc X.env.scope x) (he : PE X e (liftF X.K W da)) (hf : X.fn x = true ∨ X.env.scope.names.lookup x = some .local := by first | exact .inl rfl | exact .inr rfl) (hs : swapsWith e (some (.Name x pos')) pos.line X.env = pure false := by rfl) :
    PS X (.Assign [.Name x pos'] e pos) (liftS X.K W (dOwn i da)) := PS.weak (ps_set hN hi hx he hs hf) fun D σ H h => by
  obtain ⟨H0, G0, G, δ, g, s, p⟩ := h
  refine stmF g s p fun G1 H1 ds pp vs g1 g01 s1 h1 h2 h3 r p1 => ?_
  refine p1 _ G1 H1 (Ex.refl G1) g01 (s1.set_own' i h2 (g.h.gone h1) h3 r fun j es q z => ?_)
  obtain ⟨p', vs', e1, h4, _⟩ := s.own j es q
  rw [e1] at z
  cases z
  rw [h1] at h4; cases h4
/-- targets, one after another, of a tuple's items -/
def putT : List Nat → List D → DSt → Option DSt
  | [], [], δ => some δ
  | i :: is, d :: ds, δ => putT is ds (δ.set i (.dat d))
  | _, _, _ => none
def tgN (i : Nat) : D → DSt → Option DSt := fun d δ => if isO d then none else some (δ.set i (.dat d))
def tgT (is : List Nat) : D → DSt → Option DSt := fun d δ => match d with
  | .tup ds => putT is ds δ
  | _ => none
/-- a target's reading, by data -/
def LG (K : PySem.W.Frag) (g : TG) (tg : D → DSt → Option DSt) : Prop := ∀ (d : D) (v : V) (σ : L2.St) (H0 G H : Hp) (δ δ' : DSt) (Q : L2.St → Hp → Prop), Ex G H → SR K H0 G H σ δ → Rep K G d v → tg d δ = some δ' → (∀ σ', SR K H0 G H σ' δ' → Q σ' H) → g v σ H Q
theorem lg_name {K : PySem.W.Frag} (i : Nat) : LG K (gName i) (tgN i) := fun d v σ H0 G H δ δ' Q eg s r e q => by
  unfold tgN at e
  split at e
  · cases e
  · cases e
    exact q _ (s.set_dat i r)
def gNames : List Nat → TGs
  | [] => gNil
  | i :: is => gCons (gName i) (gNames is)
theorem lg_names {K : PySem.W.Frag} : ∀ (is : List Nat) (ds : List D) (vs : List V) (σ : L2.St) (H0 G H : Hp) (δ δ' : DSt) (Q : L2.St → Hp → Prop), SR K H0 G H σ δ → Reps K G ds vs → putT is ds δ = some δ' → (∀ σ', SR K H0 G H σ' δ' → Q σ' H) → gNames is vs σ H Q
  | [], [], _, σ, H0, G, H, δ, δ', Q, s, .nil, e, q => by
    have e' : some δ = some δ' := e
    cases e'
    exact ⟨rfl, q σ s⟩
  | [], _ :: _, _, _, _, _, _, _, _, _, _, _, e, _ => by cases e
  | _ :: _, [], _, _, _, _, _, _, _, _, _, _, e, _ => by cases e
  | i :: is, d :: ds, _, σ, H0, G, H, δ, δ', Q, s, .cons (v := v) (vs := vs) r rr, e, q => ⟨v, vs, rfl, lg_names is ds vs _ H0 G H _ δ' Q (s.set_dat i r) rr e q⟩
theorem putT_len : ∀ {is : List Nat} {ds : List D} {δ δ' : DSt}, putT is ds δ = some δ' → ds.length = is.length
  | [], [], _, _, _ => rfl
  | [], _ :: _, _, _, e => by cases e
  | _ :: _, [], _, _, e => by cases e
  | _ :: is, _ :: ds, _, _, e => by rw [List.length_cons, List.length_cons, putT_len (is := is) e]
theorem lg_tup {K : PySem.W.Frag} (is : List Nat) {n : Nat} (hn : n = is.length) : LG K (gTup K n (gNames is)) (tgT is) := fun d v σ H0 G H δ δ' Q eg s r e q => by
  unfold tgT at e
  split at e
  · rename_i ds
    cases r with
    | tup h rr => exact ⟨_, _, rfl, sqT_mono eg h, by rw [rr.length, putT_len e, hn], lg_names is ds _ σ H0 G H δ δ' Q s rr e q⟩
  · cases e
def goT (tg : D → DSt → Option DSt) (δ : DSt) (d : D) : Out := match tg d δ with
  | some δ' => .nx δ'
  | none => .bad
def dAsgT (tg : D → DSt → Option DSt) (de : DE) : DS := fun δ => (de δ).out δ (goT tg δ)
theorem tg_noO {is : List Nat} {d : D} {δ δ' : DSt} (h : tgT is d δ = some δ') : isO d = false := by
  cases d <;> first | rfl | cases h
theorem s_asgT {tgt : Expr} {is : List Nat} {g : TG} {de : DE} (hg : PG X tgt g) (lg : LG X.K g (tgT is)) (he : PE X e (liftE X.K W de)) (hs : swapsWithSole [tgt] e pos.line X.env = pure false := by rfl) (hw : swappedStores [tgt] e X.env = pure none := by rfl)
    (h1 : (assignEach [tgt] X.env).map (·.2) = [assign tgt X.env] := by rfl) : PS X (.Assign [tgt] e pos) (liftS X.K W (dAsgT (tgT is) de)) := PS.weak (ps_asg he hg hs hw h1) fun D σ H h => by
  obtain ⟨H0, G0, G, δ, g, s, p⟩ := h
  refine stm g s p fun G1 H1 d x g1 g01 s1 r p1 => ?_
  unfold goT at p1
  split at p1
  · rename_i δ' e'
    exact lg d x σ H0 G1 H1 δ δ' _ g1.i s1 (r.rep (tg_noO e')) e' fun σ' s' => p1 σ' G1 H1 (Ex.refl G1) g01 s'
  · exact p1.elim
/-! ### expressions alone, return, if -/
def dDrop (de : DE) : DS := fun δ => (de δ).out δ fun _ => .nx δ
theorem s_expr {de : DE} (he : PE X e (liftE X.K W de)) (hs : swapsWith e none pos.line X.env = pure false := by rfl) : PS X (.Expr e pos) (liftS X.K W (dDrop de)) := PS.weak (ps_expr he hs) fun D σ H h => by
  obtain ⟨H0, G0, G, δ, g, s, p⟩ := h
  exact stm g s p fun G1 H1 d x g1 g01 s1 r p1 => p1 σ G1 H1 (Ex.refl G1) g01 s1
def outR (d : D) : Out := if isO d then .bad else .ret d
def dRet (de : DE) : DS := fun δ => (de δ).out δ outR
theorem s_ret {de : DE} (he : PE X e (liftE X.K W de)) : PS X (.Return (some e) pos) (liftS X.K W (dRet de)) := PS.weak (ps_ret he) fun D σ H h => by
  obtain ⟨H0, G0, G, δ, g, s, p⟩ := h
  refine stm g s p fun G1 H1 d x g1 g01 s1 r p1 => ?_
  unfold outR at p1
  by_cases q : isO d = true
  · rw [if_pos q] at p1; exact p1.elim
  · rw [if_neg q] at p1
    exact p1 x G1 H1 g01 (r.rep (by simpa using q))
def dRetN : DS := fun _ => .ret .non
theorem s_retN : PS X (.Return none pos) (liftS X.K W dRetN) := PS.weak ps_retN fun D σ H h => by
  obtain ⟨H0, G0, G, δ, g, s, p⟩ := h
  exact p .non G H g .non
def dIf (c : DT) (a b : DS) : DS := fun δ => (c δ).out δ fun k => if k = true then a δ else b δ
theorem s_if {c : Expr} {a b : List Stmt} {dc : DT} {da db : DS} (hc : PT X c (liftT X.K W dc)) (ha : PSs X a (liftS X.K W da)) (hb : PSs X b (liftS X.K W db)) : PS X (.If c a b pos) (liftS X.K W (dIf dc da db)) := PS.weak (ps_if hc ha hb) fun D σ H h => by
  obtain ⟨H0, G0, G, δ, g, s, p⟩ := h
  refine stm g s p fun G1 H1 d x g1 g01 s1 r p1 => ?_
  subst r
  cases d with
  | true => exact ⟨H0, G0, G1, δ, g01, s1, p1⟩
  | false => exact ⟨H0, G0, G1, δ, g01, s1, p1⟩
/-! ### an owned list: append, give up -/
def dApp (i : Nat) (de : DE) : DS := fun δ => match δ[i]? with
  | some (.own ds) => (de δ).out δ fun d => if isO d = true ∨ 1000000 ≤ ds.length then .bad else .nx (δ.set i (.own (ds ++ [d])))
  | _ => .bad
theorem mega {n : Nat} (h : n < 1000000) : n < sizeLine := Nat.lt_of_lt_of_le h (by rw [sizeLine_eq]; decide)
theorem s_app {i : Nat} {x : Str} {de : DE} {p1 p2 pos pos' : Pos} (hN : X.N[i]? = some x) (hv : Vis X.env.scope x) (he : PE X e (liftE X.K W de)) (hd : (x == ("__debug__" : Str)) = false := by decide) (hcd : (x == ("__classdict__" : Str)) = false := by decide)
    (hbase : attributeBase (.Name x p1) "append" X.env (eval (.Name x p1) X.env) = eval (.Name x p1) X.env := by rfl)
    (hfew : ((backTo pos (starEach [e] X.env)).all (fun x => !x.1) && (backToKw pos (keywordEach [] X.env)).all (fun x => x.1.isSome) && decide ([e].length + ([] : List Keyword).length + (if ([] : List Keyword).isEmpty then 0 else 1) < 30)) = true := by rfl)
    (hline : (p2.endLine == pos.line) = true := by rfl) (hs : starEach [e] X.env = (false, eval e X.env) :: starEach [] X.env := by rfl) (hplain : (backTo pos (starEach [] X.env)).any (·.1) = false := by rfl)
    (hsw : swapsWith (.Call (.Attribute (.Name x p1) "append" p2) [e] [] pos) none pos'.line X.env = pure false := by rfl) :
    PS X (.Expr (.Call (.Attribute (.Name x p1) "append" p2) [e] [] pos) pos') (liftS X.K W (dApp i de)) :=
  PS.weak (ps_expr (pe_bm PySem.F.plainAttrs_list PySem.F.slot_list_append PySem.F.type_list_append mt_append (pe_var hN hv hd hcd) (pa_cons he pa_nil hs) hbase hfew hline hs hplain) hsw) fun D σ H h => by
    obtain ⟨H0, G0, G, δ, g, s, p⟩ := h
    unfold dApp at p
    split at p
    · rename_i ds q
      obtain ⟨pp, vs, ev, hp, h0, hg, r⟩ := s.own i ds q
      refine ⟨.ref pp, ev, .inl ⟨rfl, _, .inl (.inl hp)⟩, ?_⟩
      refine stm g s p fun G1 H1 d x g1 g01 s1 rd p1 => ?_
      obtain ⟨pp', vs', ev', hp', h0', hg', r'⟩ := s1.own i ds q
      rw [ev] at ev'
      cases ev'
      by_cases c : isO d = true ∨ 1000000 ≤ ds.length
      · rw [if_pos c] at p1; exact p1.elim
      · rw [if_neg c] at p1
        have c1 : isO d = false := by
          cases z : isO d with
          | true => exact absurd (.inl z) c
          | false => rfl
        have c2 : ds.length < 1000000 := Nat.lt_of_not_le fun z => c (.inr z)
        have rd' := rd.rep c1
        refine ⟨pp, vs', x, rfl, rfl, hp', mega (by rw [r'.length]; exact c2), ?_⟩
        refine p1 σ G1 _ (Ex.refl G1) ⟨g01.g, g01.i.up hg', fun a o z => ?_, g01.f⟩ (s1.mut i q ev (r'.append (.cons rd' .nil)))
        rw [upd_ne (fun y => by rw [y, h0'] at z; cases z)]
        exact g01.h a o z
    · exact p.elim
def dFrz (i : Nat) (a : DS) : DS := fun δ => a (frz i δ)
theorem s_frz (i : Nat) {a : DS} (h : PS X st (liftS X.K W a)) : PS X st (liftS X.K W (dFrz i a)) := PS.weak h fun D σ H h => by
  obtain ⟨H0, G0, G, δ, g, s, p⟩ := h
  obtain ⟨G', e1, e2, e3, s'⟩ := s.frz g.i i
  exact ⟨H0, G0, G', frz i δ, ⟨g.g.trans e1, e2, g.h, fun a h1 h2 => by rw [e3 a h2]; exact g.f a h1 h2⟩, s', p.mono e1⟩
end
end Dl
set_option Elab.async false
set_option linter.all false
set_option maxRecDepth 100000
set_option maxHeartbeats 4000000
/-! Dl5: loops, raise, a def by its body. -/
namespace Dl
open PySem PySem.Spec PyProof.Rows L2
/-- what is walked gives just these, one after another -/
def Yl (K : PySem.W.Frag) (J : It) (xs : List D) (Gb : Hp) : Prop := ∀ (i : Nat) (G H : Hp), Ex Gb G → Ex G H →
  (∀ d, xs[i]? = some d → J.go i H ∧ ∀ x H', J.yld i H x H' → ∃ G', Grow G H G' H' ∧ Rep K G' d x) ∧ (xs.length ≤ i → J.stop i H)
def liftI (K : PySem.W.Frag) (W : WX) (da : DA) : TI := liftX K W (fun G _ xs J => Yl K J xs G) da
def dForL (tg : D → DSt → Option DSt) (b : DS) : List D → DSt → Out
  | [], δ => .nx δ
  | x :: xs, δ => match tg x δ with
    | none => .bad
    | some δ1 => match b δ1 with
      | .nx δ2 => dForL tg b xs δ2
      | .cont δ2 => dForL tg b xs δ2
      | .brk δ2 => .nx δ2
      | .ret d => .ret d
      | .exc c δ2 => .exc c δ2
      | .bad => .bad
def dFor (da : DA) (tg : D → DSt → Option DSt) (b : DS) : DS := fun δ => (da δ).out δ fun xs => dForL tg b xs δ
def dWhile (c : DT) (b : DS) : Nat → DS
  | 0, _ => .bad
  | n + 1, δ => (c δ).out δ fun k => if k = true then (match b δ with
      | .nx δ2 => dWhile c b n δ2
      | .cont δ2 => dWhile c b n δ2
      | .brk δ2 => .nx δ2
      | .ret d => .ret d
      | .exc e δ2 => .exc e δ2
      | .bad => .bad) else .nx δ
section
variable {X : Cx} {W : WX} {e : Expr} {pos : Pos} {body : List Stmt}
theorem s_for {iter tgt : Expr} {g : TG} {tg : D → DSt → Option DSt} {da : DA} {b : DS} (hp : PassesOwn (model X.prog X.w) X.A X.env X.xe) (hc : X.calm = true) (hi : PI X tgt iter (liftI X.K W da)) (hg : PG X tgt g) (lg : LG X.K g tg)
    (hb : PSs X body (liftS X.K W b)) (hs : ∀ x, foldedSetIterable iter X.env x = pure x := by intro _; rfl) : PS X (.For tgt iter body [] pos) (liftS X.K W (dFor da tg b)) := PS.weak (ps_for hp hc hi hg hb hs) fun D σ H h => by
  obtain ⟨H0, G0, G, δ, g0, s, p⟩ := h
  refine stm g0 s p fun G1 H1 xs J g1 g01 s1 yl p1 => ?_
  refine ⟨fun i m σ' H' => m = xs.length - i ∧ i ≤ xs.length ∧ ∃ (G' : Hp) (δ' : DSt), Ex G1 G' ∧ Grow G0 H0 G' H' ∧ SR X.K H0 G' H' σ' δ' ∧ PSo X.K W D G0 H0 G' (dForL tg b (xs.drop i) δ'),
    ⟨xs.length, by simp, Nat.zero_le _, G1, δ, Ex.refl G1, g01, s1, p1⟩, ?_⟩
  rintro i m σ' H' ⟨rfl, hi, G', δ', e', g', s', p'⟩
  obtain ⟨y1, y2⟩ := yl i G' H' e' g'.i
  by_cases hlt : i < xs.length
  · have hd : xs[i]? = some xs[i] := List.getElem?_eq_getElem hlt
    have hdr : xs.drop i = xs[i] :: xs.drop (i + 1) := List.drop_eq_getElem_cons hlt
    obtain ⟨hgo, hy⟩ := y1 _ hd
    rw [hdr] at p'
    refine .inr ⟨hgo, fun σ2 H2 => i + 1 ≤ xs.length ∧ ∃ (G2 : Hp) (δ2 : DSt), Ex G1 G2 ∧ Grow G0 H0 G2 H2 ∧ SR X.K H0 G2 H2 σ2 δ2 ∧ PSo X.K W D G0 H0 G2 (dForL tg b (xs.drop (i + 1)) δ2),
      fun σ2 H2 ⟨k1, k2⟩ => ⟨xs.length - (i + 1), by omega, rfl, k1, k2⟩, fun x H2 yy => ?_⟩
    obtain ⟨G2, gg, rr⟩ := hy x H2 yy
    have g02 := g'.trans gg
    have p2 : PSo X.K W D G0 H0 G2 (match tg xs[i] δ' with
      | none => .bad
      | some δ1 => match b δ1 with
        | .nx δ2 => dForL tg b (xs.drop (i + 1)) δ2
        | .cont δ2 => dForL tg b (xs.drop (i + 1)) δ2
        | .brk δ2 => .nx δ2
        | .ret d => .ret d
        | .exc c δ2 => .exc c δ2
        | .bad => .bad) := PSo.mono p' gg.g
    cases q : tg xs[i] δ' with
    | none => rw [q] at p2; exact p2.elim
    | some δ1 =>
      rw [q] at p2
      dsimp only at p2
      refine lg _ x σ' H0 G2 H2 δ' δ1 _ gg.i (s'.grow gg) rr q fun σ3 s3 => ?_
      refine ⟨H0, G0, G2, δ1, g02, s3, ?_⟩
      cases q2 : b δ1 with
      | nx δ2 =>
        rw [q2] at p2
        exact fun σ4 G4 H4 e4 g4 s4 => ⟨by omega, G4, δ2, (e'.trans gg.g).trans e4, g4, s4, PSo.mono p2 e4⟩
      | cont δ2 =>
        rw [q2] at p2
        exact fun σ4 G4 H4 e4 g4 s4 => ⟨by omega, G4, δ2, (e'.trans gg.g).trans e4, g4, s4, PSo.mono p2 e4⟩
      | brk δ2 => rw [q2] at p2; exact p2
      | ret d => rw [q2] at p2; exact p2
      | exc c δ2 => rw [q2] at p2; exact p2
      | bad => rw [q2] at p2; exact p2
  · have e0 : xs.drop i = [] := List.drop_eq_nil_of_le (by omega)
    rw [e0] at p'
    exact .inl ⟨y2 (by omega), p' σ' G' H' (Ex.refl G') g' s'⟩
theorem s_while {c : Expr} {dc : DT} {b : DS} (n : Nat) (hp : PassesOwn (model X.prog X.w) X.A X.env X.xe) (hc : PT X c (liftT X.K W dc)) (hb : PSs X body (liftS X.K W b)) : PS X (.While c body [] pos) (liftS X.K W (dWhile dc b n)) := PS.weak (ps_while hp hc hb) fun D σ H h => by
  obtain ⟨H0, G0, G, δ, g0, s, p⟩ := h
  refine ⟨fun m σ' H' => ∃ (G' : Hp) (δ' : DSt), Grow G0 H0 G' H' ∧ SR X.K H0 G' H' σ' δ' ∧ PSo X.K W D G0 H0 G' (dWhile dc b m δ'), ⟨n, G, δ, g0, s, p⟩, ?_⟩
  rintro m σ' H' ⟨G', δ', g', s', p'⟩
  cases m with
  | zero => exact p'.elim
  | succ m =>
    refine stm g' s' p' fun G2 H2 k x g2 g02 s2 r p2 => ?_
    subst r
    cases k with
    | false => exact p2 σ' G2 H2 (Ex.refl G2) g02 s2
    | true =>
      refine ⟨fun σ3 H3 => ∃ (G3 : Hp) (δ3 : DSt), Grow G0 H0 G3 H3 ∧ SR X.K H0 G3 H3 σ3 δ3 ∧ PSo X.K W D G0 H0 G3 (dWhile dc b m δ3), fun σ3 H3 q => ⟨m, Nat.lt_succ_self m, q⟩, ?_⟩
      refine ⟨H0, G0, G2, δ', g02, s2, ?_⟩
      have p3 : PSo X.K W D G0 H0 G2 (match b δ' with
        | .nx δ2 => dWhile dc b m δ2
        | .cont δ2 => dWhile dc b m δ2
        | .brk δ2 => .nx δ2
        | .ret d => .ret d
        | .exc e δ2 => .exc e δ2
        | .bad => .bad) := p2
      cases q2 : b δ' with
      | nx δ2 =>
        rw [q2] at p3
        exact fun σ4 G4 H4 e4 g4 s4 => ⟨G4, δ2, g4, s4, PSo.mono p3 e4⟩
      | cont δ2 =>
        rw [q2] at p3
        exact fun σ4 G4 H4 e4 g4 s4 => ⟨G4, δ2, g4, s4, PSo.mono p3 e4⟩
      | brk δ2 => rw [q2] at p3; exact p3
      | ret d => rw [q2] at p3; exact p3
      | exc c δ2 => rw [q2] at p3; exact p3
      | bad => rw [q2] at p3; exact p3
/-! ### what is walked -/
def asLst : D → R (List D)
  | .lst l => .ok l
  | .slst l => .ok l
  | _ => .bad
def asTup : D → R (List D)
  | .tup l => .ok l
  | _ => .bad
def sg (c : Nat) : D := .str [c]
def asStr : D → R (List D)
  | .str l => .ok (l.map sg)
  | _ => .bad
def dIt (f : D → R (List D)) (de : DE) : DA := fun δ => (de δ).bind f
theorem yl_list {K : PySem.W.Frag} {a : Addr} {vs : List V} {ds : List D} {G : Hp} (h : SqL K G a vs) (r : Reps K G ds vs) : Yl K (Itl K a) ds G := fun i G' H e1 e2 =>
  have h' : SqL K H a vs := sqL_mono e2 (sqL_mono e1 h)
  ⟨fun d hd => by
    obtain ⟨v, hv, rv⟩ := r.at_ hd
    refine ⟨⟨vs, v, h', hv⟩, fun x H' y => ?_⟩
    obtain ⟨y1, y2⟩ := y
    subst y1
    have : some v = some x := hv.symm.trans (y2 vs h')
    cases this
    exact ⟨G', Grow.refl e2, rv.mono e1⟩, fun hl => ⟨vs, h', by rw [r.length]; exact hl⟩⟩
theorem yl_tup {K : PySem.W.Frag} {a : Addr} {vs : List V} {ds : List D} {G : Hp} (h : SqT K G a vs) (r : Reps K G ds vs) : Yl K (Itt K a) ds G := fun i G' H e1 e2 =>
  have h' : SqT K H a vs := sqT_mono e2 (sqT_mono e1 h)
  ⟨fun d hd => by
    obtain ⟨v, hv, rv⟩ := r.at_ hd
    refine ⟨⟨vs, v, h', hv⟩, fun x H' y => ?_⟩
    obtain ⟨y1, y2⟩ := y
    subst y1
    have : some v = some x := hv.symm.trans (y2 vs h')
    cases this
    exact ⟨G', Grow.refl e2, rv.mono e1⟩, fun hl => ⟨vs, h', by rw [r.length]; exact hl⟩⟩
theorem i_list {tgt : Expr} {de : DE} (he : PE X e (liftE X.K W de)) : PI X tgt e (liftI X.K W (dIt asLst de)) := PI.weak (pi_list he) fun σ H Q h => by
  obtain ⟨H0, G, δ, eg, s, p⟩ := h
  refine at_bind eg s p fun G1 H1 d x g1 s1 ra p1 => ?_
  cases d with
  | lst l =>
    have rr := ra.rep rfl
    cases rr with
    | lst h r => exact ⟨_, rfl, ⟨_, .inl (.inl (g1.i _ _ h))⟩, p1 _ G1 H1 (Grow.refl g1.i) (yl_list (.inl (.inl h)) r)⟩
  | slst l =>
    have rr := ra.rep rfl
    cases rr with
    | slst h r => exact ⟨_, rfl, ⟨_, sqL_mono g1.i h⟩, p1 _ G1 H1 (Grow.refl g1.i) (yl_list h r)⟩
  | _ => exact p1.elim
theorem i_tup {tgt : Expr} {de : DE} (he : PE X e (liftE X.K W de)) : PI X tgt e (liftI X.K W (dIt asTup de)) := PI.weak (pi_tup he) fun σ H Q h => by
  obtain ⟨H0, G, δ, eg, s, p⟩ := h
  refine at_bind eg s p fun G1 H1 d x g1 s1 ra p1 => ?_
  cases d with
  | tup l =>
    obtain ⟨a, vs, e1, h, r⟩ := brep_tup ra
    subst e1
    exact ⟨_, rfl, ⟨_, sqT_mono g1.i h⟩, p1 _ G1 H1 (Grow.refl g1.i) (yl_tup h r)⟩
  | _ => exact p1.elim
theorem yl_str {K : PySem.W.Frag} {l : List Nat} {G : Hp} : Yl K (Its (S l)) (l.map sg) G := fun i G' H e1 e2 => by
  have sz : (S l).cps.size = l.length := by show l.toArray.size = _; simp
  refine ⟨fun d hd => ?_, fun hl => ?_⟩
  · rw [List.getElem?_map] at hd
    cases q : l[i]? with
    | none => rw [q] at hd; cases hd
    | some c =>
      rw [q] at hd
      cases hd
      have li : i < l.length := (List.getElem?_eq_some_iff.mp q).1
      refine ⟨by show i < (S l).cps.size; rw [sz]; exact li, fun x H' y => ?_⟩
      obtain ⟨y1, c', hc, ev⟩ := y
      subst y1 ev
      have hc' : l[i]? = some c' := by
        have z : l.toArray[i]? = some c' := hc
        simpa using z
      rw [q] at hc'
      cases hc'
      exact ⟨G', Grow.refl e2, .str [c]⟩
  · show (S l).cps.size ≤ i
    rw [sz]
    simpa using hl
theorem i_str {tgt : Expr} {de : DE} (he : PE X e (liftE X.K W de)) : PI X tgt e (liftI X.K W (dIt asStr de)) := PI.weak (pi_str he) fun σ H Q h => by
  obtain ⟨H0, G, δ, eg, s, p⟩ := h
  refine at_bind eg s p fun G1 H1 d x g1 s1 ra p1 => ?_
  cases d with
  | str l => exact ⟨_, brep_str ra, p1 _ G1 H1 (Grow.refl g1.i) yl_str⟩
  | _ => exact p1.elim
/-- lo, lo + 1, .. -/
def rng (lo : Int) (n : Nat) : List D := (List.range n).map fun i => .int (lo + (i : Nat))
theorem yl_rng {K : PySem.W.Frag} {lo : Int} {n : Nat} {G : Hp} : Yl K (Itr lo n) (rng lo n) G := fun i G' H e1 e2 => by
  refine ⟨fun d hd => ?_, fun hl => ?_⟩
  · unfold rng at hd
    rw [List.getElem?_map] at hd
    by_cases li : i < n
    · rw [List.getElem?_range li] at hd
      cases hd
      refine ⟨li, fun x H' y => ?_⟩
      obtain ⟨y1, y2⟩ := y
      subst y1 y2
      exact ⟨G', Grow.refl e2, .int _⟩
    · rw [List.getElem?_eq_none (by simpa using Nat.le_of_not_lt li)] at hd
      cases hd
  · show n ≤ i
    unfold rng at hl
    simpa using hl
def inI (i : Int) : Bool := decide (-1000000000 ≤ i) && decide (i ≤ 1000000000)
theorem inI_ok {i : Int} (h : inI i = true) : -(2 ^ 62) ≤ i ∧ i < 2 ^ 62 := by
  obtain ⟨a, b⟩ := Bool.and_eq_true_iff.mp h
  have a' := of_decide_eq_true a
  have b' := of_decide_eq_true b
  omega
def asR1 : List D → R (List D)
  | [.int j] => if inI j then .ok (rng 0 j.toNat) else .bad
  | _ => .bad
def asR2 : List D → R (List D)
  | [.int i, .int j] => if inI i && inI j then .ok (rng i (j - i).toNat) else .bad
  | _ => .bad
def dItA (f : List D → R (List D)) (da : DA) : DA := fun δ => (da δ).bind f
theorem breps1 {K : PySem.W.Frag} {G H : Hp} {d : D} {vs : List V} (h : BReps K G H [d] vs) : ∃ v, vs = [v] ∧ BRep K G H d v := by
  cases h with
  | cons h r => cases r; exact ⟨_, rfl, h⟩
theorem breps2 {K : PySem.W.Frag} {G H : Hp} {d d' : D} {vs : List V} (h : BReps K G H [d, d'] vs) : ∃ v v', vs = [v, v'] ∧ BRep K G H d v ∧ BRep K G H d' v' := by
  cases h with
  | cons h r => cases r with
    | cons h' r => cases r; exact ⟨_, _, rfl, h, h'⟩
theorem i_rng1 {tgt a : Expr} {p : Pos} {da : DA} (hg : Gl X "range") (hm : X.mg "range" = none) (ha : PA X [a] (liftA X.K W da)) (hs : starEach [a] X.env = [(false, eval a X.env)] := by rfl) : PI X tgt (.Call (.Name "range" p) [a] [] pos) (liftI X.K W (dItA asR1 da)) := PI.weak (pi_range1 hg hm ha hs) fun σ H Q h => by
  obtain ⟨H0, G, δ, eg, s, p⟩ := h
  refine at_bind eg s p fun G1 H1 ds xs g1 s1 ra p1 => ?_
  unfold asR1 at p1
  split at p1
  · rename_i j
    obtain ⟨v, e1, r⟩ := breps1 ra
    have e2 := brep_int r
    subst e1 e2
    split at p1
    · rename_i q
      obtain ⟨b1, b2⟩ := inI_ok q
      exact ⟨j, rfl, b1, b2, p1 _ G1 H1 (Grow.refl g1.i) yl_rng⟩
    · exact p1.elim
  · exact p1.elim
theorem i_rng2 {tgt a b : Expr} {p : Pos} {da : DA} (hg : Gl X "range") (hm : X.mg "range" = none) (ha : PA X [a, b] (liftA X.K W da)) (hs : starEach [a, b] X.env = [(false, eval a X.env), (false, eval b X.env)] := by rfl) (hs2 : starEach [b] X.env = [(false, eval b X.env)] := by rfl) : PI X tgt (.Call (.Name "range" p) [a, b] [] pos) (liftI X.K W (dItA asR2 da)) := PI.weak (pi_range2 hg hm ha hs hs2) fun σ H Q h => by
  obtain ⟨H0, G, δ, eg, s, p⟩ := h
  refine at_bind eg s p fun G1 H1 ds xs g1 s1 ra p1 => ?_
  unfold asR2 at p1
  split at p1
  · rename_i i j
    obtain ⟨v, v', e1, r, r'⟩ := breps2 ra
    have e2 := brep_int r
    have e3 := brep_int r'
    subst e1 e2 e3
    split at p1
    · rename_i q
      obtain ⟨q1, q2⟩ := Bool.and_eq_true_iff.mp q
      obtain ⟨b1, b2⟩ := inI_ok q1
      obtain ⟨b3, b4⟩ := inI_ok q2
      exact ⟨i, j, rfl, ⟨b1, b2, b3, b4⟩, p1 _ G1 H1 (Grow.refl g1.i) yl_rng⟩
    · exact p1.elim
  · exact p1.elim
/-! ### raise -/
def dRaise (x : Str) : DS := fun δ => .exc (x, none) δ
theorem s_raise {x m : Str} {j : Nat} {p p2 p3 : Pos} {B newId initId : String} {bmB : List Value} (hc : X.calm = true) (tk : Takes X W) (F : ExcBaseFacts B newId initId bmB) (q : PySem.W.excIn X.K (He.ga X.K x) bmB newId = true) (gC : X.mg x = some (.ref (He.ga X.K x))) (kC : PySem.W.keepIn X.K (.ref (He.ga X.K x)) = true)
    (r1 : PySem.W.subIn X.K (.ref (He.ga X.K x)) (.type "BaseException") = some true) (r2 : PySem.W.typeIn X.K (.ref (He.ga X.K x)) = some (.type "type")) (hg : Gl X x) (hdb : (x == ("__debug__" : Str)) = false := by decide) :
    PS X (.Raise (some (.Call (.Name x p) [.Constant (.str m) j p2] [] p3)) none pos) (liftS X.K W (dRaise x)) := PS.weak (ps_raise hc tk (pmk_own F q gC kC (raises_own r1 r2) hg hdb)) fun D σ H h => by
  obtain ⟨H0, G0, G, δ, g, s, p⟩ := h
  exact p σ G H _ _ (Ex.refl G) g s ⟨rfl, rfl⟩
end
/-! ### a def by its body -/
def startD (n : Nat) (ds : List D) : DSt := ds.map .dat ++ List.replicate (n - ds.length) .un
def runB (n : Nat) (b : DS) (ds : List D) : R D := match b (startD n ds) with
  | .nx _ => .ok .non
  | .ret d => .ok d
  | .exc c _ => .exc c
  | _ => .bad
theorem sr_start {K : PySem.W.Frag} {G H : Hp} {N : List Str} {ds : List D} {vs : List V} (r : Reps K G ds vs) : SR K H G H (L2.start N vs) (startD N.length ds) := by
  have L := r.length
  have un : ∀ (i : Nat), (startD N.length ds)[i]? = some .un ∨ (startD N.length ds)[i]? = none ∨ ∃ d, ds[i]? = some d ∧ (startD N.length ds)[i]? = some (.dat d) := fun i => by
    unfold startD
    by_cases hl : i < ds.length
    · rw [List.getElem?_append_left (by simpa using hl)]
      exact .inr (.inr ⟨ds[i], List.getElem?_eq_getElem hl, by simp [List.getElem?_eq_getElem hl]⟩)
    · rw [List.getElem?_append_right (by simpa using Nat.le_of_not_lt hl), List.getElem?_replicate]
      split
      · exact .inl rfl
      · exact .inr (.inl rfl)
  refine ⟨by simp [L2.start, startD, L], fun i d h => ?_, fun i es h => ?_, fun i j es fs p h => ?_⟩
  · rcases un i with h1 | h1 | ⟨d', h2, h1⟩
    · rw [h1] at h; cases h
    · rw [h1] at h; cases h
    · rw [h1] at h
      cases h
      obtain ⟨v, hv, rv⟩ := r.at_ h2
      refine ⟨v, ?_, rv⟩
      unfold L2.start
      rw [List.getElem?_append_left (by simpa using (List.getElem?_eq_some_iff.mp hv).1), List.getElem?_map, hv]
      rfl
  · rcases un i with h1 | h1 | ⟨d', h2, h1⟩
    · rw [h1] at h; cases h
    · rw [h1] at h; cases h
    · rw [h1] at h; cases h
  · rcases un i with h1 | h1 | ⟨d', h2, h1⟩
    · rw [h1] at h; cases h
    · rw [h1] at h; cases h
    · rw [h1] at h; cases h
abbrev cxF (P : Program) (w : World) (K : PySem.W.Frag) (mg : Str → Option Value) (base : Heap) (N : List Str) (qual : Str) (scope : Scope) (f : Addr) (cd : Value) (A : Around) (outer : List Env) (s : Shared) (H : Hp) (E : XK) : Cx := cxOf (L2.CX P w) P w K mg base N qual scope f cd A outer s H E
abbrev WF (E : XK) : WX := fun cls d _ H => E cls d H
theorem fn_lift {P : Program} {w : World} {K : PySem.W.Frag} {mg : Str → Option Value} {base : Heap} {x qual : Str} {params : Arguments} {body : List Stmt} {scope : Scope} {dvs : List V} {kws : List (Str × V)} {f : Addr} {fd : FuncData} {N ps : List Str} {k : Nat} {b : DS}
    (F : FunD K x qual params body scope dvs kws f fd) (Sc : FnScope N ps scope)
    (h : ∀ (cdv : Value) (A : Around) (outer : List Env) (s : Shared) (H : Hp) (E : XK), Room k (A.deeper (envOfC qual scope s.heap.objs.size f cdv)) →
      PSs (cxF P w K mg base N qual scope f cdv A outer s H E) body (liftS K (WF E) b)) : FnOk P w K mg base (L2.CX P w) (k + 1) f fd ps (spM K ps.length (runB N.length b)) := by
  refine F.ok Sc (fun vs H Q E h => spM_len h) fun cdv A outer s H vs Q E hr hsp => ⟨_, h cdv A outer s H E hr, ?_⟩
  obtain ⟨G, ds, eg, r, hl, p⟩ := hsp
  refine ⟨H, G, G, _, Grow.refl eg, sr_start r, ?_⟩
  unfold runB at p
  cases q : b (startD N.length ds) with
  | nx δ' => rw [q] at p; exact fun σ' G' H' e g s => p .non G' H' g .non
  | ret d => rw [q] at p; exact p
  | exc c δ' => rw [q] at p; exact fun σ' G' H' cls dd e g s r => p G' H' cls dd g r
  | brk δ' => rw [q] at p; exact p.elim
  | cont δ' => rw [q] at p; exact p.elim
  | bad => rw [q] at p; exact p.elim
end Dl
set_option Elab.async false
set_option linter.all false
set_option maxRecDepth 100000
set_option maxHeartbeats 4000000
/-! Dl6: operators, comparisons, items, slices, built-ins over data. -/
namespace Dl
open PySem PySem.Spec PyProof.Rows L2
theorem S_app (a b : List Nat) : S a ++ S b = S (a ++ b) := by
  show (⟨a.toArray ++ b.toArray⟩ : Str) = ⟨(a ++ b).toArray⟩
  simp
theorem S_cps (a : List Nat) : (S a).cps.toList = a := by show a.toArray.toList = a; simp
theorem line6 {n : Nat} (h : n ≤ 1000000) : n ≤ sizeLine := Nat.le_trans h (by rw [sizeLine_eq]; decide)
/-- nothing new -/
theorem PO.at {K : PySem.W.Frag} {G H : Hp} {d : D} {v : V} {Q : VK} (h : PO K G H (some d) Q) (e : Ex G H) (r : BRep K G H d v) : Q v H := h v G H (Grow.refl e) r
theorem PO.newL {K : PySem.W.Frag} {G H : Hp} {ds : List D} {vs : List V} {Q : VK} (h : PO K G H (some (.lst ds)) Q) (e : Ex G H) (r : Reps K G ds vs) : ∀ p, H p = none → Q (.ref p) (upd H p (.lst vs)) := fun p hp =>
  h (.ref p) _ _ (Grow.new e (.lst vs) hp) (.inl (.lst upd_same (r.mono ((Ex.refl G).up (e.gone hp)))))
theorem PO.newT {K : PySem.W.Frag} {G H : Hp} {ds : List D} {vs : List V} {Q : VK} (h : PO K G H (some (.tup ds)) Q) (e : Ex G H) (r : Reps K G ds vs) : ∀ p, H p = none → Q (.ref p) (upd H p (.tup vs)) := fun p hp =>
  h (.ref p) _ _ (Grow.new e (.tup vs) hp) (.inl (.tup (.inl (.inl upd_same)) (r.mono ((Ex.refl G).up (e.gone hp)))))
/-! ### arithmetic -/
def fAdd : D → D → Option D
  | .int i, .int j => some (.int (i + j))
  | .str a, .str b => if a.length + b.length ≤ 1000000 then some (.str (a ++ b)) else none
  | a, b => (asL2 a).bind fun x => (asL2 b).bind fun y => if x.length + y.length ≤ 1000000 then some (.lst (x ++ y)) else none
def fSub : D → D → Option D
  | .int i, .int j => some (.int (i - j))
  | _, _ => none
def smallI (i : Int) : Bool := decide (-1000000000000 < i) && decide (i < 1000000000000)
theorem smallI_ok {i : Int} (h : smallI i = true) : -(2 ^ 64) < i ∧ i < 2 ^ 64 := by
  obtain ⟨a, b⟩ := Bool.and_eq_true_iff.mp h
  have a' := of_decide_eq_true a
  have b' := of_decide_eq_true b
  omega
def fMul : D → D → Option D
  | .int i, .int j => if smallI i || smallI j then some (.int (i * j)) else none
  | _, _ => none
def fMod : D → D → Option D
  | .int i, .int j => if 0 < j then some (.int (i % j)) else none
  | _, _ => none
def fDiv : D → D → Option D
  | .int i, .int j => if 0 < j ∧ j < 1073741824 then some (.int (i / j)) else none
  | _, _ => none
section
variable {X : Cx} {W : WX}
theorem op_addD : OpR X (binaryOp .Add) (r2 X.K fAdd) := by
  intro pins s σ H x y v u Q I rx ry ⟨G, a, b, eg, ra, rb, p⟩
  have lists : (asL2 a).bind (fun x => (asL2 b).bind fun y => if x.length + y.length ≤ 1000000 then some (D.lst (x ++ y)) else none) = fAdd a b → wpAny (model X.prog X.w) X.A (binaryOp .Add v u) (EP X pins σ Q) X.xe s := fun e => by
    rw [← e] at p
    cases q1 : asL2 a with
    | none => rw [q1] at p; exact p.elim
    | some xs =>
      cases q2 : asL2 b with
      | none => rw [q1, q2] at p; exact p.elim
      | some ys =>
        rw [q1, q2] at p
        dsimp only [Option.bind_some] at p
        split at p
        · rename_i hl
          obtain ⟨l, vs, e1, h1, r1⟩ := brep_lst2 eg ra q1
          obtain ⟨m, ws, e2, h2, r2⟩ := brep_lst2 eg rb q2
          subst e1 e2
          exact op_cat pins s σ H _ _ v u Q I rx ry ⟨l, m, vs, ws, rfl, rfl, h1, h2, line6 (by rw [r1.length, r2.length]; exact hl), p.newL eg (r1.append r2)⟩
        · exact p.elim
  cases a with
  | int i =>
    cases b with
    | int j => exact op_add pins s σ H x y v u Q I rx ry ⟨i, j, brep_int ra, brep_int rb, p.at eg (.inl (.int _))⟩
    | _ => exact lists rfl
  | str i =>
    cases b with
    | str j =>
      have p' : PO X.K G H (if i.length + j.length ≤ 1000000 then some (D.str (i ++ j)) else none) Q := p
      split at p'
      · rename_i hl
        refine op_add_str pins s σ H x y v u Q I rx ry ⟨S i, S j, brep_str ra, brep_str rb, line6 (by rw [S_len, S_len]; exact hl), ?_⟩
        rw [S_app]
        exact p'.at eg (.inl (.str _))
      · exact p'.elim
    | _ => exact lists rfl
  | _ => exact lists rfl
/-- .. a new list, to be owned -/
def catL : D → D → R (List D) := fun a b => R.of ((asL2 a).bind fun x => (asL2 b).bind fun y => if x.length + y.length ≤ 1000000 then some (x ++ y) else none)
def dCatF (da db : DE) : DA := fun δ => (da δ).bind fun a => (db δ).bind fun b => catL a b
theorem op_subD : OpR X (binaryOp .Sub) (r2 X.K fSub) := by
  intro pins s σ H x y v u Q I rx ry ⟨G, a, b, eg, ra, rb, p⟩
  unfold fSub at p
  split at p
  · exact op_sub pins s σ H x y v u Q I rx ry ⟨_, _, brep_int ra, brep_int rb, p.at eg (.inl (.int _))⟩
  · exact p.elim
theorem op_mulD : OpR X (binaryOp .Mult) (r2 X.K fMul) := by
  intro pins s σ H x y v u Q I rx ry ⟨G, a, b, eg, ra, rb, p⟩
  unfold fMul at p
  split at p
  · split at p
    · rename_i q
      refine op_mul pins s σ H x y v u Q I rx ry ⟨_, _, brep_int ra, brep_int rb, ?_, p.at eg (.inl (.int _))⟩
      rcases Bool.or_eq_true_iff.mp q with q | q
      · exact .inl (smallI_ok q)
      · exact .inr (smallI_ok q)
    · exact p.elim
  · exact p.elim
theorem op_modD : OpR X (binaryOp .Mod) (r2 X.K fMod) := by
  intro pins s σ H x y v u Q I rx ry ⟨G, a, b, eg, ra, rb, p⟩
  unfold fMod at p
  split at p
  · split at p
    · rename_i q
      exact op_mod pins s σ H x y v u Q I rx ry ⟨_, _, brep_int ra, brep_int rb, q, p.at eg (.inl (.int _))⟩
    · exact p.elim
  · exact p.elim
theorem op_divD : OpR X (binaryOp .FloorDiv) (r2 X.K fDiv) := by
  intro pins s σ H x y v u Q I rx ry ⟨G, a, b, eg, ra, rb, p⟩
  unfold fDiv at p
  split at p
  · split at p
    · rename_i q
      exact op_fdiv pins s σ H x y v u Q I rx ry ⟨_, _, brep_int ra, brep_int rb, q, p.at eg (.inl (.int _))⟩
    · exact p.elim
  · exact p.elim
def fNeg : D → Option D
  | .int i => some (.int (-i))
  | _ => none
theorem un_negD : UnR X (unaryOp .USub) (r1 X.K fNeg) := by
  intro pins s σ H x v Q I rx ⟨G, a, eg, ra, p⟩
  unfold fNeg at p
  split at p
  · exact un_neg pins s σ H x v Q I rx ⟨_, brep_int ra, p.at eg (.inl (.int _))⟩
  · exact p.elim
/-! ### order of ints, is None -/
def fCmp (f : Int → Int → Bool) : D → D → Option D
  | .int i, .int j => some (.bl (f i j))
  | _, _ => none
abbrev fLt := fCmp fun i j => decide (i < j)
abbrev fLe := fCmp fun i j => decide (i ≤ j)
abbrev fGt := fCmp fun i j => decide (j < i)
abbrev fGe := fCmp fun i j => decide (j ≤ i)
theorem op_cmpD {op : CmpOp} {f : Int → Int → Bool} (ho : OpR X (compareOp op) (rI0 fun i j => .bl (f i j))) : OpR X (compareOp op) (r2 X.K (fCmp f)) := by
  intro pins s σ H x y v u Q I rx ry ⟨G, a, b, eg, ra, rb, p⟩
  unfold fCmp at p
  split at p
  · exact ho pins s σ H x y v u Q I rx ry ⟨_, _, brep_int ra, brep_int rb, p.at eg (.inl (.bl _))⟩
  · exact p.elim
def isN : D → Bool
  | .non => true
  | _ => false
def noObj : D → Bool
  | .obj _ => false
  | _ => true
def fIs : D → D → Option D
  | a, .non => if noObj a then some (.bl (isN a)) else none
  | _, _ => none
def fIsNot : D → D → Option D
  | a, .non => if noObj a then some (.bl (!isN a)) else none
  | _, _ => none
theorem isN_dec {K : PySem.W.Frag} {G H : Hp} {a : D} {x : V} (ra : BRep K G H a x) (h : noObj a = true) : decide (x = .non) = isN a := by
  cases a with
  | non => rw [brep_non ra]; rfl
  | obj v => cases h
  | bl b => rw [brep_bl ra]; rfl
  | int b => rw [brep_int ra]; rfl
  | str b => rw [brep_str ra]; rfl
  | tup b => obtain ⟨p, vs, e, _⟩ := brep_tup ra; rw [e]; rfl
  | lst b =>
    rcases ra with ra | ⟨_, _, _, e, _⟩
    · cases ra; rfl
    · cases e
  | slst b =>
    rcases ra with ra | ⟨_, _, _, e, _⟩
    · cases ra; rfl
    · cases e
  | olst b =>
    rcases ra with ra | ⟨_, p, _, e, e2, _⟩
    · cases ra
    · rw [e2]; rfl
theorem op_isD : OpR X (compareOp .Is) (r2 X.K fIs) := by
  intro pins s σ H x y v u Q I rx ry ⟨G, a, b, eg, ra, rb, p⟩
  unfold fIs at p
  split at p
  · split at p
    · rename_i h
      refine op_isN pins s σ H x y v u Q I rx ry ⟨brep_non rb, ?_⟩
      rw [isN_dec ra h]
      exact p.at eg (.inl (.bl _))
    · exact p.elim
  · exact p.elim
theorem op_isnotD : OpR X (compareOp .IsNot) (r2 X.K fIsNot) := by
  intro pins s σ H x y v u Q I rx ry ⟨G, a, b, eg, ra, rb, p⟩
  unfold fIsNot at p
  split at p
  · split at p
    · rename_i h
      refine op_notN pins s σ H x y v u Q I rx ry ⟨brep_non rb, ?_⟩
      rw [isN_dec ra h]
      exact p.at eg (.inl (.bl _))
    · exact p.elim
  · exact p.elim
/-! ### equality -/
mutual
def toP : D → PyData
  | .non => .none
  | .bl b => .bool b
  | .int i => .int i
  | .str l => .str (S l)
  | .tup l => .tuple (toPs l)
  | .lst l => .list (toPs l)
  | .slst l => .list (toPs l)
  | .olst l => .list (toPs l)
  | .obj _ => .dict []
def toPs : List D → List PyData
  | [] => []
  | d :: ds => toP d :: toPs ds
end
mutual
/-- made of plain data only, at most n deep -/
def flat : Nat → D → Bool
  | _, .obj _ => false
  | 0, .tup _ => false
  | 0, .lst _ => false
  | 0, .slst _ => false
  | 0, .olst _ => false
  | n + 1, .tup l => flats n l
  | n + 1, .lst l => flats n l
  | n + 1, .slst l => flats n l
  | n + 1, .olst l => flats n l
  | _, .str l => l.all fun c => decide (c < 1114112)
  | _, _ => true
def flats : Nat → List D → Bool
  | _, [] => true
  | n, d :: ds => flat n d && flats n ds
end
mutual
def deq : D → D → Bool
  | .non, .non => true
  | .bl a, .bl b => a == b
  | .bl a, .int j => (if a then 1 else 0) == j
  | .int i, .bl b => i == (if b then 1 else 0)
  | .int i, .int j => i == j
  | .str a, .str b => a == b
  | .tup a, .tup b => deqs a b
  | .lst a, .lst b => deqs a b
  | .lst a, .slst b => deqs a b
  | .lst a, .olst b => deqs a b
  | .slst a, .lst b => deqs a b
  | .slst a, .slst b => deqs a b
  | .slst a, .olst b => deqs a b
  | .olst a, .lst b => deqs a b
  | .olst a, .slst b => deqs a b
  | .olst a, .olst b => deqs a b
  | _, _ => false
def deqs : List D → List D → Bool
  | [], [] => true
  | x :: xs, y :: ys => deq x y && deqs xs ys
  | _, _ => false
end
mutual
theorem eqv_deq : ∀ a b : D, PyData.eqv (toP a) (toP b) = deq a b
  | .non, b => by cases b <;> rfl
  | .bl _, b => by cases b <;> rfl
  | .int _, b => by cases b <;> rfl
  | .str x, b => by
    cases b with
    | str y =>
      show (S x == S y) = (x == y)
      by_cases h : x = y
      · subst h; simp
      · rw [beq_eq_false_iff_ne.mpr h, beq_eq_false_iff_ne.mpr fun e => h (S_inj e)]
    | _ => rfl
  | .obj _, b => by cases b <;> rfl
  | .tup x, b => by
    cases b with
    | tup y => exact eqvs_deq x y
    | _ => rfl
  | .lst x, b => by
    cases b with
    | lst y => exact eqvs_deq x y
    | slst y => exact eqvs_deq x y
    | olst y => exact eqvs_deq x y
    | _ => rfl
  | .slst x, b => by
    cases b with
    | lst y => exact eqvs_deq x y
    | slst y => exact eqvs_deq x y
    | olst y => exact eqvs_deq x y
    | _ => rfl
  | .olst x, b => by
    cases b with
    | lst y => exact eqvs_deq x y
    | slst y => exact eqvs_deq x y
    | olst y => exact eqvs_deq x y
    | _ => rfl
theorem eqvs_deq : ∀ a b : List D, PyData.eqvAll (toPs a) (toPs b) = deqs a b
  | [], [] => rfl
  | [], _ :: _ => rfl
  | _ :: _, [] => rfl
  | x :: xs, y :: ys => by
    show (PyData.eqv (toP x) (toP y) && PyData.eqvAll (toPs xs) (toPs ys)) = (deq x y && deqs xs ys)
    rw [eqv_deq x y, eqvs_deq xs ys]
end
mutual
theorem flat_can : ∀ (n : Nat) (d : D), flat n d = true → (toP d).canLay0 = true ∧ (toP d).depth ≤ n
  | n, .non, _ => ⟨by simp [toP, PyData.canLay0], by simp [toP, PyData.depth]⟩
  | n, .bl _, _ => ⟨by simp [toP, PyData.canLay0], by simp [toP, PyData.depth]⟩
  | n, .int _, _ => ⟨by simp [toP, PyData.canLay0], by simp [toP, PyData.depth]⟩
  | n, .str l, h => ⟨by
      have h' : (l.all fun c => decide (c < 1114112)) = true := by simpa [flat] using h
      show PyData.strOk (S l) = true
      show l.toArray.all (fun c => decide (c < 1114112)) = true
      simpa using h', by simp [toP, PyData.depth]⟩
  | n, .obj _, h => by simp [flat] at h
  | 0, .tup l, h => by simp [flat] at h
  | 0, .lst l, h => by simp [flat] at h
  | 0, .slst l, h => by simp [flat] at h
  | 0, .olst l, h => by simp [flat] at h
  | n + 1, .tup l, h => by
    have z := flats_can n l (by simpa [flat] using h)
    exact ⟨by simpa [toP, PyData.canLay0] using z.1, by simpa [toP, PyData.depth] using z.2⟩
  | n + 1, .lst l, h => by
    have z := flats_can n l (by simpa [flat] using h)
    exact ⟨by simpa [toP, PyData.canLay0] using z.1, by simpa [toP, PyData.depth] using z.2⟩
  | n + 1, .slst l, h => by
    have z := flats_can n l (by simpa [flat] using h)
    exact ⟨by simpa [toP, PyData.canLay0] using z.1, by simpa [toP, PyData.depth] using z.2⟩
  | n + 1, .olst l, h => by
    have z := flats_can n l (by simpa [flat] using h)
    exact ⟨by simpa [toP, PyData.canLay0] using z.1, by simpa [toP, PyData.depth] using z.2⟩
theorem flats_can : ∀ (n : Nat) (l : List D), flats n l = true → PyData.canLayAll0 (toPs l) = true ∧ PyData.depthAll (toPs l) ≤ n
  | n, [], _ => ⟨by simp [toPs, PyData.canLayAll0], by simp [toPs, PyData.depthAll]⟩
  | n, d :: ds, h => by
    have h' : flat n d = true ∧ flats n ds = true := by simpa [flats] using h
    have z1 := flat_can n d h'.1
    have z2 := flats_can n ds h'.2
    exact ⟨by simp [toPs, PyData.canLayAll0, z1.1, z2.1], by simp [toPs, PyData.depthAll]; omega⟩
end
mutual
theorem dp_of {K : PySem.W.Frag} {G H : Hp} (e : Ex G H) : ∀ (n : Nat) (d : D) (v : V), flat n d = true → Rep K G d v → Dp K H v (toP d)
  | n, .non, _, _, .non => .non
  | n, .bl _, _, _, .bl b => .bl b
  | n, .int _, _, _, .int i => .int i
  | n, .str _, _, _, .str l => .str (S l)
  | n, .obj _, _, h, _ => by simp [flat] at h
  | 0, .tup l, _, h, _ => by simp [flat] at h
  | 0, .lst l, _, h, _ => by simp [flat] at h
  | 0, .slst l, _, h, _ => by simp [flat] at h
  | n + 1, .tup l, _, h, .tup q r => .tup (sqT_mono e q) (dps_of e n l _ (by simpa [flat] using h) r)
  | n + 1, .lst l, _, h, .lst q r => .lst (.inl (.inl (e _ _ q))) (dps_of e n l _ (by simpa [flat] using h) r)
  | n + 1, .slst l, _, h, .slst q r => .lst (sqL_mono e q) (dps_of e n l _ (by simpa [flat] using h) r)
theorem dps_of {K : PySem.W.Frag} {G H : Hp} (e : Ex G H) : ∀ (n : Nat) (l : List D) (vs : List V), flats n l = true → Reps K G l vs → DpAll K H vs (toPs l)
  | n, [], _, _, .nil => .nil
  | n, d :: ds, _, h, .cons r rr => by
    have h' : flat n d = true ∧ flats n ds = true := by simpa [flats] using h
    exact .cons (dp_of e n d _ h'.1 r) (dps_of e n ds _ h'.2 rr)
end
theorem dp_brep {K : PySem.W.Frag} {G H : Hp} (e : Ex G H) {n : Nat} {d : D} {v : V} (h : flat n d = true) (r : BRep K G H d v) : Dp K H v (toP d) := by
  rcases r with r | ⟨ds, p, vs, e1, e2, hp, r⟩
  · exact dp_of e n d v h r
  · subst e1 e2
    cases n with
    | zero => simp [flat] at h
    | succ n => exact .lst (.inl (.inl hp)) (dps_of e n ds vs (by simpa [flat] using h) r)
theorem shaped_of {n : Nat} {d : D} (hn : n ≤ 64) (h : flat n d = true) : SeqAt.shaped (toP d) = true := by
  obtain ⟨a, b⟩ := flat_can n d h
  unfold SeqAt.shaped
  rw [a, decide_eq_true (Nat.le_trans b hn)]
  rfl
/-- scalars are told apart at once, all else as data -/
def fEqB (g : Bool → Bool) : D → D → Option D
  | .int i, .int j => some (.bl (g (decide (i = j))))
  | .str i, .str j => some (.bl (g (decide (i = j))))
  | .bl i, .bl j => some (.bl (g (decide (i = j))))
  | a, b => if flat 60 a && flat 60 b then some (.bl (g (deq a b))) else none
abbrev fEq := fEqB id
abbrev fNe := fEqB not
theorem op_eqB {op : CmpOp} {g : Bool → Bool} (h1 : OpR X (compareOp op) fun x y H Q => scal x y = true ∧ Q (.bl (g (decide (x = y)))) H)
    (h2 : OpR X (compareOp op) fun x y H Q => ∃ d e, Dp X.K H x d ∧ Dp X.K H y e ∧ SeqAt.shaped d = true ∧ SeqAt.shaped e = true ∧ Q (.bl (g (PyData.eqv d e))) H) : OpR X (compareOp op) (r2 X.K (fEqB g)) := by
  intro pins s σ H x y v u Q I rx ry ⟨G, a, b, eg, ra, rb, p⟩
  unfold fEqB at p
  split at p
  · have e1 := brep_int ra
    have e2 := brep_int rb
    subst e1 e2
    refine h1 pins s σ H _ _ v u Q I rx ry ⟨rfl, ?_⟩
    refine p.at eg (.inl ?_)
    rename_i i j
    have : decide (V.int i = V.int j) = decide (i = j) := by simp
    rw [this]; exact .bl _
  · have e1 := brep_str ra
    have e2 := brep_str rb
    subst e1 e2
    refine h1 pins s σ H _ _ v u Q I rx ry ⟨rfl, ?_⟩
    refine p.at eg (.inl ?_)
    rename_i i j
    have : decide (V.str (S i) = V.str (S j)) = decide (i = j) := by
      by_cases q : i = j
      · subst q; simp
      · rw [decide_eq_false q, decide_eq_false fun e => q (S_inj (V.str.inj e))]
    rw [this]; exact .bl _
  · have e1 := brep_bl ra
    have e2 := brep_bl rb
    subst e1 e2
    refine h1 pins s σ H _ _ v u Q I rx ry ⟨rfl, ?_⟩
    refine p.at eg (.inl ?_)
    rename_i i j
    have : decide (V.bl i = V.bl j) = decide (i = j) := by simp
    rw [this]; exact .bl _
  · split at p
    · rename_i q
      obtain ⟨q1, q2⟩ := Bool.and_eq_true_iff.mp q
      refine h2 pins s σ H x y v u Q I rx ry ⟨_, _, dp_brep eg q1 ra, dp_brep eg q2 rb, shaped_of (by decide) q1, shaped_of (by decide) q2, ?_⟩
      rw [eqv_deq]
      exact p.at eg (.inl (.bl _))
    · exact p.elim
theorem op_eqDD (hu : X.A.units + 64 < cLine) : OpR X (compareOp .Eq) (r2 X.K fEq) := op_eqB op_eq (op_eqD hu)
theorem op_neDD (hu : X.A.units + 64 < cLine) : OpR X (compareOp .NotEq) (r2 X.K fNe) := op_eqB op_ne (op_neD hu)
/-! ### items -/
def fIx : D → D → Option D
  | .str l, .int i => if l.length ≤ 1000000 then (atI l i).map sg else none
  | .tup l, .int i => atI l i
  | a, .int i => (asL a).bind fun l => atI l i
  | _, _ => none
theorem atI_rep {K : PySem.W.Frag} {G : Hp} {ds : List D} {vs : List V} {i : Int} {d : D} (r : Reps K G ds vs) (h : atI ds i = some d) : ∃ v, atI vs i = some v ∧ Rep K G d v := by
  unfold atI at h ⊢
  rw [r.length]
  cases q : ixN ds.length i with
  | none => rw [q] at h; cases h
  | some j =>
    rw [q] at h
    exact r.at_ h
theorem ix_D : IxR X (r2 X.K fIx) := by
  intro value slice pins s σ H x y v u Q I rx ry ⟨G, a, b, eg, ra, rb, p⟩ hs
  have lists : ∀ (i : Int), b = .int i → ((asL a).bind fun l => atI l i) = fIx a b → wpAny (model X.prog X.w) X.A (subscriptTail value slice v u) (EP X pins σ Q) X.xe s := fun i eb e => by
    rw [← e] at p
    cases q1 : asL a with
    | none => rw [q1] at p; exact p.elim
    | some xs =>
      rw [q1, Option.bind_some] at p
      cases q2 : atI xs i with
      | none => rw [q2] at p; exact p.elim
      | some d =>
        rw [q2] at p
        obtain ⟨l, vs, e1, h1, r1⟩ := brep_lst eg ra q1
        obtain ⟨w, hw, rw'⟩ := atI_rep r1 q2
        subst eb
        exact ix_list value slice pins s σ H x y v u Q I rx ry ⟨l, vs, i, w, e1, brep_int rb, h1, hw, p.at eg (.inl rw')⟩ hs
  cases b with
  | int i =>
    cases a with
    | str l =>
      have p' : PO X.K G H (if l.length ≤ 1000000 then (atI l i).map sg else none) Q := p
      split at p'
      · rename_i hl
        cases q : atI l i with
        | none => rw [q] at p'; exact p'.elim
        | some c =>
          rw [q] at p'
          refine ix_str value slice pins s σ H x y v u Q I rx ry ⟨S l, i, c, brep_str ra, brep_int rb, line6 (by rw [S_len]; exact hl), by rw [S_cps]; exact q, ?_⟩ hs
          exact PO.at p' eg (.inl (.str [c]))
      · exact p'.elim
    | tup l =>
      have p' : PO X.K G H (atI l i) Q := p
      cases q : atI l i with
      | none => rw [q] at p'; exact p'.elim
      | some d =>
        rw [q] at p'
        obtain ⟨l', vs, e1, h1, r1⟩ := brep_tup ra
        obtain ⟨w, hw, rw'⟩ := atI_rep r1 q
        exact ix_tup value slice pins s σ H x y v u Q I rx ry ⟨l', vs, i, w, e1, brep_int rb, sqT_mono eg h1, hw, p'.at eg (.inl rw')⟩ hs
    | _ => exact lists i rfl rfl
  | _ =>
    exfalso
    cases a <;> exact p
theorem l_ix {a b : Expr} {pos : Pos} {da db : DE} (ha : PE X a (liftE X.K W da)) (hb : PE X b (liftE X.K W db)) (hs : PlainIx b := by exact fun _ _ => rfl) : PE X (.Subscript a b pos) (liftE X.K W (dOp2 fIx da db)) :=
  PE.weak (pe_ix ix_D ha hb hs) fun _ _ _ h => tOp_lift h
end
end Dl
set_option Elab.async false
set_option linter.all false
set_option maxRecDepth 100000
set_option maxHeartbeats 4000000
/-! Dl7: slices, in, len, isinstance, methods of texts. -/
namespace Dl
open PySem PySem.Spec PyProof.Rows L2
/-! ### slices -/
def cutL {α : Type} (xs : List α) (lo hi : Option Int) : List α := (xs.drop (HT.sIx xs.length 0 lo)).take (HT.sIx xs.length xs.length hi - HT.sIx xs.length 0 lo)
def fSl (d : D) (lo hi : Option Int) : Option D := match d with
  | .str l => if l.length ≤ 1000000 then some (.str (cutL l lo hi)) else none
  | d => (asL d).map fun l => .lst (cutL l lo hi)
abbrev DO := DSt → R (Option Int)
def dON : DO := fun _ => .ok none
def asI : D → R (Option Int)
  | .int i => .ok (some i)
  | _ => .bad
def dOS (de : DE) : DO := fun δ => (de δ).bind asI
def dSl (de : DE) (dl dh : DO) : DE := fun δ => (de δ).bind fun x => (dl δ).bind fun l => (dh δ).bind fun h => R.of (fSl x l h)
def liftO (K : PySem.W.Frag) (W : WX) (d : DO) : TO := liftX K W (fun _ _ a b => a = b) d
section
variable {X : Cx} {W : WX} {e a b : Expr} {es : List Expr} {lo hi : Option Expr} {pos p2 : Pos}
theorem PO.weak' {t t' : TO} {o : Option Expr} (h : L2.PO X o t) (w : ∀ σ H Q, t' σ H Q → t σ H Q) : L2.PO X o t' := ⟨fun pins s σ H Q I q => h.run pins s σ H Q I (w σ H Q q)⟩
theorem o_none : L2.PO X none (liftO X.K W dON) := PO.weak' po_none fun σ H Q h => by
  obtain ⟨H0, G, δ, eg, s, p⟩ := h
  exact p none G H (Grow.refl eg) rfl
theorem o_some {de : DE} (he : PE X e (liftE X.K W de)) : L2.PO X (some e) (liftO X.K W (dOS de)) := PO.weak' (po_some he) fun σ H Q h => by
  obtain ⟨H0, G, δ, eg, s, p⟩ := h
  refine at_bind eg s p fun G1 H1 d x g1 s1 ra p1 => ?_
  cases d with
  | int i => exact ⟨i, brep_int ra, p1 (some i) G1 H1 (Grow.refl g1.i) rfl⟩
  | _ => exact p1.elim
theorem cut_rep {K : PySem.W.Frag} {G : Hp} {ds : List D} {vs : List V} (r : Reps K G ds vs) (lo hi : Option Int) : Reps K G (cutL ds lo hi) (cutV vs lo hi) := by
  unfold cutL cutV
  rw [r.length]
  exact (r.drop _).take _
def r3 (K : PySem.W.Frag) : V → Option Int → Option Int → Hp → VK → Prop := fun x lo hi H Q => ∃ (G : Hp) (a : D), Ex G H ∧ BRep K G H a x ∧ PO K G H (fSl a lo hi) Q
theorem sl_D : SlR X (r3 X.K) := by
  intro pins s σ H x v vl vu lo hi sl Q I rx hs pl pu ⟨G, a, eg, ra, p⟩
  have lists : (asL a).map (fun l => D.lst (cutL l lo hi)) = fSl a lo hi → ∃ T id, typeLookup (.type T) "__getitem__" = pure (some (.builtin id)) ∧ s.TypeIs v T ∧ wpAny (model X.prog X.w) X.A (getItem v (.ref sl)) (EP X pins σ Q) X.xe s := fun ee => by
    rw [← ee] at p
    cases q1 : asL a with
    | none => rw [q1] at p; exact p.elim
    | some xs =>
      rw [q1] at p
      obtain ⟨l, vs, e1, h1, r1⟩ := brep_lst eg ra q1
      exact sl_list pins s σ H x v vl vu lo hi sl Q I rx hs pl pu ⟨l, vs, e1, h1, PO.newL p eg (cut_rep r1 lo hi)⟩
  cases a with
  | str l =>
    have p' : PO X.K G H (if l.length ≤ 1000000 then some (D.str (cutL l lo hi)) else none) Q := p
    split at p'
    · rename_i hl
      refine sl_str pins s σ H x v vl vu lo hi sl Q I rx hs pl pu ⟨S l, brep_str ra, line6 (by rw [S_len]; exact hl), ?_⟩
      have ee : cutS (S l) lo hi = S (cutL l lo hi) := by
        unfold cutS cutL S
        show (⟨((l.toArray.toList.drop (HT.sIx l.toArray.size 0 lo)).take (HT.sIx l.toArray.size l.toArray.size hi - HT.sIx l.toArray.size 0 lo)).toArray⟩ : Str) = _
        simp
      rw [ee]
      exact PO.at p' eg (.inl (.str _))
    · exact p'.elim
  | _ => exact lists rfl
theorem l_sl {de : DE} {dl dh : DO} (he : PE X e (liftE X.K W de)) (hl : L2.PO X lo (liftO X.K W dl)) (hh : L2.PO X hi (liftO X.K W dh)) : PE X (.Subscript e (.Slice lo hi none p2) pos) (liftE X.K W (dSl de dl dh)) :=
  PE.weak (pe_slice sl_D he hl hh) fun σ H Q h => by
    obtain ⟨H0, G, δ, eg, s, p⟩ := h
    refine at_bind eg s p fun G1 H1 d x g1 s1 ra p1 => ?_
    refine at_bind g1.i s1 p1 fun G2 H2 l l' g2 s2 rl p2 => ?_
    subst rl
    refine at_bind g2.i s2 p2 fun G3 H3 u u' g3 s3 ru p3 => ?_
    subst ru
    exact ⟨G3, d, g3.i, ra.mono (g2.trans g3), PO.of p3⟩
/-! ### in -/
/-- one text in another -/
def subIn (a b : List Nat) : Bool := !(Builtin.Str.occurrences (S b) (S a) 0 (S b).length 1).isEmpty
def scalD : D → Bool
  | .non => true
  | .bl _ => true
  | .int _ => true
  | .str _ => true
  | _ => false
def eqF : D → D → Bool
  | .non, .non => true
  | .bl a, .bl b => a == b
  | .bl a, .int b => (if a then 1 else 0) == b
  | .int a, .bl b => a == (if b then 1 else 0)
  | .int a, .int b => a == b
  | .str a, .str b => a == b
  | _, _ => false
def inF (x : D) (ds : List D) : Bool := ds.any fun y => eqF y x
def fInB (g : Bool → Bool) : D → D → Option D
  | .str a, .str b => some (.bl (g (subIn a b)))
  | x, .tup l => if scalD x && l.all scalD then some (.bl (g (inF x l))) else none
  | x, y => (asL y).bind fun l => if scalD x && l.all scalD then some (.bl (g (inF x l))) else none
abbrev fIn := fInB id
abbrev fNin := fInB not
theorem scal_v {K : PySem.W.Frag} {G : Hp} {d : D} {v : V} (h : scalD d = true) (r : Rep K G d v) : flatV v = true := by
  cases r <;> first | rfl | cases h
theorem S_beq (a b : List Nat) : (S a == S b) = (a == b) := by
  by_cases q : a = b
  · subst q; simp
  · rw [beq_eq_false_iff_ne.mpr q, beq_eq_false_iff_ne.mpr fun e => q (S_inj e)]
theorem eqF_v {K : PySem.W.Frag} {G G' : Hp} {d e : D} {v w : V} (h : scalD d = true) (h' : scalD e = true) (r : Rep K G d v) (r' : Rep K G' e w) : eqV v w = eqF d e := by
  cases d with
  | non => cases r; cases e <;> first | (cases r'; rfl) | (exact absurd h' Bool.false_ne_true)
  | bl b => cases r; cases e <;> first | (cases r'; rfl) | (exact absurd h' Bool.false_ne_true)
  | int b => cases r; cases e <;> first | (cases r'; rfl) | (exact absurd h' Bool.false_ne_true)
  | str b =>
    cases r
    cases e with
    | str c => cases r'; exact S_beq b c
    | _ => first | (cases r'; rfl) | (exact absurd h' Bool.false_ne_true)
  | _ => cases h
theorem inF_v {K : PySem.W.Frag} {G G' : Hp} {x : D} {v : V} (hx : scalD x = true) (rx : Rep K G' x v) : ∀ {ds : List D} {vs : List V}, ds.all scalD = true → Reps K G ds vs → vs.all flatV = true ∧ inV v vs = inF x ds := by
  intro ds
  induction ds with
  | nil => intro vs _ r; cases r; exact ⟨rfl, rfl⟩
  | cons d ds ih =>
    intro vs h r
    cases r with
    | cons r rr =>
      rename_i u vs
      have h' : scalD d = true ∧ ds.all scalD = true := by
        rw [List.all_cons] at h
        exact Bool.and_eq_true_iff.mp h
      obtain ⟨i1, i2⟩ := ih h'.2 rr
      refine ⟨by rw [List.all_cons, scal_v h'.1 r, i1]; rfl, ?_⟩
      show (eqV u v || vs.any fun y => eqV y v) = (eqF d x || ds.any fun y => eqF y x)
      rw [eqF_v h'.1 hx r rx]
      have i2' : (vs.any fun y => eqV y v) = ds.any fun y => eqF y x := i2
      rw [i2']
theorem brep_scal {K : PySem.W.Frag} {G H : Hp} {d : D} {v : V} (h : BRep K G H d v) (e : scalD d = true) : Rep K G d v := h.rep (by cases d <;> first | rfl | cases e)
theorem op_inB {op : CmpOp} {g : Bool → Bool} (h1 : OpR X (compareOp op) fun x y H Q => ∃ i j, x = .str i ∧ y = .str j ∧ Q (.bl (g (!(Builtin.Str.occurrences j i 0 j.length 1).isEmpty))) H)
    (h2 : OpR X (compareOp op) fun x y H Q => ∃ p xs, y = .ref p ∧ (SqL X.K H p xs ∨ SqT X.K H p xs) ∧ flatV x = true ∧ xs.all flatV = true ∧ Q (.bl (g (inV x xs))) H) : OpR X (compareOp op) (r2 X.K (fInB g)) := by
  intro pins s σ H x y v u Q I rx ry ⟨G, a, b, eg, ra, rb, p⟩
  unfold fInB at p
  split at p
  · exact h1 pins s σ H x y v u Q I rx ry ⟨_, _, brep_str ra, brep_str rb, p.at eg (.inl (.bl _))⟩
  · split at p
    · rename_i q
      obtain ⟨q1, q2⟩ := Bool.and_eq_true_iff.mp q
      obtain ⟨l', vs, e1, hh, rr⟩ := brep_tup rb
      have ra' := brep_scal ra q1
      obtain ⟨i1, i2⟩ := inF_v q1 ra' q2 rr
      refine h2 pins s σ H x y v u Q I rx ry ⟨l', vs, e1, .inr (sqT_mono eg hh), scal_v q1 ra', i1, ?_⟩
      rw [i2]
      exact p.at eg (.inl (.bl _))
    · exact p.elim
  · cases q0 : asL b with
    | none => rw [q0] at p; exact p.elim
    | some l =>
      rw [q0, Option.bind_some] at p
      split at p
      · rename_i q
        obtain ⟨q1, q2⟩ := Bool.and_eq_true_iff.mp q
        obtain ⟨l', vs, e1, hh, rr⟩ := brep_lst eg rb q0
        have ra' := brep_scal ra q1
        obtain ⟨i1, i2⟩ := inF_v q1 ra' q2 rr
        refine h2 pins s σ H x y v u Q I rx ry ⟨l', vs, e1, .inl hh, scal_v q1 ra', i1, ?_⟩
        rw [i2]
        exact p.at eg (.inl (.bl _))
      · exact p.elim
theorem op_inD : OpR X (compareOp .In) (r2 X.K fIn) := op_inB op_in_str op_in_seq
theorem op_ninD : OpR X (compareOp .NotIn) (r2 X.K fNin) := op_inB op_notIn_str op_notIn_seq
/-! ### len, isinstance -/
def fLen : List D → Option D
  | [.str l] => if l.length ≤ 1000000 then some (.int l.length) else none
  | [.tup l] => some (.int l.length)
  | [d] => (asL d).map fun l => .int l.length
  | _ => none
theorem cr_lenD : CallR X (.builtin "len") (rA X.K fLen) := by
  intro pins s σ H xs us Q I r ⟨G, ds, eg, ra, p⟩
  unfold fLen at p
  split at p
  · split at p
    · rename_i l hl
      obtain ⟨v, e1, rr⟩ := breps1 ra
      have e2 := brep_str rr
      subst e1 e2
      refine call_len pins s σ H _ us Q I r ⟨_, l.length, rfl, ⟨line6 (by rw [S_len]; exact hl), (S_len l).symm⟩, ?_⟩
      exact p.at eg (.inl (.int _))
    · exact p.elim
  · rename_i l
    obtain ⟨v, e1, rr⟩ := breps1 ra
    obtain ⟨l', vs, e2, hh, rs⟩ := brep_tup rr
    subst e1 e2
    refine call_len pins s σ H _ us Q I r ⟨_, l.length, rfl, .inr ⟨vs, sqT_mono eg hh, rs.length.symm⟩, ?_⟩
    exact p.at eg (.inl (.int _))
  · rename_i d _ _
    cases q : asL d with
    | none => rw [q] at p; exact p.elim
    | some l =>
      rw [q] at p
      obtain ⟨v, e1, rr⟩ := breps1 ra
      obtain ⟨l', vs, e2, hh, rs⟩ := brep_lst eg rr q
      subst e1 e2
      refine call_len pins s σ H _ us Q I r ⟨_, l.length, rfl, .inl ⟨vs, hh, rs.length.symm⟩, ?_⟩
      exact PO.at p eg (.inl (.int _))
  · exact p.elim
/-- a datum's built-in class -/
def tyD : D → Option String
  | .non => some "NoneType"
  | .bl _ => some "bool"
  | .int _ => some "int"
  | .str _ => some "str"
  | .lst _ => some "list"
  | .olst _ => some "list"
  | .tup _ => some "tuple"
  | _ => none
theorem ty_of {K : PySem.W.Frag} {G H : Hp} {d : D} {v : V} {T : String} (e : Ex G H) (r : BRep K G H d v) (h : tyD d = some T) : TyX K H v (.type T) := by
  cases d with
  | non => cases h; rw [brep_non r]; exact .base .non
  | bl b => cases h; rw [brep_bl r]; exact .base (.bl b)
  | int b => cases h; rw [brep_int r]; exact .base (.int b)
  | str b => cases h; rw [brep_str r]; exact .base (.str _)
  | lst b => cases h; obtain ⟨a, vs, e1, hh, _⟩ := brep_lst2 e r rfl; rw [e1]; exact .base (.lst hh)
  | olst b => cases h; obtain ⟨a, vs, e1, hh, _⟩ := brep_lst2 e r rfl; rw [e1]; exact .base (.lst hh)
  | tup b =>
    cases h
    obtain ⟨a, vs, e1, hh, _⟩ := brep_tup r
    rw [e1]
    rcases sqT_mono e hh with (q | ⟨o, q⟩) | ⟨o, its, n, q1, q2, _⟩
    · exact .base (.tup q)
    · exact .fTuple q
    · exact .kTuple q1 q2
  | _ => cases h
/-- isinstance(x, T), T a built-in class -/
def fIsi : List D → Option D
  | [x, .obj (.ty T)] => (tyD x).bind fun t => (kitB t T).map fun b => .bl b
  | _ => none
theorem cr_isiD : CallR X (.builtin "isinstance") (rA X.K fIsi) := by
  intro pins s σ H xs us Q I r ⟨G, ds, eg, ra, p⟩
  unfold fIsi at p
  split at p
  · rename_i x T
    obtain ⟨v, v', e1, rr, rr'⟩ := breps2 ra
    have e2 := brep_obj rr'
    subst e1 e2
    cases q : tyD x with
    | none => rw [q] at p; exact p.elim
    | some t =>
      rw [q, Option.bind_some] at p
      cases q2 : kitB t T with
      | none => rw [q2] at p; exact p.elim
      | some b =>
        rw [q2] at p
        exact call_isi pins s σ H _ us Q I r ⟨v, .ty T, .type t, .type T, b, rfl, .ty T, ty_of eg rr q, kit_ty q2, PO.at p eg (.inl (.bl b))⟩
  · exact p.elim
theorem l_ty {x : Str} {T : String} (hg : Gl X x) (hm : X.mg x = none) (hv : bootBuiltins x = some (.type T)) (hn : x ≠ "__name__" := by decide) (hd : (x == ("__debug__" : Str)) = false := by decide) : PE X (.Name x pos) (liftE X.K W (dC (.obj (.ty T)))) :=
  l_c (pe_bltn hg hm hv (v := .ty T) rfl hn hd) fun _ => .obj _
/-! ### methods of texts -/
/-- sep.join -/
def glue (z : List Nat) : List (List Nat) → List Nat
  | [] => []
  | p :: r => z ++ (p ++ glue z r)
def jn (z : List Nat) : List (List Nat) → List Nat
  | [] => []
  | p :: r => p ++ glue z r
def txts : List D → Option (List (List Nat))
  | [] => some []
  | .str l :: r => (txts r).map fun x => l :: x
  | _ => none
theorem txts_v {K : PySem.W.Frag} {G : Hp} : ∀ {ds : List D} {vs : List V} {ls : List (List Nat)}, Reps K G ds vs → txts ds = some ls → vs = (ls.map S).map V.str := by
  intro ds
  induction ds with
  | nil => intro vs ls r h; cases r; cases h; rfl
  | cons d ds ih =>
    intro vs ls r h
    cases r with
    | cons r rr =>
      cases d with
      | str l =>
        cases r
        have h' : (txts ds).map (fun x => l :: x) = some ls := h
        cases q : txts ds with
        | none => rw [q] at h'; cases h'
        | some x =>
          rw [q] at h'
          cases h'
          rw [ih rr q]
          rfl
      | _ => cases h
def sumL : List (List Nat) → Nat
  | [] => 0
  | l :: r => l.length + sumL r
def fJoin (z : List Nat) (d : D) : Option D := ((match d with
  | .tup l => some l
  | d => asL d).bind txts).bind fun ls => if sumL ls + ls.length * z.length ≤ 1000000 then some (.str (jn z ls)) else none
/-- a method of a text, one argument; none; two -/
def dM1 (f : List Nat → D → Option D) (dz de : DE) : DE := fun δ => (dz δ).bind fun z => match z with
  | .str z => (de δ).bind fun d => R.of (f z d)
  | _ => .bad
theorem glue_eq (z : List Nat) : ∀ ls : List (List Nat), StrLaws.glueL z (ls.map S) = glue z ls
  | [] => rfl
  | p :: r => by
    show z ++ ((S p).cps.toList ++ StrLaws.glueL z (r.map S)) = z ++ (p ++ glue z r)
    rw [glue_eq z r, S_cps]
theorem join_eq (z : List Nat) (ls : List (List Nat)) : Txt.join (S z) (ls.map S) = S (jn z ls) := by
  cases ls with
  | nil => rfl
  | cons p r =>
    rw [← S_of (Txt.join (S z) ((p :: r).map S))]
    congr 1
    show (Builtin.Str.glued (S z) (S p :: r.map S)).cps.toList = _
    rw [StrLaws.glued_list]
    show (S p).cps.toList ++ StrLaws.glueL (S z).cps.toList (r.map S) = p ++ glue z r
    rw [S_cps, S_cps, glue_eq]
theorem sumL_eq : ∀ ls : List (List Nat), ((ls.map S).map (·.length)).sum = sumL ls
  | [] => rfl
  | p :: r => by
    rw [List.map_cons, List.map_cons, List.sum_cons, sumL_eq r, S_len]
    rfl
theorem l_join {de dz : DE} {o : Expr} {apos : Pos} (ho : PE X o (liftE X.K W dz)) (he : PE X e (liftE X.K W de)) (hs : starEach [e] X.env = [(false, eval e X.env)] := by rfl) (hbase : attributeBase o "join" X.env (eval o X.env) = eval o X.env := by rfl) (hline : (apos.endLine == pos.line) = true := by rfl) :
    PE X (.Call (.Attribute o "join" apos) [e] [] pos) (liftE X.K W (dM1 fJoin dz de)) := PE.weak (pe_join ho he hs hbase hline) fun σ H Q h => by
  obtain ⟨H0, G, δ, eg, s, p⟩ := h
  refine at_bind eg s p fun G1 H1 d x g1 s1 ra p1 => ?_
  cases d with
  | str z =>
    refine ⟨⟨_, brep_str ra⟩, at_bind g1.i s1 p1 fun G2 H2 d y g2 s2 rb p2 => ?_⟩
    have p3 : PO X.K G2 H2 (fJoin z d) Q := PO.of p2
    unfold fJoin at p3
    have key : ∀ (a : Addr) (vs : List V) (l : List D), y = .ref a → (SqL X.K H2 a vs ∨ SqT X.K H2 a vs) → Reps X.K G2 l vs → PO X.K G2 H2 ((txts l).bind fun ls => if sumL ls + ls.length * z.length ≤ 1000000 then some (D.str (jn z ls)) else none) Q →
        ∃ a p, ∃ ys : List Str, x = .str a ∧ [y] = [.ref p] ∧ (SqL X.K H2 p (ys.map V.str) ∨ SqT X.K H2 p (ys.map V.str)) ∧ (ys.map (·.length)).sum + ys.length * a.length ≤ 16777216 ∧ Q (.str (Txt.join a ys)) H2 := fun a vs l ey hq rr q => by
      cases q1 : txts l with
      | none => rw [q1] at q; exact q.elim
      | some ls =>
        rw [q1, Option.bind_some] at q
        split at q
        · rename_i hb
          have ev := txts_v rr q1
          subst ev
          refine ⟨S z, a, ls.map S, brep_str ra, by rw [ey], hq, ?_, ?_⟩
          · rw [sumL_eq, S_len, List.length_map]; omega
          · rw [join_eq]
            exact q.at g2.i (.inl (.str _))
        · exact q.elim
    cases d with
    | tup l =>
      obtain ⟨a, vs, e1, hh, rr⟩ := brep_tup rb
      exact key a vs l e1 (.inr (sqT_mono g2.i hh)) rr p3
    | lst l =>
      obtain ⟨a, vs, e1, hh, rr⟩ := brep_lst g2.i rb rfl
      exact key a vs l e1 (.inl hh) rr p3
    | slst l =>
      obtain ⟨a, vs, e1, hh, rr⟩ := brep_lst g2.i rb rfl
      exact key a vs l e1 (.inl hh) rr p3
    | olst l =>
      obtain ⟨a, vs, e1, hh, rr⟩ := brep_lst g2.i rb rfl
      exact key a vs l e1 (.inl hh) rr p3
    | _ => exact p3.elim
  | _ => exact p1.elim
end
end Dl
set_option Elab.async false
set_option linter.all false
set_option maxRecDepth 100000
set_option maxHeartbeats 4000000
/-! Dl8: list comprehensions over data. -/
namespace Dl
open PySem PySem.Spec PyProof.Rows L2
def wipeD (δ : DSt) : List Nat → DSt
  | [] => δ
  | v :: vs => (wipeD δ vs).set v .un
def R.bind0 {α β : Type} : R α → (α → R β) → R β
  | .ok a, f => f a
  | _, _ => .bad
@[simp] theorem R.bind0_ok {α β : Type} (a : α) (f : α → R β) : (R.ok a).bind0 f = f a := rfl
/-- the items kept, in order; what may be raised in it is not told -/
def dLcL (tg : D → DSt → Option DSt) (dt : DT) (de : DE) (δ : DSt) : List D → R (List D)
  | [] => .ok []
  | x :: xs => match tg x δ with
    | none => .bad
    | some δ1 => (dt δ1).bind0 fun k => if k = true then (de δ1).bind0 fun d => if isO d then .bad else (dLcL tg dt de δ xs).bind0 fun r => .ok (d :: r) else dLcL tg dt de δ xs
def dLc (da : DA) (tg : D → DSt → Option DSt) (dt : DT) (de : DE) (vs : List Nat) : DA := fun δ => (da δ).bind fun xs => if xs.length ≤ 100000 then dLcL tg dt de (wipeD δ vs) xs else .bad
def W0 : WX := fun _ _ _ _ => False
theorem SR.un {K : PySem.W.Frag} {H0 G H : Hp} {σ : L2.St} {δ : DSt} (s : SR K H0 G H σ δ) (i : Nat) : SR K H0 G H (σ.set i none) (δ.set i .un) := by
  have aux : ∀ {m : Nat} {x : Sl}, (δ.set i .un)[m]? = some x → x ≠ .un → i ≠ m := fun {m x} q hx z => by
    subst z
    rw [List.getElem?_set] at q
    by_cases hl : i < δ.length
    · simp [hl] at q; exact hx q.symm
    · simp [hl] at q
  refine ⟨by simp [s.len], fun j d h => ?_, fun j es h => ?_, fun j k es fs p h1 h2 h3 h4 => ?_⟩
  · have n := aux h (by intro z; cases z)
    rw [List.getElem?_set_ne n] at h ⊢
    exact s.dat j d h
  · have n := aux h (by intro z; cases z)
    rw [List.getElem?_set_ne n] at h ⊢
    exact s.own j es h
  · have n1 := aux h1 (by intro z; cases z)
    have n2 := aux h2 (by intro z; cases z)
    rw [List.getElem?_set_ne n1] at h1 h3
    rw [List.getElem?_set_ne n2] at h2 h4
    exact s.ne j k es fs p h1 h2 h3 h4
theorem SR.wipe {K : PySem.W.Frag} {H0 G H : Hp} {σ : L2.St} {δ : DSt} (s : SR K H0 G H σ δ) : ∀ vs : List Nat, SR K H0 G H (L2.wipe σ vs) (wipeD δ vs)
  | [] => s
  | v :: vs => (SR.wipe s vs).un v
theorem wipe_set {σ : L2.St} {i : Nat} {x : Option V} : ∀ {vs : List Nat}, i ∈ vs → L2.wipe (σ.set i x) vs = L2.wipe σ vs
  | [], h => by cases h
  | v :: vs, h => by
    show (L2.wipe (σ.set i x) vs).set v none = (L2.wipe σ vs).set v none
    by_cases hm : i ∈ vs
    · rw [wipe_set hm]
    · have hv : i = v := by
        rcases List.mem_cons.mp h with h | h
        · exact h
        · exact absurd h hm
      subst hv
      have gen : ∀ ws : List Nat, i ∉ ws → L2.wipe (σ.set i x) ws = (L2.wipe σ ws).set i x := by
        intro ws
        induction ws with
        | nil => intro _; rfl
        | cons w ws ih =>
          intro hw
          have h1 : w ≠ i := fun e => hw (by rw [e]; exact List.mem_cons_self)
          have h2 : i ∉ ws := fun m => hw (List.mem_cons_of_mem _ m)
          show (L2.wipe (σ.set i x) ws).set w none = ((L2.wipe σ ws).set w none).set i x
          rw [ih h2, List.set_comm _ _ (Ne.symm h1)]
      rw [gen vs hm, List.set_set]
theorem wipe_wipe {σ : L2.St} (vs : List Nat) : L2.wipe (L2.wipe σ vs) vs = L2.wipe σ vs := by
  have gen : ∀ ws : List Nat, (∀ w ∈ ws, w ∈ vs) → L2.wipe (L2.wipe σ ws) vs = L2.wipe σ vs := by
    intro ws
    induction ws with
    | nil => intro _; rfl
    | cons w ws ih =>
      intro h
      show L2.wipe ((L2.wipe σ ws).set w none) vs = _
      rw [wipe_set (h w List.mem_cons_self), ih fun z hz => h z (List.mem_cons_of_mem _ hz)]
  exact gen vs fun _ h => h
/-- a comprehension's target: its own slots alone -/
def WG (K : PySem.W.Frag) (g : TG) (tg : D → DSt → Option DSt) (vs : List Nat) : Prop := ∀ (d : D) (v : V) (σ : L2.St) (H0 G H : Hp) (δ δ' : DSt) (Q : L2.St → Hp → Prop), Ex G H → SR K H0 G H σ δ → Rep K G d v → tg d δ = some δ' →
  (∀ σ', L2.wipe σ' vs = L2.wipe σ vs → SR K H0 G H σ' δ' → Q σ' H) → g v σ H Q
theorem wg_name {K : PySem.W.Frag} {i : Nat} {vs : List Nat} (hi : i ∈ vs) : WG K (gName i) (tgN i) vs := fun d v σ H0 G H δ δ' Q eg s r e q => by
  unfold tgN at e
  split at e
  · cases e
  · cases e
    exact q _ (wipe_set hi) (s.set_dat i r)
theorem wg_names {K : PySem.W.Frag} {ws : List Nat} : ∀ (is : List Nat) (ds : List D) (vs : List V) (σ : L2.St) (H0 G H : Hp) (δ δ' : DSt) (Q : L2.St → Hp → Prop), (∀ i ∈ is, i ∈ ws) → SR K H0 G H σ δ → Reps K G ds vs → putT is ds δ = some δ' → (∀ σ', L2.wipe σ' ws = L2.wipe σ ws → SR K H0 G H σ' δ' → Q σ' H) → gNames is vs σ H Q
  | [], [], _, σ, H0, G, H, δ, δ', Q, _, s, .nil, e, q => by
    have e' : some δ = some δ' := e
    cases e'
    exact ⟨rfl, q σ rfl s⟩
  | [], _ :: _, _, _, _, _, _, _, _, _, _, _, _, e, _ => by cases e
  | _ :: _, [], _, _, _, _, _, _, _, _, _, _, _, e, _ => by cases e
  | i :: is, d :: ds, _, σ, H0, G, H, δ, δ', Q, hi, s, .cons (v := v) (vs := vs) r rr, e, q => ⟨v, vs, rfl, wg_names is ds vs _ H0 G H _ δ' Q (fun j h => hi j (List.mem_cons_of_mem _ h)) (s.set_dat i r) rr e
      fun σ' h1 h2 => q σ' (by rw [h1, wipe_set (hi i List.mem_cons_self)]) h2⟩
theorem wg_tup {K : PySem.W.Frag} (is ws : List Nat) {n : Nat} (hn : n = is.length) (hi : ∀ i ∈ is, i ∈ ws) : WG K (gTup K n (gNames is)) (tgT is) ws := fun d v σ H0 G H δ δ' Q eg s r e q => by
  unfold tgT at e
  split at e
  · rename_i ds
    cases r with
    | tup h rr => exact ⟨_, _, rfl, sqT_mono eg h, by rw [rr.length, putT_len e, hn], wg_names is ds _ σ H0 G H δ δ' Q hi s rr e q⟩
  · cases e
def dYes : DT := fun _ => .ok true
section
variable {X : Cx} {W : WX} {pos : Pos}
def liftT0 (K : PySem.W.Frag) (dt : DT) : TT := liftT K W0 dt
theorem ifs_nil : PTs X [] (liftT0 X.K dYes) := ⟨fun pins s σ H Q I h => by
  obtain ⟨H0, G, δ, eg, sr, p⟩ := h
  exact pts_nil.run pins s σ H Q I (p true G H (Grow.refl eg) rfl)⟩
theorem ifs_one {c : Expr} {dt : DT} (h : PT X c (liftT X.K W0 dt)) : PTs X [c] (liftT0 X.K dt) := pts_one h
theorem ps0 {α γ : Type} {r : R α} {k : α → R γ} {b : γ} (h : r.bind0 k = .ok b) : ∃ a, r = .ok a ∧ k a = .ok b := by
  cases r with
  | ok a => exact ⟨a, rfl, h⟩
  | exc c => cases h
  | bad => cases h
theorem lc_lift {g : TG} {da : DA} {tg : D → DSt → Option DSt} {dt : DT} {de : DE} {vs : List Nat} {K : PySem.W.Frag} (lg : WG K g tg vs) {σ : L2.St} {H : Hp} {Q : VK} (h : liftF K W (dLc da tg dt de vs) σ H Q) : tLc (liftI K W da) g (liftT0 K dt) (liftE K W0 de) vs σ H Q := by
  obtain ⟨H0, G, δ, eg, s, p⟩ := h
  refine ⟨H0, G, δ, eg, s, ?_⟩
  have p' : PF K W σ G H ((da δ).bind fun xs => if xs.length ≤ 100000 then dLcL tg dt de (wipeD δ vs) xs else .bad) Q := p
  cases q : da δ with
  | exc c => rw [q] at p'; exact p'
  | bad => rw [q] at p'; exact p'
  | ok xs =>
    rw [q] at p'
    have p2 : PF K W σ G H (if xs.length ≤ 100000 then dLcL tg dt de (wipeD δ vs) xs else .bad) Q := p'
    split at p2
    · rename_i hx
      intro J G1 H1 g1 yl L hL
      cases q2 : dLcL tg dt de (wipeD δ vs) xs with
      | bad => rw [q2] at p2; exact p2.elim
      | exc c =>
        exfalso
        have ne : ∀ (ys : List D) (c : Exc), dLcL tg dt de (wipeD δ vs) ys ≠ .exc c := by
          intro ys
          induction ys with
          | nil => intro c z; cases z
          | cons y ys ih =>
            intro c z
            unfold dLcL at z
            split at z
            · cases z
            · rename_i δ1 _
              cases e1 : dt δ1 with
              | ok k =>
                rw [e1] at z
                dsimp only [R.bind0] at z
                split at z
                · cases e2 : de δ1 with
                  | ok d =>
                    rw [e2] at z
                    dsimp only at z
                    split at z
                    · cases z
                    · cases e3 : dLcL tg dt de (wipeD δ vs) ys with
                      | ok r => rw [e3] at z; cases z
                      | exc c' => rw [e3] at z; cases z
                      | bad => rw [e3] at z; cases z
                  | exc c' => rw [e2] at z; cases z
                  | bad => rw [e2] at z; cases z
                · exact ih c z
              | exc c' => rw [e1] at z; cases z
              | bad => rw [e1] at z; cases z
        exact ne xs c q2
      | ok res =>
        rw [q2] at p2
        have hLH : H L = none := g1.h.gone hL
        have sw := (s.grow g1).wipe vs
        -- behind i turns: acc is made, what is left gives rest
        refine ⟨fun i m H' => m = xs.length - i ∧ i ≤ xs.length ∧ ∃ (G' : Hp) (acc rest : List D) (ws : List V), Ex G1 G' ∧ Grow G H G' H' ∧ H' L = some (.lst ws) ∧ G' L = none ∧ Reps K G' acc ws ∧ acc.length ≤ i ∧
          SR K H0 G' H' (L2.wipe σ vs) (wipeD δ vs) ∧ dLcL tg dt de (wipeD δ vs) (xs.drop i) = .ok rest ∧ acc ++ rest = res, ⟨xs.length, by simp, Nat.zero_le _, G1, [], res, [], Ex.refl G1, g1.trans (Grow.newH g1.i _ hL), upd_same, g1.i.gone hL, .nil, Nat.zero_le _, ?_, q2, rfl⟩, ?_⟩
        · exact sw.grow (Grow.newH g1.i _ hL)
        rintro i m H' ⟨rfl, hi, G', acc, rest, ws, e', g', hw, hg, racc, hal, s', ed, er⟩
        obtain ⟨y1, y2⟩ := yl i G' H' e' g'.i
        by_cases hlt : i < xs.length
        · have hd : xs[i]? = some xs[i] := List.getElem?_eq_getElem hlt
          have hdr : xs.drop i = xs[i] :: xs.drop (i + 1) := List.drop_eq_getElem_cons hlt
          obtain ⟨hgo, hy⟩ := y1 _ hd
          rw [hdr] at ed
          refine .inr ⟨hgo, fun H2 => i + 1 ≤ xs.length ∧ ∃ (G2 : Hp) (acc rest : List D) (ws : List V), Ex G1 G2 ∧ Grow G H G2 H2 ∧ H2 L = some (.lst ws) ∧ G2 L = none ∧ Reps K G2 acc ws ∧ acc.length ≤ i + 1 ∧
            SR K H0 G2 H2 (L2.wipe σ vs) (wipeD δ vs) ∧ dLcL tg dt de (wipeD δ vs) (xs.drop (i + 1)) = .ok rest ∧ acc ++ rest = res, fun H2 ⟨k1, k2⟩ => ⟨xs.length - (i + 1), by omega, rfl, k1, k2⟩, fun x H2 yy => ?_⟩
          obtain ⟨G2, gg, rr⟩ := hy x H2 yy
          have hw2 : H2 L = some (.lst ws) := gg.h _ _ hw
          have hg2 : G2 L = none := gg.f L hg (fun z => by rw [hw] at z; cases z)
          unfold dLcL at ed
          cases q3 : tg xs[i] (wipeD δ vs) with
          | none => rw [q3] at ed; cases ed
          | some δ1 =>
            rw [q3] at ed
            dsimp only at ed
            refine lg _ x (L2.wipe σ vs) H0 G2 H2 (wipeD δ vs) δ1 _ gg.i (s'.grow gg) rr q3 fun σ3 hw3 s3 => ?_
            have hfin : L2.wipe σ3 vs = L2.wipe σ vs := by rw [hw3, wipe_wipe]
            refine ⟨hfin, ?_⟩
            obtain ⟨k, e1, ed1⟩ := ps0 ed
            refine ⟨H0, G2, δ1, gg.i, s3, ?_⟩
            rw [e1]
            intro b G3 H3 g3 eb
            subst eb
            have hw4 : H3 L = some (.lst ws) := g3.h _ _ hw2
            have hg4 : G3 L = none := g3.f L hg2 (fun z => by rw [hw2] at z; cases z)
            cases k with
            | false =>
              exact ⟨by omega, G3, acc, rest, ws, (e'.trans gg.g).trans g3.g, (g'.trans gg).trans g3, hw4, hg4, (racc.mono gg.g).mono g3.g, by omega, (s'.grow gg).grow g3, ed1, er⟩
            | true =>
              rw [if_pos rfl] at ed1
              obtain ⟨d, e2, ed2⟩ := ps0 ed1
              split at ed2
              · cases ed2
              · rename_i hno
                obtain ⟨rest', e3, ed3⟩ := ps0 ed2
                cases ed3
                rw [if_pos rfl]
                refine ⟨H0, G3, δ1, g3.i, s3.grow g3, ?_⟩
                rw [e2]
                intro y G4 H4 g4 ry
                have hw5 : H4 L = some (.lst ws) := g4.h _ _ hw4
                have hg5 : G4 L = none := g4.f L hg4 (fun z => by rw [hw4] at z; cases z)
                have racc4 := ((racc.mono gg.g).mono g3.g).mono g4.g
                have g04 := ((g'.trans gg).trans g3).trans g4
                refine ⟨ws, hw5, mega (by rw [racc.length]; omega), by omega, G4, acc ++ [d], rest', ws ++ [y], ((e'.trans gg.g).trans g3.g).trans g4.g, ⟨g04.g, g04.i.up hg5, g04.h.up hLH, g04.f⟩, upd_same, hg5,
                  racc4.append (.cons (ry.rep (by simpa using hno)) .nil), by rw [List.length_append]; simp; omega, ?_, e3, by rw [List.append_assoc]; exact er⟩
                have s4 := ((s'.grow gg).grow g3).grow g4
                -- the owned lists of the def are others than L
                refine ⟨s4.len, s4.dat, fun j ds hj => ?_, s4.ne⟩
                obtain ⟨pp, us, a1, a2, a3, a4, a5⟩ := s4.own j ds hj
                obtain ⟨pp', us', b1, b2, _⟩ := (s.wipe vs).own j ds hj
                rw [a1] at b1
                cases b1
                exact ⟨pp, us, a1, by rw [upd_ne (fun z => by rw [z, hLH] at b2; cases b2)]; exact a2, a3, a4, a5⟩
        · have e0 : xs.drop i = [] := List.drop_eq_nil_of_le (by omega)
          rw [e0] at ed
          cases ed
          rw [List.append_nil] at er
          subst er
          exact .inl ⟨y2 (by omega), p2 L ws G' H' g' hLH hw hg racc⟩
    · exact p2.elim
theorem f_lc {elt tgt iter : Expr} {ifs : List Expr} {scope : Scope} {own : List (Str × Nat)} {g : TG} {da : DA} {tg : D → DSt → Option DSt} {dt : DT} {de : DE} (lg : WG X.K g tg (own.map (·.2))) (hc : X.calm = true) (hN : X.N.Nodup) (hi : PI X tgt iter (liftI X.K W da)) (ok : BlkOk X.N X.env.scope scope own)
    (hg : ∀ (s : Shared) (H : Hp) (C : Addr) (cl : List (Str × Addr)) (fp : List Addr), PG (X.blk s H scope (compEnvC scope cl C X.env) fp) tgt g) (ht : ∀ (s : Shared) (H : Hp) (C : Addr) (cl : List (Str × Addr)) (fp : List Addr), PTs (X.blk s H scope (compEnvC scope cl C X.env) fp) ifs (liftT0 X.K dt))
    (he : ∀ (s : Shared) (H : Hp) (C : Addr) (cl : List (Str × Addr)) (fp : List Addr), PE (X.blk s H scope (compEnvC scope cl C X.env) fp) elt (liftE X.K W0 de)) (hs : ∀ x, foldedSetIterable iter X.env x = pure x := by intro _; rfl) :
    PE X (.ListComp elt [⟨tgt, iter, ifs, 0⟩] scope pos) (liftF X.K W (dLc da tg dt de (own.map (·.2)))) := PE.weak (pe_lc hc hN hi ok hg ht he hs) fun _ _ _ h => lc_lift lg h
/-- x = [..] -/
theorem s_setLc {i : Nat} {y : Str} {py spos : Pos} {elt tgt iter : Expr} {ifs : List Expr} {scope : Scope} {own : List (Str × Nat)} {g : TG} {da : DA} {tg : D → DSt → Option DSt} {dt : DT} {de : DE} (lg : WG X.K g tg (own.map (·.2))) (hc : X.calm = true) (hN : X.N.Nodup) (hy : X.N[i]? = some y) (hyl : X.env.scope.names.lookup y = some .local)
    (hsw : swapsWith (.ListComp elt [⟨tgt, iter, ifs, 0⟩] scope pos) (some (.Name y py)) spos.line X.env = pure true) (hi : PI X tgt iter (liftI X.K W da)) (ok : BlkOk X.N X.env.scope scope own)
    (hg : ∀ (s : Shared) (H : Hp) (C : Addr) (cl : List (Str × Addr)) (fp : List Addr), PG (X.blk s H scope (compEnvC scope cl C X.env) fp) tgt g) (ht : ∀ (s : Shared) (H : Hp) (C : Addr) (cl : List (Str × Addr)) (fp : List Addr), PTs (X.blk s H scope (compEnvC scope cl C X.env) fp) ifs (liftT0 X.K dt))
    (he : ∀ (s : Shared) (H : Hp) (C : Addr) (cl : List (Str × Addr)) (fp : List Addr), PE (X.blk s H scope (compEnvC scope cl C X.env) fp) elt (liftE X.K W0 de)) (hs : ∀ x, foldedSetIterable iter X.env x = pure x := by intro _; rfl) :
    PS X (.Assign [.Name y py] (.ListComp elt [⟨tgt, iter, ifs, 0⟩] scope pos) spos) (liftS X.K W (dOwn i (dLc da tg dt de (own.map (·.2))))) := PS.weak (ps_setLc hc hN hy hyl hsw hi ok hg ht he hs) fun D σ H h => by
  obtain ⟨H0, G0, G, δ, g0, s, p⟩ := h
  refine lc_lift lg (stmF g0 s p fun G1 H1 ds pp vs g1 g01 s1 h1 h2 h3 r p1 => ?_)
  refine p1 _ G1 H1 (Ex.refl G1) g01 (s1.set_own' i h2 (g0.h.gone h1) h3 r fun j es q z => ?_)
  obtain ⟨p', vs', e1, h4, _⟩ := s.own j es q
  rw [e1] at z
  cases z
  rw [h1] at h4; cases h4
end
end Dl
set_option Elab.async false
set_option linter.all false
set_option maxRecDepth 100000
set_option maxHeartbeats 4000000
/-! Dl9: where a text stands in a text; index, find; replace of written texts. -/
namespace Dl
open PySem PySem.Spec PyProof.Rows L2
/-- the first place at which a stands -/
def spot (a : List Nat) : List Nat → Option Nat
  | [] => if a = [] then some 0 else none
  | c :: r => if (c :: r).take a.length = a then some 0 else (spot a r).map (· + 1)
def Fits (a l : List Nat) (i : Nat) : Prop := i ≤ l.length ∧ (l.drop i).take a.length = a
theorem spot_some {a : List Nat} : ∀ {l : List Nat} {i : Nat}, spot a l = some i → Fits a l i ∧ ∀ k, k < i → ¬ Fits a l k
  | [], i, h => by
    unfold spot at h
    split at h
    · rename_i e
      cases h
      subst e
      exact ⟨⟨Nat.le_refl _, rfl⟩, fun k hk => by omega⟩
    · cases h
  | c :: r, i, h => by
    unfold spot at h
    split at h
    · rename_i e
      cases h
      exact ⟨⟨Nat.zero_le _, e⟩, fun k hk => by omega⟩
    · rename_i ne
      cases q : spot a r with
      | none => rw [q] at h; cases h
      | some j =>
        rw [q] at h
        cases h
        obtain ⟨⟨h1, h2⟩, h3⟩ := spot_some q
        refine ⟨⟨by simpa using h1, h2⟩, fun k hk z => ?_⟩
        cases k with
        | zero => exact ne z.2
        | succ k => exact h3 k (by have hk' : k + 1 < j + 1 := hk; omega) ⟨by have := z.1; simpa using this, z.2⟩
theorem spot_none {a : List Nat} : ∀ {l : List Nat}, spot a l = none → ∀ k, ¬ Fits a l k
  | [], h, k, z => by
    unfold spot at h
    split at h
    · cases h
    · rename_i ne
      have : a = [] := by have := z.2; simpa using this.symm
      exact ne this
  | c :: r, h, k, z => by
    unfold spot at h
    split at h
    · cases h
    · rename_i ne
      cases q : spot a r with
      | some j => rw [q] at h; cases h
      | none =>
        cases k with
        | zero => exact ne z.2
        | succ k => exact spot_none q k ⟨by have := z.1; simpa using this, z.2⟩
open Builtin.Str StrLaws in
theorem at_fits (a l : List Nat) (i : Nat) : At (S l) (S a) (S l).length i ↔ Fits a l i := by
  show (i + (S a).length ≤ (S l).length ∧ subAt (S l) (S a) i = true) ↔ _
  rw [subAt_eq, S_len, S_len, S_cps, S_cps, beq_iff_eq]
  constructor
  · exact fun h => ⟨by omega, h.2⟩
  · intro h
    refine ⟨?_, h.2⟩
    have e := congrArg List.length h.2
    rw [List.length_take, List.length_drop] at e
    have := h.1
    omega
open Builtin.Str StrLaws in
theorem occ_spot (a l : List Nat) : (occurrences (S l) (S a) 0 (S l).length 1).head? = spot a l := by
  rcases occ_head (S l) (S a) 1 (Nat.le_refl _) with ⟨e, n⟩ | ⟨i, r, e, h, n⟩
  · rw [e]
    cases q : spot a l with
    | none => rfl
    | some j => exact absurd ((at_fits a l j).mpr (spot_some q).1) (n j)
  · rw [e]
    have h' := (at_fits a l i).mp h
    cases q : spot a l with
    | none => exact absurd h' (spot_none q i)
    | some j =>
      obtain ⟨j1, j2⟩ := spot_some q
      have : i = j := by
        rcases Nat.lt_trichotomy i j with z | z | z
        · exact absurd h' (j2 i z)
        · exact z
        · exact absurd ((at_fits a l j).mpr j1) (n j z)
      rw [this]; rfl
theorem subIn_spot (a b : List Nat) : subIn a b = (spot a b).isSome := by
  unfold subIn
  rw [← occ_spot]
  cases Builtin.Str.occurrences (S b) (S a) 0 (S b).length 1 <;> rfl
theorem subIn_nil (b : List Nat) : subIn [] b = true := by
  rw [subIn_spot]
  cases b with
  | nil => rfl
  | cons c r => simp [spot]
theorem subIn_one (c : Nat) (b : List Nat) : subIn [c] b = decide (c ∈ b) := by
  rw [subIn_spot]
  induction b with
  | nil => simp [spot]
  | cons d r ih =>
    unfold spot
    by_cases h : d = c
    · subst h; simp
    · rw [if_neg (by simp [h])]
      cases q : spot [c] r with
      | none =>
        rw [q] at ih
        have ih' : decide (c ∈ r) = false := ih.symm
        have : ¬ c ∈ r := of_decide_eq_false ih'
        have h2 : ¬ (c ∈ d :: r) := by
          intro z
          rcases List.mem_cons.mp z with z | z
          · exact h z.symm
          · exact this z
        rw [decide_eq_false h2]; rfl
      | some j =>
        rw [q] at ih
        have ih' : decide (c ∈ r) = true := ih.symm
        rw [decide_eq_true (List.mem_cons_of_mem _ (of_decide_eq_true ih'))]; rfl
/-! ### index, find -/
def fIndex (z : List Nat) : D → Option D
  | .str a => (spot a z).map fun i => .int (i : Nat)
  | _ => none
def fFind (z : List Nat) : D → Option D
  | .str a => some (.int (match spot a z with
    | some i => (i : Int)
    | none => -1))
  | _ => none
def fStarts (z : List Nat) : D → Option D
  | .str a => some (.bl (decide (z.take a.length = a)))
  | _ => none
section
variable {X : Cx} {W : WX} {e o : Expr} {pos apos : Pos}
/-- a method of a text, one argument, by values -/
theorem l_m1 {id : String} {name : Str} {r : V → List V → Hp → VK → Prop} {f : List Nat → D → Option D} {dz de : DE} (slot : Slot "str" name id) (ty : typeOf (.builtin id) = pure (.type "method_descriptor")) (rule : MtR X id r)
    (hf : ∀ (z : List Nat) (d : D) (y : V) (G H : Hp) (Q : VK), Ex G H → BRep X.K G H d y → PO X.K G H (f z d) Q → r (.str (S z)) [y] H Q) (ho : PE X o (liftE X.K W dz)) (he : PE X e (liftE X.K W de))
    (hs : starEach [e] X.env = [(false, eval e X.env)] := by rfl) (hbase : attributeBase o name X.env (eval o X.env) = eval o X.env := by rfl) (hline : (apos.endLine == pos.line) = true := by rfl) :
    PE X (.Call (.Attribute o name apos) [e] [] pos) (liftE X.K W (dM1 f dz de)) := PE.weak (pe_m1 slot ty rule ho he hs hbase hline) fun σ H Q h => by
  obtain ⟨H0, G, δ, eg, s, p⟩ := h
  refine at_bind eg s p fun G1 H1 d x g1 s1 ra p1 => ?_
  cases d with
  | str z =>
    have ex := brep_str ra
    subst ex
    exact ⟨⟨_, rfl⟩, at_bind g1.i s1 p1 fun G2 H2 d y g2 s2 rb p2 => hf z d y G2 H2 Q g2.i rb (PO.of p2)⟩
  | _ => exact p1.elim
theorem spot_head {a l : List Nat} {i : Nat} (h : spot a l = some i) : ∃ r, Builtin.Str.occurrences (S l) (S a) 0 (S l).length 1 = i :: r := by
  rw [← occ_spot] at h
  cases q : Builtin.Str.occurrences (S l) (S a) 0 (S l).length 1 with
  | nil => rw [q] at h; cases h
  | cons j r => rw [q] at h; cases h; exact ⟨r, rfl⟩
theorem l_index {dz de : DE} (ho : PE X o (liftE X.K W dz)) (he : PE X e (liftE X.K W de)) (hs : starEach [e] X.env = [(false, eval e X.env)] := by rfl) (hbase : attributeBase o "index" X.env (eval o X.env) = eval o X.env := by rfl) (hline : (apos.endLine == pos.line) = true := by rfl) :
    PE X (.Call (.Attribute o "index" apos) [e] [] pos) (liftE X.K W (dM1 fIndex dz de)) :=
  l_m1 PySem.F.slot_str_index PySem.F.type_str_index mt_sindex (fun z d y G H Q eg rb p => by
    unfold fIndex at p
    split at p
    · rename_i a
      have ey := brep_str rb
      subst ey
      cases q : spot a z with
      | none => rw [q] at p; exact p.elim
      | some i =>
        rw [q] at p
        obtain ⟨r, hr⟩ := spot_head q
        exact ⟨S z, S a, i, r, rfl, rfl, hr, PO.at p eg (.inl (.int _))⟩
    · exact p.elim) ho he hs hbase hline
theorem find_spot (z a : List Nat) : Txt.find (S z) (S a) = match spot a z with
    | some i => (i : Int)
    | none => -1 := by
  unfold Txt.find
  rw [← occ_spot]
  cases Builtin.Str.occurrences (S z) (S a) 0 (S z).length 1 <;> rfl
theorem l_find {dz de : DE} (ho : PE X o (liftE X.K W dz)) (he : PE X e (liftE X.K W de)) (hs : starEach [e] X.env = [(false, eval e X.env)] := by rfl) (hbase : attributeBase o "find" X.env (eval o X.env) = eval o X.env := by rfl) (hline : (apos.endLine == pos.line) = true := by rfl) :
    PE X (.Call (.Attribute o "find" apos) [e] [] pos) (liftE X.K W (dM1 fFind dz de)) :=
  l_m1 PySem.F.slot_str_find PySem.F.type_str_find mt_find (fun z d y G H Q eg rb p => by
    unfold fFind at p
    split at p
    · rename_i a
      have ey := brep_str rb
      subst ey
      refine ⟨S z, S a, rfl, rfl, ?_⟩
      rw [find_spot]
      exact p.at eg (.inl (.int _))
    · exact p.elim) ho he hs hbase hline
end
/-! ### replace of written texts: a token is out -/
theorem PET.weak {X : Cx} {e : Expr} {t t' : TE} (h : L2.PET X e t) (w : ∀ σ H Q, t' σ H Q → t σ H Q) : L2.PET X e t' := fun pins s σ H Q h0 I q => h pins s σ H Q h0 I (w σ H Q q)
theorem PST.weak {X : Cx} {st : Stmt} {t t' : TS} (h : L2.PST X st t) (w : ∀ D σ H, t' D σ H → t D σ H) : L2.PST X st t' := fun pins s σ H D h0 I q => h pins s σ H D h0 I (w D σ H q)
theorem PSsT.weak {X : Cx} {st : List Stmt} {t t' : TS} (h : L2.PSsT X st t) (w : ∀ D σ H, t' D σ H → t D σ H) : L2.PSsT X st t' := fun pins s σ H D h0 I q => h pins s σ H D h0 I (w D σ H q)
/-- leftmost first, none over another -/
def rpl (y z l : List Nat) : List Nat := StrLaws.replL y z l
theorem replace_S (l y z : List Nat) (hy : y ≠ []) : Txt.replace (S l) (S y) (S z) = S (rpl y z l) := by
  rw [← S_of (Txt.replace (S l) (S y) (S z))]
  congr 1
  rw [StrLaws.replace_list, S_cps, S_cps, S_cps]
  · rfl
  · rw [S_len]
    cases y with
    | nil => exact absurd rfl hy
    | cons => simp
def fRepl (y z : List Nat) : D → Option D
  | .str l => if l.length + (l.length + 1) * z.length ≤ 1000000 ∧ y ≠ [] then some (.str (rpl y z l)) else none
  | _ => none
def dRepl (y z : List Nat) (de : DE) : DE := dOp1 (fRepl y z) de
section
variable {X : Cx} {W : WX} {e o : Expr} {st : Stmt} {rest : List Stmt} {pos apos c0 c1 : Pos} {y z : List Nat} {yS zS : Str} {j k : Nat}
theorem repl_lift {de : DE} {σ : L2.St} {H : Hp} {Q : VK} (h : liftE X.K W (dRepl y z de) σ H Q) : CwR.tReplC (liftE X.K W de) (S y) (S z) σ H Q := by
  obtain ⟨H0, G, δ, eg, s, p⟩ := h
  refine at_bind eg s p fun G1 H1 d x g1 s1 ra p1 => ?_
  have p2 : PO X.K G1 H1 (fRepl y z d) Q := PO.of p1
  cases d with
  | str l =>
    have ex := brep_str ra
    subst ex
    have p3 : PO X.K G1 H1 (if l.length + (l.length + 1) * z.length ≤ 1000000 ∧ y ≠ [] then some (D.str (rpl y z l)) else none) Q := p2
    split at p3
    · rename_i q
      refine ⟨S l, rfl, ?_, ?_⟩
      · rw [S_len, S_len]; have := q.1; omega
      · rw [replace_S l y z q.2]
        exact p3.at g1.i (.inl (.str _))
    · exact p3.elim
  | _ => exact p2.elim
theorem e_repl {de : DE} (ho : PE X o (liftE X.K W de)) (ey : yS = S y) (ez : zS = S z) (hyz : (yS == zS) = false := by decide)
    (hst : starEach [.Constant (.str yS) j c0, .Constant (.str zS) k c1] X.env = [(false, eval (.Constant (.str yS) j c0) X.env), (false, eval (.Constant (.str zS) k c1) X.env)] := by rfl)
    (hbase : attributeBase o "replace" X.env (eval o X.env) = eval o X.env := by rfl) (hline : (apos.endLine == pos.line) = true := by rfl) :
    L2.PET X (.Call (.Attribute o "replace" apos) [.Constant (.str yS) j c0, .Constant (.str zS) k c1] [] pos) (liftE X.K W (dRepl y z de)) := by
  subst ey ez
  exact Dl.PET.weak (CwR.pet_replC ho hyz hst hbase hline) fun _ _ _ h => repl_lift h
theorem t_one {a : DS} (h : L2.PST X st (liftS X.K W a)) : L2.PSsT X [st] (liftS X.K W a) := Dl.PSsT.weak (psst_cons h (L2.PSsT.of pss_nil)) fun D σ H h => h
theorem t_cons {a b : DS} (h1 : L2.PST X st (liftS X.K W a)) (h2 : L2.PSsT X rest (liftS X.K W b)) : L2.PSsT X (st :: rest) (liftS X.K W (dSeq a b)) := Dl.PSsT.weak (psst_cons h1 h2) fun D σ H h => by
  obtain ⟨H0, G0, G, δ, g, s, p⟩ := h
  refine ⟨H0, G0, G, δ, g, s, ?_⟩
  have p' : PSo X.K W D G0 H0 G (match a δ with | .nx δ' => b δ' | o => o) := p
  cases q : a δ with
  | nx δ' =>
    rw [q] at p'
    exact fun σ' G' H' e' g' s' => ⟨H0, G0, G', δ', g', s', PSo.mono p' e'⟩
  | ret d => rw [q] at p'; exact p'
  | brk δ' => rw [q] at p'; exact p'
  | cont δ' => rw [q] at p'; exact p'
  | exc c δ' => rw [q] at p'; exact p'
  | bad => rw [q] at p'; exact p'
end
end Dl
set_option Elab.async false
set_option linter.all false
set_option maxRecDepth 100000
set_option maxHeartbeats 4000000
/-! Dq: the same rules where it is known that at least m tokens are out. -/
namespace Dl
open PySem PySem.Spec PyProof.Rows L2
/-- go on from a state behind, the tokens counted -/
theorem thnq {α : Type} {t : Sem α} {Q Q' : α → Shared → Prop} {M : Model} {A : Around} {E : Value → Shared → Prop} {s : Shared} {m : Nat} (hm : m ≤ s.toks) (h : wpAny M A t Q E s) (hQ : ∀ a s', m ≤ s'.toks → Q a s' → Q' a s') : wpAny M A t Q' E s :=
  wpAny_mono (wpAny_toks_of hm h) (fun _ _ z => hQ _ _ z.1 z.2) fun _ _ z => z.2
structure QE (m : Nat) (X : Cx) (e : Expr) (t : TE) : Prop where
  run : ∀ (pins : List (Addr × Obj)) (s : Shared) (σ : L2.St) (H : Hp) (Q : VK), m ≤ s.toks → Inv X pins σ H s → t σ H Q → wpAny (model X.prog X.w) X.A (eval e X.env) (EP X pins σ Q) X.xe s
structure QT (m : Nat) (X : Cx) (e : Expr) (t : TT) : Prop where
  run : ∀ (pins : List (Addr × Obj)) (s : Shared) (σ : L2.St) (H : Hp) (Q : Bool → Hp → Prop), m ≤ s.toks → Inv X pins σ H s → t σ H Q → wpAny (model X.prog X.w) X.A (isTrue e X.env (eval e X.env)) (TP X pins σ Q) X.xe s
structure QW (m : Nat) (X : Cx) (e : Expr) (t : TT) : Prop where
  run : ∀ (whole : Sem Value) (pins : List (Addr × Obj)) (s : Shared) (σ : L2.St) (H : Hp) (Q : Bool → Hp → Prop), m ≤ s.toks → Inv X pins σ H s → t σ H Q → wpAny (model X.prog X.w) X.A (isTrue e X.env whole) (TP X pins σ Q) X.xe s
structure QA (m : Nat) (X : Cx) (es : List Expr) (t : TA) : Prop where
  run : ∀ (pos : Pos) (pins : List (Addr × Obj)) (s : Shared) (σ : L2.St) (H : Hp) (Q : List V → Hp → Prop), m ≤ s.toks → Inv X pins σ H s → t σ H Q → wpAny (model X.prog X.w) X.A (spliced (backTo pos (starEach es X.env))) (AP X pins σ Q) X.xe s
structure QS (m : Nat) (X : Cx) (st : Stmt) (t : TS) : Prop where
  run : ∀ (pins : List (Addr × Obj)) (s : Shared) (σ : L2.St) (H : Hp) (D : Ends), m ≤ s.toks → Inv X pins σ H s → t D σ H → wpAny (model X.prog X.w) X.A (exec st X.env) (SP X pins D) X.xe s
structure QSs (m : Nat) (X : Cx) (st : List Stmt) (t : TS) : Prop where
  run : ∀ (pins : List (Addr × Obj)) (s : Shared) (σ : L2.St) (H : Hp) (D : Ends), m ≤ s.toks → Inv X pins σ H s → t D σ H → wpAny (model X.prog X.w) X.A (execs st X.env) (SP X pins D) X.xe s
section
variable {m : Nat} {X : Cx} {W : WX} {e a b c : Expr} {es : List Expr} {pos : Pos}
theorem q_of {t : TE} (h : PE X e t) : QE m X e t := ⟨fun pins s σ H Q _ I q => h.run pins s σ H Q I q⟩
theorem qt_of {t : TT} (h : PT X e t) : QT m X e t := ⟨fun pins s σ H Q _ I q => h.run pins s σ H Q I q⟩
theorem qw_of {t : TT} (h : PW X e t) : QW m X e t := ⟨fun wh pins s σ H Q _ I q => h.run wh pins s σ H Q I q⟩
theorem qa_of {t : TA} (h : PA X es t) : QA m X es t := ⟨fun p pins s σ H Q _ I q => h.run p pins s σ H Q I q⟩
theorem qs_of {st : Stmt} {t : TS} (h : PS X st t) : QS m X st t := ⟨fun pins s σ H D _ I q => h.run pins s σ H D I q⟩
theorem qss_of {st : List Stmt} {t : TS} (h : PSs X st t) : QSs m X st t := ⟨fun pins s σ H D _ I q => h.run pins s σ H D I q⟩
/-- from the layer's rules where one token is out -/
theorem q_ofT {t : TE} (h : L2.PET X e t) : QE (m + 1) X e t := ⟨fun pins s σ H Q hm I q => h pins s σ H Q (by omega) I q⟩
theorem QE.weak {t t' : TE} (h : QE m X e t) (w : ∀ σ H Q, t' σ H Q → t σ H Q) : QE m X e t' := ⟨fun pins s σ H Q hm I q => h.run pins s σ H Q hm I (w σ H Q q)⟩
theorem QT.weak {t t' : TT} (h : QT m X e t) (w : ∀ σ H Q, t' σ H Q → t σ H Q) : QT m X e t' := ⟨fun pins s σ H Q hm I q => h.run pins s σ H Q hm I (w σ H Q q)⟩
theorem QW.weak {t t' : TT} (h : QW m X e t) (w : ∀ σ H Q, t' σ H Q → t σ H Q) : QW m X e t' := ⟨fun wh pins s σ H Q hm I q => h.run wh pins s σ H Q hm I (w σ H Q q)⟩
theorem QA.weak {t t' : TA} (h : QA m X es t) (w : ∀ σ H Q, t' σ H Q → t σ H Q) : QA m X es t' := ⟨fun p pins s σ H Q hm I q => h.run p pins s σ H Q hm I (w σ H Q q)⟩
theorem QS.weak {st : Stmt} {t t' : TS} (h : QS m X st t) (w : ∀ D σ H, t' D σ H → t D σ H) : QS m X st t' := ⟨fun pins s σ H D hm I q => h.run pins s σ H D hm I (w D σ H q)⟩
theorem QSs.weak {st : List Stmt} {t t' : TS} (h : QSs m X st t) (w : ∀ D σ H, t' D σ H → t D σ H) : QSs m X st t' := ⟨fun pins s σ H D hm I q => h.run pins s σ H D hm I (w D σ H q)⟩
/-- two operands, one after the other -/
theorem two {ta tb : TE} (ha : QE m X a ta) (hb : QE m X b tb) {pins : List (Addr × Obj)} {s : Shared} {σ : L2.St} {H : Hp} {r : V → V → Hp → Prop} (hm : m ≤ s.toks) (I : Inv X pins σ H s) (h : ta σ H fun x H1 => tb σ H1 fun y H2 => r x y H2) {Q : Value → Shared → Prop} {f : Value → Value → Sem Value}
    (hf : ∀ v u s2 x y H2, Inv X pins σ H2 s2 → RelV x v → RelV y u → r x y H2 → wpAny (model X.prog X.w) X.A (f v u) Q X.xe s2) :
    wpAny (model X.prog X.w) X.A (eval a X.env) (fun v s1 => wpAny (model X.prog X.w) X.A (eval b X.env) (fun u s2 => wpAny (model X.prog X.w) X.A (f v u) Q X.xe s2) X.xe s1) X.xe s :=
  thnq hm (ha.run pins s σ H _ hm I h) fun v s1 m1 ⟨x, H1, I1, r1, q1⟩ => thn (hb.run pins s1 σ H1 _ m1 I1 q1) fun u s2 ⟨y, H2, I2, r2, q2⟩ => hf v u s2 x y H2 I2 r1 r2 q2
theorem q_op2 {op : Operator} {f : D → D → Option D} {da db : DE} (ho : OpR X (binaryOp op) (r2 X.K f)) (ha : QE m X a (liftE X.K W da)) (hb : QE m X b (liftE X.K W db)) : QE m X (.BinOp a op b pos) (liftE X.K W (dOp2 f da db)) :=
  ⟨fun pins s σ H Q hm I h => wpAny_BinOp (two ha hb hm I (tOp_lift h) fun v u s2 x y H2 I2 rx ry q => ho pins s2 σ H2 x y v u Q I2 rx ry q)⟩
theorem q_cmp {op : CmpOp} {f : D → D → Option D} {da db : DE} (ho : OpR X (compareOp op) (r2 X.K f)) (ha : QE m X a (liftE X.K W da)) (hb : QE m X b (liftE X.K W db)) (hm : behindInMarks op b = false := by rfl) : QE m X (.Compare a [op] [b] pos) (liftE X.K W (dOp2 f da db)) :=
  ⟨fun pins s σ H Q hk I h => wpAny_Compare1 (two ha hb hk I (tOp_lift h) fun v u s2 x y H2 I2 rx ry q => ho pins s2 σ H2 x y v u Q I2 rx ry q) hm⟩
theorem q_ix {da db : DE} (ha : QE m X a (liftE X.K W da)) (hb : QE m X b (liftE X.K W db)) (hs : PlainIx b := by exact fun _ _ => rfl) : QE m X (.Subscript a b pos) (liftE X.K W (dOp2 fIx da db)) :=
  ⟨fun pins s σ H Q hk I h => Subscript_ (two ha hb hk I (tOp_lift h) fun v u s2 x y H2 I2 rx ry q => ix_D a b pins s2 σ H2 x y v u Q I2 rx ry q (hs _ _))⟩
/-- an expression's answer, from its data reading -/
theorem q_ans {de : DE} {pins : List (Addr × Obj)} {s : Shared} {σ : L2.St} {H : Hp} {Q : VK} (ha : QE m X a (liftE X.K W de)) (hm : m ≤ s.toks) (I : Inv X pins σ H s) (h : liftE X.K W de σ H Q) : wpAny (model X.prog X.w) X.A (eval a X.env) (EP X pins σ Q) X.xe s := ha.run pins s σ H Q hm I h
theorem b_lift {dt : DT} {de : DE} {σ : L2.St} {H : Hp} {Q : Bool → Hp → Prop} (e : dt = dB de) (h : liftT X.K W dt σ H Q) : liftE X.K W de σ H fun x H' => ∃ k, x = .bl k ∧ Q k H' := by
  subst e
  obtain ⟨H0, G, δ, eg, s, p⟩ := h
  refine at_bind eg s p fun G1 H1 d x g1 s1 ra p1 => ?_
  cases d with
  | bl k => exact ⟨k, brep_bl ra, p1 k G1 H1 (Grow.refl g1.i) rfl⟩
  | _ => exact p1.elim
theorem qt_val {da : DE} (ha : QE m X a (liftE X.K W da)) (he : ∀ whole, isTrue a X.env whole = (do let v ← whole; standAt a.pos; holding [v] (truthy v)) := by intro _; rfl) : QT m X a (liftT X.K W (dB da)) :=
  ⟨fun pins s σ H Q hm I h => isTrue_plain (thn (ha.run pins s σ H _ hm I (b_lift rfl h)) fun v s1 ⟨x, H1, I1, r1, k, ex, q1⟩ => by
    subst ex
    cases r1
    exact wpAny_truthy_bool ⟨H1, I1, q1⟩) (he _)⟩
theorem qt_cmp {op : CmpOp} {f : D → D → Option D} {da db : DE} (ho : OpR X (compareOp op) (r2 X.K f)) (ha : QE m X a (liftE X.K W da)) (hb : QE m X b (liftE X.K W db)) (hm : behindInMarks op b = false := by rfl) : QT m X (.Compare a [op] [b] pos) (liftT X.K W (dB (dOp2 f da db))) :=
  ⟨fun pins s σ H Q hk I h => wpAny_isTrue_Compare1 (thnq hk (ha.run pins s σ H _ hk I (tOp_lift (b_lift rfl h))) fun v s1 k1 ⟨x, H1, I1, r1, q1⟩ => thn (hb.run pins s1 σ H1 _ k1 I1 q1) fun u s2 ⟨y, H2, I2, r2, q2⟩ =>
    thn (ho pins s2 σ H2 x y v u _ I2 r1 r2 q2) fun z s3 ⟨w', H3, I3, r3, k, ez, q3⟩ => by
      subst ez
      cases r3
      exact wpAny_truthy_bool ⟨H3, I3, q3⟩) hm⟩
theorem qt_not {da : DT} (ha : QT m X a (liftT X.K W da)) : QT m X (.UnaryOp .Not a pos) (liftT X.K W (dNotT da)) :=
  ⟨fun pins s σ H Q hk I h => isTrue_not (ha.run pins s σ H (fun k H1 => Q (!k) H1) hk I (by
    obtain ⟨H0, G, δ, e, sr, p⟩ := h
    refine at_bind e sr p fun G1 H1 x b g1 s1 rb p1 => ?_
    subst rb
    exact p1 (!x) G1 H1 (Grow.refl g1.i) rfl))⟩
theorem qt_w {t : TT} (h : QW m X e t) : QT m X e t := ⟨fun pins s σ H Q hm I q => h.run _ pins s σ H Q hm I q⟩
theorem qw_and1 {t : TT} (ha : QT m X a t) : QW m X (.BoolOp .And [a] pos) t := ⟨fun wh pins s σ H Q hm I h => isTrue_and (thn (ha.run pins s σ H Q hm I h) fun k s1 e => by
  cases k with
  | true => exact isTrue_and_nil e
  | false => exact e)⟩
theorem qw_or1 {t : TT} (ha : QT m X a t) : QW m X (.BoolOp .Or [a] pos) t := ⟨fun wh pins s σ H Q hm I h => isTrue_or (thn (ha.run pins s σ H Q hm I h) fun k s1 e => by
  cases k with
  | false => exact isTrue_or_nil e
  | true => exact e)⟩
theorem qw_and {rest : List Expr} {da db : DT} (ha : QT m X a (liftT X.K W da)) (hb : QW m X (.BoolOp .And (b :: rest) pos) (liftT X.K W db)) : QW m X (.BoolOp .And (a :: b :: rest) pos) (liftT X.K W (dAndT da db)) :=
  ⟨fun wh pins s σ H Q hm I h => isTrue_and (thnq hm (ha.run pins s σ H _ hm I (tAnd_lift h)) fun k s1 m1 ⟨H1, I1, q1⟩ => by
    cases k with
    | true => exact hb.run wh pins s1 σ H1 Q m1 I1 q1
    | false => exact ⟨H1, I1, q1⟩)⟩
theorem qw_or {rest : List Expr} {da db : DT} (ha : QT m X a (liftT X.K W da)) (hb : QW m X (.BoolOp .Or (b :: rest) pos) (liftT X.K W db)) : QW m X (.BoolOp .Or (a :: b :: rest) pos) (liftT X.K W (dOrT da db)) :=
  ⟨fun wh pins s σ H Q hm I h => isTrue_or (thnq hm (ha.run pins s σ H _ hm I (tOr_lift h)) fun k s1 m1 ⟨H1, I1, q1⟩ => by
    cases k with
    | true => exact ⟨H1, I1, q1⟩
    | false => exact hb.run wh pins s1 σ H1 Q m1 I1 q1)⟩
/-! ### arguments, calls -/
theorem qa_nil : QA m X [] (liftA X.K W dNil) := qa_of a_nil
theorem cons_lift {da : DE} {dr : DA} {σ : L2.St} {H : Hp} {Q : List V → Hp → Prop} (h : liftA X.K W (dCons da dr) σ H Q) : tCons (liftE X.K W da) (liftA X.K W dr) σ H Q := by
  obtain ⟨H0, G, δ, e, s, p⟩ := h
  refine at_bind e s p fun G1 H1 d x g1 s1 ra p1 => ?_
  refine at_bind g1.i s1 p1 fun G2 H2 ds xs g2 s2 rb p2 => ?_
  exact p2 (x :: xs) G2 H2 (Grow.refl g2.i) (.cons (ra.mono g2) rb)
theorem qa_cons {da : DE} {dr : DA} (ha : QE m X e (liftE X.K W da)) (hr : QA m X es (liftA X.K W dr)) (hs : starEach (e :: es) X.env = (false, eval e X.env) :: starEach es X.env := by rfl) : QA m X (e :: es) (liftA X.K W (dCons da dr)) :=
  ⟨fun p pins s σ H Q hm I h => by
    rw [hs]
    show wpAny _ _ (spliced ((false, eval e X.env) :: backTo p (starEach es X.env))) _ _ s
    exact Calls.spliced_cons (thnq hm (ha.run pins s σ H _ hm I (cons_lift h)) fun u s1 m1 ⟨x, H1, I1, r1, q1⟩ => thn (hr.run p pins s1 σ H1 _ m1 I1 q1) fun us s2 ⟨xs, H2, I2, r2, q2⟩ => ⟨x :: xs, H2, I2, .cons r1 r2, q2⟩)⟩
/-- a def's promise, where m tokens are out -/
structure FnQ (m : Nat) (P : Program) (w : World) (K : PySem.W.Frag) (mg : Str → Option Value) (base : Heap) (k : Nat) (f : Addr) (fd : FuncData) (ps : List Str) (sp : Sp) : Prop where
  len : ∀ vs H Q E, sp vs H Q E → vs.length = ps.length
  run : ∀ (A : Around) (outer : List Env) (s : Shared) (H : Hp) (args : Args) (us : List Value) (vs : List V) (Q : VK) (E : XK), m ≤ s.toks → Room k A → Env0 P w K mg base A outer s H → BindsTo s fd args (ps.zip us) → Vals vs us → sp vs H Q E →
    codeAny (model P w) A (.call (.ref f) args) (CR (L2.CX P w) outer P w H s Q E) s
theorem fnq_of {P : Program} {w : World} {K : PySem.W.Frag} {mg : Str → Option Value} {base : Heap} {k : Nat} {f : Addr} {fd : FuncData} {ps : List Str} {sp : Sp} (F : FnOk P w K mg base (L2.CX P w) k f fd ps sp) : FnQ m P w K mg base k f fd ps sp :=
  ⟨F.len, fun A outer s H args us vs Q E _ hr e0 hb r h => F.run A outer s H args us vs Q E hr e0 hb r h⟩
theorem q_call {x : Str} {k n : Nat} {f : Addr} {fd : FuncData} {ps : List Str} {g : List D → R D} {da : DA} {p : Pos} (F : FnQ m X.prog X.w X.K X.mg X.base k f fd ps (spM X.K n g)) (hr : Room k X.A) (tk : Takes X W) (hg : Gl X x) (hm : X.mg x = some (.ref f)) (hk : PySem.W.keepIn X.K (.ref f) = true)
    (hb : Binds X.K fd ps []) (ha : QA m X (e :: es) (liftA X.K W da)) (hdb : (x == ("__debug__" : Str)) = false := by decide) (he : starEach (e :: es) X.env = (false, eval e X.env) :: starEach es X.env := by rfl) (hpl : (backTo pos (starEach es X.env)).any (·.1) = false := by rfl) :
    QE m X (.Call (.Name x p) (e :: es) [] pos) (liftE X.K W (dCall n g da)) :=
  ⟨fun pins s σ H Q ht I h => wpAny_Call_Name_kw (ld_glob I hg hm (PySem.W.callWith_K (h₀ := X.base) I.ok.mod.kin hk (thnq ht (ha.run pos pins s σ H _ ht I (call_lift h)) fun us s1 m1 ⟨vs, H1, I1, r, q⟩ => ⟨I1.kIn, by
    have hl : us.length = ps.length := by rw [← r.length]; exact F.len _ _ _ _ q
    have b := hb s1 us I1.kIn (by rw [List.append_nil]; exact hl)
    rw [List.append_nil] at b
    refine wpAny_call (codeAny_mono (F.run X.A X.stack s1 H1 ⟨us, []⟩ us vs Q (WE W σ) m1 hr I1.env0 b r q) fun r' s' hq => ?_)
    cases r' with
    | error e' => exact passAt tk σ pins H1 s1 e' s' I1 hq
    | ok fl =>
      cases fl with
      | ret u => exact I1.after hq
      | next => exact False.elim hq
      | brk => exact False.elim hq
      | cont => exact False.elim hq⟩) he hpl) hdb)⟩
theorem q_blt {x : Str} {id : String} {f : List D → Option D} {da : DA} {p : Pos} (hc : CallR X (.builtin id) (rA X.K f)) (hg : Gl X x) (hm : X.mg x = none) (hv : bootBuiltins x = some (.builtin id)) (ha : QA m X (e :: es) (liftA X.K W da)) (hn : x ≠ "__name__" := by decide) (hdb : (x == ("__debug__" : Str)) = false := by decide)
    (he : starEach (e :: es) X.env = (false, eval e X.env) :: starEach es X.env := by rfl) (hpl : (backTo pos (starEach es X.env)).any (·.1) = false := by rfl) : QE m X (.Call (.Name x p) (e :: es) [] pos) (liftE X.K W (dOpA f da)) :=
  ⟨fun pins s σ H Q ht I h => wpAny_Call_Name_kw (ld_blt I hg hm hv (PyProof.Rows.callWith_builtin1 (thn (ha.run pos pins s σ H (fun vs H1 => rA X.K f vs H1 Q) ht I (by
    obtain ⟨H0, G, δ, e, sr, p⟩ := h
    exact at_bind e sr p fun G1 H1 ds xs g1 s1 ra p1 => ⟨G1, ds, g1.i, ra, PO.of p1⟩)) fun us s1 ⟨vs, H1, I1, r1, q1⟩ => hc pins s1 σ H1 vs us Q I1 r1 q1) he hpl) hn hdb)⟩
theorem q_m1 {id : String} {name : Str} {r : V → List V → Hp → VK → Prop} {f : List Nat → D → Option D} {dz de : DE} {o : Expr} {apos : Pos} (slot : Slot "str" name id) (ty : typeOf (.builtin id) = pure (.type "method_descriptor")) (rule : MtR X id r)
    (hf : ∀ (z : List Nat) (d : D) (y : V) (G H : Hp) (Q : VK), Ex G H → BRep X.K G H d y → PO X.K G H (f z d) Q → r (.str (S z)) [y] H Q) (ho : QE m X o (liftE X.K W dz)) (he : QE m X e (liftE X.K W de))
    (hs : starEach [e] X.env = [(false, eval e X.env)] := by rfl) (hbase : attributeBase o name X.env (eval o X.env) = eval o X.env := by rfl) (hline : (apos.endLine == pos.line) = true := by rfl) :
    QE m X (.Call (.Attribute o name apos) [e] [] pos) (liftE X.K W (dM1 f dz de)) :=
  ⟨fun pins s σ H Q hm I h => PySem.Call_method1 hbase hs hline (thnq hm (ho.run pins s σ H (fun x H1 => (∃ z, x = V.str (S z)) ∧ liftE X.K W de σ H1 fun y H2 => r x [y] H2 Q) hm I (by
    obtain ⟨H0, G, δ, eg, sr, p⟩ := h
    refine at_bind eg sr p fun G1 H1 d x g1 s1 ra p1 => ?_
    cases d with
    | str z =>
      have ex := brep_str ra
      subst ex
      exact ⟨⟨z, rfl⟩, at_bind g1.i s1 p1 fun G2 H2 d y g2 s2 rb p2 => hf z d y G2 H2 Q g2.i rb (PO.of p2)⟩
    | _ => exact p1.elim)) fun v s1 m1 ⟨x, H1, I1, r1, ⟨z, ex⟩, q1⟩ => by
      subst ex
      obtain ⟨t, ev⟩ := _root_.id r1
      subst ev
      refine ⟨"str", _, PySem.F.plainAttrs_str, slot, ty, typeIs_str _ _ _, (fun _ e => nomatch e), Calls.callWith_builtin rfl (Calls.evalArgs_plain (Calls.spliced_cons ?_))⟩
      exact thn (he.run pins s1 σ H1 _ m1 I1 q1) fun u s2 ⟨y, H2, I2, r2, q2⟩ => Calls.spliced_nil (rule pins s2 σ H2 _ [y] _ [u] Q I2 r1 (.cons r2 .nil) q2))⟩
end
end Dl
set_option Elab.async false
set_option linter.all false
set_option maxRecDepth 100000
set_option maxHeartbeats 4000000
/-! Dq2: statements, loops, defs where m tokens are out. -/
namespace Dl
open PySem PySem.Spec PyProof.Rows L2
section
variable {m : Nat} {X : Cx} {W : WX} {st : Stmt} {rest : List Stmt} {e : Expr} {pos : Pos} {body : List Stmt}
theorem seq_lift {a b : DS} {D : Ends} {σ : L2.St} {H : Hp} (h : liftS X.K W (dSeq a b) D σ H) : tSeq (liftS X.K W a) (liftS X.K W b) D σ H := by
  obtain ⟨H0, G0, G, δ, g, s, p⟩ := h
  refine ⟨H0, G0, G, δ, g, s, ?_⟩
  have p' : PSo X.K W D G0 H0 G (match a δ with | .nx δ' => b δ' | o => o) := p
  cases q : a δ with
  | nx δ' =>
    rw [q] at p'
    exact fun σ' G' H' e' g' s' => ⟨H0, G0, G', δ', g', s', PSo.mono p' e'⟩
  | ret d => rw [q] at p'; exact p'
  | brk δ' => rw [q] at p'; exact p'
  | cont δ' => rw [q] at p'; exact p'
  | exc c δ' => rw [q] at p'; exact p'
  | bad => rw [q] at p'; exact p'
theorem qb_cons {a b : DS} (h1 : QS m X st (liftS X.K W a)) (h2 : QSs m X rest (liftS X.K W b)) : QSs m X (st :: rest) (liftS X.K W (dSeq a b)) :=
  ⟨fun pins s σ H D hm I h => wpAny_execs_cons (thnq hm (h1.run pins s σ H { D with nx := liftS X.K W b D } hm I (seq_lift h)) fun f s1 m1 q => by
    cases f with
    | next =>
      obtain ⟨σ', H', I', q⟩ := q
      exact h2.run pins s1 σ' H' D m1 I' q
    | ret v => exact q
    | brk => exact q
    | cont => exact q)⟩
theorem qb_one {t : TS} (h1 : QS m X st t) : QSs m X [st] t :=
  ⟨fun pins s σ H D hm I h => wpAny_execs_cons (thn (h1.run pins s σ H D hm I h) fun f s1 q => by
    cases f with
    | next => exact wpAny_execs_nil q
    | ret v => exact q
    | brk => exact q
    | cont => exact q)⟩
theorem qs_set {i : Nat} {x : Str} {de : DE} {pos' : Pos} (hN : X.N.Nodup) (hi : X.N[i]? = some x) (hx : Loc X.env.scope x) (he : QE m X e (liftE X.K W de)) (hf : X.fn x = true ∨ X.env.scope.names.lookup x = some .local := by first | exact .inl rfl | exact .inr rfl) (hs : swapsWith e (some (.Name x pos')) pos.line X.env = pure false := by rfl) :
    QS m X (.Assign [.Name x pos'] e pos) (liftS X.K W (dSet i de)) :=
  ⟨fun pins s σ H D hm I h => wpAny_Assign_Name (thn (he.run pins s σ H (fun y H1 => D.nx (σ.set i (some y)) H1) hm I (by
    obtain ⟨H0, G0, G, δ, g, sr, p⟩ := h
    refine stm g sr p fun G1 H1 d y g1 g01 s1 r p1 => ?_
    unfold putS at p1
    by_cases q : isO d = true
    · rw [if_pos q] at p1; exact p1.elim
    · rw [if_neg q] at p1
      exact p1 _ G1 H1 (Ex.refl G1) g01 (s1.set_dat i (r.rep (by simpa using q))))) fun v s1 ⟨y, H1, I1, r1, q1⟩ => store_ok I1 hN hi hx r1 (fun s2 I2 => ⟨_, H1, I2, q1⟩) hf) hs⟩
theorem qs_ret {de : DE} (he : QE m X e (liftE X.K W de)) : QS m X (.Return (some e) pos) (liftS X.K W (dRet de)) :=
  ⟨fun pins s σ H D hm I h => wpAny_Return_some (thn (he.run pins s σ H D.rt hm I (by
    obtain ⟨H0, G0, G, δ, g, sr, p⟩ := h
    refine stm g sr p fun G1 H1 d x g1 g01 s1 r p1 => ?_
    unfold outR at p1
    by_cases q : isO d = true
    · rw [if_pos q] at p1; exact p1.elim
    · rw [if_neg q] at p1
      exact p1 x G1 H1 g01 (r.rep (by simpa using q)))) fun v s1 ⟨x, H1, I1, r1, q1⟩ => ⟨x, σ, H1, I1, r1, q1⟩)⟩
theorem qs_expr {de : DE} (he : QE m X e (liftE X.K W de)) (hs : swapsWith e none pos.line X.env = pure false := by rfl) : QS m X (.Expr e pos) (liftS X.K W (dDrop de)) :=
  ⟨fun pins s σ H D hm I h => wpAny_Expr_any (thn (he.run pins s σ H (fun _ H1 => D.nx σ H1) hm I (by
    obtain ⟨H0, G0, G, δ, g, sr, p⟩ := h
    exact stm g sr p fun G1 H1 d x g1 g01 s1 r p1 => p1 σ G1 H1 (Ex.refl G1) g01 s1)) fun v s1 ⟨x, H1, I1, r1, q1⟩ => ⟨σ, H1, I1, q1⟩) I.quiet hs⟩
theorem if_lift {dc : DT} {da db : DS} {D : Ends} {σ : L2.St} {H : Hp} (h : liftS X.K W (dIf dc da db) D σ H) : tIfS (liftT X.K W dc) (liftS X.K W da) (liftS X.K W db) D σ H := by
  obtain ⟨H0, G0, G, δ, g, s, p⟩ := h
  refine stm g s p fun G1 H1 d x g1 g01 s1 r p1 => ?_
  subst r
  cases d with
  | true => exact ⟨H0, G0, G1, δ, g01, s1, p1⟩
  | false => exact ⟨H0, G0, G1, δ, g01, s1, p1⟩
theorem qs_if {c : Expr} {a b : List Stmt} {dc : DT} {da db : DS} (hc : QT m X c (liftT X.K W dc)) (ha : QSs m X a (liftS X.K W da)) (hb : QSs m X b (liftS X.K W db)) : QS m X (.If c a b pos) (liftS X.K W (dIf dc da db)) :=
  ⟨fun pins s σ H D hm I h => wpAny_If (thnq hm (hc.run pins s σ H _ hm I (if_lift h)) fun d s1 m1 ⟨H1, I1, q1⟩ => by
    cases d with
    | true => exact ha.run pins s1 σ H1 D m1 I1 q1
    | false => exact hb.run pins s1 σ H1 D m1 I1 q1)⟩
theorem qs_frz (i : Nat) {a : DS} (h : QS m X st (liftS X.K W a)) : QS m X st (liftS X.K W (dFrz i a)) := QS.weak h fun D σ H h => by
  obtain ⟨H0, G0, G, δ, g, s, p⟩ := h
  obtain ⟨G', e1, e2, e3, s'⟩ := s.frz g.i i
  exact ⟨H0, G0, G', frz i δ, ⟨g.g.trans e1, e2, g.h, fun a h1 h2 => by rw [e3 a h2]; exact g.f a h1 h2⟩, s', p.mono e1⟩
/-- what a for asks, from its data reading -/
theorem for_lift {g : TG} {tg : D → DSt → Option DSt} {da : DA} {b : DS} (lg : LG X.K g tg) {D : Ends} {σ : L2.St} {H : Hp} (h : liftS X.K W (dFor da tg b) D σ H) : tFor (liftI X.K W da) g (liftS X.K W b) D σ H := by
  obtain ⟨H0, G0, G, δ, g0, s, p⟩ := h
  refine stm g0 s p fun G1 H1 xs J g1 g01 s1 yl p1 => ?_
  refine ⟨fun i m σ' H' => m = xs.length - i ∧ i ≤ xs.length ∧ ∃ (G' : Hp) (δ' : DSt), Ex G1 G' ∧ Grow G0 H0 G' H' ∧ SR X.K H0 G' H' σ' δ' ∧ PSo X.K W D G0 H0 G' (dForL tg b (xs.drop i) δ'),
    ⟨xs.length, by simp, Nat.zero_le _, G1, δ, Ex.refl G1, g01, s1, p1⟩, ?_⟩
  rintro i m σ' H' ⟨rfl, hi, G', δ', e', g', s', p'⟩
  obtain ⟨y1, y2⟩ := yl i G' H' e' g'.i
  by_cases hlt : i < xs.length
  · have hd : xs[i]? = some xs[i] := List.getElem?_eq_getElem hlt
    have hdr : xs.drop i = xs[i] :: xs.drop (i + 1) := List.drop_eq_getElem_cons hlt
    obtain ⟨hgo, hy⟩ := y1 _ hd
    rw [hdr] at p'
    refine .inr ⟨hgo, fun σ2 H2 => i + 1 ≤ xs.length ∧ ∃ (G2 : Hp) (δ2 : DSt), Ex G1 G2 ∧ Grow G0 H0 G2 H2 ∧ SR X.K H0 G2 H2 σ2 δ2 ∧ PSo X.K W D G0 H0 G2 (dForL tg b (xs.drop (i + 1)) δ2),
      fun σ2 H2 ⟨k1, k2⟩ => ⟨xs.length - (i + 1), by omega, rfl, k1, k2⟩, fun x H2 yy => ?_⟩
    obtain ⟨G2, gg, rr⟩ := hy x H2 yy
    have g02 := g'.trans gg
    have p2 := PSo.mono p' gg.g
    unfold dForL at p2
    cases q : tg xs[i] δ' with
    | none => rw [q] at p2; exact p2.elim
    | some δ1 =>
      rw [q] at p2
      dsimp only at p2
      refine lg _ x σ' H0 G2 H2 δ' δ1 _ gg.i (s'.grow gg) rr q fun σ3 s3 => ?_
      refine ⟨H0, G0, G2, δ1, g02, s3, ?_⟩
      cases q2 : b δ1 with
      | nx δ2 =>
        rw [q2] at p2
        exact fun σ4 G4 H4 e4 g4 s4 => ⟨by omega, G4, δ2, (e'.trans gg.g).trans e4, g4, s4, PSo.mono p2 e4⟩
      | cont δ2 =>
        rw [q2] at p2
        exact fun σ4 G4 H4 e4 g4 s4 => ⟨by omega, G4, δ2, (e'.trans gg.g).trans e4, g4, s4, PSo.mono p2 e4⟩
      | brk δ2 => rw [q2] at p2; exact p2
      | ret d => rw [q2] at p2; exact p2
      | exc c δ2 => rw [q2] at p2; exact p2
      | bad => rw [q2] at p2; exact p2
  · have e0 : xs.drop i = [] := List.drop_eq_nil_of_le (by omega)
    rw [e0] at p'
    exact .inl ⟨y2 (by omega), p' σ' G' H' (Ex.refl G') g' s'⟩
theorem qs_for {iter tgt : Expr} {g : TG} {tg : D → DSt → Option DSt} {da : DA} {b : DS} (hp : PassesOwn (model X.prog X.w) X.A X.env X.xe) (hc : X.calm = true) (hi : PI X tgt iter (liftI X.K W da)) (hg : PG X tgt g) (lg : LG X.K g tg)
    (hb : QSs m X body (liftS X.K W b)) (hs : ∀ x, foldedSetIterable iter X.env x = pure x := by intro _; rfl) : QS m X (.For tgt iter body [] pos) (liftS X.K W (dFor da tg b)) :=
  ⟨fun pins s σ H D hm I h => wpAny_For (thnq hm (hi.run pins s σ H _ I (for_lift lg h)) fun v s1 m1 h1 => thnq m1 h1 fun itv s2 m2 h2 => by
    obtain ⟨it, fp, tn, J, H2, ev, I2, T, st2, f2, Wd, ⟨k0, w0⟩, turn⟩ := h2
    subst ev
    have still : ∀ {H' : Hp}, (∀ b ∈ fp, H' b = none) → ∀ b ∈ fp, FpOk X pins H' b := fun hn b hb => ⟨hn b hb, (f2 b hb).2⟩
    refine codeAny_forLoop_any (fun n s' => m ≤ s'.toks ∧ ∃ i σ' H', Inv X pins σ' H' s' ∧ tn i s'.heap ∧ (∀ b ∈ fp, H' b = none) ∧ Wd i n σ' H') ?_ k0 ⟨m2, 0, σ, H2, I2, st2, fun b hb => (f2 b hb).1, w0⟩
    rintro n s3 ⟨m3, i, σ3, H3, I3, st3, fr3, w3⟩
    rcases turn i n σ3 H3 w3 with ⟨stop, qn⟩ | ⟨go, Nx, hNx, step⟩
    · refine wpAny_passesOwn hp (thn (T.done X rfl rfl rfl hc i pins s3 σ3 H3 X.xe I3 (still fr3) st3 stop) fun r s4 ⟨hr, I4⟩ => ?_)
      subst hr
      exact wpAny_execs_nil ⟨σ3, H3, I4, qn⟩
    · refine wpAny_passesOwn hp (thnq m3 (T.item X rfl rfl rfl hc i pins s3 σ3 H3 X.xe I3 (still fr3) st3 go) fun r s4 m4 ⟨u, hr, h4⟩ => ?_)
      subst hr
      refine wpAny_passesOwn hp (thnq m4 h4 fun _ s5 m5 ⟨x, H5, I5, r5, y5, st5, fr5⟩ => ?_)
      have J5 := I5.pinned (still fr5) (T.obj _ _ st5)
      refine wpAny_passesOwn hp (thnq m5 (hg.run _ s5 σ3 H5 x u _ J5 r5 (step x H5 y5)) fun _ s6 m6 ⟨σ6, H6, I6, q6⟩ => ?_)
      refine wpAny_passesOwn hp (thnq m6 (hb.run _ s6 σ6 H6 _ m6 I6 q6) fun f s7 m7 q7 => ?_)
      have back : ∀ {σ7 : L2.St} {H7 : Hp}, Inv X (pins ++ pinsAt fp s5.heap) σ7 H7 s7 → Nx σ7 H7 → ∃ k, k < n ∧ m ≤ s7.toks ∧ ∃ i σ' H', Inv X pins σ' H' s7 ∧ tn i s7.heap ∧ (∀ b ∈ fp, H' b = none) ∧ Wd i k σ' H' := fun {σ7 H7} I7 n7 => by
        obtain ⟨k', hk, w7⟩ := hNx σ7 H7 n7
        have pin7 : ∀ b ∈ fp, ∀ o, s5.heap.get? b = some o → s7.heap.get? b = some o ∧ H7 b = none := fun b hb o eo =>
          let z := I7.pin (b, o) (List.mem_append_right _ (List.mem_append_right _ (mem_pinsAt hb eo)))
          ⟨z.1, z.2.1⟩
        refine ⟨k', hk, m7, i + 1, σ7, H7, I7.unpinned, T.keep _ _ _ st5 fun b hb o eo => (pin7 b hb o eo).1, fun b hb => ?_, w7⟩
        obtain ⟨o, eo, _⟩ := T.obj _ _ st5 b hb
        exact (pin7 b hb o eo).2
      cases f with
      | next => obtain ⟨σ7, H7, I7, n7⟩ := q7; exact back I7 n7
      | cont => obtain ⟨σ7, H7, I7, n7⟩ := q7; exact back I7 n7
      | brk => obtain ⟨σ7, H7, I7, q7⟩ := q7; exact ⟨σ7, H7, I7.unpinned, q7⟩
      | ret v => obtain ⟨x7, σ7, H7, I7, r7, q7⟩ := q7; exact ⟨x7, σ7, H7, I7.unpinned, r7, q7⟩) hs⟩
theorem while_lift {dc : DT} {b : DS} {n : Nat} {D : Ends} {σ : L2.St} {H : Hp} (h : liftS X.K W (dWhile dc b n) D σ H) : tWhile (liftT X.K W dc) (liftS X.K W b) D σ H := by
  obtain ⟨H0, G0, G, δ, g0, s, p⟩ := h
  refine ⟨fun m σ' H' => ∃ (G' : Hp) (δ' : DSt), Grow G0 H0 G' H' ∧ SR X.K H0 G' H' σ' δ' ∧ PSo X.K W D G0 H0 G' (dWhile dc b m δ'), ⟨n, G, δ, g0, s, p⟩, ?_⟩
  rintro m σ' H' ⟨G', δ', g', s', p'⟩
  cases m with
  | zero => exact p'.elim
  | succ m =>
    refine stm g' s' p' fun G2 H2 k x g2 g02 s2 r p2 => ?_
    subst r
    cases k with
    | false => exact p2 σ' G2 H2 (Ex.refl G2) g02 s2
    | true =>
      refine ⟨fun σ3 H3 => ∃ (G3 : Hp) (δ3 : DSt), Grow G0 H0 G3 H3 ∧ SR X.K H0 G3 H3 σ3 δ3 ∧ PSo X.K W D G0 H0 G3 (dWhile dc b m δ3), fun σ3 H3 q => ⟨m, Nat.lt_succ_self m, q⟩, ?_⟩
      refine ⟨H0, G0, G2, δ', g02, s2, ?_⟩
      rw [if_pos rfl] at p2
      cases q2 : b δ' with
      | nx δ2 =>
        rw [q2] at p2
        exact fun σ4 G4 H4 e4 g4 s4 => ⟨G4, δ2, g4, s4, PSo.mono p2 e4⟩
      | cont δ2 =>
        rw [q2] at p2
        exact fun σ4 G4 H4 e4 g4 s4 => ⟨G4, δ2, g4, s4, PSo.mono p2 e4⟩
      | brk δ2 => rw [q2] at p2; exact p2
      | ret d => rw [q2] at p2; exact p2
      | exc c δ2 => rw [q2] at p2; exact p2
      | bad => rw [q2] at p2; exact p2
theorem qs_while {c : Expr} {dc : DT} {b : DS} (n : Nat) (hp : PassesOwn (model X.prog X.w) X.A X.env X.xe) (hc : QT m X c (liftT X.K W dc)) (hb : QSs m X body (liftS X.K W b)) : QS m X (.While c body [] pos) (liftS X.K W (dWhile dc b n)) :=
  ⟨fun pins s σ H D hm I h => by
    obtain ⟨Wd, ⟨k0, w0⟩, turn⟩ := while_lift h
    refine wpAny_While (codeAny_whileLoop (fun n s' => m ≤ s'.toks ∧ ∃ σ' H', Inv X pins σ' H' s' ∧ Wd n σ' H') ?_ k0 ⟨hm, σ, H, I, w0⟩)
    rintro n s1 ⟨m1, σ1, H1, I1, w1⟩
    refine wpAny_passesOwn hp (thnq m1 (hc.run pins s1 σ1 H1 _ m1 I1 (turn n σ1 H1 w1)) fun k s2 m2 ⟨H2, I2, q2⟩ => ?_)
    cases k with
    | false =>
      rw [if_neg Bool.false_ne_true]
      exact wpAny_execs_nil ⟨σ1, H2, I2, q2⟩
    | true =>
      obtain ⟨Nx, hNx, q2⟩ := q2
      rw [if_pos rfl]
      refine wpAny_passesOwn hp (thnq m2 (hb.run pins s2 σ1 H2 _ m2 I2 q2) fun f s3 m3 q3 => ?_)
      cases f with
      | next =>
        obtain ⟨σ3, H3, I3, n3⟩ := q3
        obtain ⟨k', hk, w3⟩ := hNx σ3 H3 n3
        exact ⟨k', hk, m3, σ3, H3, I3, w3⟩
      | cont =>
        obtain ⟨σ3, H3, I3, n3⟩ := q3
        obtain ⟨k', hk, w3⟩ := hNx σ3 H3 n3
        exact ⟨k', hk, m3, σ3, H3, I3, w3⟩
      | brk => exact q3
      | ret v => exact q3⟩
end
/-! ### a def by its body -/
theorem fn_liftQ {m : Nat} {P : Program} {w : World} {K : PySem.W.Frag} {mg : Str → Option Value} {base : Heap} {x qual : Str} {params : Arguments} {body : List Stmt} {scope : Scope} {dvs : List V} {kws : List (Str × V)} {f : Addr} {fd : FuncData} {N ps : List Str} {k : Nat} {b : DS}
    (F : FunD K x qual params body scope dvs kws f fd) (Sc : FnScope N ps scope)
    (h : ∀ (cdv : Value) (A : Around) (outer : List Env) (s : Shared) (H : Hp) (E : XK), Room k (A.deeper (envOfC qual scope s.heap.objs.size f cdv)) →
      QSs m (cxF P w K mg base N qual scope f cdv A outer s H E) body (liftS K (WF E) b)) : FnQ m P w K mg base (k + 1) f fd ps (spM K ps.length (runB N.length b)) := by
  refine ⟨fun vs H Q E h => spM_len h, fun A outer s H args us vs Q E hm hr e0 hb r hsp => ?_⟩
  obtain ⟨oc, od, dV, kV, doc, pm, an, cdv, ct, osl, rfl, lk, hcd, _, _⟩ := F.ex
  have hl : vs.length = ps.length := spM_len hsp
  have KX : K.In s.heap := e0.mod.kin.keeps fun b o z => (e0.bs b o z).1
  have hk : ∀ y ∈ ps.zip us, scope.names.lookup y.1 = some .local ∨ (scope.names.lookup y.1 = some .cell ∧ ((cellsFrom (s.heap.objs.size + 1) scope.names []).lookup y.1).isSome = true) := fun ⟨n, v⟩ hy =>
    (Sc.par n (List.of_mem_zip hy).1).imp id fun q => ⟨q, PySem.W.cellsFrom_some _ _ _ (.inl q)⟩
  refine codeAny_call_function hr.depth (KX _ _ lk) rfl Sc.co Sc.gen rfl (PySem.W.codeRec_of KX hcd) (hb _ _ _ _ ?_)
  refine wpAny_with_toks hm (wpAny_newFunctionEnv_cells Sc.kind hk fun env he s1 x1 m1 => ?_)
  subst he
  have I : Inv (cxF P w K mg base N qual scope f cdv A outer s H E) [] (L2.start N vs) H s1 := inv_start Sc hr.hd e0 hl r x1
  refine ⟨(e0.mod.nolimit.keeps fun b o z => (e0.bs b o z).1).keeps x1.toInCall.keep, codeAny_func ?_⟩
  have key : liftS K (WF E) b { nx := fun _ H' => Q .non H', rt := Q } (L2.start N vs) H := by
    obtain ⟨G, ds, eg, rr, hn, p⟩ := hsp
    refine ⟨H, G, G, _, Grow.refl eg, sr_start rr, ?_⟩
    unfold runB at p
    cases q : b (startD N.length ds) with
    | nx δ' => rw [q] at p; exact fun σ' G' H' z g sr => p .non G' H' g .non
    | ret d => rw [q] at p; exact p
    | exc c δ' => rw [q] at p; exact fun σ' G' H' cls dd z g sr r2 => p G' H' cls dd g r2
    | brk δ' => rw [q] at p; exact p.elim
    | cont δ' => rw [q] at p; exact p.elim
    | bad => rw [q] at p; exact p.elim
  refine wpAny_mono ((h cdv A outer s H E (hr.deeper _)).run [] s1 (L2.start N vs) H _ m1 I key) (fun fl s' hs => ?_) fun e' s' hs => hs
  have fin : ∀ {σ' : L2.St} {H' : Hp} {v : V} {u : Value}, Inv (cxF P w K mg base N qual scope f cdv A outer s H E) [] σ' H' s' → RelV v u → Q v H' → CE outer P w H s Q u s' :=
    fun J rv q => ⟨_, _, J.os, J.bare, J.base, J.hok, rv, q⟩
  cases fl with
  | ret u => obtain ⟨v, σ', H', J, rv, q⟩ := hs; exact fin J rv q
  | next => obtain ⟨σ', H', J, q⟩ := hs; exact fin (v := V.non) (u := Value.none) J rfl q
  | brk => obtain ⟨_, _, _, q⟩ := hs; exact False.elim q
  | cont => obtain ⟨_, _, _, q⟩ := hs; exact False.elim q
end Dl
set_option Elab.async false
set_option linter.all false
set_option maxRecDepth 100000
set_option maxHeartbeats 4000000
/-! Dt: the end of a law's row where it is known how many tokens the top has given out. -/
namespace PySem.W
open PySem PySem.Calls PyProof.Rows
/-- what is left to be shown of the law's call: m tokens are out -/
def WalkM (m : Nat) (q : Program) (loose : List Str) (XP : (Str → Option Value) → Heap → Prop) (YP : World → Heap → Prop) (r : RowW) (d : DefRec) (run : Value → List Value → Sem Value) : Prop :=
  ∀ (w : World) (s0 s1 : Shared) (mg mb : Str → Option Value), m ≤ s1.toks → Ground q loose r.records XP w s0 mg mb s1.heap → YP w s1.heap → ∀ (a : Addr) (o : Obj) (pm cd doc dV kV : Value), s1.heap.get? a = some o →
    o.data = .func { docDef d.name d.params d.body d.scope pm cd doc with defaults := dV, kwdefaults := kV } → s1.heap.CodeRec cd d.name → Dflts mg s1.heap d.params [] dV kV → mg d.name = some (.ref a) → s1.gens = #[] →
    ∀ (args : List WData) (vals : List Value) (as : List Addr), r.claim.pre args = true → WData.layableAll args = true → ReadsAllW r.records (classAt s0.heap) s1.heap vals args as → WellAll w.params s1.heap vals args → (∀ a ∈ as, (a == sysModules) = false) →
      wpAny (model r.prog w) callerA (run (.ref a) vals) (fun v s' => GoodWG r.claim (classAt s0.heap) (ExcName.means s0.heap) args s1 (.ok (.ret v)) s')
        (fun e s' => GoodWG r.claim (classAt s0.heap) (ExcName.means s0.heap) args s1 (.error e) s') s1
theorem holds_tok {m : Nat} {r : OpenRow} {q : Program} {loose : List Str} {Xt : Shared → Bool} {XP : (Str → Option Value) → Heap → Prop} {α : Type} {Yf : Shared → α} {Ya : World → α} {YP : World → Heap → Prop} {d : DefRec} {N : Nat}
    (left : LeftO r.prog q loose Xt Yf Ya N) (hT : ∀ w s, Yf s = Ya w → m ≤ s.toks) (hY : ∀ w s, Yf s = Ya w → YP w s.heap) (hYk : ∀ w h h', YP w h → (∀ b o, h.get? b = some o → h'.get? b = some o) → YP w h')
    (hX : ∀ s, Xt s = true → XP (s.heap.nsMap mainGlobals) s.heap) (hXk : ∀ mg h h', XP mg h → (∀ b o, h.get? b = some o → h'.get? b = some o) → XP mg h')
    (hdef : defOf q r.name = some (d, [])) (hp : r.prog.theDef r.name = some (d.params, d.body, d.scope)) (hk : kwWritten? d.params.kwonlyargs d.params.kw_defaults = some []) (hRf : ∀ s, Xt s = true → RecFacts r.records s.heap) (hwr : (!r.writes || r.records.isEmpty) = true)
    (k1 : r.wellSaid = true) (ok : (chainsOk q && opensWell r.prog && (frees r.toRowW && r.within.isEmpty)) = true) (hb : r.prog.bare) (hw : r.toRowW.promised)
    (call : WalkM m q loose XP YP r.toRowW d fun f vs => PySem.call f vs) : r.Holds := by
  obtain ⟨okA, okB⟩ := Bool.and_eq_true_iff.mp ok
  obtain ⟨hch, o1⟩ := Bool.and_eq_true_iff.mp okA
  obtain ⟨okC, okD⟩ := Bool.and_eq_true_iff.mp okB
  obtain ⟨hsame, hu, ha, hap, hmk⟩ := frees_parts okC
  have both := fun w => left.behind (XP := fun mg h => XP mg h ∧ RecFacts r.toRowW.records h) (fun s hs => ⟨hX s hs, hRf s hs⟩) hch w
  refine ⟨k1, hw, ⟨⟨hb, o1, by show r.toRowW.makers.map _ = []; rw [hmk]; rfl⟩, hw.witness, fun w => ⟨(both w).1, fun s' hs' => ?_⟩⟩⟩
  obtain ⟨sf, hf, hg0, s, hTop, hz, hgz, hg, GB, y⟩ := (both w).2 s' hs'
  have G0 : Ground q loose [] XP w s (s.heap.nsMap mainGlobals) (s.heap.nsMap builtinsNs) s.heap := ⟨GB.T, GB.B, GB.D, GB.TE, GB.TD, GB.W, GB.X.1, GB.cls, GB.has, GB.apart, GB.once, GB.K⟩
  have RF := GB.X.2
  have hgens : s.gens = #[] := Array.eq_empty_of_size_eq_zero (beq_iff_eq.mp hgz)
  refine ⟨sf, hf, hg0, s, hTop, fun n hn => ?_, RF.1, RF.2.1, ?_⟩
  · obtain rfl : n = r.name := by split at hn <;> simp_all
    exact pinned_of_view hg G0 hdef hp hk
  · have G := RF.ground G0
    refine ClaimW.callFrom_of_specG (c := r.toRowW.claim) hz hgens fun args hpre hlay ord hord => ?_
    obtain ⟨⟨vs, s1⟩, hl⟩ := Option.isSome_iff_exists.mp (layAllW_isSome (P := w.params) (ord := ord) G.has args r.toRowW.args s (pre_splitW hpre).1)
    have kp := layAllW_keeps _ _ _ hl
    have al := layAllW_rest _ _ _ hl
    have tk : s.toks ≤ s1.toks := (layAllW_grows args s (vs, s1) hl).toks
    obtain ⟨as, hrd, hin, hold⟩ := reads_layAllW hord _ _ _ hl hlay s1.heap (fun _ _ e => e)
    have L : Laid r.toRowW.records w s s1 args vs as := ⟨⟨ord, hord, hl⟩, hrd, hin, hold, kp, al.1.trans hgens, al.2.2.1⟩
    have G1 := G.keeps hXk kp
    obtain ⟨a, o, pm, cd, doc, dV, kV, h1, h2, h3, h4, h5⟩ := G1.fn hdef
    have h := call w s s1 _ _ (Nat.le_trans (hT w s y) tk) G1 (hYk _ _ _ (hY w s y) kp) a o pm cd doc dV kV h2 h3 h4 h5 (defOf_name hdef ▸ h1) L.gens args vs as hpre hlay L.reads L.well (L.low G.low)
    have hi := ident_freeW hu ha hap
    have hwi : r.toRowW.claim.within = [] := List.isEmpty_iff.mp okD
    refine ⟨vs, s1, hl, wpAny_bind (wpAny_nsGet G1.T.g ?_)⟩
    rw [h1]
    refine wpAny_bind (wpAny_mono h (fun v s' g => wpAny_pure ?_) fun e s' g => ?_)
    · have z := g.laid (c := r.toRowW.claim) hsame hwi hi L
      exact ⟨_, rfl, z.1, z.2.1, z.2.2, fun qq => ⟨namesKept_of hTop hg r.keeps kp g.2.1.old, noTable hwr qq⟩⟩
    · have z := g.laid (c := r.toRowW.claim) hsame hwi hi L
      exact ⟨z.1, z.2.1, z.2.2, fun qq => ⟨namesKept_of hTop hg r.keeps kp g.2.1.old, noTable hwr qq⟩⟩
end PySem.W
namespace HandSHeadRun
open PySem PySem.W PySem.Calls PyProof.Rows
/-- the head by one run of the top, the tokens counted by the Hook -/
theorem head_tok {m : Nat} {r : OpenRow} {q : Program} {H : Hook} {ob : SharedT → H.α} {M : Nat} {loose : List PySem.Str} {d : DefRec} (ho : ∀ s : SharedT, ob s = H.obs s.abs) (hT : ∀ w s, H.obs s = H.val w → m ≤ s.toks)
    (e : opening r.prog = plainProg r.prog.main.scope.names) (f : ∀ s, fenceModules? r.prog s = some s) (run : ∀ w, RunEq r q H ob M loose w)
    (hdef : defOf q r.name = some (d, [])) (hp : r.prog.theDef r.name = some (d.params, d.body, d.scope)) (hk : kwWritten? d.params.kwonlyargs d.params.kw_defaults = some [])
    (hwr : (!r.writes || r.records.isEmpty) = true) (k1 : r.wellSaid = true) (ok : (chainsOk q && opensWell r.prog && (frees r.toRowW && r.within.isEmpty)) = true) (hb : r.prog.bare) (hw : r.toRowW.promised)
    (call : WalkM m q loose (XL q []) H.says r.toRowW d fun f vs => PySem.call f vs) : r.Holds := by
  have eo : ob = fun s => H.obs s.abs := funext ho
  have left : LeftO r.prog q loose (fun s => xlAt q [] s && recOk r.toRowW.records s) H.obs H.val (M + 600) true :=
    left_one (M := M) e (Nat.ble_eq_true_of_le (by omega)) f (Nat.ble_eq_true_of_le (by omega)) fun w os => by
      have z := run w os
      rw [eo] at z
      simpa only [endQ_eq, seenQ_eq] using z
  exact holds_tok left hT H.of H.keeps (fun s z => xl_of s (Bool.and_eq_true_iff.mp z).1) XL.keeps hdef hp hk (fun s z => recFacts_of (Bool.and_eq_true_iff.mp z).2) hwr k1 ok hb hw call
end HandSHeadRun
namespace Dl
open PySem PySem.Spec PyProof.Rows L2
/-- the law's def is called where the top has left things; m tokens are out -/
theorem law_callQ {m : Nat} {P : Program} {w : World} {K : PySem.W.Frag} {mg mb : Str → Option Value} {k : Nat} {fa a : Addr} {fd : FuncData} {x : Str} {sp : Sp} {s1 : Shared} {vs : List Value} {ns : List Int} (hm : m ≤ s1.toks)
    (KX : K.In s1.heap) (hns : s1.heap.Ns mainGlobals mg) (hb : s1.heap.Ns builtinsNs mb) (hbb : ∀ x : Str, x ≠ "__name__" → mb x = bootBuiltins x) (hlim : s1.heap.NoLimit) (hg : s1.gens = #[])
    (ha : s1.heap.get? a = some { cls := .type "list", data := .seq vs.toArray }) (hi : IntsAre vs ns) (hl : ns.length ≤ sizeLine) (hr : Room k callerA)
    (F : ∀ base : Heap, K.In base → base.Ns mainGlobals mg → FnQ m P w K mg base k fa fd [x] sp) (hbind : ∀ (s : Shared) (u : Value), BindsTo s fd ⟨[u], []⟩ [(x, u)])
    (hsp : ∀ H : Hp, Only H → SqL K H a (ns.map V.int) → sp [.ref a] H (fun v _ => v = .bl true) fun _ _ _ => False) :
    codeAny (model P w) callerA (.call (.ref fa) ⟨[.ref a], []⟩) (fun r s' => r = .ok (.ret (.bool true)) ∧ OldK s1.heap s'.heap ∧ s'.os = s1.os ∧ AllBare s'.gens) s1 := by
  have main : ∀ H : Hp, Only H → SqL K H a (ns.map V.int) → HOk P w H s1.heap → (∀ b, H b ≠ none → b = a) → (H a ≠ none → K.lookup a = none) →
      codeAny (model P w) callerA (.call (.ref fa) ⟨[.ref a], []⟩) (fun r s' => r = .ok (.ret (.bool true)) ∧ OldK s1.heap s'.heap ∧ s'.os = s1.os ∧ AllBare s'.gens) s1 := by
    intro H hO hS hok hA hK
    have only_a : ∀ {b : Addr} {u : HO}, H b = some u → b = a := fun {b u} q => hA b (by rw [q]; exact fun z => by cases z)
    have nsK : ∀ {b : Addr} {mm : Str → Option Value}, s1.heap.Ns b mm → (hidT s1.heap H).Ns b mm := fun {b mm} ⟨o, es, ep, z, d, r⟩ => by
      refine ⟨o, es, ep, hidT_get z ?_, d, r⟩
      cases q : H b with
      | none => rfl
      | some u =>
        have eb := only_a q
        subst eb
        rw [ha] at z; cases z; cases d
    have hKb : K.In (hidT s1.heap H) := fun b o z => hidT_get (KX b o z) (by
      cases q : H b with
      | none => rfl
      | some u =>
        have eb := only_a q
        subst eb
        rw [hK (by rw [q]; exact fun y => by cases y)] at z; cases z)
    obtain ⟨ml, l1, l2⟩ := hlim
    have hM : Mod K mg (hidT s1.heap H) := ⟨hKb, nsK hns, ⟨mb, nsK hb, hbb⟩, ⟨ml, nsK l1, l2⟩⟩
    have e0 : Env0 P w K mg (hidT s1.heap H) callerA [] s1 H := ⟨rfl, hM, fun b o z => of_hidT z, Nat.le_of_eq (hidT_size _ _), trivial, (fun b z => by cases z), hok, .of_eq hg⟩
    refine codeAny_mono ((F _ hKb (nsK hns)).run callerA [] s1 H ⟨[.ref a], []⟩ [.ref a] [.ref a] _ _ hm hr e0 (hbind s1 (.ref a)) (.cons rfl .nil) (hsp H hO hS)) fun r s' h => ?_
    cases r with
    | error z =>
      obtain ⟨_, _, _, _, _, _, _, _, _, _, _, _, no⟩ := h
      exact no.elim
    | ok fl =>
      cases fl with
      | ret u =>
        obtain ⟨v, H', os, bare, un, hok', rv, q⟩ := h
        have q' : v = .bl true := q
        subst q'
        have eu : u = Value.bool true := rv
        subst eu
        refine ⟨rfl, OldK.of_keep fun b o z => ?_, os, bare⟩
        rcases hO b with q | ⟨ob, xs, q⟩
        · exact un.keep b o z q (by intro y; cases y) (by intro y; cases y)
        · obtain ⟨z1, _⟩ := hok b _ q
          obtain ⟨z2, _⟩ := hok' b _ (un.frzs b ob _ q)
          rw [z] at z1; cases z1
          exact z2
      | next => exact False.elim h
      | brk => exact False.elim h
      | cont => exact False.elim h
  have rv := vals_ints hi
  cases hk : K.lookup a with
  | some o =>
    have z := KX a o hk
    rw [ha] at z
    cases z
    exact main (fun _ => none) (fun _ => .inl rfl) (.inr ⟨_, vs.toArray, _, hk, rfl, rfl, rfl, by rw [List.size_toArray, hi.length]; exact hl, by simpa using rv⟩) (fun b u z => by cases z) (fun b z => absurd rfl z) fun z => absurd rfl z
  | none =>
    have at_a : upd (fun _ => none) a (.frz { cls := .type "list", data := .seq vs.toArray } (.lst (ns.map V.int))) a = some (.frz { cls := .type "list", data := .seq vs.toArray } (.lst (ns.map V.int))) := upd_same
    refine main (upd (fun _ => none) a (.frz { cls := .type "list", data := .seq vs.toArray } (.lst (ns.map V.int)))) (fun b => ?_) (.inl (.inr ⟨_, at_a⟩)) (fun b u z => ?_) (fun b z => ?_) fun _ => hk
    · by_cases hb : b = a
      · subst hb; exact .inr ⟨_, _, at_a⟩
      · exact .inl (upd_ne hb)
    · by_cases hb : b = a
      · subst hb
        rw [at_a] at z
        cases z
        exact ⟨ha, by rw [List.length_map]; exact hl, vs, _, rv, ha⟩
      · rw [upd_ne hb] at z; cases z
    · by_cases hb : b = a
      · exact hb
      · exact absurd (upd_ne hb) z
theorem walk_ofQ {m : Nat} {l : PySem.W.OpenLaw} {n k : Nat} {q : Program} {loose : List Str} {XP : (Str → Option Value) → Heap → Prop} {YP : World → Heap → Prop} {d : DefRec} {x : Str}
    (hn : l.most = some n) (hn2 : n ≤ sizeLine) (hdf : d.params.defaults = []) (hr : Room k callerA)
    (F : ∀ (w : World) (mg : Str → Option Value) (fa : Addr) (h : Heap), YP w h → h.Ns mainGlobals mg → mg d.name = some (.ref fa) →
      ∃ (K : PySem.W.Frag) (fd : FuncData) (sp : Sp), K.In h ∧ (∀ (s : Shared) (u : Value), BindsTo s fd ⟨[u], []⟩ [(x, u)]) ∧
        (∀ (H : Hp) (a : Addr) (ns : List Int), ns.length ≤ n → Only H → SqL K H a (ns.map V.int) → sp [.ref a] H (fun v _ => v = .bl true) fun _ _ _ => False) ∧
        ∀ base : Heap, K.In base → base.Ns mainGlobals mg → FnQ m l.prog w K mg base k fa fd [x] sp) :
    PySem.W.WalkM m q loose XP YP l.row.toRowW d (fun f vs => PySem.call f vs) := by
  intro w s0 s1 mg mb hm G Y fa o pm cd doc dV kV ho hd hcd hD hmg hg args vals as hpre hlay hrd hwl hlo
  obtain rfl : dV = .none := PySem.W.Dflts.none hD hdf
  obtain rfl : kV = .none := PySem.W.Dflts.noKw hD
  obtain ⟨a, vs, ns, rfl, rfl, hobj, hints, hlen⟩ := Att.script_of hn hpre hwl
  obtain ⟨K, fd, sp, KX, hb, hsp, hF⟩ := F w mg fa _ Y G.T.g hmg
  refine PySem.W.enter_call (codeAny_mono (law_callQ hm KX G.T.g G.T.b G.T.builtins G.T.nolimit hg hobj hints (Nat.le_trans hlen hn2) hr hF hb fun H hO hS => hsp H a ns hlen hO hS) fun r s' hq => ?_)
  obtain ⟨rfl, h2, h3, h4⟩ := hq
  exact ⟨.inl ⟨.bool true, .bool true, [], rfl, fun _ => rfl, .bool true, Att.post_true l _, fun _ => ⟨List.Pairwise.nil, fun _ hm => (nomatch hm)⟩⟩, h2, h3, h4⟩
/-- a script, as data -/
theorem script_rep {K : PySem.W.Frag} {H : Hp} {a : Addr} {ns : List Int} (h : SqL K H a (ns.map V.int)) : Rep K H (.slst (ns.map .int)) (.ref a) := by
  refine .slst h ?_
  clear h
  induction ns with
  | nil => exact .nil
  | cons n ns ih => exact .cons (.int n) ih
theorem law_sp {K : PySem.W.Frag} {H : Hp} {a : Addr} {ns : List Int} {f : List D → R D} (h : SqL K H a (ns.map V.int)) (e : f [.slst (ns.map .int)] = .ok (.bl true)) : spM K 1 f [.ref a] H (fun v _ => v = .bl true) fun _ _ _ => False := by
  refine ⟨H, [.slst (ns.map .int)], Ex.refl H, .cons (script_rep h) .nil, rfl, ?_⟩
  rw [e]
  intro v G' H' _ r
  cases r
  rfl
end Dl
set_option Elab.async false
set_option linter.all false
set_option maxRecDepth 100000
set_option maxHeartbeats 4000000
/-! Dk: the module's dicts from texts to texts; replace of a module's text; a Hook that counts tokens. -/
namespace Dl
open PySem PySem.Spec PyProof.Rows L2
abbrev Tb := List (List Nat × List Nat)
/-- the entries are these, in order -/
def entB : Tb → List DictEntry → Bool
  | [], [] => true
  | (k, l) :: r, e :: es => (match e.key, e.val with
    | .str x _, .str y _ => decide (x = S k) && decide (y = S l)
    | _, _ => false) && entB r es
  | _, _ => false
def tabB (K : PySem.W.Frag) (x : Str) (tb : Tb) : Bool := match K.lookup (He.ga K x) with
  | some ⟨_, _, .dict es _, _⟩ => entB tb es.toList
  | _ => false
/-- x is the module's dict tb -/
structure KTab (K : PySem.W.Frag) (w : World) (mg : Str → Option Value) (x : Str) (tb : Tb) : Prop where
  mg_ : mg x = some (.ref (He.ga K x))
  dict : ∃ es n, KDict K w (He.ga K x) es n ∧ entB tb es.toList = true
theorem ktab_of {K : PySem.W.Frag} {w : World} {mg : Str → Option Value} {x : Str} {tb : Tb} (h1 : mg x = some (.ref (He.ga K x))) (h2 : ∃ es n, KDict K w (He.ga K x) es n) (h3 : tabB K x tb = true) : KTab K w mg x tb := by
  obtain ⟨es, n, D⟩ := h2
  refine ⟨h1, es, n, D, ?_⟩
  unfold tabB at h3
  rw [D.at_] at h3
  exact h3
def tbGet (tb : Tb) (k : List Nat) : Option (List Nat) := (tb.find? fun p => decide (p.1 = k)).map (·.2)
theorem ent_find {tb : Tb} {k : List Nat} : ∀ {es : List DictEntry}, entB tb es = true → (∀ l, tbGet tb k = some l → ∃ e t, es.find? (·.key.isStr (S k)) = some e ∧ e.val = .str (S l) t) ∧ (tbGet tb k = none → es.find? (·.key.isStr (S k)) = none ∧ es.any (·.refKey) = false) := by
  induction tb with
  | nil =>
    intro es h
    cases es with
    | nil => exact ⟨(fun l z => by cases z), fun _ => ⟨rfl, rfl⟩⟩
    | cons e es => cases h
  | cons p r ih =>
    intro es h
    obtain ⟨kk, ll⟩ := p
    cases es with
    | nil => cases h
    | cons e es =>
      obtain ⟨h1, h2⟩ := He.ba (show ((match e.key, e.val with
        | .str x _, .str y _ => decide (x = S kk) && decide (y = S ll)
        | _, _ => false) && entB r es) = true from h)
      obtain ⟨i1, i2⟩ := ih h2
      obtain ⟨hash, key, val⟩ := e
      dsimp only at h1
      split at h1
      · rename_i x t1 y t2
        obtain ⟨a, b⟩ := He.ba h1
        have ea := of_decide_eq_true a
        have eb := of_decide_eq_true b
        subst ea eb
        unfold tbGet
        by_cases q : kk = k
        · subst q
          rw [List.find?_cons_of_pos (by simp), List.find?_cons_of_pos (by show (S kk == S kk) = true; simp)]
          exact ⟨(fun l z => by cases z; exact ⟨_, _, rfl, rfl⟩), fun z => by cases z⟩
        · rw [List.find?_cons_of_neg (by simpa using q), List.find?_cons_of_neg (by
            show ¬ (S kk == S k) = true
            intro z
            exact q (S_inj (eq_of_beq z)))]
          refine ⟨i1, fun z => ?_⟩
          obtain ⟨j1, j2⟩ := i2 z
          refine ⟨j1, ?_⟩
          rw [List.any_cons, j2]; rfl
      · cases h1
theorem tab_in {K : PySem.W.Frag} {a : Addr} {w : World} {es : Array DictEntry} {n : Nat} (D : KDict K w a es n) {tb : Tb} (h : entB tb es.toList = true) (k : List Nat) :
    (∀ l, tbGet tb k = some l → ∃ t, PySem.W.nsIn K a (S k) = some (some (.str (S l) t))) ∧ (tbGet tb k = none → PySem.W.nsIn K a (S k) = some none) := by
  obtain ⟨i1, i2⟩ := ent_find (k := k) h
  unfold PySem.W.nsIn
  rw [D.at_]
  dsimp only
  refine ⟨fun l z => ?_, fun z => ?_⟩
  · obtain ⟨e, t, f, ev⟩ := i1 l z
    rw [f]
    exact ⟨t, by dsimp only; rw [ev]⟩
  · obtain ⟨j1, j2⟩ := i2 z
    rw [j1, j2]
    rfl
section
variable {X : Cx} {W : WX} {a : Expr} {pos p : Pos} {x : Str} {tb : Tb}
def fTabGet (tb : Tb) : D → Option D
  | .str k => (tbGet tb k).map .str
  | _ => none
def fTabIn (g : Bool → Bool) (tb : Tb) : D → Option D
  | .str k => some (.bl (g (tbGet tb k).isSome))
  | _ => none
/-- the dict's name, read -/
theorem kt_name (T : KTab X.K X.w X.mg x tb) (hg : Gl X x) (hd : (x == ("__debug__" : Str)) = false := by decide) : PE X (.Name x p) (tC (.ref (He.ga X.K x))) := pe_glob hg T.mg_ rfl hd
theorem l_tabIx {da : DE} (T : KTab X.K X.w X.mg x tb) (hg : Gl X x) (ha : PE X a (liftE X.K W da)) (hs : PlainIx a := by exact fun _ _ => rfl) (hd : (x == ("__debug__" : Str)) = false := by decide) : PE X (.Subscript (.Name x p) a pos) (liftE X.K W (dOp1 (fTabGet tb) da)) :=
  PE.weak (pe_ix ix_kdict (kt_name T hg hd) ha hs) fun σ H Q h => by
    obtain ⟨H0, G, δ, eg, s, q⟩ := h
    refine at_bind eg s q fun G1 H1 d y g1 s1 ra p1 => ?_
    have p2 : PO X.K G1 H1 (fTabGet tb d) Q := PO.of p1
    cases d with
    | str k =>
      have ey := brep_str ra
      subst ey
      obtain ⟨es, n, D, he⟩ := T.dict
      cases z : tbGet tb k with
      | none =>
        have p3 : PO X.K G1 H1 ((tbGet tb k).map .str) Q := p2
        rw [z] at p3
        exact p3.elim
      | some l =>
        obtain ⟨t, hn⟩ := (tab_in D he k).1 l z
        have p3 : PO X.K G1 H1 ((tbGet tb k).map .str) Q := p2
        rw [z] at p3
        exact ⟨_, _, .str (S l), rfl, rfl, ⟨es, n, _, D.at_, D.lit, hn, ⟨t, rfl⟩⟩, PO.at p3 g1.i (.inl (.str l))⟩
    | _ => exact p2.elim
theorem tabIn_lift {op : CmpOp} {g : Bool → Bool} {da : DE} (T : KTab X.K X.w X.mg x tb) {R1 : R2} (hR : ∀ (z : Str) (r : Option Value) (H : Hp) (Q : VK), PySem.W.nsIn X.K (He.ga X.K x) z = some r → Q (.bl (g r.isSome)) H → R1 (.str z) (.ref (He.ga X.K x)) H Q) {σ : L2.St} {H : Hp} {Q : VK} (h : liftE X.K W (dOp1 (fTabIn g tb) da) σ H Q) : tOp R1 (liftE X.K W da) (tC (.ref (He.ga X.K x))) σ H Q := by
  obtain ⟨H0, G, δ, eg, s, q⟩ := h
  refine at_bind eg s q fun G1 H1 d y g1 s1 ra p1 => ?_
  have p2 : PO X.K G1 H1 (fTabIn g tb d) Q := PO.of p1
  cases d with
  | str k =>
    have ey := brep_str ra
    subst ey
    obtain ⟨es, n, D, he⟩ := T.dict
    have p3 : PO X.K G1 H1 (some (.bl (g (tbGet tb k).isSome))) Q := p2
    cases z : tbGet tb k with
    | none =>
      rw [z] at p3
      exact hR _ _ _ _ ((tab_in D he k).2 z) (p3.at g1.i (.inl (.bl _)))
    | some l =>
      rw [z] at p3
      obtain ⟨t, hn⟩ := (tab_in D he k).1 l z
      exact hR _ _ _ _ hn (p3.at g1.i (.inl (.bl _)))
  | _ => exact p2.elim
theorem l_tabIn {da : DE} (T : KTab X.K X.w X.mg x tb) (hg : Gl X x) (ha : PE X a (liftE X.K W da)) (hm : behindInMarks .In (.Name x p) = false := by rfl) (hd : (x == ("__debug__" : Str)) = false := by decide) : PE X (.Compare a [.In] [.Name x p] pos) (liftE X.K W (dOp1 (fTabIn id tb) da)) := by
  obtain ⟨es, n, D, he⟩ := T.dict
  exact PE.weak (pe_cmpR (op_in_kd D) ha (kt_name T hg hd) hm) fun σ H Q h => tabIn_lift (op := .In) (g := id) T (fun z r H Q hn q => ⟨z, r, rfl, rfl, hn, q⟩) h
theorem t_tabIn {da : DE} (T : KTab X.K X.w X.mg x tb) (hg : Gl X x) (ha : PE X a (liftE X.K W da)) (hm : behindInMarks .In (.Name x p) = false := by rfl) (hd : (x == ("__debug__" : Str)) = false := by decide) : PT X (.Compare a [.In] [.Name x p] pos) (liftT X.K W (dB (dOp1 (fTabIn id tb) da))) := by
  obtain ⟨es, n, D, he⟩ := T.dict
  exact PT.weak (pt_cmpR (op_in_kd D) ha (kt_name T hg hd) hm) fun σ H Q h => tabIn_lift (op := .In) (g := id) T (fun z r H Q hn q => ⟨z, r, rfl, rfl, hn, q⟩) (b_lift rfl h)
end
/-! ### replace of a text of the module -/
section
variable {m : Nat} {X : Cx} {W : WX} {o : Expr} {pos apos c0 c1 : Pos} {x yS zS : Str} {y z : List Nat} {t : Tok} {k : Nat}
theorem q_repl {j : Nat} {de : DE} (ho : PE X o (liftE X.K W de)) (ey : yS = S y) (ez : zS = S z) (hm : 1 ≤ m) (hyz : (yS == zS) = false := by decide)
    (hst : starEach [.Constant (.str yS) j c0, .Constant (.str zS) k c1] X.env = [(false, eval (.Constant (.str yS) j c0) X.env), (false, eval (.Constant (.str zS) k c1) X.env)] := by rfl)
    (hbase : attributeBase o "replace" X.env (eval o X.env) = eval o X.env := by rfl) (hline : (apos.endLine == pos.line) = true := by rfl) :
    QE m X (.Call (.Attribute o "replace" apos) [.Constant (.str yS) j c0, .Constant (.str zS) k c1] [] pos) (liftE X.K W (dRepl y z de)) := by
  obtain ⟨n, rfl⟩ : ∃ n, m = n + 1 := ⟨m - 1, by omega⟩
  exact q_ofT (e_repl ho ey ez hyz hst hbase hline)
theorem q_replG {de : DE} (ho : QE m X o (liftE X.K W de)) (hg : Gl X x) (hx : X.mg x = some (.str yS t)) (t0 : t ≠ 0) (tm : t < m) (ey : yS = S y) (ez : zS = S z) (hyz : (yS == zS) = false := by decide) (hd : (x == ("__debug__" : Str)) = false := by decide)
    (hst : starEach [.Name x c0, .Constant (.str zS) k c1] X.env = [(false, eval (.Name x c0) X.env), (false, eval (.Constant (.str zS) k c1) X.env)] := by rfl)
    (hbase : attributeBase o "replace" X.env (eval o X.env) = eval o X.env := by rfl) (hline : (apos.endLine == pos.line) = true := by rfl) :
    QE m X (.Call (.Attribute o "replace" apos) [.Name x c0, .Constant (.str zS) k c1] [] pos) (liftE X.K W (dRepl y z de)) :=
  ⟨fun pins s σ H Q hm I h => by
    subst ey ez
    refine PySem.Call_method2 hbase hst hline (thnq hm (ho.run pins s σ H _ hm I (repl_lift h)) fun v s1 m1 ⟨v', H1, I1, r1, l, e1, hb, q⟩ => ?_)
    subst e1
    obtain ⟨tx, e2⟩ := r1
    subst e2
    refine ⟨"str", _, PySem.F.plainAttrs_str, PySem.F.slot_str_replace, PySem.F.type_str_replace, typeIs_str _ _ _, (fun _ e => nomatch e), Calls.callWith_builtin rfl (Calls.evalArgs_plain (Calls.spliced_cons ?_))⟩
    refine ld_glob I1 hg hx (Calls.spliced_cons (Calls.Constant_str (Calls.spliced_nil ?_))) hd
    have lt : t < s1.toks := Nat.lt_of_lt_of_le tm m1
    exact PySem.SC.replace t0 (Nat.ne_of_gt (Nat.lt_of_le_of_lt (Nat.zero_le _) lt)) (Nat.ne_of_lt lt) hyz hb fun t' k' => ⟨.str (Txt.replace l (S y) (S z)), H1, I1.tok k', ⟨t', rfl⟩, q⟩⟩
end
end Dl
/-! ### the Hook -/
namespace He
open PySem PySem.Spec PyProof.Rows L2
abbrev AlM : Type := AlT × Bool
/-- .. any further tests, and at least m tokens out -/
def hookM (n m : Nat) (fa : List Fa) (fn : List DefD) (ts : List Tab) (xs : List (PySem.W.Frag → Bool)) : PySem.W.Hook where
  α := AlM
  obs := fun s => (obsTG n fa fn ts s.heap.get?, (xs.all fun f => f (frG s.heap.get? (asD s.heap.get? n))) && Nat.ble m s.toks)
  val := fun w => (valT fn ts w, true)
  says := fun w h => ∃ K : PySem.W.Frag, K.In h ∧ SaysT fa fn ts w K ∧ (xs.all fun f => f K) = true
  of := fun _ _ e => ⟨_, frG_in, congrArg (fun z : AlM => z.1) e, (ba (congrArg (fun z : AlM => z.2) e)).1⟩
  keeps := fun _ _ _ ⟨K, hK, c⟩ k => ⟨K, PySem.W.Frag.In.keeps hK k, c⟩
theorem hookM_toks {n m : Nat} {fa : List Fa} {fn : List DefD} {ts : List Tab} {xs : List (PySem.W.Frag → Bool)} (w : World) (s : Shared) (e : (hookM n m fa fn ts xs).obs s = (hookM n m fa fn ts xs).val w) : m ≤ s.toks :=
  Nat.le_of_ble_eq_true (ba (congrArg (fun z : AlM => z.2) e)).2
def obM (n m : Nat) (fa : List Fa) (fn : List DefD) (ts : List Tab) (xs : List (PySem.W.Frag → Bool)) (s : PySem.W.SharedT) : AlM :=
  (obsTG n fa fn ts (HandSHeadRun.getT s), (xs.all fun f => f (frG (HandSHeadRun.getT s) (asD (HandSHeadRun.getT s) n))) && Nat.ble m s.abs.toks)
theorem obM_eq {n m : Nat} {fa : List Fa} {fn : List DefD} {ts : List Tab} {xs : List (PySem.W.Frag → Bool)} (s : PySem.W.SharedT) : obM n m fa fn ts xs s = (hookM n m fa fn ts xs).obs s.abs := by
  have e : HandSHeadRun.getT s = s.abs.heap.get? := funext (HandSHeadRun.getT_eq s)
  unfold obM
  rw [e]
  rfl
end He
set_option Elab.async false
set_option linter.all false
set_option maxRecDepth 100000
set_option maxHeartbeats 4000000
/-! Dm: more built-ins over data. -/
namespace Dl
open PySem PySem.Spec PyProof.Rows L2
def strI (i : Int) : List Nat := ((toString i : String) : Str).cps.toList
def fStr : List D → Option D
  | [.int i] => if i.natAbs < 1000000000000000000 then some (.str (strI i)) else none
  | _ => none
def fInt : List D → Option D
  | [.int i] => some (.int i)
  | [.bl b] => some (.int (if b then 1 else 0))
  | [.str l] => if l.length ≤ 600 then (PySem.intText? (S l)).map .int else none
  | _ => none
def fMin : List D → Option D
  | [.int i, .int j] => some (.int (if j < i then j else i))
  | _ => none
def fMax : List D → Option D
  | [.int i, .int j] => some (.int (if j > i then j else i))
  | _ => none
def fAbs : List D → Option D
  | [.int i] => some (.int (if i < 0 then -i else i))
  | _ => none
def fOrd : List D → Option D
  | [.str [c]] => some (.int (c : Nat))
  | _ => none
section
variable {X : Cx} {W : WX} {a b : Expr} {pos : Pos}
theorem cr_strD : CallR X (.type "str") (rA X.K fStr) := by
  intro pins s σ H xs us Q I r ⟨G, ds, eg, ra, p⟩
  unfold fStr at p
  split at p
  · rename_i i
    split at p
    · rename_i h
      obtain ⟨v, e1, rr⟩ := breps1 ra
      have e2 := brep_int rr
      subst e1 e2
      refine call_str_int pins s σ H _ us Q I r ⟨i, rfl, ?_, ?_⟩
      · have h2 : i.natAbs < 2 ^ 60 := Nat.lt_trans h (by decide)
        by_cases z : i.natAbs = 0
        · rw [z]; decide
        · have := (Nat.log2_lt z).mpr h2
          omega
      · have e : ((toString i : String) : Str) = S (strI i) := (S_of _).symm
        rw [e]
        exact p.at eg (.inl (.str _))
    · exact p.elim
  · exact p.elim
theorem cr_intD : CallR X (.type "int") (rA X.K fInt) := by
  intro pins s σ H xs us Q I r ⟨G, ds, eg, ra, p⟩
  unfold fInt at p
  split at p
  · obtain ⟨v, e1, rr⟩ := breps1 ra
    have e2 := brep_int rr
    subst e1 e2
    exact call_int1 pins s σ H _ us Q I r (.inl ⟨_, rfl, p.at eg (.inl (.int _))⟩)
  · obtain ⟨v, e1, rr⟩ := breps1 ra
    have e2 := brep_bl rr
    subst e1 e2
    exact call_int1 pins s σ H _ us Q I r (.inr ⟨_, rfl, p.at eg (.inl (.int _))⟩)
  · rename_i l
    split at p
    · rename_i hl
      obtain ⟨v, e1, rr⟩ := breps1 ra
      have e2 := brep_str rr
      subst e1 e2
      cases q : PySem.intText? (S l) with
      | none => rw [q] at p; exact p.elim
      | some n =>
        rw [q] at p
        exact call_int_str pins s σ H _ us Q I r ⟨S l, n, rfl, q, by rw [S_len]; omega, PO.at p eg (.inl (.int n))⟩
    · exact p.elim
  · exact p.elim
theorem cr_minD (hc : X.calm = true) : CallR X (.builtin "min") (rA X.K fMin) := by
  intro pins s σ H xs us Q I r ⟨G, ds, eg, ra, p⟩
  unfold fMin at p
  split at p
  · obtain ⟨v, v', e1, rr, rr'⟩ := breps2 ra
    have e2 := brep_int rr
    have e3 := brep_int rr'
    subst e1 e2 e3
    exact call_min2 hc pins s σ H _ us Q I r ⟨_, _, rfl, p.at eg (.inl (.int _))⟩
  · exact p.elim
theorem cr_maxD (hc : X.calm = true) : CallR X (.builtin "max") (rA X.K fMax) := by
  intro pins s σ H xs us Q I r ⟨G, ds, eg, ra, p⟩
  unfold fMax at p
  split at p
  · obtain ⟨v, v', e1, rr, rr'⟩ := breps2 ra
    have e2 := brep_int rr
    have e3 := brep_int rr'
    subst e1 e2 e3
    exact call_max2 hc pins s σ H _ us Q I r ⟨_, _, rfl, p.at eg (.inl (.int _))⟩
  · exact p.elim
theorem cr_absD : CallR X (.builtin "abs") (rA X.K fAbs) := by
  intro pins s σ H xs us Q I r ⟨G, ds, eg, ra, p⟩
  unfold fAbs at p
  split at p
  · obtain ⟨v, e1, rr⟩ := breps1 ra
    have e2 := brep_int rr
    subst e1 e2
    exact call_abs pins s σ H _ us Q I r ⟨_, rfl, p.at eg (.inl (.int _))⟩
  · exact p.elim
theorem cr_ordD : CallR X (.builtin "ord") (rA X.K fOrd) := by
  intro pins s σ H xs us Q I r ⟨G, ds, eg, ra, p⟩
  unfold fOrd at p
  split at p
  · obtain ⟨v, e1, rr⟩ := breps1 ra
    have e2 := brep_str rr
    subst e1 e2
    exact call_ord pins s σ H _ us Q I r ⟨_, rfl, rfl, p.at eg (.inl (.int _))⟩
  · exact p.elim
theorem cat_lift {da db : DE} {σ : L2.St} {H : Hp} {Q : VK} (h : liftF X.K W (dCatF da db) σ H Q) : tOp rCat (liftE X.K W da) (liftE X.K W db) σ H Q := by
  obtain ⟨H0, G, δ, eg, s, p⟩ := h
  refine ⟨H0, G, δ, eg, s, ?_⟩
  have p' : PF X.K W σ G H ((da δ).bind fun a => (db δ).bind fun b => catL a b) Q := p
  cases q1 : da δ with
  | exc c => rw [q1] at p'; exact p'
  | bad => rw [q1] at p'; exact p'
  | ok d1 =>
    rw [q1] at p'
    intro x G1 H1 g1 r1
    refine ⟨H0, G1, δ, g1.i, s.grow g1, ?_⟩
    have p2 : PF X.K W σ G H ((db δ).bind fun b => catL d1 b) Q := p'
    cases q2 : db δ with
    | exc c => rw [q2] at p2; exact fun G' H' cls dd g' r' => p2 G' H' cls dd (g1.trans g') r'
    | bad => rw [q2] at p2; exact p2
    | ok d2 =>
      rw [q2] at p2
      intro y G2 H2 g2 r2
      have p3 : PF X.K W σ G H (catL d1 d2) Q := p2
      unfold catL at p3
      cases q3 : asL2 d1 with
      | none => rw [q3] at p3; exact p3.elim
      | some xs =>
        cases q4 : asL2 d2 with
        | none => rw [q3, q4] at p3; exact p3.elim
        | some ys =>
          rw [q3, q4] at p3
          dsimp only [Option.bind_some] at p3
          split at p3
          · rename_i hl
            obtain ⟨l, vs, e1, h1, rr1⟩ := brep_lst2 g2.i (r1.mono g2) q3
            obtain ⟨l', ws, e2, h2, rr2⟩ := brep_lst2 g2.i r2 q4
            subst e1 e2
            refine ⟨l, l', vs, ws, rfl, rfl, h1, h2, line6 (by rw [rr1.length, rr2.length]; exact hl), fun pp hp => ?_⟩
            have g3 := (g1.trans g2).trans (Grow.newH g2.i (.lst (vs ++ ws)) hp)
            exact p3 pp (vs ++ ws) G2 _ g3 ((g1.trans g2).h.gone hp) upd_same (g2.i.gone hp) (rr1.append rr2)
          · exact p3.elim
/-- a + b, two lists: a new one -/
theorem f_cat {da db : DE} (ha : PE X a (liftE X.K W da)) (hb : PE X b (liftE X.K W db)) : PE X (.BinOp a .Add b pos) (liftF X.K W (dCatF da db)) := PE.weak (pe_op op_cat ha hb) fun _ _ _ h => cat_lift h
end
end Dl
set_option Elab.async false
set_option linter.all false
set_option maxRecDepth 100000
set_option maxHeartbeats 4000000
/-! Dq3: further rules where m tokens are out: displays, lists that are owned, truth values. -/
namespace Dl
open PySem PySem.Spec PyProof.Rows L2
section
variable {m : Nat} {X : Cx} {W : WX} {e a b c : Expr} {es : List Expr} {pos : Pos}
theorem tup_lift {da : DA} {σ : L2.St} {H : Hp} {Q : VK} (h : liftE X.K W (dTup da) σ H Q) : tTup (liftA X.K W da) σ H Q := by
  obtain ⟨H0, G, δ, e, s, p⟩ := h
  refine at_bind e s p fun G1 H1 ds xs g1 s1 ra p1 => ?_
  unfold mkTup at p1
  by_cases q : (allR ds && decide (ds.length ≤ 1000)) = true
  · rw [if_pos q] at p1
    obtain ⟨q1, q2⟩ := Bool.and_eq_true_iff.mp q
    have rr := ra.rep q1
    refine ⟨line_of (by rw [ra.length]; exact of_decide_eq_true q2), fun pp hp => ?_⟩
    have gn := Grow.new g1.i (.tup xs) hp
    exact p1 _ _ _ gn (.inl (.tup (.inl (.inl upd_same)) (rr.mono gn.g)))
  · rw [if_neg q] at p1
    exact p1.elim
theorem lst_lift {da : DA} {σ : L2.St} {H : Hp} {Q : VK} (h : liftF X.K W (dItems da) σ H Q) : tLst (liftA X.K W da) σ H Q := by
  obtain ⟨H0, G, δ, e, s, p⟩ := h
  refine ⟨H0, G, δ, e, s, ?_⟩
  have p' : PF X.K W σ G H ((da δ).bind mkLst) Q := p
  cases q : da δ with
  | ok ds =>
    rw [q] at p'
    have p2 : PF X.K W σ G H (mkLst ds) Q := p'
    unfold mkLst at p2
    by_cases q : (allR ds && decide (ds.length ≤ 1000)) = true
    · rw [if_pos q] at p2
      obtain ⟨q1, q2⟩ := Bool.and_eq_true_iff.mp q
      intro xs G1 H1 g1 ra
      refine ⟨line_of (by rw [ra.length]; exact of_decide_eq_true q2), fun pp hp => ?_⟩
      exact p2 pp xs G1 (upd H1 pp (.lst xs)) (g1.trans (Grow.newH g1.i _ hp)) (g1.h.gone hp) upd_same (g1.i.gone hp) (ra.rep q1)
    · rw [if_neg q] at p2
      exact p2.elim
  | exc c => rw [q] at p'; exact p'
  | bad => rw [q] at p'; exact p'
theorem fix_lift {da : DA} {σ : L2.St} {H : Hp} {Q : VK} (h : liftE X.K W (dFix da) σ H Q) : liftF X.K W da σ H Q := by
  obtain ⟨H0, G, δ, eg, s, p⟩ := h
  refine ⟨H0, G, δ, eg, s, ?_⟩
  have p' : PX X.K W (BRep X.K) σ G H ((da δ).bind fun ds => .ok (.lst ds)) Q := p
  cases q : da δ with
  | ok ds =>
    rw [q] at p'
    intro pp vs G1 H1 g1 hp hp1 hg r
    have ex1 : Ex G1 (upd G1 pp (.lst vs)) := (Ex.refl G1).up hg
    refine p' (.ref pp) (upd G1 pp (.lst vs)) H1 ⟨g1.g.trans ex1, fun x o z => ?_, g1.h, fun x h1 h2 => ?_⟩ (.inl (.lst upd_same (r.mono ex1)))
    · by_cases ne : x = pp
      · subst ne; rw [upd_same] at z; rw [hp1]; exact z
      · rw [upd_ne ne] at z; exact g1.i x o z
    · have ne : x ≠ pp := fun z => h2 (by rw [z]; exact hp)
      rw [upd_ne ne]; exact g1.f x h1 h2
  | exc c => rw [q] at p'; exact p'
  | bad => rw [q] at p'; exact p'
theorem q_tup {k : Nat} {da : DA} (ha : QA m X es (liftA X.K W da)) : QE m X (.Tuple es k pos) (liftE X.K W (dTup da)) :=
  ⟨fun pins s σ H Q hm I h => wpAny_Tuple_spliced (thn (ha.run pos pins s σ H _ hm I (tup_lift h)) fun us s1 ⟨xs, H1, I1, r, z, q⟩ => ⟨by rw [← r.length]; exact z, by
    refine ⟨.ref s1.heap.objs.size, upd H1 s1.heap.objs.size (.tup xs), I1.laid (t' := s1.toks) (fun b u e => Heap.get?_push_of_some _ e) (Nat.le_refl _) ?_, rfl, q _ (I1.hok.fresh (Nat.le_refl _))⟩
    exact ⟨z, us, r, ⟨_, Heap.get?_push_size _ rfl, rfl, _, rfl⟩⟩⟩)⟩
theorem qf_lst {da : DA} (ha : QA m X es (liftA X.K W da)) : QE m X (.List es pos) (liftF X.K W (dItems da)) :=
  ⟨fun pins s σ H Q hm I h => wpAny_List_spliced (thn (ha.run pos pins s σ H _ hm I (lst_lift h)) fun us s1 ⟨xs, H1, I1, r, z, q⟩ => ⟨by rw [← r.length]; exact z, by
    refine ⟨.ref s1.heap.objs.size, upd H1 s1.heap.objs.size (.lst xs), I1.laid (t' := s1.toks) (fun b u e => Heap.get?_push_of_some _ e) (Nat.le_refl _) ?_, rfl, q _ (I1.hok.fresh (Nat.le_refl _))⟩
    exact ⟨z, us, 0, r, Heap.get?_push_size _ rfl⟩⟩)⟩
theorem q_fix {da : DA} (h : QE m X e (liftF X.K W da)) : QE m X e (liftE X.K W (dFix da)) := QE.weak h fun _ _ _ q => fix_lift q
theorem q_lst {da : DA} (ha : QA m X es (liftA X.K W da)) : QE m X (.List es pos) (liftE X.K W (dFix (dItems da))) := q_fix (qf_lst ha)
theorem qf_cat {da db : DE} (ha : QE m X a (liftE X.K W da)) (hb : QE m X b (liftE X.K W db)) : QE m X (.BinOp a .Add b pos) (liftF X.K W (dCatF da db)) :=
  ⟨fun pins s σ H Q hm I h => wpAny_BinOp (two ha hb hm I (cat_lift h) fun v u s2 x y H2 I2 rx ry q => op_cat pins s2 σ H2 x y v u Q I2 rx ry q)⟩
theorem qs_own {i : Nat} {x : Str} {da : DA} {pos' : Pos} (hN : X.N.Nodup) (hi : X.N[i]? = some x) (hx : Loc X.env.scope x) (he : QE m X e (liftF X.K W da)) (hf : X.fn x = true ∨ X.env.scope.names.lookup x = some .local := by first | exact .inl rfl | exact .inr rfl) (hs : swapsWith e (some (.Name x pos')) pos.line X.env = pure false := by rfl) :
    QS m X (.Assign [.Name x pos'] e pos) (liftS X.K W (dOwn i da)) :=
  ⟨fun pins s σ H D hm I h => wpAny_Assign_Name (thn (he.run pins s σ H (fun y H1 => D.nx (σ.set i (some y)) H1) hm I (by
    obtain ⟨H0, G0, G, δ, g, s, p⟩ := h
    refine stmF g s p fun G1 H1 ds pp vs g1 g01 s1 h1 h2 h3 r p1 => ?_
    refine p1 _ G1 H1 (Ex.refl G1) g01 (s1.set_own' i h2 (g.h.gone h1) h3 r fun j es q z => ?_)
    obtain ⟨p', vs', e1, h4, _⟩ := s.own j es q
    rw [e1] at z
    cases z
    rw [h1] at h4; cases h4)) fun v s1 ⟨y, H1, I1, r1, q1⟩ => store_ok I1 hN hi hx r1 (fun s2 I2 => ⟨_, H1, I2, q1⟩) hf) hs⟩
/-- what x.append(e) asks, from its data reading -/
theorem app_lift {i : Nat} {de : DE} {D : Ends} {σ : L2.St} {H : Hp} (h : liftS X.K W (dApp i de) D σ H) :
    ∃ pp, σ[i]? = some (some (.ref pp)) ∧ tyV X.K "list" (.ref pp) H ∧ liftE X.K W de σ H fun x H2 => rAppend (.ref pp) [x] H2 fun _ H3 => D.nx σ H3 := by
  obtain ⟨H0, G0, G, δ, g, s, p⟩ := h
  unfold dApp at p
  split at p
  · rename_i ds q
    obtain ⟨pp, vs, ev, hp, h0, hg, r⟩ := s.own i ds q
    refine ⟨pp, ev, .inl ⟨rfl, _, .inl (.inl hp)⟩, ?_⟩
    refine stm g s p fun G1 H1 d x g1 g01 s1 rd p1 => ?_
    obtain ⟨pp', vs', ev', hp', h0', hg', r'⟩ := s1.own i ds q
    rw [ev] at ev'
    cases ev'
    by_cases c : isO d = true ∨ 1000000 ≤ ds.length
    · rw [if_pos c] at p1; exact p1.elim
    · rw [if_neg c] at p1
      have c1 : isO d = false := by
        cases z : isO d with
        | true => exact absurd (.inl z) c
        | false => rfl
      have c2 : ds.length < 1000000 := Nat.lt_of_not_le fun z => c (.inr z)
      refine ⟨pp, vs', x, rfl, rfl, hp', mega (by rw [r'.length]; exact c2), ?_⟩
      refine p1 σ G1 _ (Ex.refl G1) ⟨g01.g, g01.i.up hg', fun a o z => ?_, g01.f⟩ (s1.mut i q ev (r'.append (.cons (rd.rep c1) .nil)))
      rw [upd_ne (fun y => by rw [y, h0'] at z; cases z)]
      exact g01.h a o z
  · exact p.elim
theorem qs_app {i : Nat} {x : Str} {de : DE} {p1 p2 pos pos' : Pos} (hN : X.N[i]? = some x) (hv : Vis X.env.scope x) (he : QE m X e (liftE X.K W de)) (hd : (x == ("__debug__" : Str)) = false := by decide) (hcd : (x == ("__classdict__" : Str)) = false := by decide)
    (hbase : attributeBase (.Name x p1) "append" X.env (eval (.Name x p1) X.env) = eval (.Name x p1) X.env := by rfl)
    (hfew : ((backTo pos (starEach [e] X.env)).all (fun x => !x.1) && (backToKw pos (keywordEach [] X.env)).all (fun x => x.1.isSome) && decide ([e].length + ([] : List Keyword).length + (if ([] : List Keyword).isEmpty then 0 else 1) < 30)) = true := by rfl)
    (hline : (p2.endLine == pos.line) = true := by rfl) (hs : starEach [e] X.env = (false, eval e X.env) :: starEach [] X.env := by rfl) (hplain : (backTo pos (starEach [] X.env)).any (·.1) = false := by rfl)
    (hsw : swapsWith (.Call (.Attribute (.Name x p1) "append" p2) [e] [] pos) none pos'.line X.env = pure false := by rfl) :
    QS m X (.Expr (.Call (.Attribute (.Name x p1) "append" p2) [e] [] pos) pos') (liftS X.K W (dApp i de)) :=
  ⟨fun pins s σ H D hm I h => by
    obtain ⟨pp, ev, ty, q⟩ := app_lift h
    refine wpAny_Expr_any ?_ I.quiet hsw
    refine wpAny_Call_method_late hbase hfew hline rfl (thnq hm ((pe_var hN hv hd hcd).run pins s σ H (fun v H1 => v = .ref pp ∧ H1 = H) I ⟨_, ev, rfl, rfl⟩) fun v s1 m1 ⟨v', H1, I1, r1, e1, e2⟩ => ?_)
    subst e1 e2
    obtain ⟨h1, h2⟩ := tyV_is I1 r1 ty
    refine ⟨"list", "list.append", PySem.F.plainAttrs_list, PySem.F.slot_list_append, PySem.F.type_list_append, h1, h2, ?_⟩
    rw [hs]
    refine Calls.callWith_builtin (by show (false || (backTo pos (starEach [] X.env)).any (·.1)) = false; rw [hplain] <;> rfl) (Calls.evalArgs_plain ?_)
    refine Calls.spliced_cons (thnq m1 (he.run pins s1 σ H1 _ m1 I1 q) fun u s2 m2 ⟨y, H2, I2, r2, q2⟩ => ?_)
    refine Calls.spliced_nil ?_
    exact thn (mt_append pins s2 σ H2 (.ref pp) [y] v [u] _ I2 r1 (.cons r2 .nil) q2) fun v' s3 ⟨z, H3, I3, r3, q3⟩ => ⟨σ, H3, I3, q3⟩⟩
theorem q_and {rest : List Expr} {da db : DE} (ha : QE m X a (liftE X.K W da)) (hb : QE m X (.BoolOp .And (b :: rest) pos) (liftE X.K W db)) : QE m X (.BoolOp .And (a :: b :: rest) pos) (liftE X.K W (dAndV da db)) :=
  ⟨fun pins s σ H Q hm I h => BoolOp_and (thnq hm (ha.run pins s σ H (fun x H1 => ∃ k, x = .bl k ∧ if k = true then liftE X.K W db σ H1 Q else Q (.bl false) H1) hm I (by
    obtain ⟨H0, G, δ, e, s, p⟩ := h
    refine at_bind e s p fun G1 H1 d x g1 s1 ra p1 => ?_
    cases d with
    | bl k =>
      refine ⟨k, brep_bl ra, ?_⟩
      cases k with
      | true => exact ⟨H0, G1, δ, g1.i, s1, p1⟩
      | false => exact p1 _ G1 H1 (Grow.refl g1.i) (.inl (.bl false))
    | _ => exact p1.elim)) fun v s1 m1 ⟨x, H1, I1, r1, k, ex, q1⟩ => by
      subst ex
      cases r1
      refine wpAny_truthy_bool ?_
      cases k with
      | true => exact hb.run pins s1 σ H1 Q m1 I1 q1
      | false => exact ⟨.bl false, H1, I1, rfl, q1⟩)⟩
theorem q_or {rest : List Expr} {da db : DE} (ha : QE m X a (liftE X.K W da)) (hb : QE m X (.BoolOp .Or (b :: rest) pos) (liftE X.K W db)) : QE m X (.BoolOp .Or (a :: b :: rest) pos) (liftE X.K W (dOrV da db)) :=
  ⟨fun pins s σ H Q hm I h => BoolOp_or (thnq hm (ha.run pins s σ H (fun x H1 => ∃ k, x = .bl k ∧ if k = true then Q (.bl true) H1 else liftE X.K W db σ H1 Q) hm I (by
    obtain ⟨H0, G, δ, e, s, p⟩ := h
    refine at_bind e s p fun G1 H1 d x g1 s1 ra p1 => ?_
    cases d with
    | bl k =>
      refine ⟨k, brep_bl ra, ?_⟩
      cases k with
      | true => exact p1 _ G1 H1 (Grow.refl g1.i) (.inl (.bl true))
      | false => exact ⟨H0, G1, δ, g1.i, s1, p1⟩
    | _ => exact p1.elim)) fun v s1 m1 ⟨x, H1, I1, r1, k, ex, q1⟩ => by
      subst ex
      cases r1
      refine wpAny_truthy_bool ?_
      cases k with
      | true => exact ⟨.bl true, H1, I1, rfl, q1⟩
      | false => exact hb.run pins s1 σ H1 Q m1 I1 q1)⟩
theorem q_one {op : BoolOp} {t : TE} (h : QE m X a t) : QE m X (.BoolOp op [a] pos) t := ⟨fun pins s σ H Q hm I hw => BoolOp_one (h.run pins s σ H Q hm I hw)⟩
theorem q_not {da : DE} (ha : QE m X a (liftE X.K W da)) : QE m X (.UnaryOp .Not a pos) (liftE X.K W (dNotV da)) :=
  ⟨fun pins s σ H Q hm I h => UnaryOp_ (thn (ha.run pins s σ H (fun x H1 => ∃ k, x = .bl k ∧ Q (.bl (!k)) H1) hm I (by
    obtain ⟨H0, G, δ, e, s, p⟩ := h
    refine at_bind e s p fun G1 H1 d x g1 s1 ra p1 => ?_
    cases d with
    | bl k => exact ⟨k, brep_bl ra, p1 _ G1 H1 (Grow.refl g1.i) (.inl (.bl (!k)))⟩
    | _ => exact p1.elim)) fun v s1 ⟨x, H1, I1, r1, k, ex, q1⟩ => by
      subst ex
      cases r1
      exact not_of (wpAny_truthy_bool ⟨.bl (!k), H1, I1, rfl, q1⟩))⟩
end
end Dl
set_option Elab.async false
set_option linter.all false
set_option maxRecDepth 100000
/-! De: what a reading comes to, step by step (for simp only). -/
namespace Dl
open PySem L2
/-! ### places of a state -/
def rdS : Option Sl → R D
  | some (.dat d) => .ok d
  | some (.own ds) => .ok (.olst ds)
  | _ => .bad
theorem e_rdDat (d : D) : rdS (some (.dat d)) = .ok d := (rfl)
theorem e_rdOwn (d : List D) : rdS (some (.own d)) = .ok (.olst d) := (rfl)
/-- the i-th place -/
def at_ : Nat → DSt → Option Sl
  | _, [] => none
  | 0, x :: _ => some x
  | n + 1, _ :: r => at_ n r
theorem at_eq : ∀ (n : Nat) (δ : DSt), at_ n δ = δ[n]?
  | n, [] => by cases n <;> rfl
  | 0, x :: _ => rfl
  | n + 1, _ :: r => by
    rw [List.getElem?_cons_succ]
    exact at_eq n r
def pu_ : Nat → DSt → Sl → DSt
  | _, [], _ => []
  | 0, _ :: r, y => y :: r
  | n + 1, x :: r, y => x :: pu_ n r y
theorem pu_eq : ∀ (n : Nat) (δ : DSt) (y : Sl), pu_ n δ y = δ.set n y
  | n, [], y => by cases n <;> rfl
  | 0, x :: _, y => rfl
  | n + 1, x :: r, y => by
    show x :: pu_ n r y = _
    rw [pu_eq n r y]
    rfl
theorem e_at0 (x : Sl) (r : DSt) : at_ 0 (x :: r) = some x := (rfl)
theorem e_atS (n : Nat) (x : Sl) (r : DSt) : at_ (n + 1) (x :: r) = at_ n r := (rfl)
theorem e_pu0 (x y : Sl) (r : DSt) : pu_ 0 (x :: r) y = y :: r := (rfl)
theorem e_puS (n : Nat) (x y : Sl) (r : DSt) : pu_ (n + 1) (x :: r) y = x :: pu_ n r y := (rfl)
/-! ### expressions -/
theorem e_var (i : Nat) (δ : DSt) : dVar i δ = rdS (at_ i δ) := by
  rw [at_eq]
  rfl
theorem e_c (d : D) (δ : DSt) : dC d δ = .ok d := (rfl)
def op2R (f : D → D → Option D) (x : R D) (b : DE) (δ : DSt) : R D := x.bind fun a => (b δ).bind fun b => R.of (f a b)
def op2S (f : D → D → Option D) (x : D) (y : R D) : R D := y.bind fun b => R.of (f x b)
theorem e_op2 (f : D → D → Option D) (a b : DE) (δ : DSt) : dOp2 f a b δ = op2R f (a δ) b δ := (rfl)
theorem e_op2R (f : D → D → Option D) (x : D) (b : DE) (δ : DSt) : op2R f (.ok x) b δ = op2S f x (b δ) := (rfl)
theorem e_op2S (f : D → D → Option D) (x y : D) : op2S f x (.ok y) = R.of (f x y) := (rfl)
def op1S (f : D → Option D) (x : R D) : R D := x.bind fun a => R.of (f a)
theorem e_op1 (f : D → Option D) (a : DE) (δ : DSt) : dOp1 f a δ = op1S f (a δ) := (rfl)
theorem e_op1S (f : D → Option D) (x : D) : op1S f (.ok x) = R.of (f x) := (rfl)
def opAS (f : List D → Option D) (x : R (List D)) : R D := x.bind fun a => R.of (f a)
theorem e_opA (f : List D → Option D) (a : DA) (δ : DSt) : dOpA f a δ = opAS f (a δ) := (rfl)
theorem e_opAS (f : List D → Option D) (x : List D) : opAS f (.ok x) = R.of (f x) := (rfl)
theorem e_ofS {α : Type} (a : α) : R.of (some a) = .ok a := (rfl)
theorem e_ofN {α : Type} : (R.of none : R α) = .bad := (rfl)
def toBS (x : R D) : R Bool := x.bind toB
theorem e_dB (a : DE) (δ : DSt) : dB a δ = toBS (a δ) := (rfl)
theorem e_toBS (b : Bool) : toBS (.ok (.bl b)) = .ok b := (rfl)
def andR (x : R Bool) (b : DT) (δ : DSt) : R Bool := x.bind fun x => if x = true then b δ else .ok false
theorem e_and (a b : DT) (δ : DSt) : dAndT a b δ = andR (a δ) b δ := (rfl)
theorem e_andT (b : DT) (δ : DSt) : andR (.ok true) b δ = b δ := (rfl)
theorem e_andF (b : DT) (δ : DSt) : andR (.ok false) b δ = .ok false := (rfl)
def orR (x : R Bool) (b : DT) (δ : DSt) : R Bool := x.bind fun x => if x = true then .ok true else b δ
theorem e_or (a b : DT) (δ : DSt) : dOrT a b δ = orR (a δ) b δ := (rfl)
theorem e_orT (b : DT) (δ : DSt) : orR (.ok true) b δ = .ok true := (rfl)
theorem e_orF (b : DT) (δ : DSt) : orR (.ok false) b δ = b δ := (rfl)
def notR (x : R Bool) : R Bool := x.bind fun x => .ok (!x)
theorem e_not (a : DT) (δ : DSt) : dNotT a δ = notR (a δ) := (rfl)
theorem e_notT : notR (.ok true) = .ok false := (rfl)
theorem e_notF : notR (.ok false) = .ok true := (rfl)
theorem e_notB (b : Bool) : notR (.ok b) = .ok (!b) := (rfl)
def andVR (x : R D) (b : DE) (δ : DSt) : R D := x.bind fun x => (toB x).bind fun k => if k = true then b δ else .ok (.bl false)
theorem e_andV (a b : DE) (δ : DSt) : dAndV a b δ = andVR (a δ) b δ := (rfl)
theorem e_andVT (b : DE) (δ : DSt) : andVR (.ok (.bl true)) b δ = b δ := (rfl)
theorem e_andVF (b : DE) (δ : DSt) : andVR (.ok (.bl false)) b δ = .ok (.bl false) := (rfl)
def orVR (x : R D) (b : DE) (δ : DSt) : R D := x.bind fun x => (toB x).bind fun k => if k = true then .ok (.bl true) else b δ
theorem e_orV (a b : DE) (δ : DSt) : dOrV a b δ = orVR (a δ) b δ := (rfl)
theorem e_orVT (b : DE) (δ : DSt) : orVR (.ok (.bl true)) b δ = .ok (.bl true) := (rfl)
theorem e_orVF (b : DE) (δ : DSt) : orVR (.ok (.bl false)) b δ = b δ := (rfl)
def notVR (x : R D) : R D := x.bind fun x => (toB x).bind fun k => .ok (.bl (!k))
theorem e_notV (a : DE) (δ : DSt) : dNotV a δ = notVR (a δ) := (rfl)
theorem e_notVB (b : Bool) : notVR (.ok (.bl b)) = .ok (.bl (!b)) := (rfl)
def ifER (x : R Bool) (a b : DE) (δ : DSt) : R D := x.bind fun k => if k = true then a δ else b δ
theorem e_ifE (c : DT) (a b : DE) (δ : DSt) : dIfE c a b δ = ifER (c δ) a b δ := (rfl)
theorem e_ifET (a b : DE) (δ : DSt) : ifER (.ok true) a b δ = a δ := (rfl)
theorem e_ifEF (a b : DE) (δ : DSt) : ifER (.ok false) a b δ = b δ := (rfl)
theorem e_nil (δ : DSt) : dNil δ = .ok [] := (rfl)
def consR (x : R D) (r : DA) (δ : DSt) : R (List D) := x.bind fun x => (r δ).bind fun xs => .ok (x :: xs)
def consS (x : D) (r : R (List D)) : R (List D) := r.bind fun xs => .ok (x :: xs)
theorem e_cons (a : DE) (r : DA) (δ : DSt) : dCons a r δ = consR (a δ) r δ := (rfl)
theorem e_consR (x : D) (r : DA) (δ : DSt) : consR (.ok x) r δ = consS x (r δ) := (rfl)
theorem e_consS (x : D) (xs : List D) : consS x (.ok xs) = .ok (x :: xs) := (rfl)
/-- none of them is owned -/
def clean : List D → Bool
  | [] => true
  | d :: r => !isO d && clean r
theorem allR_clean : ∀ ds : List D, allR ds = clean ds
  | [] => rfl
  | d :: r => by
    show ((!isO d) && allR r) = _
    rw [allR_clean r]
    rfl
theorem e_cleanN : clean [] = true := (rfl)
theorem e_cleanC (d : D) (r : List D) : clean (d :: r) = (!isO d && clean r) := (rfl)
theorem e_oN : isO .non = false := (rfl)
theorem e_oB (b : Bool) : isO (.bl b) = false := (rfl)
theorem e_oI (b : Int) : isO (.int b) = false := (rfl)
theorem e_oS (b : List Nat) : isO (.str b) = false := (rfl)
theorem e_oT (b : List D) : isO (.tup b) = false := (rfl)
theorem e_oL (b : List D) : isO (.lst b) = false := (rfl)
theorem e_oSL (b : List D) : isO (.slst b) = false := (rfl)
theorem e_oOb (v : V) : isO (.obj v) = false := (rfl)
theorem e_nf : (!false) = true := (rfl)
theorem e_tt (b : Bool) : (true && b) = b := (rfl)
def tupR (x : R (List D)) : R D := x.bind mkTup
theorem e_tup (a : DA) (δ : DSt) : dTup a δ = tupR (a δ) := (rfl)
def tupB (c : Bool) (ds : List D) : R D := if c && decide (ds.length ≤ 1000) then .ok (.tup ds) else .bad
theorem e_tupR (ds : List D) : tupR (.ok ds) = tupB (clean ds) ds := by
  show mkTup ds = _
  unfold mkTup
  rw [allR_clean]
  rfl
/-- few: as long as the list is written out -/
def few : Nat → List D → Bool
  | _, [] => true
  | 0, _ :: _ => false
  | n + 1, _ :: r => few n r
theorem few_le : ∀ (n : Nat) (ds : List D), few n ds = decide (ds.length ≤ n)
  | n, [] => by simp [few]
  | 0, _ :: _ => by simp [few]
  | n + 1, x :: r => by
    show few n r = _
    rw [few_le n r]
    simp
theorem e_tupB (ds : List D) : tupB true ds = if ds.length ≤ 1000 then .ok (.tup ds) else .bad := by
  unfold tupB
  by_cases h : ds.length ≤ 1000 <;> simp [h]
def itemsR (x : R (List D)) : R (List D) := x.bind mkLst
def itemsB (c : Bool) (ds : List D) : R (List D) := if c && decide (ds.length ≤ 1000) then .ok ds else .bad
theorem e_items (a : DA) (δ : DSt) : dItems a δ = itemsR (a δ) := (rfl)
theorem e_itemsR (ds : List D) : itemsR (.ok ds) = itemsB (clean ds) ds := by
  show mkLst ds = _
  unfold mkLst
  rw [allR_clean]
  rfl
theorem e_itemsB (ds : List D) : itemsB true ds = if ds.length ≤ 1000 then .ok ds else .bad := by
  unfold itemsB
  by_cases h : ds.length ≤ 1000 <;> simp [h]
def fixR (x : R (List D)) : R D := x.bind fun ds => .ok (.lst ds)
theorem e_fix (a : DA) (δ : DSt) : dFix a δ = fixR (a δ) := (rfl)
theorem e_fixR (ds : List D) : fixR (.ok ds) = .ok (.lst ds) := (rfl)
def catR (x : R D) (b : DE) (δ : DSt) : R (List D) := x.bind fun a => (b δ).bind fun b => catL a b
def catS (x : D) (b : R D) : R (List D) := b.bind fun b => catL x b
theorem e_cat (a b : DE) (δ : DSt) : dCatF a b δ = catR (a δ) b δ := (rfl)
theorem e_catR (x : D) (b : DE) (δ : DSt) : catR (.ok x) b δ = catS x (b δ) := (rfl)
def appL (x y : List D) : List D := x ++ y
theorem e_appN (y : List D) : appL [] y = y := (rfl)
theorem e_appC (a : D) (x y : List D) : appL (a :: x) y = a :: appL x y := (rfl)
def catB (x y : List D) : R (List D) := if x.length + y.length ≤ 1000000 then .ok (appL x y) else .bad
theorem e_catB (x y : List D) : catB x y = if x.length + y.length ≤ 1000000 then .ok (appL x y) else .bad := (rfl)
theorem catB_of (x y : List D) : (R.of (if x.length + y.length ≤ 1000000 then some (x ++ y) else none) : R (List D)) = catB x y := by
  unfold catB
  by_cases h : x.length + y.length ≤ 1000000
  · rw [if_pos h, if_pos h]
    rfl
  · rw [if_neg h, if_neg h]
    rfl
theorem e_catLL (x y : List D) : catS (.lst x) (.ok (.lst y)) = catB x y := catB_of x y
theorem e_catOL (x y : List D) : catS (.olst x) (.ok (.lst y)) = catB x y := catB_of x y
theorem e_catLO (x y : List D) : catS (.lst x) (.ok (.olst y)) = catB x y := catB_of x y
theorem e_catOO (x y : List D) : catS (.olst x) (.ok (.olst y)) = catB x y := catB_of x y
def callR (n : Nat) (f : List D → R D) (x : R (List D)) : R D := x.bind (chk n f)
def callB (n : Nat) (f : List D → R D) (c : Bool) (ds : List D) : R D := if c && decide (ds.length = n) then f ds else .bad
theorem e_call (n : Nat) (f : List D → R D) (a : DA) (δ : DSt) : dCall n f a δ = callR n f (a δ) := (rfl)
theorem e_callR (n : Nat) (f : List D → R D) (ds : List D) : callR n f (.ok ds) = callB n f (clean ds) ds := by
  show chk n f ds = _
  unfold chk
  rw [allR_clean]
  rfl
theorem e_callB0 (f : List D → R D) : callB 0 f true [] = f [] := (rfl)
theorem e_callB1 (f : List D → R D) (a : D) : callB 1 f true [a] = f [a] := (rfl)
theorem e_callB2 (f : List D → R D) (a b : D) : callB 2 f true [a, b] = f [a, b] := (rfl)
theorem e_callB3 (f : List D → R D) (a b c : D) : callB 3 f true [a, b, c] = f [a, b, c] := (rfl)
theorem e_callB4 (f : List D → R D) (a b c d : D) : callB 4 f true [a, b, c, d] = f [a, b, c, d] := (rfl)
theorem e_callB5 (f : List D → R D) (a b c d e : D) : callB 5 f true [a, b, c, d, e] = f [a, b, c, d, e] := (rfl)
/-! ### statements -/
def seqO (o : Out) (b : DS) : Out := match o with
  | .nx δ' => b δ'
  | o => o
theorem e_seq (a b : DS) (δ : DSt) : dSeq a b δ = seqO (a δ) b := (rfl)
theorem e_seqN (δ : DSt) (b : DS) : seqO (.nx δ) b = b δ := (rfl)
theorem e_seqR (d : D) (b : DS) : seqO (.ret d) b = .ret d := (rfl)
theorem e_seqB (δ : DSt) (b : DS) : seqO (.brk δ) b = .brk δ := (rfl)
theorem e_seqC (δ : DSt) (b : DS) : seqO (.cont δ) b = .cont δ := (rfl)
theorem e_seqX (c : Exc) (δ : DSt) (b : DS) : seqO (.exc c δ) b = .exc c δ := (rfl)
theorem e_skip (δ : DSt) : dSkip δ = .nx δ := (rfl)
theorem e_break (δ : DSt) : dBreak δ = .brk δ := (rfl)
theorem e_cont (δ : DSt) : dCont δ = .cont δ := (rfl)
def setR (i : Nat) (x : R D) (δ : DSt) : Out := x.out δ (putS i δ)
theorem e_set (i : Nat) (a : DE) (δ : DSt) : dSet i a δ = setR i (a δ) δ := (rfl)
def setB (i : Nat) (o : Bool) (x : D) (δ : DSt) : Out := if o then .bad else .nx (pu_ i δ (.dat x))
theorem e_setR (i : Nat) (x : D) (δ : DSt) : setR i (.ok x) δ = setB i (isO x) x δ := by
  show putS i δ x = _
  unfold putS setB
  rw [pu_eq]
theorem e_setX (i : Nat) (c : Exc) (δ : DSt) : setR i (.exc c) δ = .exc c δ := (rfl)
theorem e_setB (i : Nat) (x : D) (δ : DSt) : setB i false x δ = .nx (pu_ i δ (.dat x)) := (rfl)
def ownR (i : Nat) (x : R (List D)) (δ : DSt) : Out := x.out δ fun ds => .nx (δ.set i (.own ds))
theorem e_own (i : Nat) (a : DA) (δ : DSt) : dOwn i a δ = ownR i (a δ) δ := (rfl)
theorem e_ownR (i : Nat) (ds : List D) (δ : DSt) : ownR i (.ok ds) δ = .nx (pu_ i δ (.own ds)) := by
  rw [pu_eq]
  rfl
def asgR (tg : D → DSt → Option DSt) (x : R D) (δ : DSt) : Out := x.out δ (goT tg δ)
theorem e_asg (tg : D → DSt → Option DSt) (a : DE) (δ : DSt) : dAsgT tg a δ = asgR tg (a δ) δ := (rfl)
def nxO : Option DSt → Out
  | some δ => .nx δ
  | none => .bad
theorem e_asgR (tg : D → DSt → Option DSt) (x : D) (δ : DSt) : asgR tg (.ok x) δ = nxO (tg x δ) := by
  show goT tg δ x = _
  unfold goT
  cases tg x δ <;> rfl
theorem e_nxO (δ : DSt) : nxO (some δ) = .nx δ := (rfl)
theorem e_tgT (is : List Nat) (ds : List D) (δ : DSt) : tgT is (.tup ds) δ = putT is ds δ := (rfl)
theorem e_putN (δ : DSt) : putT [] [] δ = some δ := (rfl)
theorem e_putC (i : Nat) (is : List Nat) (d : D) (ds : List D) (δ : DSt) : putT (i :: is) (d :: ds) δ = putT is ds (pu_ i δ (.dat d)) := by
  rw [pu_eq]
  rfl
def tgB (i : Nat) (o : Bool) (d : D) (δ : DSt) : Option DSt := if o then none else some (pu_ i δ (.dat d))
theorem e_tgN (i : Nat) (d : D) (δ : DSt) : tgN i d δ = tgB i (isO d) d δ := by
  unfold tgN tgB
  rw [pu_eq]
theorem e_tgB (i : Nat) (d : D) (δ : DSt) : tgB i false d δ = some (pu_ i δ (.dat d)) := (rfl)
def dropR (x : R D) (δ : DSt) : Out := x.out δ fun _ => .nx δ
theorem e_drop (a : DE) (δ : DSt) : dDrop a δ = dropR (a δ) δ := (rfl)
theorem e_dropR (x : D) (δ : DSt) : dropR (.ok x) δ = .nx δ := (rfl)
def retR (x : R D) (δ : DSt) : Out := x.out δ outR
theorem e_ret (a : DE) (δ : DSt) : dRet a δ = retR (a δ) δ := (rfl)
def retB (o : Bool) (x : D) : Out := if o then .bad else .ret x
theorem e_retR (x : D) (δ : DSt) : retR (.ok x) δ = retB (isO x) x := (rfl)
theorem e_retX (c : Exc) (δ : DSt) : retR (.exc c) δ = .exc c δ := (rfl)
theorem e_retB (x : D) : retB false x = .ret x := (rfl)
theorem e_retN (δ : DSt) : dRetN δ = .ret .non := (rfl)
def ifR (x : R Bool) (a b : DS) (δ : DSt) : Out := x.out δ fun k => if k = true then a δ else b δ
theorem e_if (c : DT) (a b : DS) (δ : DSt) : dIf c a b δ = ifR (c δ) a b δ := (rfl)
theorem e_ifT (a b : DS) (δ : DSt) : ifR (.ok true) a b δ = a δ := (rfl)
theorem e_ifF (a b : DS) (δ : DSt) : ifR (.ok false) a b δ = b δ := (rfl)
def appR (i : Nat) (s : Option Sl) (x : R D) (δ : DSt) : Out := match s with
  | some (.own ds) => x.out δ fun d => if isO d = true ∨ 1000000 ≤ ds.length then .bad else .nx (δ.set i (.own (ds ++ [d])))
  | _ => .bad
theorem e_app (i : Nat) (a : DE) (δ : DSt) : dApp i a δ = appR i (at_ i δ) (a δ) δ := by
  rw [at_eq]
  unfold dApp appR
  rfl
def appB (i : Nat) (ds : List D) (o : Bool) (d : D) (δ : DSt) : Out := if o = true ∨ 1000000 ≤ ds.length then .bad else .nx (pu_ i δ (.own (appL ds [d])))
theorem e_appR (i : Nat) (ds : List D) (d : D) (δ : DSt) : appR i (some (.own ds)) (.ok d) δ = appB i ds (isO d) d δ := by
  unfold appR appB
  rw [pu_eq]
  rfl
theorem e_appB (i : Nat) (ds : List D) (d : D) (δ : DSt) : appB i ds false d δ = if ds.length < 1000000 then .nx (pu_ i δ (.own (appL ds [d]))) else .bad := by
  unfold appB
  by_cases h : ds.length < 1000000
  · rw [if_pos h, if_neg (by intro z; rcases z with z | z; cases z; omega)]
  · rw [if_neg h, if_pos (.inr (by omega))]
def frzS (i : Nat) (s : Option Sl) (δ : DSt) : DSt := match s with
  | some (.own ds) => pu_ i δ (.dat (.lst ds))
  | _ => δ
theorem e_frz (i : Nat) (a : DS) (δ : DSt) : dFrz i a δ = a (frzS i (at_ i δ) δ) := by
  show a (frz i δ) = _
  unfold frz frzS
  rw [at_eq]
  split <;> simp_all [pu_eq]
theorem e_frzO (i : Nat) (ds : List D) (δ : DSt) : frzS i (some (.own ds)) δ = pu_ i δ (.dat (.lst ds)) := (rfl)
theorem e_frzD (i : Nat) (d : D) (δ : DSt) : frzS i (some (.dat d)) δ = δ := (rfl)
theorem e_frzU (i : Nat) (δ : DSt) : frzS i (some .un) δ = δ := (rfl)
def forR (x : R (List D)) (tg : D → DSt → Option DSt) (b : DS) (δ : DSt) : Out := x.out δ fun xs => dForL tg b xs δ
theorem e_for (a : DA) (tg : D → DSt → Option DSt) (b : DS) (δ : DSt) : dFor a tg b δ = forR (a δ) tg b δ := (rfl)
theorem e_forR (xs : List D) (tg : D → DSt → Option DSt) (b : DS) (δ : DSt) : forR (.ok xs) tg b δ = dForL tg b xs δ := (rfl)
def turnO (o : Out) (tg : D → DSt → Option DSt) (b : DS) (xs : List D) : Out := match o with
  | .nx δ2 => dForL tg b xs δ2
  | .cont δ2 => dForL tg b xs δ2
  | .brk δ2 => .nx δ2
  | .ret d => .ret d
  | .exc c δ2 => .exc c δ2
  | .bad => .bad
def turnB (b : DS) : Option DSt → Out
  | some δ => b δ
  | none => .bad
theorem e_forN (tg : D → DSt → Option DSt) (b : DS) (δ : DSt) : dForL tg b [] δ = .nx δ := (rfl)
theorem e_forC (tg : D → DSt → Option DSt) (b : DS) (x : D) (xs : List D) (δ : DSt) : dForL tg b (x :: xs) δ = turnO (turnB b (tg x δ)) tg b xs := by
  rw [dForL]
  unfold turnO turnB
  cases tg x δ <;> rfl
theorem e_turnB (b : DS) (δ : DSt) : turnB b (some δ) = b δ := (rfl)
theorem e_turnN (δ : DSt) (tg : D → DSt → Option DSt) (b : DS) (xs : List D) : turnO (.nx δ) tg b xs = dForL tg b xs δ := (rfl)
theorem e_turnC (δ : DSt) (tg : D → DSt → Option DSt) (b : DS) (xs : List D) : turnO (.cont δ) tg b xs = dForL tg b xs δ := (rfl)
theorem e_turnK (δ : DSt) (tg : D → DSt → Option DSt) (b : DS) (xs : List D) : turnO (.brk δ) tg b xs = .nx δ := (rfl)
theorem e_turnR (d : D) (tg : D → DSt → Option DSt) (b : DS) (xs : List D) : turnO (.ret d) tg b xs = .ret d := (rfl)
theorem e_turnX (c : Exc) (δ : DSt) (tg : D → DSt → Option DSt) (b : DS) (xs : List D) : turnO (.exc c δ) tg b xs = .exc c δ := (rfl)
def itR (f : D → R (List D)) (x : R D) : R (List D) := x.bind f
theorem e_it (f : D → R (List D)) (a : DE) (δ : DSt) : dIt f a δ = itR f (a δ) := (rfl)
theorem e_itR (f : D → R (List D)) (x : D) : itR f (.ok x) = f x := (rfl)
def itAR (f : List D → R (List D)) (x : R (List D)) : R (List D) := x.bind f
theorem e_itA (f : List D → R (List D)) (a : DA) (δ : DSt) : dItA f a δ = itAR f (a δ) := (rfl)
theorem e_itAR (f : List D → R (List D)) (x : List D) : itAR f (.ok x) = f x := (rfl)
theorem e_asLst (x : List D) : asLst (.lst x) = .ok x := (rfl)
theorem e_asSlst (x : List D) : asLst (.slst x) = .ok x := (rfl)
theorem e_asTup (x : List D) : asTup (.tup x) = .ok x := (rfl)
theorem e_asStr (x : List Nat) : asStr (.str x) = .ok (x.map sg) := (rfl)
theorem e_raise (x : Str) (δ : DSt) : dRaise x δ = .exc (x, none) δ := (rfl)
def stD (n : Nat) : List D → DSt
  | [] => List.replicate n .un
  | d :: ds => .dat d :: stD (n - 1) ds
theorem startD_eq : ∀ (n : Nat) (ds : List D), startD n ds = stD n ds
  | n, [] => by
    show ([] : List D).map Sl.dat ++ List.replicate (n - 0) .un = _
    rfl
  | n, d :: ds => by
    show Sl.dat d :: (ds.map .dat ++ List.replicate (n - (ds.length + 1)) .un) = Sl.dat d :: stD (n - 1) ds
    rw [← startD_eq (n - 1) ds]
    unfold startD
    rw [Nat.sub_sub, Nat.add_comm 1]
def endO : Out → R D
  | .nx _ => .ok .non
  | .ret d => .ok d
  | .exc c _ => .exc c
  | _ => .bad
theorem e_run (n : Nat) (b : DS) (ds : List D) : runB n b ds = endO (b (stD n ds)) := by
  unfold runB
  rw [startD_eq]
  cases b (stD n ds) <;> rfl
theorem e_endN (δ : DSt) : endO (.nx δ) = .ok .non := (rfl)
theorem e_endR (d : D) : endO (.ret d) = .ok d := (rfl)
theorem e_endX (c : Exc) (δ : DSt) : endO (.exc c δ) = .exc c := (rfl)
theorem e_stC (n : Nat) (d : D) (ds : List D) : stD n (d :: ds) = .dat d :: stD (n - 1) ds := (rfl)
theorem e_st0 : stD 0 [] = [] := (rfl)
theorem e_stS (n : Nat) : stD (n + 1) [] = .un :: stD n [] := (rfl)
/-! ### what the operators come to -/
theorem e_addI (i j : Int) : fAdd (.int i) (.int j) = some (.int (i + j)) := (rfl)
theorem e_addS (a b : List Nat) : fAdd (.str a) (.str b) = if a.length + b.length ≤ 1000000 then some (.str (a ++ b)) else none := (rfl)
def addB (x y : List D) : Option D := if x.length + y.length ≤ 1000000 then some (.lst (appL x y)) else none
theorem e_addB (x y : List D) : addB x y = if x.length + y.length ≤ 1000000 then some (.lst (appL x y)) else none := (rfl)
theorem e_addLL (x y : List D) : fAdd (.lst x) (.lst y) = addB x y := (rfl)
theorem e_addOL (x y : List D) : fAdd (.olst x) (.lst y) = addB x y := (rfl)
theorem e_addLO (x y : List D) : fAdd (.lst x) (.olst y) = addB x y := (rfl)
theorem e_addOO (x y : List D) : fAdd (.olst x) (.olst y) = addB x y := (rfl)
theorem e_sub (i j : Int) : fSub (.int i) (.int j) = some (.int (i - j)) := (rfl)
theorem e_mul (i j : Int) : fMul (.int i) (.int j) = if smallI i || smallI j then some (.int (i * j)) else none := (rfl)
theorem mul_r (i j : Int) (h : smallI j = true := by decide) : fMul (.int i) (.int j) = some (.int (i * j)) := by
  rw [e_mul, h, Bool.or_true, if_pos rfl]
theorem mul_l (i j : Int) (h : smallI i = true := by decide) : fMul (.int i) (.int j) = some (.int (i * j)) := by
  rw [e_mul, h, Bool.true_or, if_pos rfl]
theorem e_mod (i j : Int) : fMod (.int i) (.int j) = if 0 < j then some (.int (i % j)) else none := (rfl)
theorem e_div (i j : Int) : fDiv (.int i) (.int j) = if 0 < j ∧ j < 1073741824 then some (.int (i / j)) else none := (rfl)
theorem e_neg (i : Int) : fNeg (.int i) = some (.int (-i)) := (rfl)
theorem e_cmp (f : Int → Int → Bool) (i j : Int) : fCmp f (.int i) (.int j) = some (.bl (f i j)) := (rfl)
theorem e_eqI (g : Bool → Bool) (i j : Int) : fEqB g (.int i) (.int j) = some (.bl (g (decide (i = j)))) := (rfl)
theorem e_eqS (g : Bool → Bool) (i j : List Nat) : fEqB g (.str i) (.str j) = some (.bl (g (decide (i = j)))) := (rfl)
theorem e_eqB (g : Bool → Bool) (i j : Bool) : fEqB g (.bl i) (.bl j) = some (.bl (g (decide (i = j)))) := (rfl)
theorem e_id (b : Bool) : id b = b := (rfl)
theorem e_n1 : not true = false := (rfl)
theorem e_isN : fIs .non .non = some (.bl true) := (rfl)
theorem e_isI (i : Int) : fIs (.int i) .non = some (.bl false) := (rfl)
theorem e_isS (i : List Nat) : fIs (.str i) .non = some (.bl false) := (rfl)
theorem e_isT (i : List D) : fIs (.tup i) .non = some (.bl false) := (rfl)
theorem e_isL (i : List D) : fIs (.lst i) .non = some (.bl false) := (rfl)
theorem e_isB (i : Bool) : fIs (.bl i) .non = some (.bl false) := (rfl)
theorem e_isnN : fIsNot .non .non = some (.bl false) := (rfl)
theorem e_isnI (i : Int) : fIsNot (.int i) .non = some (.bl true) := (rfl)
theorem e_isnS (i : List Nat) : fIsNot (.str i) .non = some (.bl true) := (rfl)
theorem e_isnT (i : List D) : fIsNot (.tup i) .non = some (.bl true) := (rfl)
theorem e_isnL (i : List D) : fIsNot (.lst i) .non = some (.bl true) := (rfl)
theorem e_isnB (i : Bool) : fIsNot (.bl i) .non = some (.bl true) := (rfl)
theorem e_ixS (l : List Nat) (i : Int) : fIx (.str l) (.int i) = if l.length ≤ 1000000 then (atI l i).map sg else none := (rfl)
theorem e_ixT (l : List D) (i : Int) : fIx (.tup l) (.int i) = atI l i := (rfl)
theorem e_ixL (l : List D) (i : Int) : fIx (.lst l) (.int i) = atI l i := (rfl)
theorem e_ixSL (l : List D) (i : Int) : fIx (.slst l) (.int i) = atI l i := (rfl)
theorem e_ixO (l : List D) (i : Int) : fIx (.olst l) (.int i) = atI l i := (rfl)
theorem e_at_0 {α : Type} (x : α) (r : List α) : atI (x :: r) 0 = some x := by
  have h : ixN (x :: r).length 0 = some 0 := by
    unfold ixN
    rw [if_pos (by decide), if_pos (by simp)]
    rfl
  unfold atI
  rw [h]
  rfl
theorem e_at_1 {α : Type} (x y : α) (r : List α) : atI (x :: y :: r) 1 = some y := by
  have h : ixN (x :: y :: r).length 1 = some 1 := by
    unfold ixN
    rw [if_pos (by decide), if_pos (by simp only [List.length_cons]; omega)]
    rfl
  unfold atI
  rw [h]
  rfl
theorem e_at_2 {α : Type} (x y z : α) (r : List α) : atI (x :: y :: z :: r) 2 = some z := by
  have h : ixN (x :: y :: z :: r).length 2 = some 2 := by
    unfold ixN
    rw [if_pos (by decide), if_pos (by simp only [List.length_cons]; omega)]
    rfl
  unfold atI
  rw [h]
  rfl
theorem e_sg (c : Nat) : sg c = .str [c] := (rfl)
theorem e_lenS (l : List Nat) : fLen [.str l] = if l.length ≤ 1000000 then some (.int l.length) else none := (rfl)
theorem e_lenT (l : List D) : fLen [.tup l] = some (.int l.length) := (rfl)
theorem e_lenL (l : List D) : fLen [.lst l] = some (.int l.length) := (rfl)
theorem e_lenSL (l : List D) : fLen [.slst l] = some (.int l.length) := (rfl)
theorem e_lenO (l : List D) : fLen [.olst l] = some (.int l.length) := (rfl)
theorem e_int (i : Int) : fInt [.int i] = some (.int i) := (rfl)
theorem e_intT : fInt [.bl true] = some (.int 1) := (rfl)
theorem e_intF : fInt [.bl false] = some (.int 0) := (rfl)
theorem e_str (i : Int) : fStr [.int i] = if i.natAbs < 1000000000000000000 then some (.str (strI i)) else none := (rfl)
theorem e_min (i j : Int) : fMin [.int i, .int j] = some (.int (if j < i then j else i)) := (rfl)
theorem e_max (i j : Int) : fMax [.int i, .int j] = some (.int (if j > i then j else i)) := (rfl)
theorem e_abs (i : Int) : fAbs [.int i] = some (.int (if i < 0 then -i else i)) := (rfl)
def m1R (f : List Nat → D → Option D) (z : R D) (a : DE) (δ : DSt) : R D := z.bind fun z => match z with
  | .str z => (a δ).bind fun d => R.of (f z d)
  | _ => .bad
def m1S (f : List Nat → D → Option D) (z : List Nat) (a : R D) : R D := a.bind fun d => R.of (f z d)
theorem e_m1 (f : List Nat → D → Option D) (z a : DE) (δ : DSt) : dM1 f z a δ = m1R f (z δ) a δ := (rfl)
theorem e_m1R (f : List Nat → D → Option D) (z : List Nat) (a : DE) (δ : DSt) : m1R f (.ok (.str z)) a δ = m1S f z (a δ) := (rfl)
theorem e_m1S (f : List Nat → D → Option D) (z : List Nat) (d : D) : m1S f z (.ok d) = R.of (f z d) := (rfl)
def joinB (z : List Nat) (t : Option (List (List Nat))) : Option D := t.bind fun ls => if sumL ls + ls.length * z.length ≤ 1000000 then some (.str (jn z ls)) else none
theorem e_joinL (z : List Nat) (l : List D) : fJoin z (.lst l) = joinB z (txts l) := (rfl)
theorem e_joinO (z : List Nat) (l : List D) : fJoin z (.olst l) = joinB z (txts l) := (rfl)
theorem e_joinT (z : List Nat) (l : List D) : fJoin z (.tup l) = joinB z (txts l) := (rfl)
theorem e_joinB (z : List Nat) (ls : List (List Nat)) : joinB z (some ls) = if sumL ls + ls.length * z.length ≤ 1000000 then some (.str (jn z ls)) else none := (rfl)
def txC (l : List Nat) : Option (List (List Nat)) → Option (List (List Nat))
  | some x => some (l :: x)
  | none => none
theorem e_txN : txts [] = some [] := (rfl)
theorem e_txC (l : List Nat) (r : List D) : txts (.str l :: r) = txC l (txts r) := by
  rw [txts]
  cases txts r <;> rfl
theorem e_txS (l : List Nat) (x : List (List Nat)) : txC l (some x) = some (l :: x) := (rfl)
theorem e_isiT (x : D) (T t : String) (b : Bool) (h1 : tyD x = some t) (h2 : kitB t T = some b) : fIsi [x, .obj (.ty T)] = some (.bl b) := by
  show ((tyD x).bind fun t => (kitB t T).map fun b => D.bl b) = _
  rw [h1]
  show (kitB t T).map _ = _
  rw [h2]
  rfl
theorem e_isiS (l : List Nat) : fIsi [.str l, .obj (.ty "str")] = some (.bl true) := e_isiT _ _ _ _ rfl rfl
theorem e_isiL (l : List D) : fIsi [.lst l, .obj (.ty "list")] = some (.bl true) := e_isiT _ _ _ _ rfl rfl
theorem e_isiTu (l : List D) : fIsi [.tup l, .obj (.ty "tuple")] = some (.bl true) := e_isiT _ _ _ _ rfl rfl
theorem e_rep (y z : List Nat) (a : DE) (δ : DSt) : dRepl y z a δ = op1S (fRepl y z) (a δ) := (rfl)
theorem e_replS (y z l : List Nat) : fRepl y z (.str l) = if l.length + (l.length + 1) * z.length ≤ 1000000 ∧ y ≠ [] then some (.str (rpl y z l)) else none := (rfl)
def mpS : Option (List Nat) → Option D
  | some l => some (.str l)
  | none => none
theorem e_tabG (tb : Tb) (k : List Nat) : fTabGet tb (.str k) = mpS (tbGet tb k) := by
  show (tbGet tb k).map D.str = _
  cases tbGet tb k <;> rfl
theorem e_mpS (l : List Nat) : mpS (some l) = some (.str l) := (rfl)
theorem e_tabI (g : Bool → Bool) (tb : Tb) (k : List Nat) : fTabIn g tb (.str k) = some (.bl (g (tbGet tb k).isSome)) := (rfl)
theorem inT_ (g : Bool → Bool) (x : D) (l : List D) (h : ∀ a, x = .str a → True := by intros; trivial) : fInB g x (.tup l) = if scalD x && l.all scalD then some (.bl (g (inF x l))) else none := by
  cases x <;> rfl
theorem e_inS (g : Bool → Bool) (a b : List Nat) : fInB g (.str a) (.str b) = some (.bl (g (subIn a b))) := (rfl)
def slR (x : R D) (lo hi : DO) (δ : DSt) : R D := x.bind fun x => (lo δ).bind fun l => (hi δ).bind fun h => R.of (fSl x l h)
def slS (x : D) (lo : R (Option Int)) (hi : DO) (δ : DSt) : R D := lo.bind fun l => (hi δ).bind fun h => R.of (fSl x l h)
def slT (x : D) (lo : Option Int) (hi : R (Option Int)) : R D := hi.bind fun h => R.of (fSl x lo h)
theorem e_sl (a : DE) (lo hi : DO) (δ : DSt) : dSl a lo hi δ = slR (a δ) lo hi δ := (rfl)
theorem e_slR (x : D) (lo hi : DO) (δ : DSt) : slR (.ok x) lo hi δ = slS x (lo δ) hi δ := (rfl)
theorem e_slS (x : D) (lo : Option Int) (hi : DO) (δ : DSt) : slS x (.ok lo) hi δ = slT x lo (hi δ) := (rfl)
theorem e_slT (x : D) (lo hi : Option Int) : slT x lo (.ok hi) = R.of (fSl x lo hi) := (rfl)
theorem e_oNone (δ : DSt) : dON δ = .ok none := (rfl)
def oR (x : R D) : R (Option Int) := x.bind asI
theorem e_oSome (a : DE) (δ : DSt) : dOS a δ = oR (a δ) := (rfl)
theorem e_oRI (i : Int) : oR (.ok (.int i)) = .ok (some i) := (rfl)
theorem e_slStr (l : List Nat) (lo hi : Option Int) : fSl (.str l) lo hi = if l.length ≤ 1000000 then some (.str (cutL l lo hi)) else none := (rfl)
theorem e_slL (l : List D) (lo hi : Option Int) : fSl (.lst l) lo hi = some (.lst (cutL l lo hi)) := (rfl)
theorem e_slSL (l : List D) (lo hi : Option Int) : fSl (.slst l) lo hi = some (.lst (cutL l lo hi)) := (rfl)
theorem e_slO (l : List D) (lo hi : Option Int) : fSl (.olst l) lo hi = some (.lst (cutL l lo hi)) := (rfl)
def lcR (x : R (List D)) (tg : D → DSt → Option DSt) (dt : DT) (de : DE) (vs : List Nat) (δ : DSt) : R (List D) := x.bind fun xs => if xs.length ≤ 100000 then dLcL tg dt de (wipeD δ vs) xs else .bad
theorem e_lc (a : DA) (tg : D → DSt → Option DSt) (dt : DT) (de : DE) (vs : List Nat) (δ : DSt) : dLc a tg dt de vs δ = lcR (a δ) tg dt de vs δ := (rfl)
theorem e_lcR (xs : List D) (tg : D → DSt → Option DSt) (dt : DT) (de : DE) (vs : List Nat) (δ : DSt) (h : xs.length ≤ 100000) : lcR (.ok xs) tg dt de vs δ = dLcL tg dt de (wipeD δ vs) xs := by
  show (if xs.length ≤ 100000 then _ else _) = _
  rw [if_pos h]
/-- a comprehension whose items each come to something -/
theorem lc_map {tg : D → DSt → Option DSt} {dt : DT} {de : DE} {δ : DSt} {f : D → D} : ∀ {xs : List D}, (∀ x ∈ xs, ∃ δ1, tg x δ = some δ1 ∧ dt δ1 = .ok true ∧ de δ1 = .ok (f x) ∧ isO (f x) = false) → dLcL tg dt de δ xs = .ok (xs.map f)
  | [], _ => rfl
  | x :: xs, h => by
    obtain ⟨δ1, h1, h2, h3, h4⟩ := h x (List.mem_cons_self ..)
    have ih := lc_map (xs := xs) fun y hy => h y (List.mem_cons_of_mem _ hy)
    rw [dLcL, h1]
    dsimp only
    rw [h2, R.bind0_ok, if_pos rfl, h3, R.bind0_ok, h4, ih]
    rfl
/-- .. of those kept -/
theorem lc_filter {tg : D → DSt → Option DSt} {dt : DT} {de : DE} {δ : DSt} {f : D → D} {p : D → Bool} : ∀ {xs : List D}, (∀ x ∈ xs, ∃ δ1, tg x δ = some δ1 ∧ dt δ1 = .ok (p x) ∧ (p x = true → de δ1 = .ok (f x) ∧ isO (f x) = false)) → dLcL tg dt de δ xs = .ok ((xs.filter p).map f)
  | [], _ => rfl
  | x :: xs, h => by
    obtain ⟨δ1, h1, h2, h3⟩ := h x (List.mem_cons_self ..)
    have ih := lc_filter (xs := xs) fun y hy => h y (List.mem_cons_of_mem _ hy)
    rw [dLcL, h1]
    dsimp only
    rw [h2, R.bind0_ok]
    cases q : p x with
    | true =>
      obtain ⟨h4, h5⟩ := h3 q
      rw [if_pos rfl, h4, R.bind0_ok, h5, ih, List.filter_cons, q]
      rfl
    | false =>
      rw [if_neg (by decide), ih, List.filter_cons, q]
      rfl
/-! ### texts put together -/
theorem txts_map : ∀ ls : List (List Nat), txts (ls.map .str) = some ls
  | [] => rfl
  | l :: r => by
    rw [List.map_cons, e_txC, txts_map r]
    rfl
theorem glue_nil : ∀ ls : List (List Nat), glue [] ls = ls.flatten
  | [] => rfl
  | l :: r => by
    show [] ++ (l ++ glue [] r) = _
    rw [glue_nil r]
    rfl
theorem jn_nil (ls : List (List Nat)) : jn [] ls = ls.flatten := by
  cases ls with
  | nil => rfl
  | cons l r =>
    show l ++ glue [] r = _
    rw [glue_nil r]
    rfl
theorem sum_flat : ∀ ls : List (List Nat), sumL ls = ls.flatten.length
  | [] => rfl
  | l :: r => by
    show l.length + sumL r = _
    rw [sum_flat r, List.flatten_cons, List.length_append]
theorem e_ca0 : ((0 : Nat) : Int) = 0 := (rfl)
theorem e_ca1 : ((1 : Nat) : Int) = 1 := (rfl)
theorem e_ca2 : ((2 : Nat) : Int) = 2 := (rfl)
theorem e_ca3 : ((3 : Nat) : Int) = 3 := (rfl)
theorem e_ca4 : ((4 : Nat) : Int) = 4 := (rfl)
theorem e_ca5 : ((5 : Nat) : Int) = 5 := (rfl)
theorem e_ca6 : ((6 : Nat) : Int) = 6 := (rfl)
theorem e_ca7 : ((7 : Nat) : Int) = 7 := (rfl)
theorem e_ca8 : ((8 : Nat) : Int) = 8 := (rfl)
theorem e_ca9 : ((9 : Nat) : Int) = 9 := (rfl)
theorem e_ca10 : ((10 : Nat) : Int) = 10 := (rfl)
theorem e_ca11 : ((11 : Nat) : Int) = 11 := (rfl)
theorem e_ca12 : ((12 : Nat) : Int) = 12 := (rfl)
/-! ### loops, places, pieces -/
theorem for_inv {tg : D → DSt → Option DSt} {b : DS} {P : Nat → DSt → Prop} : ∀ {xs : List D} {n : Nat} {δ : DSt}, (∀ (k : Nat) (x : D) (δ : DSt), x ∈ xs → n ≤ k → k < n + xs.length → P k δ → ∃ δ', turnB b (tg x δ) = .nx δ' ∧ P (k + 1) δ') → P n δ → ∃ δ', dForL tg b xs δ = .nx δ' ∧ P (n + xs.length) δ'
  | [], n, δ, _, h0 => ⟨δ, rfl, h0⟩
  | x :: xs, n, δ, h, h0 => by
    obtain ⟨δ1, e1, p1⟩ := h n x δ (List.mem_cons_self ..) (Nat.le_refl _) (by rw [List.length_cons]; omega) h0
    obtain ⟨δ2, e2, p2⟩ := for_inv (xs := xs) (n := n + 1) (δ := δ1) (fun k y d hy h1 h2 hp => h k y d (List.mem_cons_of_mem _ hy) (by omega) (by rw [List.length_cons]; omega) hp) p1
    refine ⟨δ2, ?_, by rw [List.length_cons, show n + (xs.length + 1) = n + 1 + xs.length by omega]; exact p2⟩
    rw [e_forC, e1, e_turnN, e2]
theorem at_in {α : Type} (L : List α) (i : Int) (h0 : 0 ≤ i) (h1 : i < L.length) : ∃ c, c ∈ L ∧ atI L i = some c := by
  have hn : ixN L.length i = some i.toNat := by
    unfold ixN
    rw [if_pos h0, if_pos h1]
  have hl : i.toNat < L.length := by omega
  refine ⟨L[i.toNat], List.getElem_mem hl, ?_⟩
  unfold atI
  rw [hn]
  exact List.getElem?_eq_getElem hl
theorem at_nat {α : Type} (L : List α) (n : Nat) : atI L (n : Int) = L[n]? := by
  unfold atI ixN
  rw [if_pos (by omega)]
  by_cases h : n < L.length
  · rw [if_pos (by omega)]
    rfl
  · rw [if_neg (by omega), List.getElem?_eq_none (by omega)]
    rfl
theorem cut_mem {α : Type} {xs : List α} {lo hi : Option Int} {x : α} (h : x ∈ cutL xs lo hi) : x ∈ xs := List.mem_of_mem_drop (List.mem_of_mem_take h)
theorem cut_len {α : Type} (xs : List α) (lo hi : Option Int) : (cutL xs lo hi).length ≤ xs.length := by
  unfold cutL
  rw [List.length_take, List.length_drop]
  omega
theorem cut_to {α : Type} (xs : List α) (n : Nat) : cutL xs none (some (n : Int)) = xs.take n := by
  unfold cutL
  rw [HT.sIx_none, HT.sIx_nat, List.drop_zero, Nat.sub_zero, Nat.min_def]
  split
  · rfl
  · rw [List.take_length, List.take_of_length_le (by omega)]
theorem cut_from {α : Type} (xs : List α) (n : Nat) : cutL xs (some (n : Int)) none = xs.drop n := by
  unfold cutL
  rw [HT.sIx_none, HT.sIx_nat, Nat.min_def]
  split
  · rw [List.take_of_length_le (by rw [List.length_drop]; omega)]
  · rw [List.drop_length, List.take_nil, List.drop_eq_nil_of_le (by omega)]
theorem appL_eq (x y : List D) : appL x y = x ++ y := rfl
theorem e_scS (l : List Nat) : scalD (.str l) = true := (rfl)
theorem e_scI (l : Int) : scalD (.int l) = true := (rfl)
theorem e_scB (l : Bool) : scalD (.bl l) = true := (rfl)
theorem e_scN : scalD .non = true := (rfl)
theorem e_allN : ([] : List D).all scalD = true := (rfl)
theorem e_allC (d : D) (r : List D) : (d :: r).all scalD = (scalD d && r.all scalD) := (rfl)
theorem e_inN (x : D) : inF x [] = false := (rfl)
theorem e_inC (x y : D) (r : List D) : inF x (y :: r) = (eqF y x || inF x r) := (rfl)
theorem e_eqFS (a b : List Nat) : eqF (.str a) (.str b) = decide (a = b) := by
  show (a == b) = _
  by_cases h : a = b
  · subst h; simp
  · rw [decide_eq_false h]; exact beq_eq_false_iff_ne.mpr h
theorem e_eqFI (a b : Int) : eqF (.int a) (.int b) = decide (a = b) := by
  show (a == b) = _
  by_cases h : a = b
  · subst h; simp
  · rw [decide_eq_false h]; exact beq_eq_false_iff_ne.mpr h
theorem e_inST (g : Bool → Bool) (a : List Nat) (l : List D) : fInB g (.str a) (.tup l) = if l.all scalD then some (.bl (g (inF (.str a) l))) else none := (rfl)
theorem e_inIT (g : Bool → Bool) (a : Int) (l : List D) : fInB g (.int a) (.tup l) = if l.all scalD then some (.bl (g (inF (.int a) l))) else none := (rfl)
def spR (o : Option Nat) : Option D := o.map fun i => .int (i : Nat)
theorem e_index (z a : List Nat) : fIndex z (.str a) = spR (spot a z) := (rfl)
theorem e_spR (i : Nat) : spR (some i) = some (.int (i : Nat)) := (rfl)
def mgS : Option Nat → Option D
  | some l => some (.str [l])
  | none => none
theorem e_mg (o : Option Nat) : o.map sg = mgS o := by cases o <;> rfl
theorem e_mgS (c : Nat) : mgS (some c) = some (.str [c]) := (rfl)
/-! ### joins of few short texts -/
def smallL : Nat → List (List Nat) → Bool
  | _, [] => true
  | 0, _ :: _ => false
  | n + 1, x :: r => decide (x.length ≤ 1000) && smallL n r
theorem e_smN (n : Nat) : smallL n [] = true := by cases n <;> rfl
theorem e_smC (n : Nat) (x : List Nat) (r : List (List Nat)) : smallL (n + 1) (x :: r) = (decide (x.length ≤ 1000) && smallL n r) := (rfl)
theorem small_le : ∀ (n : Nat) (ls : List (List Nat)), smallL n ls = true → ls.length ≤ n ∧ sumL ls ≤ 1000 * ls.length
  | n, [], _ => ⟨Nat.zero_le _, by simp [sumL]⟩
  | 0, _ :: _, h => by cases h
  | n + 1, x :: r, h => by
    obtain ⟨h1, h2⟩ := Bool.and_eq_true_iff.mp h
    have h1 := of_decide_eq_true h1
    obtain ⟨h3, h4⟩ := small_le n r h2
    refine ⟨by rw [List.length_cons]; omega, ?_⟩
    show x.length + sumL r ≤ _
    rw [List.length_cons]
    omega
def joinC (b : Bool) (z : List Nat) (ls : List (List Nat)) : Option D := if b then some (.str (jn z ls)) else joinB z (some ls)
theorem e_joinW (z : List Nat) (ls : List (List Nat)) : joinB z (some ls) = joinC (decide (z.length ≤ 1000) && smallL 30 ls) z ls := by
  unfold joinC
  by_cases h : (decide (z.length ≤ 1000) && smallL 30 ls) = true
  · rw [if_pos h]
    obtain ⟨h1, h2⟩ := Bool.and_eq_true_iff.mp h
    have h1 := of_decide_eq_true h1
    obtain ⟨h3, h4⟩ := small_le _ _ h2
    have h5 : ls.length * z.length ≤ 30 * 1000 := Nat.mul_le_mul h3 h1
    show (if sumL ls + ls.length * z.length ≤ 1000000 then _ else _) = _
    rw [if_pos (by omega)]
  · rw [if_neg h]
theorem e_joinWT (z : List Nat) (ls : List (List Nat)) : joinC true z ls = some (.str (jn z ls)) := (rfl)
end Dl
set_option Elab.async false
set_option linter.all false
set_option maxRecDepth 100000
/-! Mi83: what each def of the row computes, over data. Printed by gen.py. -/
namespace Mi83
open PySem L2 Dl
abbrev L0 : List Nat := [34]
abbrev L1 : List Nat := [92, 110]
abbrev L2 : List Nat := [10]
abbrev L3 : List Nat := [92, 113]
abbrev L4 : List Nat := [92, 92]
abbrev L5 : List Nat := [92]
abbrev L6 : List Nat := [109]
abbrev L7 : List Nat := [97, 116]
abbrev L8 : List Nat := [32]
abbrev L9 : List Nat := [86]
abbrev L10 : List Nat := []
abbrev L11 : List Nat := [88, 84, 82, 58]
abbrev L12 : List Nat := [116, 105, 109, 101, 115]
abbrev L13 : List Nat := [115, 104, 101, 108, 102]
abbrev L14 : List Nat := [97, 98, 99, 100, 101, 102, 103, 104, 105, 106, 107, 108, 109, 110, 111, 112, 113, 114, 115, 116, 117, 118, 119, 120, 121, 122]
abbrev L15 : List Nat := [97, 66, 48, 32, 122, 57, 89, 40, 120, 99, 41, 100, 49, 69, 32, 102]
abbrev L16 : List Nat := [40, 41, 91, 93, 123, 125]
abbrev L17 : List Nat := [32, 33, 34, 35, 36, 38, 39, 40, 41, 42, 43, 44, 45, 46, 47, 48, 49, 50, 51, 52, 53, 54, 55, 56, 57, 58, 59, 60, 61, 62, 63, 64, 65, 66, 67, 68, 69, 70, 71, 72, 73, 74, 75, 76, 77, 78, 79, 80, 81, 82, 83, 84, 85, 86, 87, 88, 89, 90, 91, 92, 93, 94, 95, 96, 97, 98, 99, 100, 101, 102, 103, 104, 105, 106, 107, 108, 109, 110, 111, 112, 113, 114, 115, 116, 117, 118, 119, 120, 121, 122, 123, 124, 125]
abbrev L18 : List Nat := [102, 116, 109]
abbrev L19 : List Nat := [104, 108, 106, 107, 98, 101, 119, 118, 111, 103, 122, 112]
abbrev L20 : List Nat := [99, 97, 105, 114, 40, 91, 123, 41, 93, 125, 39, 34, 115]
abbrev L21 : List Nat := [115, 114, 98]
abbrev L22 : List Nat := [64]
abbrev L23 : List Nat := [75]
abbrev L24 : List Nat := [77]
abbrev L25 : List Nat := [82]
abbrev L26 : List Nat := [58]
abbrev L27 : List Nat := [126]
abbrev L28 : List Nat := [84]
abbrev L29 : List Nat := [88]
abbrev L30 : List Nat := [74]
abbrev L31 : List Nat := [70]
abbrev L32 : List Nat := [68]
abbrev L33 : List Nat := [83]
abbrev L34 : List Nat := [71]
abbrev L35 : List Nat := [89]
abbrev L36 : List Nat := [67]
abbrev L37 : List Nat := [80]
abbrev L38 : List Nat := [46]
abbrev L39 : List Nat := [76]
abbrev L40 : List Nat := [69]
abbrev L41 : List Nat := [78]
abbrev L42 : List Nat := [65]
abbrev L43 : List Nat := [90]
abbrev L44 : List Nat := [104, 108, 106, 107, 98, 101, 119, 118, 111, 103, 122, 112, 99, 97, 105, 114, 40, 41, 91, 93, 123, 125, 39, 34, 115]
abbrev L45 : List Nat := [115, 101, 101, 110]
abbrev L46 : List Nat := [113, 117, 111, 116, 101]
abbrev L47 : List Nat := [105, 110, 113, 117, 111, 116, 101]
abbrev L48 : List Nat := [99, 117, 114, 108, 121]
abbrev L49 : List Nat := [105, 110, 99, 117, 114, 108, 121]
abbrev L50 : List Nat := [115, 113, 117, 97, 114, 101]
abbrev L51 : List Nat := [105, 110, 115, 113, 117, 97, 114, 101]
abbrev L52 : List Nat := [114, 111, 117, 110, 100]
abbrev L53 : List Nat := [105, 110, 114, 111, 117, 110, 100]
abbrev L54 : List Nat := [114, 111, 119, 115]
abbrev L55 : List Nat := [115, 105, 103, 110, 115]
abbrev L56 : List Nat := [115, 112, 97, 99, 101, 100]
abbrev L57 : List Nat := [116, 104, 105, 115]
abbrev L58 : List Nat := [112, 97, 114, 116, 110, 101, 114]
abbrev L59 : List Nat := [108, 97, 115, 116]
abbrev L60 : List Nat := [114, 111, 119]
abbrev L61 : List Nat := [111, 117, 116]
abbrev L62 : List Nat := [98, 97, 99, 107]
abbrev L63 : List Nat := [119, 111, 114, 100]
abbrev L64 : List Nat := [101, 110, 100]
abbrev L65 : List Nat := [98, 101, 103, 105, 110]
abbrev L66 : List Nat := [117, 112]
abbrev L67 : List Nat := [100, 111, 119, 110]
abbrev L68 : List Nat := [114, 105, 103, 104, 116]
abbrev L69 : List Nat := [108, 101, 102, 116]
abbrev L70 : List Nat := [116, 114, 97, 99, 101]
abbrev L71 : List Nat := [102, 105, 110, 100]
abbrev L72 : List Nat := [116]
abbrev L73 : List Nat := [98, 108, 111, 99, 107]
abbrev L74 : List Nat := [67, 89, 88, 71, 83, 68, 70, 74, 84, 82, 80, 77, 75, 86, 90, 65, 78, 69, 76, 46, 64, 58]
abbrev L75 : List Nat := [103, 111]
abbrev L76 : List Nat := [108, 105, 110, 101]
abbrev L77 : List Nat := [112, 108, 97, 121]
abbrev L78 : List Nat := [97, 103, 97, 105, 110]
abbrev L79 : List Nat := [108, 97, 116, 101, 114]
abbrev L80 : List Nat := [101, 97, 114, 108, 105, 101, 114]
abbrev L81 : List Nat := [115, 116, 97, 116, 101]
abbrev L82 : List Nat := [100, 111, 110, 101]
abbrev L83 : List Nat := [117, 110, 100, 111, 110, 101]
abbrev L84 : List Nat := [115, 101, 101]
abbrev L85 : List Nat := [107, 101, 101, 112]
abbrev L86 : List Nat := [109, 97, 114, 107]
abbrev L87 : List Nat := [108, 97, 121]
abbrev L88 : List Nat := [111, 118, 101, 114]
abbrev L89 : List Nat := [119, 114, 105, 116, 101]
abbrev L90 : List Nat := [106, 111, 105, 110]
abbrev L91 : List Nat := [102, 108, 97, 116, 116, 101, 114]
abbrev L92 : List Nat := [100, 101, 101, 112, 101, 114]
abbrev L93 : List Nat := [115, 109, 97, 108, 108]
abbrev L94 : List Nat := [103, 114, 101, 97, 116]
abbrev L95 : List Nat := [101, 120, 99, 104, 97, 110, 103, 101]
abbrev L96 : List Nat := [99, 111, 112, 121]
abbrev L97 : List Nat := [99, 117, 116]
abbrev L98 : List Nat := [104]
abbrev L99 : List Nat := [103, 111, 32, 108, 101, 102, 116]
def tb_MOVE_WORDS : Dl.Tb := [([104], [108, 101, 102, 116]), ([108], [114, 105, 103, 104, 116]), ([106], [100, 111, 119, 110]), ([107], [117, 112]), ([98], [98, 101, 103, 105, 110]), ([101], [101, 110, 100]), ([119], [119, 111, 114, 100]), ([118], [98, 97, 99, 107]), ([111], [111, 117, 116]), ([103], [114, 111, 119]), ([122], [108, 97, 115, 116]), ([112], [112, 97, 114, 116, 110, 101, 114]), ([102], [102, 105, 110, 100]), ([116], [116, 114, 97, 99, 101]), ([109], [97, 116])]
def tb_SEEN_WORDS : Dl.Tb := [([115], [115, 105, 103, 110, 115]), ([114], [114, 111, 119, 115]), ([98], [98, 108, 111, 99, 107])]
def tb_THING_WORDS : Dl.Tb := [([99], [116, 104, 105, 115]), ([97], [115, 112, 97, 99, 101, 100]), ([105], [115, 105, 103, 110, 115]), ([114], [114, 111, 119, 115]), ([40], [105, 110, 114, 111, 117, 110, 100]), ([41], [114, 111, 117, 110, 100]), ([91], [105, 110, 115, 113, 117, 97, 114, 101]), ([93], [115, 113, 117, 97, 114, 101]), ([123], [105, 110, 99, 117, 114, 108, 121]), ([125], [99, 117, 114, 108, 121]), ([39], [105, 110, 113, 117, 111, 116, 101]), ([34], [113, 117, 111, 116, 101]), ([115], [115, 101, 101, 110])]
def tb_VERB_WORDS : Dl.Tb := [([], [103, 111]), ([67], [99, 117, 116]), ([89], [99, 111, 112, 121]), ([88], [101, 120, 99, 104, 97, 110, 103, 101]), ([71], [103, 114, 101, 97, 116]), ([83], [115, 109, 97, 108, 108]), ([68], [100, 101, 101, 112, 101, 114]), ([70], [102, 108, 97, 116, 116, 101, 114]), ([74], [106, 111, 105, 110]), ([84], [119, 114, 105, 116, 101]), ([82], [111, 118, 101, 114]), ([80], [108, 97, 121]), ([77], [109, 97, 114, 107]), ([75], [107, 101, 101, 112]), ([86], [115, 101, 101]), ([90], [117, 110, 100, 111, 110, 101]), ([65], [100, 111, 110, 101]), ([78], [115, 116, 97, 116, 101]), ([69], [101, 97, 114, 108, 105, 101, 114]), ([76], [108, 97, 116, 101, 114]), ([46], [97, 103, 97, 105, 110]), ([64], [112, 108, 97, 121]), ([58], [108, 105, 110, 101])]
/-- quoted(text); slots text -/
def d_quoted : DS := dSeq (dSet 0 (dRepl L5 L4 (dVar 0))) (dSeq (dSet 0 (dRepl L0 L3 (dVar 0))) (dRet (dOp2 fAdd (dOp2 fAdd (dC (.str L0)) (dRepl L2 L1 (dVar 0))) (dC (.str L0)))))
def m_quoted : List D → R D := runB 1 d_quoted
/-- target_words(target); slots target -/
def d_target_words : DS := dSeq (dIf (dB (dOp1 (fTabIn id tb_THING_WORDS) (dOp2 fIx (dVar 0) (dC (.int 0))))) (dRet (dFix (dItems (dCons (dOp1 (fTabGet tb_THING_WORDS) (dVar 0)) (dNil))))) (dSkip)) (dSeq (dIf (dB (dOp2 fEq (dOp2 fIx (dVar 0) (dC (.int 0))) (dC (.str L6)))) (dRet (dFix (dItems (dCons (dC (.str L7)) (dCons (dOp2 fIx (dVar 0) (dC (.int 1))) (dNil)))))) (dSkip)) (dSeq (dIf (dB (dOp2 fEq (dOpA fLen (dCons (dVar 0) (dNil))) (dC (.int 2)))) (dRet (dFix (dItems (dCons (dOp1 (fTabGet tb_MOVE_WORDS) (dOp2 fIx (dVar 0) (dC (.int 0)))) (dCons (dCall 1 m_quoted (dCons (dOp2 fIx (dVar 0) (dC (.int 1))) (dNil))) (dNil)))))) (dSkip)) (dRet (dFix (dItems (dCons (dOp1 (fTabGet tb_MOVE_WORDS) (dVar 0)) (dNil)))))))
def m_target_words : List D → R D := runB 1 d_target_words
/-- in_words(phrase); slots phrase shelf count verb target typed found -/
def d_in_words : DS := dSeq (dAsgT (tgT [1, 2, 3, 4, 5]) (dVar 0)) (dSeq (dOwn 6 (dItems (dCons (dOp1 (fTabGet tb_VERB_WORDS) (dVar 3)) (dNil)))) (dSeq (dIf (dB (dOp2 fNe (dVar 1) (dC (.str L10)))) (dOwn 6 (dCatF (dVar 6) (dFix (dItems (dCons (dC (.str L13)) (dCons (dVar 1) (dNil))))))) (dSkip)) (dSeq (dIf (dB (dOp2 fIsNot (dVar 2) (dC .non))) (dOwn 6 (dCatF (dVar 6) (dFix (dItems (dCons (dC (.str L12)) (dCons (dOpA fStr (dCons (dVar 2) (dNil))) (dNil))))))) (dSkip)) (dSeq (dIf (dB (dOp2 fNe (dVar 4) (dC (.str L10)))) (dOwn 6 (dCatF (dVar 6) (dCall 1 m_target_words (dCons (dVar 4) (dNil))))) (dSkip)) (dSeq (dIf (dB (dOp2 fEq (dVar 3) (dC (.str L9)))) (dApp 6 (dOp1 (fTabGet tb_SEEN_WORDS) (dVar 5))) (dIf (dAndT (dB (dOp2 fNe (dVar 3) (dC (.str L10)))) (dB (dOp2 fIn (dVar 3) (dC (.str L11))))) (dApp 6 (dCall 1 m_quoted (dCons (dVar 5) (dNil)))) (dIf (dB (dOp2 fNe (dVar 5) (dC (.str L10)))) (dApp 6 (dVar 5)) (dSkip)))) (dRet (dM1 fJoin (dC (.str L8)) (dVar 6))))))))
def m_in_words : List D → R D := runB 7 d_in_words
/-- _law_letter(_law_number); slots _law_number -/
def d__law_letter : DS := dRet (dOp2 fIx (dC (.str L14)) (dOp2 fMod (dVar 0) (dC (.int 26))))
def m__law_letter : List D → R D := runB 1 d__law_letter
/-- _law_sign(_law_number); slots _law_number _law_some _law_kind -/
def d__law_sign : DS := dSeq (dSet 1 (dC (.str L17))) (dSeq (dSet 2 (dOp2 fMod (dVar 0) (dC (.int 8)))) (dSeq (dIf (dB (dOp2 fEq (dVar 2) (dC (.int 0)))) (dRet (dC (.str L2))) (dSkip)) (dSeq (dIf (dB (dOp2 fEq (dVar 2) (dC (.int 1)))) (dRet (dC (.str L8))) (dSkip)) (dSeq (dIf (dB (dOp2 fEq (dVar 2) (dC (.int 2)))) (dRet (dOp2 fIx (dC (.str L16)) (dOp2 fMod (dOp2 fDiv (dVar 0) (dC (.int 8))) (dC (.int 6))))) (dSkip)) (dSeq (dIf (dB (dOp2 fLt (dVar 2) (dC (.int 6)))) (dRet (dOp2 fIx (dC (.str L15)) (dOp2 fMod (dOp2 fDiv (dVar 0) (dC (.int 8))) (dC (.int 16))))) (dSkip)) (dRet (dOp2 fIx (dVar 1) (dOp2 fMod (dOp2 fDiv (dVar 0) (dC (.int 8))) (dC (.int 93))))))))))
def m__law_sign : List D → R D := runB 3 d__law_sign
/-- _law_target(_law_number, _law_things); slots _law_number _law_things _law_key _law_sign_here -/
def d__law_target : DS := dSeq (dIf (dAndT (dB (dVar 1)) (dB (dOp2 fEq (dOp2 fMod (dVar 0) (dC (.int 3))) (dC (.int 0))))) (dRet (dOp2 fIx (dC (.str L20)) (dOp2 fMod (dOp2 fDiv (dVar 0) (dC (.int 3))) (dC (.int 13))))) (dSkip)) (dSeq (dIf (dB (dOp2 fEq (dOp2 fMod (dVar 0) (dC (.int 3))) (dC (.int 2)))) (dRet (dOp2 fIx (dC (.str L19)) (dOp2 fMod (dOp2 fDiv (dVar 0) (dC (.int 3))) (dC (.int 12))))) (dSkip)) (dSeq (dSet 2 (dOp2 fIx (dC (.str L18)) (dOp2 fMod (dOp2 fDiv (dVar 0) (dC (.int 3))) (dC (.int 3))))) (dSeq (dIf (dB (dOp2 fEq (dVar 2) (dC (.str L6)))) (dRet (dOp2 fAdd (dC (.str L6)) (dCall 1 m__law_letter (dCons (dOp2 fDiv (dVar 0) (dC (.int 9))) (dNil))))) (dSkip)) (dSeq (dSet 3 (dCall 1 m__law_sign (dCons (dOp2 fDiv (dVar 0) (dC (.int 9))) (dNil)))) (dSeq (dIf (dB (dOp2 fEq (dVar 3) (dC (.str L2)))) (dSet 3 (dC (.str L0))) (dSkip)) (dRet (dOp2 fAdd (dVar 2) (dVar 3))))))))
def m__law_target : List D → R D := runB 4 d__law_target
/-- _law_signs(_law_number, _law_size); slots _law_number _law_size _law_k -/
def d__law_signs : DS := dRet (dM1 fJoin (dC (.str L10)) (dFix (dLc (dItA asR1 (dCons (dVar 1) (dNil))) (tgN 2) (dYes) (dCall 1 m__law_sign (dCons (dOp2 fMod (dOp2 fMul (dVar 0) (dOp2 fAdd (dVar 2) (dC (.int 3)))) (dC (.int 1000003))) (dNil))) [2])))
def m__law_signs : List D → R D := runB 3 d__law_signs
/-- _law_typed(_law_verb, _law_number); slots _law_verb _law_number _law_signs_here -/
def d__law_typed : DS := dSeq (dSet 2 (dCall 2 m__law_signs (dCons (dOp2 fDiv (dVar 1) (dC (.int 11))) (dCons (dOp2 fMod (dOp2 fDiv (dVar 1) (dC (.int 5))) (dC (.int 9))) (dNil))))) (dSeq (dIf (dB (dOp2 fIn (dVar 0) (dTup (dCons (dC (.str L29)) (dCons (dC (.str L28)) (dNil)))))) (dRet (dVar 2)) (dSkip)) (dSeq (dIf (dB (dOp2 fEq (dVar 0) (dC (.str L26)))) (dRet (dRepl L2 L27 (dVar 2))) (dSkip)) (dSeq (dIf (dB (dOp2 fEq (dVar 0) (dC (.str L25)))) (dRet (dOp2 fIx (dOp2 fAdd (dRepl L2 L10 (dVar 2)) (dC (.str L5))) (dC (.int 0)))) (dSkip)) (dSeq (dIf (dB (dOp2 fIn (dVar 0) (dTup (dCons (dC (.str L24)) (dCons (dC (.str L23)) (dCons (dC (.str L22)) (dNil))))))) (dRet (dCall 1 m__law_letter (dCons (dVar 1) (dNil)))) (dSkip)) (dSeq (dIf (dB (dOp2 fEq (dVar 0) (dC (.str L9)))) (dRet (dOp2 fIx (dC (.str L21)) (dOp2 fMod (dVar 1) (dC (.int 3))))) (dSkip)) (dRet (dC (.str L10))))))))
def m__law_typed : List D → R D := runB 3 d__law_typed
/-- _law_phrase(_law_number, _law_other); slots _law_number _law_other _law_some _law_verb _law_shelf _law_count _law_target_here -/
def d__law_phrase : DS := dSeq (dSet 2 (dFix (dItems (dCons (dC (.str L10)) (dCons (dC (.str L36)) (dCons (dC (.str L35)) (dCons (dC (.str L29)) (dCons (dC (.str L34)) (dCons (dC (.str L33)) (dCons (dC (.str L32)) (dCons (dC (.str L31)) (dCons (dC (.str L30)) (dCons (dC (.str L28)) (dCons (dC (.str L25)) (dCons (dC (.str L37)) (dCons (dC (.str L24)) (dCons (dC (.str L23)) (dCons (dC (.str L9)) (dCons (dC (.str L43)) (dCons (dC (.str L42)) (dCons (dC (.str L41)) (dCons (dC (.str L40)) (dCons (dC (.str L39)) (dCons (dC (.str L38)) (dNil))))))))))))))))))))))))) (dSeq (dSet 3 (dOp2 fIx (dOp2 fAdd (dVar 2) (dFix (dItems (dCons (dC (.str L22)) (dCons (dC (.str L26)) (dNil)))))) (dOp2 fMod (dVar 0) (dC (.int 23))))) (dSeq (dSet 4 (dC (.str L10))) (dSeq (dIf (dAndT (dB (dOp2 fIn (dVar 3) (dTup (dCons (dC (.str L36)) (dCons (dC (.str L35)) (dCons (dC (.str L29)) (dCons (dC (.str L37)) (dNil)))))))) (dB (dOp2 fEq (dOp2 fMod (dOp2 fDiv (dVar 0) (dC (.int 23))) (dC (.int 2))) (dC (.int 1))))) (dSet 4 (dCall 1 m__law_letter (dCons (dOp2 fDiv (dVar 0) (dC (.int 46))) (dNil)))) (dSkip)) (dSeq (dSet 5 (dC .non)) (dSeq (dIf (dAndT (dB (dOp2 fNin (dVar 3) (dTup (dCons (dC (.str L24)) (dCons (dC (.str L23)) (dCons (dC (.str L9)) (dCons (dC (.str L26)) (dNil)))))))) (dB (dOp2 fGt (dOp2 fMod (dOp2 fDiv (dVar 0) (dC (.int 1196))) (dC (.int 3))) (dC (.int 0))))) (dSet 5 (dOp2 fAdd (dC (.int 1)) (dOp2 fMod (dVar 1) (dOp2 fIx (dFix (dItems (dCons (dC (.int 9)) (dCons (dC (.int 99)) (dCons (dC (.int 999)) (dNil)))))) (dOp2 fMod (dOp2 fDiv (dVar 0) (dC (.int 3588))) (dC (.int 3))))))) (dSkip)) (dSeq (dSet 6 (dC (.str L10))) (dSeq (dIf (dB (dOp2 fIn (dVar 3) (dTup (dCons (dC (.str L10)) (dCons (dC (.str L36)) (dCons (dC (.str L35)) (dCons (dC (.str L29)) (dCons (dC (.str L34)) (dCons (dC (.str L33)) (dCons (dC (.str L32)) (dCons (dC (.str L31)) (dCons (dC (.str L30)) (dNil))))))))))))) (dSet 6 (dCall 2 m__law_target (dCons (dOp2 fDiv (dVar 1) (dC (.int 7))) (dCons (dOp2 fNe (dVar 3) (dC (.str L10))) (dNil))))) (dSkip)) (dRet (dTup (dCons (dVar 4) (dCons (dVar 5) (dCons (dVar 3) (dCons (dVar 6) (dCons (dCall 2 m__law_typed (dCons (dVar 3) (dCons (dOp2 fDiv (dVar 1) (dC (.int 13))) (dNil)))) (dNil)))))))))))))))
def m__law_phrase : List D → R D := runB 7 d__law_phrase
/-- _law_quoted(_law_text); slots _law_text _law_signs_here _law_sign_here -/
def d__law_quoted : DS := dSeq (dOwn 1 (dItems (dNil))) (dSeq (dFor (dIt asStr (dVar 0)) (tgN 2) (dSeq (dIf (dB (dOp2 fEq (dVar 2) (dC (.str L5)))) (dSet 2 (dC (.str L4))) (dIf (dB (dOp2 fEq (dVar 2) (dC (.str L0)))) (dSet 2 (dC (.str L3))) (dIf (dB (dOp2 fEq (dVar 2) (dC (.str L2)))) (dSet 2 (dC (.str L1))) (dSkip)))) (dApp 1 (dVar 2)))) (dRet (dOp2 fAdd (dOp2 fAdd (dC (.str L0)) (dM1 fJoin (dC (.str L10)) (dVar 1))) (dC (.str L0)))))
def m__law_quoted : List D → R D := runB 3 d__law_quoted
/-- _law_target_words(_law_target_here); slots _law_target_here _law_some -/
def d__law_target_words : DS := dSeq (dIf (dAndT (dB (dOp2 fEq (dOpA fLen (dCons (dVar 0) (dNil))) (dC (.int 2)))) (dB (dOp2 fEq (dOp2 fIx (dVar 0) (dC (.int 0))) (dC (.str L6))))) (dRet (dFix (dItems (dCons (dC (.str L7)) (dCons (dOp2 fIx (dVar 0) (dC (.int 1))) (dNil)))))) (dSkip)) (dSeq (dIf (dB (dOp2 fEq (dOpA fLen (dCons (dVar 0) (dNil))) (dC (.int 2)))) (dRet (dFix (dItems (dCons (dOp2 fIx (dFix (dItems (dCons (dC (.str L71)) (dCons (dC (.str L70)) (dNil))))) (dOpA fInt (dCons (dOp2 fEq (dOp2 fIx (dVar 0) (dC (.int 0))) (dC (.str L72))) (dNil)))) (dCons (dCall 1 m__law_quoted (dCons (dOp2 fIx (dVar 0) (dC (.int 1))) (dNil))) (dNil)))))) (dSkip)) (dSeq (dSet 1 (dFix (dItems (dCons (dC (.str L69)) (dCons (dC (.str L68)) (dCons (dC (.str L67)) (dCons (dC (.str L66)) (dCons (dC (.str L65)) (dCons (dC (.str L64)) (dCons (dC (.str L63)) (dCons (dC (.str L62)) (dCons (dC (.str L61)) (dCons (dC (.str L60)) (dCons (dC (.str L59)) (dCons (dC (.str L58)) (dCons (dC (.str L57)) (dNil))))))))))))))))) (dSeq (dSet 1 (dOp2 fAdd (dVar 1) (dFix (dItems (dCons (dC (.str L56)) (dCons (dC (.str L55)) (dCons (dC (.str L54)) (dCons (dC (.str L53)) (dCons (dC (.str L52)) (dCons (dC (.str L51)) (dCons (dC (.str L50)) (dCons (dC (.str L49)) (dCons (dC (.str L48)) (dNil)))))))))))))) (dSeq (dSet 1 (dOp2 fAdd (dVar 1) (dFix (dItems (dCons (dC (.str L47)) (dCons (dC (.str L46)) (dCons (dC (.str L45)) (dNil)))))))) (dRet (dFix (dItems (dCons (dOp2 fIx (dVar 1) (dM1 fIndex (dC (.str L44)) (dVar 0))) (dNil)))))))))
def m__law_target_words : List D → R D := runB 2 d__law_target_words
/-- _law_words(_law_phrase_here); slots _law_phrase_here _law_shelf _law_count _law_verb _law_target_here _law_signs_here _law_some _law_found -/
def d__law_words : DS := dSeq (dAsgT (tgT [1, 2, 3, 4, 5]) (dVar 0)) (dSeq (dSet 6 (dFix (dItems (dCons (dC (.str L97)) (dCons (dC (.str L96)) (dCons (dC (.str L95)) (dCons (dC (.str L94)) (dCons (dC (.str L93)) (dCons (dC (.str L92)) (dCons (dC (.str L91)) (dCons (dC (.str L90)) (dCons (dC (.str L89)) (dCons (dC (.str L88)) (dCons (dC (.str L87)) (dNil))))))))))))))) (dSeq (dSet 6 (dOp2 fAdd (dVar 6) (dFix (dItems (dCons (dC (.str L86)) (dCons (dC (.str L85)) (dCons (dC (.str L84)) (dCons (dC (.str L83)) (dCons (dC (.str L82)) (dCons (dC (.str L81)) (dCons (dC (.str L80)) (dCons (dC (.str L79)) (dCons (dC (.str L78)) (dCons (dC (.str L77)) (dCons (dC (.str L76)) (dNil)))))))))))))))) (dSeq (dOwn 7 (dItems (dCons (dC (.str L75)) (dNil)))) (dSeq (dIf (dB (dOp2 fNe (dVar 3) (dC (.str L10)))) (dOwn 7 (dItems (dCons (dOp2 fIx (dVar 6) (dM1 fIndex (dC (.str L74)) (dVar 3))) (dNil)))) (dSkip)) (dSeq (dIf (dB (dOp2 fNe (dVar 1) (dC (.str L10)))) (dOwn 7 (dCatF (dVar 7) (dFix (dItems (dCons (dC (.str L13)) (dCons (dVar 1) (dNil))))))) (dSkip)) (dSeq (dIf (dB (dOp2 fIsNot (dVar 2) (dC .non))) (dOwn 7 (dCatF (dVar 7) (dFix (dItems (dCons (dC (.str L12)) (dCons (dOpA fStr (dCons (dVar 2) (dNil))) (dNil))))))) (dSkip)) (dSeq (dIf (dB (dOp2 fNe (dVar 4) (dC (.str L10)))) (dOwn 7 (dCatF (dVar 7) (dCall 1 m__law_target_words (dCons (dVar 4) (dNil))))) (dSkip)) (dSeq (dIf (dB (dOp2 fIn (dVar 3) (dTup (dCons (dC (.str L29)) (dCons (dC (.str L28)) (dCons (dC (.str L25)) (dCons (dC (.str L26)) (dNil)))))))) (dRet (dM1 fJoin (dC (.str L8)) (dOp2 fAdd (dVar 7) (dFix (dItems (dCons (dCall 1 m__law_quoted (dCons (dVar 5) (dNil))) (dNil))))))) (dSkip)) (dSeq (dIf (dB (dOp2 fEq (dVar 3) (dC (.str L9)))) (dRet (dM1 fJoin (dC (.str L8)) (dOp2 fAdd (dVar 7) (dFix (dItems (dCons (dOp2 fIx (dFix (dItems (dCons (dC (.str L55)) (dCons (dC (.str L54)) (dCons (dC (.str L73)) (dNil)))))) (dM1 fIndex (dC (.str L21)) (dVar 5))) (dNil))))))) (dSkip)) (dSeq (dIf (dB (dOp2 fNe (dVar 5) (dC (.str L10)))) (dApp 7 (dVar 5)) (dSkip)) (dRet (dM1 fJoin (dC (.str L8)) (dVar 7)))))))))))))
def m__law_words : List D → R D := runB 8 d__law_words
/-- law(_law_script); slots _law_script _law_some _law_cell _law_number _law_phrase_here _law_found -/
def d_law : DS := dSeq (dOwn 1 (dItems (dNil))) (dSeq (dFor (dIt asLst (dSl (dVar 0) dON (dOS (dC (.int 60))))) (tgN 2) (dSeq (dSet 3 (dOp2 fMod (dOp2 fMul (dVar 2) (dC (.int 48271))) (dC (.int 2147483647)))) (dApp 1 (dCall 2 m__law_phrase (dCons (dVar 3) (dCons (dOp2 fMod (dOp2 fMul (dVar 3) (dC (.int 40692))) (dC (.int 2147483399))) (dNil))))))) (dSeq (dFor (dIt asLst (dOp2 fAdd (dVar 1) (dSl (dVar 1) dON (dOS (dC (.int 1)))))) (tgN 4) (dSeq (dSet 5 (dCall 1 m_in_words (dCons (dVar 4) (dNil)))) (dIf (dOrT (dNotT (dB (dOpA fIsi (dCons (dVar 5) (dCons (dC (.obj (.ty "str"))) (dNil)))))) (dB (dOp2 fNe (dVar 5) (dCall 1 m__law_words (dCons (dVar 4) (dNil)))))) (dRet (dC (.bl false))) (dSkip)))) (dRet (dOp2 fEq (dCall 1 m_in_words (dCons (dTup (dCons (dC (.str L10)) (dCons (dC .non) (dCons (dC (.str L10)) (dCons (dC (.str L98)) (dCons (dC (.str L10)) (dNil))))))) (dNil))) (dC (.str L99))))))
def m_law : List D → R D := runB 6 d_law
end Mi83
set_option Elab.async false
set_option linter.all false
set_option maxRecDepth 100000
set_option maxHeartbeats 4000000
/-! Wa83: each def keeps what its mirror says. Printed by gen.py. -/
namespace Wa83
open PySem PySem.Spec PyProof.Rows L2 Dl Mi83
def top (i : Nat) : Stmt := PySem.Challenge.pw_modehand_k83_in_words.main.body.getD i (.Pass ⟨0, 0, 0, 0⟩)
theorem lit_0 : ("\"" : Str) = S L0 := by decide +kernel
theorem lit_1 : ("\\n" : Str) = S L1 := by decide +kernel
theorem lit_2 : ("\n" : Str) = S L2 := by decide +kernel
theorem lit_3 : ("\\q" : Str) = S L3 := by decide +kernel
theorem lit_4 : ("\\\\" : Str) = S L4 := by decide +kernel
theorem lit_5 : ("\\" : Str) = S L5 := by decide +kernel
theorem lit_6 : ("m" : Str) = S L6 := by decide +kernel
theorem lit_7 : ("at" : Str) = S L7 := by decide +kernel
theorem lit_8 : (" " : Str) = S L8 := by decide +kernel
theorem lit_9 : ("V" : Str) = S L9 := by decide +kernel
theorem lit_10 : ("" : Str) = S L10 := by decide +kernel
theorem lit_11 : ("XTR:" : Str) = S L11 := by decide +kernel
theorem lit_12 : ("times" : Str) = S L12 := by decide +kernel
theorem lit_13 : ("shelf" : Str) = S L13 := by decide +kernel
theorem lit_14 : ("abcdefghijklmnopqrstuvwxyz" : Str) = S L14 := by decide +kernel
theorem lit_15 : ("aB0 z9Y(xc)d1E f" : Str) = S L15 := by decide +kernel
theorem lit_16 : ("()[]{}" : Str) = S L16 := by decide +kernel
theorem lit_17 : (" !\"#$&'()*+,-./0123456789:;<=>?@ABCDEFGHIJKLMNOPQRSTUVWXYZ[\\]^_`abcdefghijklmnopqrstuvwxyz{|}" : Str) = S L17 := by decide +kernel
theorem lit_18 : ("ftm" : Str) = S L18 := by decide +kernel
theorem lit_19 : ("hljkbewvogzp" : Str) = S L19 := by decide +kernel
theorem lit_20 : ("cair([{)]}'\"s" : Str) = S L20 := by decide +kernel
theorem lit_21 : ("srb" : Str) = S L21 := by decide +kernel
theorem lit_22 : ("@" : Str) = S L22 := by decide +kernel
theorem lit_23 : ("K" : Str) = S L23 := by decide +kernel
theorem lit_24 : ("M" : Str) = S L24 := by decide +kernel
theorem lit_25 : ("R" : Str) = S L25 := by decide +kernel
theorem lit_26 : (":" : Str) = S L26 := by decide +kernel
theorem lit_27 : ("~" : Str) = S L27 := by decide +kernel
theorem lit_28 : ("T" : Str) = S L28 := by decide +kernel
theorem lit_29 : ("X" : Str) = S L29 := by decide +kernel
theorem lit_30 : ("J" : Str) = S L30 := by decide +kernel
theorem lit_31 : ("F" : Str) = S L31 := by decide +kernel
theorem lit_32 : ("D" : Str) = S L32 := by decide +kernel
theorem lit_33 : ("S" : Str) = S L33 := by decide +kernel
theorem lit_34 : ("G" : Str) = S L34 := by decide +kernel
theorem lit_35 : ("Y" : Str) = S L35 := by decide +kernel
theorem lit_36 : ("C" : Str) = S L36 := by decide +kernel
theorem lit_37 : ("P" : Str) = S L37 := by decide +kernel
theorem lit_38 : ("." : Str) = S L38 := by decide +kernel
theorem lit_39 : ("L" : Str) = S L39 := by decide +kernel
theorem lit_40 : ("E" : Str) = S L40 := by decide +kernel
theorem lit_41 : ("N" : Str) = S L41 := by decide +kernel
theorem lit_42 : ("A" : Str) = S L42 := by decide +kernel
theorem lit_43 : ("Z" : Str) = S L43 := by decide +kernel
theorem lit_44 : ("hljkbewvogzpcair()[]{}'\"s" : Str) = S L44 := by decide +kernel
theorem lit_45 : ("seen" : Str) = S L45 := by decide +kernel
theorem lit_46 : ("quote" : Str) = S L46 := by decide +kernel
theorem lit_47 : ("inquote" : Str) = S L47 := by decide +kernel
theorem lit_48 : ("curly" : Str) = S L48 := by decide +kernel
theorem lit_49 : ("incurly" : Str) = S L49 := by decide +kernel
theorem lit_50 : ("square" : Str) = S L50 := by decide +kernel
theorem lit_51 : ("insquare" : Str) = S L51 := by decide +kernel
theorem lit_52 : ("round" : Str) = S L52 := by decide +kernel
theorem lit_53 : ("inround" : Str) = S L53 := by decide +kernel
theorem lit_54 : ("rows" : Str) = S L54 := by decide +kernel
theorem lit_55 : ("signs" : Str) = S L55 := by decide +kernel
theorem lit_56 : ("spaced" : Str) = S L56 := by decide +kernel
theorem lit_57 : ("this" : Str) = S L57 := by decide +kernel
theorem lit_58 : ("partner" : Str) = S L58 := by decide +kernel
theorem lit_59 : ("last" : Str) = S L59 := by decide +kernel
theorem lit_60 : ("row" : Str) = S L60 := by decide +kernel
theorem lit_61 : ("out" : Str) = S L61 := by decide +kernel
theorem lit_62 : ("back" : Str) = S L62 := by decide +kernel
theorem lit_63 : ("word" : Str) = S L63 := by decide +kernel
theorem lit_64 : ("end" : Str) = S L64 := by decide +kernel
theorem lit_65 : ("begin" : Str) = S L65 := by decide +kernel
theorem lit_66 : ("up" : Str) = S L66 := by decide +kernel
theorem lit_67 : ("down" : Str) = S L67 := by decide +kernel
theorem lit_68 : ("right" : Str) = S L68 := by decide +kernel
theorem lit_69 : ("left" : Str) = S L69 := by decide +kernel
theorem lit_70 : ("trace" : Str) = S L70 := by decide +kernel
theorem lit_71 : ("find" : Str) = S L71 := by decide +kernel
theorem lit_72 : ("t" : Str) = S L72 := by decide +kernel
theorem lit_73 : ("block" : Str) = S L73 := by decide +kernel
theorem lit_74 : ("CYXGSDFJTRPMKVZANEL.@:" : Str) = S L74 := by decide +kernel
theorem lit_75 : ("go" : Str) = S L75 := by decide +kernel
theorem lit_76 : ("line" : Str) = S L76 := by decide +kernel
theorem lit_77 : ("play" : Str) = S L77 := by decide +kernel
theorem lit_78 : ("again" : Str) = S L78 := by decide +kernel
theorem lit_79 : ("later" : Str) = S L79 := by decide +kernel
theorem lit_80 : ("earlier" : Str) = S L80 := by decide +kernel
theorem lit_81 : ("state" : Str) = S L81 := by decide +kernel
theorem lit_82 : ("done" : Str) = S L82 := by decide +kernel
theorem lit_83 : ("undone" : Str) = S L83 := by decide +kernel
theorem lit_84 : ("see" : Str) = S L84 := by decide +kernel
theorem lit_85 : ("keep" : Str) = S L85 := by decide +kernel
theorem lit_86 : ("mark" : Str) = S L86 := by decide +kernel
theorem lit_87 : ("lay" : Str) = S L87 := by decide +kernel
theorem lit_88 : ("over" : Str) = S L88 := by decide +kernel
theorem lit_89 : ("write" : Str) = S L89 := by decide +kernel
theorem lit_90 : ("join" : Str) = S L90 := by decide +kernel
theorem lit_91 : ("flatter" : Str) = S L91 := by decide +kernel
theorem lit_92 : ("deeper" : Str) = S L92 := by decide +kernel
theorem lit_93 : ("small" : Str) = S L93 := by decide +kernel
theorem lit_94 : ("great" : Str) = S L94 := by decide +kernel
theorem lit_95 : ("exchange" : Str) = S L95 := by decide +kernel
theorem lit_96 : ("copy" : Str) = S L96 := by decide +kernel
theorem lit_97 : ("cut" : Str) = S L97 := by decide +kernel
theorem lit_98 : ("h" : Str) = S L98 := by decide +kernel
theorem lit_99 : ("go left" : Str) = S L99 := by decide +kernel
abbrev dd (i : Nat) (x : Str) : He.DefD := ⟨(x, none), x, x, defArgs (top i), defBody (top i), defScope (top i), [], []⟩
def fn : List He.DefD := [dd 2 "quoted", dd 9 "target_words", dd 10 "in_words", dd 13 "_law_letter", dd 12 "_law_sign", dd 15 "_law_target", dd 14 "_law_signs", dd 16 "_law_typed", dd 17 "_law_phrase", dd 18 "_law_quoted", dd 19 "_law_target_words", dd 20 "_law_words", dd 21 "law"]
def fa : List He.Fa := [.glo "quoted", .glo "target_words", .glo "in_words", .glo "_law_letter", .glo "_law_sign", .glo "_law_target", .glo "_law_signs", .glo "_law_typed", .glo "_law_phrase", .glo "_law_quoted", .glo "_law_target_words", .glo "_law_words", .glo "law", .free "int", .free "isinstance", .free "len", .free "range", .free "str", .glo "MOVE_WORDS", .glo "SEEN_WORDS", .glo "THING_WORDS", .glo "VERB_WORDS"]
def ts : List He.Tab := [(fun K => He.ga K "MOVE_WORDS", ["h", "l", "j", "k", "b", "e", "w", "v", "o", "g", "z", "p", "f", "t", "m"]), (fun K => He.ga K "SEEN_WORDS", ["s", "r", "b"]), (fun K => He.ga K "THING_WORDS", ["c", "a", "i", "r", "(", ")", "[", "]", "{", "}", "'", "\"", "s"]), (fun K => He.ga K "VERB_WORDS", ["", "C", "Y", "X", "G", "S", "D", "F", "J", "T", "R", "P", "M", "K", "V", "Z", "A", "N", "E", "L", ".", "@", ":"])]
def strB (K : PySem.W.Frag) (x z : Str) (t : Tok) : Bool := He.eqO (PySem.W.nsIn K mainGlobals x) (some (some (.str z t)))
def xs : List (PySem.W.Frag → Bool) := [fun K => tabB K "MOVE_WORDS" tb_MOVE_WORDS, fun K => tabB K "SEEN_WORDS" tb_SEEN_WORDS, fun K => tabB K "THING_WORDS" tb_THING_WORDS, fun K => tabB K "VERB_WORDS" tb_VERB_WORDS, fun K => strB K "QUOTE" "\"" 189, fun K => strB K "QUOTED_VERBS" "XTR:" 366]
/-- what the walk asks of what the top has left -/
structure Txt (K : PySem.W.Frag) (w : World) (mg : Str → Option Value) : Prop where
  g_quoted : mg "quoted" = some (.ref (He.ga K "quoted"))
  g_target_words : mg "target_words" = some (.ref (He.ga K "target_words"))
  g_in_words : mg "in_words" = some (.ref (He.ga K "in_words"))
  g__law_letter : mg "_law_letter" = some (.ref (He.ga K "_law_letter"))
  g__law_sign : mg "_law_sign" = some (.ref (He.ga K "_law_sign"))
  g__law_target : mg "_law_target" = some (.ref (He.ga K "_law_target"))
  g__law_signs : mg "_law_signs" = some (.ref (He.ga K "_law_signs"))
  g__law_typed : mg "_law_typed" = some (.ref (He.ga K "_law_typed"))
  g__law_phrase : mg "_law_phrase" = some (.ref (He.ga K "_law_phrase"))
  g__law_quoted : mg "_law_quoted" = some (.ref (He.ga K "_law_quoted"))
  g__law_target_words : mg "_law_target_words" = some (.ref (He.ga K "_law_target_words"))
  g__law_words : mg "_law_words" = some (.ref (He.ga K "_law_words"))
  g_law : mg "law" = some (.ref (He.ga K "law"))
  n_int : mg "int" = none
  n_isinstance : mg "isinstance" = none
  n_len : mg "len" = none
  n_range : mg "range" = none
  n_str : mg "str" = none
  d_MOVE_WORDS : mg "MOVE_WORDS" = some (.ref (He.ga K "MOVE_WORDS"))
  d_SEEN_WORDS : mg "SEEN_WORDS" = some (.ref (He.ga K "SEEN_WORDS"))
  d_THING_WORDS : mg "THING_WORDS" = some (.ref (He.ga K "THING_WORDS"))
  d_VERB_WORDS : mg "VERB_WORDS" = some (.ref (He.ga K "VERB_WORDS"))
  t_MOVE_WORDS : KTab K w mg "MOVE_WORDS" tb_MOVE_WORDS
  t_SEEN_WORDS : KTab K w mg "SEEN_WORDS" tb_SEEN_WORDS
  t_THING_WORDS : KTab K w mg "THING_WORDS" tb_THING_WORDS
  t_VERB_WORDS : KTab K w mg "VERB_WORDS" tb_VERB_WORDS
  c_QUOTE : mg "QUOTE" = some (.str "\"" 189)
  o_QUOTE : (189 : Tok) ≠ 0
  m_QUOTE : (189 : Tok) < 367
  c_QUOTED_VERBS : mg "QUOTED_VERBS" = some (.str "XTR:" 366)
  o_QUOTED_VERBS : (366 : Tok) ≠ 0
  m_QUOTED_VERBS : (366 : Tok) < 367
section
variable {P : Program} {w : World} {K : PySem.W.Frag} {mg : Str → Option Value} {h : Heap}
theorem txt (KX : K.In h) (GN : h.Ns mainGlobals mg) (c : He.SaysT fa fn ts w K) (cx : (xs.all fun f => f K) = true) : Txt K w mg := by
  have cd := c.d
  have cxx : ∀ (i : Nat) (f : PySem.W.Frag → Bool), xs[i]? = some f → f K = true := fun i f e => List.all_eq_true.mp cx f (List.mem_of_getElem? e)
  exact {
    g_quoted := He.glo_ok KX GN (cd.fact 0 (f := .glo "quoted") rfl)
    g_target_words := He.glo_ok KX GN (cd.fact 1 (f := .glo "target_words") rfl)
    g_in_words := He.glo_ok KX GN (cd.fact 2 (f := .glo "in_words") rfl)
    g__law_letter := He.glo_ok KX GN (cd.fact 3 (f := .glo "_law_letter") rfl)
    g__law_sign := He.glo_ok KX GN (cd.fact 4 (f := .glo "_law_sign") rfl)
    g__law_target := He.glo_ok KX GN (cd.fact 5 (f := .glo "_law_target") rfl)
    g__law_signs := He.glo_ok KX GN (cd.fact 6 (f := .glo "_law_signs") rfl)
    g__law_typed := He.glo_ok KX GN (cd.fact 7 (f := .glo "_law_typed") rfl)
    g__law_phrase := He.glo_ok KX GN (cd.fact 8 (f := .glo "_law_phrase") rfl)
    g__law_quoted := He.glo_ok KX GN (cd.fact 9 (f := .glo "_law_quoted") rfl)
    g__law_target_words := He.glo_ok KX GN (cd.fact 10 (f := .glo "_law_target_words") rfl)
    g__law_words := He.glo_ok KX GN (cd.fact 11 (f := .glo "_law_words") rfl)
    g_law := He.glo_ok KX GN (cd.fact 12 (f := .glo "law") rfl)
    n_int := He.free_ok KX GN (cd.fact 13 (f := .free "int") rfl)
    n_isinstance := He.free_ok KX GN (cd.fact 14 (f := .free "isinstance") rfl)
    n_len := He.free_ok KX GN (cd.fact 15 (f := .free "len") rfl)
    n_range := He.free_ok KX GN (cd.fact 16 (f := .free "range") rfl)
    n_str := He.free_ok KX GN (cd.fact 17 (f := .free "str") rfl)
    d_MOVE_WORDS := He.glo_ok KX GN (cd.fact 18 (f := .glo "MOVE_WORDS") rfl)
    d_SEEN_WORDS := He.glo_ok KX GN (cd.fact 19 (f := .glo "SEEN_WORDS") rfl)
    d_THING_WORDS := He.glo_ok KX GN (cd.fact 20 (f := .glo "THING_WORDS") rfl)
    d_VERB_WORDS := He.glo_ok KX GN (cd.fact 21 (f := .glo "VERB_WORDS") rfl)
    t_MOVE_WORDS := ktab_of (He.glo_ok KX GN (cd.fact 18 (f := .glo "MOVE_WORDS") rfl)) (c.tab 0 rfl) (cxx 0 _ rfl)
    t_SEEN_WORDS := ktab_of (He.glo_ok KX GN (cd.fact 19 (f := .glo "SEEN_WORDS") rfl)) (c.tab 1 rfl) (cxx 1 _ rfl)
    t_THING_WORDS := ktab_of (He.glo_ok KX GN (cd.fact 20 (f := .glo "THING_WORDS") rfl)) (c.tab 2 rfl) (cxx 2 _ rfl)
    t_VERB_WORDS := ktab_of (He.glo_ok KX GN (cd.fact 21 (f := .glo "VERB_WORDS") rfl)) (c.tab 3 rfl) (cxx 3 _ rfl)
    c_QUOTE := PySem.W.mg_of KX GN (He.eqO_ok (cxx 4 _ rfl))
    o_QUOTE := by decide
    m_QUOTE := by decide
    c_QUOTED_VERBS := PySem.W.mg_of KX GN (He.eqO_ok (cxx 5 _ rfl))
    o_QUOTED_VERBS := by decide
    m_QUOTED_VERBS := by decide
  }
theorem sc_quoted : FnScope ["text"] ["text"] (defScope (top 2)) := ⟨rfl, rfl, rfl, by decide +kernel, rfl, by decide +kernel, by decide +kernel⟩
theorem ok_quoted (Z : Txt K w mg) (cd : He.SaysD fa fn K) : ∃ fd, (∀ base : Heap, FnQ 367 P w K mg base 1 (He.ga K "quoted") fd ["text"] (spM K 1 m_quoted)) ∧ Binds K fd ["text"] [] ∧ PySem.W.keepIn K (.ref (He.ga K "quoted")) = true ∧ ∀ (s : Shared) (us : List Value), us.length = 1 → BindsTo s fd ⟨us, []⟩ ((["text"] : List Str).zip us) := by
  obtain ⟨fd, F⟩ := cd.def_ 0 (d := dd 2 "quoted") rfl
  have hm : 1 ≤ 367 := by decide
  refine ⟨fd, fun base => fn_liftQ (N := ["text"]) (k := 0) (b := d_quoted) F sc_quoted (fun cdv A outer s H E hr => ?_), F.bindsN fun _ _ _ _ _ _ us hl => match us, hl with | [_], _ => rfl, F.kp, FunD.bindsA (ps := ["text"]) F fun _ _ _ _ _ _ us hl => match us, hl with | [_], _ => rfl⟩
  have nd := sc_quoted.nd
  have tk : Takes (cxF P w K mg base ["text"] "quoted" (defScope (top 2)) (He.ga K "quoted") cdv A outer s H E) (WF E) := takes_of rfl rfl rfl rfl
  have pa : PassesOwn (model P w) (cxF P w K mg base ["text"] "quoted" (defScope (top 2)) (He.ga K "quoted") cdv A outer s H E).A (cxF P w K mg base ["text"] "quoted" (defScope (top 2)) (He.ga K "quoted") cdv A outer s H E).env (cxF P w K mg base ["text"] "quoted" (defScope (top 2)) (He.ga K "quoted") cdv A outer s H E).xe := passes_of rfl
  exact (qb_cons (qs_set (i := 0) nd rfl (.inl rfl) (q_repl (l_var (i := 0) rfl (.inl rfl)) lit_5 lit_4 hm)) (qb_cons (qs_set (i := 0) nd rfl (.inl rfl) (q_replG (q_of (l_var (i := 0) rfl (.inl rfl))) rfl Z.c_QUOTE Z.o_QUOTE Z.m_QUOTE lit_0 lit_3)) (qb_one (qs_ret (q_op2 op_addD (q_op2 op_addD (q_of (l_gstr rfl (Z.c_QUOTE) lit_0)) (q_repl (l_var (i := 0) rfl (.inl rfl)) lit_2 lit_1 hm)) (q_of (l_gstr rfl (Z.c_QUOTE) lit_0)))))))
theorem sc_target_words : FnScope ["target"] ["target"] (defScope (top 9)) := ⟨rfl, rfl, rfl, by decide +kernel, rfl, by decide +kernel, by decide +kernel⟩
theorem ok_target_words (Z : Txt K w mg) (cd : He.SaysD fa fn K) : ∃ fd, (∀ base : Heap, FnQ 367 P w K mg base 2 (He.ga K "target_words") fd ["target"] (spM K 1 m_target_words)) ∧ Binds K fd ["target"] [] ∧ PySem.W.keepIn K (.ref (He.ga K "target_words")) = true ∧ ∀ (s : Shared) (us : List Value), us.length = 1 → BindsTo s fd ⟨us, []⟩ ((["target"] : List Str).zip us) := by
  obtain ⟨fd, F⟩ := cd.def_ 1 (d := dd 9 "target_words") rfl
  obtain ⟨fd_quoted, F_quoted, b_quoted, k_quoted, _⟩ := ok_quoted (P := P) Z cd
  have hm : 1 ≤ 367 := by decide
  refine ⟨fd, fun base => fn_liftQ (N := ["target"]) (k := 1) (b := d_target_words) F sc_target_words (fun cdv A outer s H E hr => ?_), F.bindsN fun _ _ _ _ _ _ us hl => match us, hl with | [_], _ => rfl, F.kp, FunD.bindsA (ps := ["target"]) F fun _ _ _ _ _ _ us hl => match us, hl with | [_], _ => rfl⟩
  have F_quoted := F_quoted base
  have nd := sc_target_words.nd
  have tk : Takes (cxF P w K mg base ["target"] "target_words" (defScope (top 9)) (He.ga K "target_words") cdv A outer s H E) (WF E) := takes_of rfl rfl rfl rfl
  have pa : PassesOwn (model P w) (cxF P w K mg base ["target"] "target_words" (defScope (top 9)) (He.ga K "target_words") cdv A outer s H E).A (cxF P w K mg base ["target"] "target_words" (defScope (top 9)) (He.ga K "target_words") cdv A outer s H E).env (cxF P w K mg base ["target"] "target_words" (defScope (top 9)) (He.ga K "target_words") cdv A outer s H E).xe := passes_of rfl
  exact (qb_cons (qs_if (qt_of (t_tabIn Z.t_THING_WORDS rfl (l_ix (l_var (i := 0) rfl (.inl rfl)) l_int))) (qb_one (qs_of (s_ret (l_fix (f_lst (a_cons (l_tabIx Z.t_THING_WORDS rfl (l_var (i := 0) rfl (.inl rfl))) a_nil)))))) (qss_of b_nil)) (qb_cons (qs_if (qt_of (t_cmp (op_eqDD hr.units) (l_ix (l_var (i := 0) rfl (.inl rfl)) l_int) (l_str lit_6))) (qb_one (qs_of (s_ret (l_fix (f_lst (a_cons (l_str lit_7) (a_cons (l_ix (l_var (i := 0) rfl (.inl rfl)) l_int) a_nil))))))) (qss_of b_nil)) (qb_cons (qs_if (qt_of (t_cmp (op_eqDD hr.units) (l_blt cr_lenD rfl Z.n_len (by decide +kernel) (a_cons (l_var (i := 0) rfl (.inl rfl)) a_nil)) l_int)) (qb_one (qs_ret (q_lst (qa_cons (q_of (l_tabIx Z.t_MOVE_WORDS rfl (l_ix (l_var (i := 0) rfl (.inl rfl)) l_int))) (qa_cons (q_call F_quoted (hr.mono (by decide)) tk rfl Z.g_quoted k_quoted b_quoted (qa_cons (q_of (l_ix (l_var (i := 0) rfl (.inl rfl)) l_int)) qa_nil)) qa_nil))))) (qss_of b_nil)) (qb_one (qs_of (s_ret (l_fix (f_lst (a_cons (l_tabIx Z.t_MOVE_WORDS rfl (l_var (i := 0) rfl (.inl rfl))) a_nil)))))))))
theorem sc_in_words : FnScope ["phrase", "shelf", "count", "verb", "target", "typed", "found"] ["phrase"] (defScope (top 10)) := ⟨rfl, rfl, rfl, by decide +kernel, rfl, by decide +kernel, by decide +kernel⟩
theorem ok_in_words (Z : Txt K w mg) (cd : He.SaysD fa fn K) : ∃ fd, (∀ base : Heap, FnQ 367 P w K mg base 3 (He.ga K "in_words") fd ["phrase"] (spM K 1 m_in_words)) ∧ Binds K fd ["phrase"] [] ∧ PySem.W.keepIn K (.ref (He.ga K "in_words")) = true ∧ ∀ (s : Shared) (us : List Value), us.length = 1 → BindsTo s fd ⟨us, []⟩ ((["phrase"] : List Str).zip us) := by
  obtain ⟨fd, F⟩ := cd.def_ 2 (d := dd 10 "in_words") rfl
  obtain ⟨fd_quoted, F_quoted, b_quoted, k_quoted, _⟩ := ok_quoted (P := P) Z cd
  obtain ⟨fd_target_words, F_target_words, b_target_words, k_target_words, _⟩ := ok_target_words (P := P) Z cd
  have hm : 1 ≤ 367 := by decide
  refine ⟨fd, fun base => fn_liftQ (N := ["phrase", "shelf", "count", "verb", "target", "typed", "found"]) (k := 2) (b := d_in_words) F sc_in_words (fun cdv A outer s H E hr => ?_), F.bindsN fun _ _ _ _ _ _ us hl => match us, hl with | [_], _ => rfl, F.kp, FunD.bindsA (ps := ["phrase"]) F fun _ _ _ _ _ _ us hl => match us, hl with | [_], _ => rfl⟩
  have F_quoted := F_quoted base
  have F_target_words := F_target_words base
  have nd := sc_in_words.nd
  have tk : Takes (cxF P w K mg base ["phrase", "shelf", "count", "verb", "target", "typed", "found"] "in_words" (defScope (top 10)) (He.ga K "in_words") cdv A outer s H E) (WF E) := takes_of rfl rfl rfl rfl
  have pa : PassesOwn (model P w) (cxF P w K mg base ["phrase", "shelf", "count", "verb", "target", "typed", "found"] "in_words" (defScope (top 10)) (He.ga K "in_words") cdv A outer s H E).A (cxF P w K mg base ["phrase", "shelf", "count", "verb", "target", "typed", "found"] "in_words" (defScope (top 10)) (He.ga K "in_words") cdv A outer s H E).env (cxF P w K mg base ["phrase", "shelf", "count", "verb", "target", "typed", "found"] "in_words" (defScope (top 10)) (He.ga K "in_words") cdv A outer s H E).xe := passes_of rfl
  exact (qb_cons (qs_of (s_asgT (is := [1, 2, 3, 4, 5]) (pg_tup rfl (pgs_cons (pg_name (i := 1) nd rfl (.inl rfl)) (pgs_cons (pg_name (i := 2) nd rfl (.inl rfl)) (pgs_cons (pg_name (i := 3) nd rfl (.inl rfl)) (pgs_cons (pg_name (i := 4) nd rfl (.inl rfl)) (pgs_cons (pg_name (i := 5) nd rfl (.inl rfl)) pgs_nil)))))) (lg_tup [1, 2, 3, 4, 5] rfl) (l_var (i := 0) rfl (.inl rfl)))) (qb_cons (qs_of (s_own (i := 6) nd rfl (.inl rfl) (f_lst (a_cons (l_tabIx Z.t_VERB_WORDS rfl (l_var (i := 3) rfl (.inl rfl))) a_nil)))) (qb_cons (qs_if (qt_of (t_cmp (op_neDD hr.units) (l_var (i := 1) rfl (.inl rfl)) (l_str lit_10))) (qb_one (qs_of (s_own (i := 6) nd rfl (.inl rfl) (f_cat (l_var (i := 6) rfl (.inl rfl)) (l_fix (f_lst (a_cons (l_str lit_13) (a_cons (l_var (i := 1) rfl (.inl rfl)) a_nil)))))))) (qss_of b_nil)) (qb_cons (qs_if (qt_of (t_cmp op_isnotD (l_var (i := 2) rfl (.inl rfl)) l_non)) (qb_one (qs_of (s_own (i := 6) nd rfl (.inl rfl) (f_cat (l_var (i := 6) rfl (.inl rfl)) (l_fix (f_lst (a_cons (l_str lit_12) (a_cons (l_bty cr_strD rfl Z.n_str (by decide +kernel) (a_cons (l_var (i := 2) rfl (.inl rfl)) a_nil)) a_nil)))))))) (qss_of b_nil)) (qb_cons (qs_if (qt_of (t_cmp (op_neDD hr.units) (l_var (i := 4) rfl (.inl rfl)) (l_str lit_10))) (qb_one (qs_own (i := 6) nd rfl (.inl rfl) (qf_cat (q_of (l_var (i := 6) rfl (.inl rfl))) (q_call F_target_words (hr.mono (by decide)) tk rfl Z.g_target_words k_target_words b_target_words (qa_cons (q_of (l_var (i := 4) rfl (.inl rfl))) qa_nil))))) (qss_of b_nil)) (qb_cons (qs_if (qt_of (t_cmp (op_eqDD hr.units) (l_var (i := 3) rfl (.inl rfl)) (l_str lit_9))) (qb_one (qs_of (s_app (i := 6) rfl (.inl rfl) (l_tabIx Z.t_SEEN_WORDS rfl (l_var (i := 5) rfl (.inl rfl)))))) (qb_one (qs_if (qt_of (L2.PW.pt (w_and (t_cmp (op_neDD hr.units) (l_var (i := 3) rfl (.inl rfl)) (l_str lit_10)) (pw_and1 (t_cmp op_inD (l_var (i := 3) rfl (.inl rfl)) (l_gstr rfl (Z.c_QUOTED_VERBS) lit_11)))))) (qb_one (qs_app (i := 6) rfl (.inl rfl) (q_call F_quoted (hr.mono (by decide)) tk rfl Z.g_quoted k_quoted b_quoted (qa_cons (q_of (l_var (i := 5) rfl (.inl rfl))) qa_nil)))) (qb_one (qs_if (qt_of (t_cmp (op_neDD hr.units) (l_var (i := 5) rfl (.inl rfl)) (l_str lit_10))) (qb_one (qs_of (s_app (i := 6) rfl (.inl rfl) (l_var (i := 5) rfl (.inl rfl))))) (qss_of b_nil)))))) (qb_one (qs_of (s_ret (l_join (l_str lit_8) (l_var (i := 6) rfl (.inl rfl))))))))))))
theorem sc__law_letter : FnScope ["_law_number"] ["_law_number"] (defScope (top 13)) := ⟨rfl, rfl, rfl, by decide +kernel, rfl, by decide +kernel, by decide +kernel⟩
theorem ok__law_letter (Z : Txt K w mg) (cd : He.SaysD fa fn K) : ∃ fd, (∀ base : Heap, FnOk P w K mg base (L2.CX P w) 1 (He.ga K "_law_letter") fd ["_law_number"] (spM K 1 m__law_letter)) ∧ Binds K fd ["_law_number"] [] ∧ PySem.W.keepIn K (.ref (He.ga K "_law_letter")) = true ∧ ∀ (s : Shared) (us : List Value), us.length = 1 → BindsTo s fd ⟨us, []⟩ ((["_law_number"] : List Str).zip us) := by
  obtain ⟨fd, F⟩ := cd.def_ 3 (d := dd 13 "_law_letter") rfl
  refine ⟨fd, fun base => fn_lift (N := ["_law_number"]) (k := 0) (b := d__law_letter) F sc__law_letter (fun cdv A outer s H E hr => ?_), F.bindsN fun _ _ _ _ _ _ us hl => match us, hl with | [_], _ => rfl, F.kp, FunD.bindsA (ps := ["_law_number"]) F fun _ _ _ _ _ _ us hl => match us, hl with | [_], _ => rfl⟩
  have nd := sc__law_letter.nd
  have tk : Takes (cxF P w K mg base ["_law_number"] "_law_letter" (defScope (top 13)) (He.ga K "_law_letter") cdv A outer s H E) (WF E) := takes_of rfl rfl rfl rfl
  have pa : PassesOwn (model P w) (cxF P w K mg base ["_law_number"] "_law_letter" (defScope (top 13)) (He.ga K "_law_letter") cdv A outer s H E).A (cxF P w K mg base ["_law_number"] "_law_letter" (defScope (top 13)) (He.ga K "_law_letter") cdv A outer s H E).env (cxF P w K mg base ["_law_number"] "_law_letter" (defScope (top 13)) (He.ga K "_law_letter") cdv A outer s H E).xe := passes_of rfl
  exact (b_one (s_ret (l_ix (l_str lit_14) (l_op2 op_modD (l_var (i := 0) rfl (.inl rfl)) l_int))))
theorem sc__law_sign : FnScope ["_law_number", "_law_some", "_law_kind"] ["_law_number"] (defScope (top 12)) := ⟨rfl, rfl, rfl, by decide +kernel, rfl, by decide +kernel, by decide +kernel⟩
theorem ok__law_sign (Z : Txt K w mg) (cd : He.SaysD fa fn K) : ∃ fd, (∀ base : Heap, FnOk P w K mg base (L2.CX P w) 1 (He.ga K "_law_sign") fd ["_law_number"] (spM K 1 m__law_sign)) ∧ Binds K fd ["_law_number"] [] ∧ PySem.W.keepIn K (.ref (He.ga K "_law_sign")) = true ∧ ∀ (s : Shared) (us : List Value), us.length = 1 → BindsTo s fd ⟨us, []⟩ ((["_law_number"] : List Str).zip us) := by
  obtain ⟨fd, F⟩ := cd.def_ 4 (d := dd 12 "_law_sign") rfl
  refine ⟨fd, fun base => fn_lift (N := ["_law_number", "_law_some", "_law_kind"]) (k := 0) (b := d__law_sign) F sc__law_sign (fun cdv A outer s H E hr => ?_), F.bindsN fun _ _ _ _ _ _ us hl => match us, hl with | [_], _ => rfl, F.kp, FunD.bindsA (ps := ["_law_number"]) F fun _ _ _ _ _ _ us hl => match us, hl with | [_], _ => rfl⟩
  have nd := sc__law_sign.nd
  have tk : Takes (cxF P w K mg base ["_law_number", "_law_some", "_law_kind"] "_law_sign" (defScope (top 12)) (He.ga K "_law_sign") cdv A outer s H E) (WF E) := takes_of rfl rfl rfl rfl
  have pa : PassesOwn (model P w) (cxF P w K mg base ["_law_number", "_law_some", "_law_kind"] "_law_sign" (defScope (top 12)) (He.ga K "_law_sign") cdv A outer s H E).A (cxF P w K mg base ["_law_number", "_law_some", "_law_kind"] "_law_sign" (defScope (top 12)) (He.ga K "_law_sign") cdv A outer s H E).env (cxF P w K mg base ["_law_number", "_law_some", "_law_kind"] "_law_sign" (defScope (top 12)) (He.ga K "_law_sign") cdv A outer s H E).xe := passes_of rfl
  exact (b_cons (s_set (i := 1) nd rfl (.inl rfl) (l_str lit_17)) (b_cons (s_set (i := 2) nd rfl (.inl rfl) (l_op2 op_modD (l_var (i := 0) rfl (.inl rfl)) l_int)) (b_cons (s_if (t_cmp (op_eqDD hr.units) (l_var (i := 2) rfl (.inl rfl)) l_int) (b_one (s_ret (l_str lit_2))) b_nil) (b_cons (s_if (t_cmp (op_eqDD hr.units) (l_var (i := 2) rfl (.inl rfl)) l_int) (b_one (s_ret (l_str lit_8))) b_nil) (b_cons (s_if (t_cmp (op_eqDD hr.units) (l_var (i := 2) rfl (.inl rfl)) l_int) (b_one (s_ret (l_ix (l_str lit_16) (l_op2 op_modD (l_op2 op_divD (l_var (i := 0) rfl (.inl rfl)) l_int) l_int)))) b_nil) (b_cons (s_if (t_cmp (op_cmpD op_lt) (l_var (i := 2) rfl (.inl rfl)) l_int) (b_one (s_ret (l_ix (l_str lit_15) (l_op2 op_modD (l_op2 op_divD (l_var (i := 0) rfl (.inl rfl)) l_int) l_int)))) b_nil) (b_one (s_ret (l_ix (l_var (i := 1) rfl (.inl rfl)) (l_op2 op_modD (l_op2 op_divD (l_var (i := 0) rfl (.inl rfl)) l_int) l_int))))))))))
theorem sc__law_target : FnScope ["_law_number", "_law_things", "_law_key", "_law_sign_here"] ["_law_number", "_law_things"] (defScope (top 15)) := ⟨rfl, rfl, rfl, by decide +kernel, rfl, by decide +kernel, by decide +kernel⟩
theorem ok__law_target (Z : Txt K w mg) (cd : He.SaysD fa fn K) : ∃ fd, (∀ base : Heap, FnOk P w K mg base (L2.CX P w) 2 (He.ga K "_law_target") fd ["_law_number", "_law_things"] (spM K 2 m__law_target)) ∧ Binds K fd ["_law_number", "_law_things"] [] ∧ PySem.W.keepIn K (.ref (He.ga K "_law_target")) = true ∧ ∀ (s : Shared) (us : List Value), us.length = 2 → BindsTo s fd ⟨us, []⟩ ((["_law_number", "_law_things"] : List Str).zip us) := by
  obtain ⟨fd, F⟩ := cd.def_ 5 (d := dd 15 "_law_target") rfl
  obtain ⟨fd__law_letter, F__law_letter, b__law_letter, k__law_letter, _⟩ := ok__law_letter (P := P) Z cd
  obtain ⟨fd__law_sign, F__law_sign, b__law_sign, k__law_sign, _⟩ := ok__law_sign (P := P) Z cd
  refine ⟨fd, fun base => fn_lift (N := ["_law_number", "_law_things", "_law_key", "_law_sign_here"]) (k := 1) (b := d__law_target) F sc__law_target (fun cdv A outer s H E hr => ?_), F.bindsN fun _ _ _ _ _ _ us hl => match us, hl with | [_, _], _ => rfl, F.kp, FunD.bindsA (ps := ["_law_number", "_law_things"]) F fun _ _ _ _ _ _ us hl => match us, hl with | [_, _], _ => rfl⟩
  have F__law_letter := F__law_letter base
  have F__law_sign := F__law_sign base
  have nd := sc__law_target.nd
  have tk : Takes (cxF P w K mg base ["_law_number", "_law_things", "_law_key", "_law_sign_here"] "_law_target" (defScope (top 15)) (He.ga K "_law_target") cdv A outer s H E) (WF E) := takes_of rfl rfl rfl rfl
  have pa : PassesOwn (model P w) (cxF P w K mg base ["_law_number", "_law_things", "_law_key", "_law_sign_here"] "_law_target" (defScope (top 15)) (He.ga K "_law_target") cdv A outer s H E).A (cxF P w K mg base ["_law_number", "_law_things", "_law_key", "_law_sign_here"] "_law_target" (defScope (top 15)) (He.ga K "_law_target") cdv A outer s H E).env (cxF P w K mg base ["_law_number", "_law_things", "_law_key", "_law_sign_here"] "_law_target" (defScope (top 15)) (He.ga K "_law_target") cdv A outer s H E).xe := passes_of rfl
  exact (b_cons (s_if (L2.PW.pt (w_and (t_val (l_var (i := 1) rfl (.inl rfl))) (pw_and1 (t_cmp (op_eqDD hr.units) (l_op2 op_modD (l_var (i := 0) rfl (.inl rfl)) l_int) l_int)))) (b_one (s_ret (l_ix (l_str lit_20) (l_op2 op_modD (l_op2 op_divD (l_var (i := 0) rfl (.inl rfl)) l_int) l_int)))) b_nil) (b_cons (s_if (t_cmp (op_eqDD hr.units) (l_op2 op_modD (l_var (i := 0) rfl (.inl rfl)) l_int) l_int) (b_one (s_ret (l_ix (l_str lit_19) (l_op2 op_modD (l_op2 op_divD (l_var (i := 0) rfl (.inl rfl)) l_int) l_int)))) b_nil) (b_cons (s_set (i := 2) nd rfl (.inl rfl) (l_ix (l_str lit_18) (l_op2 op_modD (l_op2 op_divD (l_var (i := 0) rfl (.inl rfl)) l_int) l_int))) (b_cons (s_if (t_cmp (op_eqDD hr.units) (l_var (i := 2) rfl (.inl rfl)) (l_str lit_6)) (b_one (s_ret (l_op2 op_addD (l_str lit_6) (l_call F__law_letter (hr.mono (by decide)) tk rfl Z.g__law_letter k__law_letter b__law_letter (a_cons (l_op2 op_divD (l_var (i := 0) rfl (.inl rfl)) l_int) a_nil))))) b_nil) (b_cons (s_set (i := 3) nd rfl (.inl rfl) (l_call F__law_sign (hr.mono (by decide)) tk rfl Z.g__law_sign k__law_sign b__law_sign (a_cons (l_op2 op_divD (l_var (i := 0) rfl (.inl rfl)) l_int) a_nil))) (b_cons (s_if (t_cmp (op_eqDD hr.units) (l_var (i := 3) rfl (.inl rfl)) (l_str lit_2)) (b_one (s_set (i := 3) nd rfl (.inl rfl) (l_str lit_0))) b_nil) (b_one (s_ret (l_op2 op_addD (l_var (i := 2) rfl (.inl rfl)) (l_var (i := 3) rfl (.inl rfl)))))))))))
theorem sc__law_signs : FnScope ["_law_number", "_law_size", "_law_k"] ["_law_number", "_law_size"] (defScope (top 14)) := ⟨rfl, rfl, rfl, by decide +kernel, rfl, by decide +kernel, by decide +kernel⟩
theorem ok__law_signs (Z : Txt K w mg) (cd : He.SaysD fa fn K) : ∃ fd, (∀ base : Heap, FnOk P w K mg base (L2.CX P w) 2 (He.ga K "_law_signs") fd ["_law_number", "_law_size"] (spM K 2 m__law_signs)) ∧ Binds K fd ["_law_number", "_law_size"] [] ∧ PySem.W.keepIn K (.ref (He.ga K "_law_signs")) = true ∧ ∀ (s : Shared) (us : List Value), us.length = 2 → BindsTo s fd ⟨us, []⟩ ((["_law_number", "_law_size"] : List Str).zip us) := by
  obtain ⟨fd, F⟩ := cd.def_ 6 (d := dd 14 "_law_signs") rfl
  obtain ⟨fd__law_sign, F__law_sign, b__law_sign, k__law_sign, _⟩ := ok__law_sign (P := P) Z cd
  refine ⟨fd, fun base => fn_lift (N := ["_law_number", "_law_size", "_law_k"]) (k := 1) (b := d__law_signs) F sc__law_signs (fun cdv A outer s H E hr => ?_), F.bindsN fun _ _ _ _ _ _ us hl => match us, hl with | [_, _], _ => rfl, F.kp, FunD.bindsA (ps := ["_law_number", "_law_size"]) F fun _ _ _ _ _ _ us hl => match us, hl with | [_, _], _ => rfl⟩
  have F__law_sign := F__law_sign base
  have nd := sc__law_signs.nd
  have tk : Takes (cxF P w K mg base ["_law_number", "_law_size", "_law_k"] "_law_signs" (defScope (top 14)) (He.ga K "_law_signs") cdv A outer s H E) (WF E) := takes_of rfl rfl rfl rfl
  have pa : PassesOwn (model P w) (cxF P w K mg base ["_law_number", "_law_size", "_law_k"] "_law_signs" (defScope (top 14)) (He.ga K "_law_signs") cdv A outer s H E).A (cxF P w K mg base ["_law_number", "_law_size", "_law_k"] "_law_signs" (defScope (top 14)) (He.ga K "_law_signs") cdv A outer s H E).env (cxF P w K mg base ["_law_number", "_law_size", "_law_k"] "_law_signs" (defScope (top 14)) (He.ga K "_law_signs") cdv A outer s H E).xe := passes_of rfl
  exact (b_one (s_ret (l_join (l_str lit_10) (l_fix (f_lc (own := [("_law_k", 2)]) (wg_name (i := 2) (by decide)) rfl nd (i_rng1 rfl Z.n_range (a_cons (l_var (i := 1) rfl (.inl rfl)) a_nil)) (blkOk_by (by kernel_rfl)) (fun _ _ _ _ _ => pg_name (i := 2) nd rfl (.inl rfl)) (fun _ _ _ _ _ => ifs_nil) (fun _ _ _ _ _ => (l_call F__law_sign (hr.mono (by decide)) takes0 rfl Z.g__law_sign k__law_sign b__law_sign (a_cons (l_op2 op_modD (l_op2 op_mulD (l_var (i := 0) rfl (.inr (.inl rfl))) (l_op2 op_addD (l_var (i := 2) rfl (.inl rfl)) l_int)) l_int) a_nil))))))))
theorem sc__law_typed : FnScope ["_law_verb", "_law_number", "_law_signs_here"] ["_law_verb", "_law_number"] (defScope (top 16)) := ⟨rfl, rfl, rfl, by decide +kernel, rfl, by decide +kernel, by decide +kernel⟩
theorem ok__law_typed (Z : Txt K w mg) (cd : He.SaysD fa fn K) : ∃ fd, (∀ base : Heap, FnQ 367 P w K mg base 3 (He.ga K "_law_typed") fd ["_law_verb", "_law_number"] (spM K 2 m__law_typed)) ∧ Binds K fd ["_law_verb", "_law_number"] [] ∧ PySem.W.keepIn K (.ref (He.ga K "_law_typed")) = true ∧ ∀ (s : Shared) (us : List Value), us.length = 2 → BindsTo s fd ⟨us, []⟩ ((["_law_verb", "_law_number"] : List Str).zip us) := by
  obtain ⟨fd, F⟩ := cd.def_ 7 (d := dd 16 "_law_typed") rfl
  obtain ⟨fd__law_letter, F__law_letter, b__law_letter, k__law_letter, _⟩ := ok__law_letter (P := P) Z cd
  obtain ⟨fd__law_signs, F__law_signs, b__law_signs, k__law_signs, _⟩ := ok__law_signs (P := P) Z cd
  have hm : 1 ≤ 367 := by decide
  refine ⟨fd, fun base => fn_liftQ (N := ["_law_verb", "_law_number", "_law_signs_here"]) (k := 2) (b := d__law_typed) F sc__law_typed (fun cdv A outer s H E hr => ?_), F.bindsN fun _ _ _ _ _ _ us hl => match us, hl with | [_, _], _ => rfl, F.kp, FunD.bindsA (ps := ["_law_verb", "_law_number"]) F fun _ _ _ _ _ _ us hl => match us, hl with | [_, _], _ => rfl⟩
  have F__law_letter := F__law_letter base
  have F__law_signs := F__law_signs base
  have nd := sc__law_typed.nd
  have tk : Takes (cxF P w K mg base ["_law_verb", "_law_number", "_law_signs_here"] "_law_typed" (defScope (top 16)) (He.ga K "_law_typed") cdv A outer s H E) (WF E) := takes_of rfl rfl rfl rfl
  have pa : PassesOwn (model P w) (cxF P w K mg base ["_law_verb", "_law_number", "_law_signs_here"] "_law_typed" (defScope (top 16)) (He.ga K "_law_typed") cdv A outer s H E).A (cxF P w K mg base ["_law_verb", "_law_number", "_law_signs_here"] "_law_typed" (defScope (top 16)) (He.ga K "_law_typed") cdv A outer s H E).env (cxF P w K mg base ["_law_verb", "_law_number", "_law_signs_here"] "_law_typed" (defScope (top 16)) (He.ga K "_law_typed") cdv A outer s H E).xe := passes_of rfl
  exact (qb_cons (qs_of (s_set (i := 2) nd rfl (.inl rfl) (l_call F__law_signs (hr.mono (by decide)) tk rfl Z.g__law_signs k__law_signs b__law_signs (a_cons (l_op2 op_divD (l_var (i := 1) rfl (.inl rfl)) l_int) (a_cons (l_op2 op_modD (l_op2 op_divD (l_var (i := 1) rfl (.inl rfl)) l_int) l_int) a_nil))))) (qb_cons (qs_if (qt_of (t_cmp op_inD (l_var (i := 0) rfl (.inl rfl)) (l_tup (a_cons (l_str lit_29) (a_cons (l_str lit_28) a_nil))))) (qb_one (qs_of (s_ret (l_var (i := 2) rfl (.inl rfl))))) (qss_of b_nil)) (qb_cons (qs_if (qt_of (t_cmp (op_eqDD hr.units) (l_var (i := 0) rfl (.inl rfl)) (l_str lit_26))) (qb_one (qs_ret (q_repl (l_var (i := 2) rfl (.inl rfl)) lit_2 lit_27 hm))) (qss_of b_nil)) (qb_cons (qs_if (qt_of (t_cmp (op_eqDD hr.units) (l_var (i := 0) rfl (.inl rfl)) (l_str lit_25))) (qb_one (qs_ret (q_ix (q_op2 op_addD (q_repl (l_var (i := 2) rfl (.inl rfl)) lit_2 lit_10 hm) (q_of (l_str lit_5))) (q_of l_int)))) (qss_of b_nil)) (qb_cons (qs_if (qt_of (t_cmp op_inD (l_var (i := 0) rfl (.inl rfl)) (l_tup (a_cons (l_str lit_24) (a_cons (l_str lit_23) (a_cons (l_str lit_22) a_nil)))))) (qb_one (qs_of (s_ret (l_call F__law_letter (hr.mono (by decide)) tk rfl Z.g__law_letter k__law_letter b__law_letter (a_cons (l_var (i := 1) rfl (.inl rfl)) a_nil))))) (qss_of b_nil)) (qb_cons (qs_if (qt_of (t_cmp (op_eqDD hr.units) (l_var (i := 0) rfl (.inl rfl)) (l_str lit_9))) (qb_one (qs_of (s_ret (l_ix (l_str lit_21) (l_op2 op_modD (l_var (i := 1) rfl (.inl rfl)) l_int))))) (qss_of b_nil)) (qb_one (qs_of (s_ret (l_str lit_10))))))))))
theorem sc__law_phrase : FnScope ["_law_number", "_law_other", "_law_some", "_law_verb", "_law_shelf", "_law_count", "_law_target_here"] ["_law_number", "_law_other"] (defScope (top 17)) := ⟨rfl, rfl, rfl, by decide +kernel, rfl, by decide +kernel, by decide +kernel⟩
theorem ok__law_phrase (Z : Txt K w mg) (cd : He.SaysD fa fn K) : ∃ fd, (∀ base : Heap, FnQ 367 P w K mg base 4 (He.ga K "_law_phrase") fd ["_law_number", "_law_other"] (spM K 2 m__law_phrase)) ∧ Binds K fd ["_law_number", "_law_other"] [] ∧ PySem.W.keepIn K (.ref (He.ga K "_law_phrase")) = true ∧ ∀ (s : Shared) (us : List Value), us.length = 2 → BindsTo s fd ⟨us, []⟩ ((["_law_number", "_law_other"] : List Str).zip us) := by
  obtain ⟨fd, F⟩ := cd.def_ 8 (d := dd 17 "_law_phrase") rfl
  obtain ⟨fd__law_letter, F__law_letter, b__law_letter, k__law_letter, _⟩ := ok__law_letter (P := P) Z cd
  obtain ⟨fd__law_target, F__law_target, b__law_target, k__law_target, _⟩ := ok__law_target (P := P) Z cd
  obtain ⟨fd__law_typed, F__law_typed, b__law_typed, k__law_typed, _⟩ := ok__law_typed (P := P) Z cd
  have hm : 1 ≤ 367 := by decide
  refine ⟨fd, fun base => fn_liftQ (N := ["_law_number", "_law_other", "_law_some", "_law_verb", "_law_shelf", "_law_count", "_law_target_here"]) (k := 3) (b := d__law_phrase) F sc__law_phrase (fun cdv A outer s H E hr => ?_), F.bindsN fun _ _ _ _ _ _ us hl => match us, hl with | [_, _], _ => rfl, F.kp, FunD.bindsA (ps := ["_law_number", "_law_other"]) F fun _ _ _ _ _ _ us hl => match us, hl with | [_, _], _ => rfl⟩
  have F__law_letter := F__law_letter base
  have F__law_target := F__law_target base
  have F__law_typed := F__law_typed base
  have nd := sc__law_phrase.nd
  have tk : Takes (cxF P w K mg base ["_law_number", "_law_other", "_law_some", "_law_verb", "_law_shelf", "_law_count", "_law_target_here"] "_law_phrase" (defScope (top 17)) (He.ga K "_law_phrase") cdv A outer s H E) (WF E) := takes_of rfl rfl rfl rfl
  have pa : PassesOwn (model P w) (cxF P w K mg base ["_law_number", "_law_other", "_law_some", "_law_verb", "_law_shelf", "_law_count", "_law_target_here"] "_law_phrase" (defScope (top 17)) (He.ga K "_law_phrase") cdv A outer s H E).A (cxF P w K mg base ["_law_number", "_law_other", "_law_some", "_law_verb", "_law_shelf", "_law_count", "_law_target_here"] "_law_phrase" (defScope (top 17)) (He.ga K "_law_phrase") cdv A outer s H E).env (cxF P w K mg base ["_law_number", "_law_other", "_law_some", "_law_verb", "_law_shelf", "_law_count", "_law_target_here"] "_law_phrase" (defScope (top 17)) (He.ga K "_law_phrase") cdv A outer s H E).xe := passes_of rfl
  exact (qb_cons (qs_of (s_set (i := 2) nd rfl (.inl rfl) (l_fix (f_lst (a_cons (l_str lit_10) (a_cons (l_str lit_36) (a_cons (l_str lit_35) (a_cons (l_str lit_29) (a_cons (l_str lit_34) (a_cons (l_str lit_33) (a_cons (l_str lit_32) (a_cons (l_str lit_31) (a_cons (l_str lit_30) (a_cons (l_str lit_28) (a_cons (l_str lit_25) (a_cons (l_str lit_37) (a_cons (l_str lit_24) (a_cons (l_str lit_23) (a_cons (l_str lit_9) (a_cons (l_str lit_43) (a_cons (l_str lit_42) (a_cons (l_str lit_41) (a_cons (l_str lit_40) (a_cons (l_str lit_39) (a_cons (l_str lit_38) a_nil))))))))))))))))))))))))) (qb_cons (qs_of (s_set (i := 3) nd rfl (.inl rfl) (l_ix (l_op2 op_addD (l_var (i := 2) rfl (.inl rfl)) (l_fix (f_lst (a_cons (l_str lit_22) (a_cons (l_str lit_26) a_nil))))) (l_op2 op_modD (l_var (i := 0) rfl (.inl rfl)) l_int)))) (qb_cons (qs_of (s_set (i := 4) nd rfl (.inl rfl) (l_str lit_10))) (qb_cons (qs_if (qt_of (L2.PW.pt (w_and (t_cmp op_inD (l_var (i := 3) rfl (.inl rfl)) (l_tup (a_cons (l_str lit_36) (a_cons (l_str lit_35) (a_cons (l_str lit_29) (a_cons (l_str lit_37) a_nil)))))) (pw_and1 (t_cmp (op_eqDD hr.units) (l_op2 op_modD (l_op2 op_divD (l_var (i := 0) rfl (.inl rfl)) l_int) l_int) l_int))))) (qb_one (qs_of (s_set (i := 4) nd rfl (.inl rfl) (l_call F__law_letter (hr.mono (by decide)) tk rfl Z.g__law_letter k__law_letter b__law_letter (a_cons (l_op2 op_divD (l_var (i := 0) rfl (.inl rfl)) l_int) a_nil))))) (qss_of b_nil)) (qb_cons (qs_of (s_set (i := 5) nd rfl (.inl rfl) l_non)) (qb_cons (qs_if (qt_of (L2.PW.pt (w_and (t_cmp op_ninD (l_var (i := 3) rfl (.inl rfl)) (l_tup (a_cons (l_str lit_24) (a_cons (l_str lit_23) (a_cons (l_str lit_9) (a_cons (l_str lit_26) a_nil)))))) (pw_and1 (t_cmp (op_cmpD op_gt) (l_op2 op_modD (l_op2 op_divD (l_var (i := 0) rfl (.inl rfl)) l_int) l_int) l_int))))) (qb_one (qs_of (s_set (i := 5) nd rfl (.inl rfl) (l_op2 op_addD l_int (l_op2 op_modD (l_var (i := 1) rfl (.inl rfl)) (l_ix (l_fix (f_lst (a_cons l_int (a_cons l_int (a_cons l_int a_nil))))) (l_op2 op_modD (l_op2 op_divD (l_var (i := 0) rfl (.inl rfl)) l_int) l_int))))))) (qss_of b_nil)) (qb_cons (qs_of (s_set (i := 6) nd rfl (.inl rfl) (l_str lit_10))) (qb_cons (qs_if (qt_of (t_cmp op_inD (l_var (i := 3) rfl (.inl rfl)) (l_tup (a_cons (l_str lit_10) (a_cons (l_str lit_36) (a_cons (l_str lit_35) (a_cons (l_str lit_29) (a_cons (l_str lit_34) (a_cons (l_str lit_33) (a_cons (l_str lit_32) (a_cons (l_str lit_31) (a_cons (l_str lit_30) a_nil)))))))))))) (qb_one (qs_of (s_set (i := 6) nd rfl (.inl rfl) (l_call F__law_target (hr.mono (by decide)) tk rfl Z.g__law_target k__law_target b__law_target (a_cons (l_op2 op_divD (l_var (i := 1) rfl (.inl rfl)) l_int) (a_cons (l_cmp (op_neDD hr.units) (l_var (i := 3) rfl (.inl rfl)) (l_str lit_10)) a_nil)))))) (qss_of b_nil)) (qb_one (qs_ret (q_tup (qa_cons (q_of (l_var (i := 4) rfl (.inl rfl))) (qa_cons (q_of (l_var (i := 5) rfl (.inl rfl))) (qa_cons (q_of (l_var (i := 3) rfl (.inl rfl))) (qa_cons (q_of (l_var (i := 6) rfl (.inl rfl))) (qa_cons (q_call F__law_typed (hr.mono (by decide)) tk rfl Z.g__law_typed k__law_typed b__law_typed (qa_cons (q_of (l_var (i := 3) rfl (.inl rfl))) (qa_cons (q_of (l_op2 op_divD (l_var (i := 1) rfl (.inl rfl)) l_int)) qa_nil))) qa_nil))))))))))))))))
theorem sc__law_quoted : FnScope ["_law_text", "_law_signs_here", "_law_sign_here"] ["_law_text"] (defScope (top 18)) := ⟨rfl, rfl, rfl, by decide +kernel, rfl, by decide +kernel, by decide +kernel⟩
theorem ok__law_quoted (Z : Txt K w mg) (cd : He.SaysD fa fn K) : ∃ fd, (∀ base : Heap, FnOk P w K mg base (L2.CX P w) 1 (He.ga K "_law_quoted") fd ["_law_text"] (spM K 1 m__law_quoted)) ∧ Binds K fd ["_law_text"] [] ∧ PySem.W.keepIn K (.ref (He.ga K "_law_quoted")) = true ∧ ∀ (s : Shared) (us : List Value), us.length = 1 → BindsTo s fd ⟨us, []⟩ ((["_law_text"] : List Str).zip us) := by
  obtain ⟨fd, F⟩ := cd.def_ 9 (d := dd 18 "_law_quoted") rfl
  refine ⟨fd, fun base => fn_lift (N := ["_law_text", "_law_signs_here", "_law_sign_here"]) (k := 0) (b := d__law_quoted) F sc__law_quoted (fun cdv A outer s H E hr => ?_), F.bindsN fun _ _ _ _ _ _ us hl => match us, hl with | [_], _ => rfl, F.kp, FunD.bindsA (ps := ["_law_text"]) F fun _ _ _ _ _ _ us hl => match us, hl with | [_], _ => rfl⟩
  have nd := sc__law_quoted.nd
  have tk : Takes (cxF P w K mg base ["_law_text", "_law_signs_here", "_law_sign_here"] "_law_quoted" (defScope (top 18)) (He.ga K "_law_quoted") cdv A outer s H E) (WF E) := takes_of rfl rfl rfl rfl
  have pa : PassesOwn (model P w) (cxF P w K mg base ["_law_text", "_law_signs_here", "_law_sign_here"] "_law_quoted" (defScope (top 18)) (He.ga K "_law_quoted") cdv A outer s H E).A (cxF P w K mg base ["_law_text", "_law_signs_here", "_law_sign_here"] "_law_quoted" (defScope (top 18)) (He.ga K "_law_quoted") cdv A outer s H E).env (cxF P w K mg base ["_law_text", "_law_signs_here", "_law_sign_here"] "_law_quoted" (defScope (top 18)) (He.ga K "_law_quoted") cdv A outer s H E).xe := passes_of rfl
  exact (b_cons (s_own (i := 1) nd rfl (.inl rfl) (f_lst a_nil)) (b_cons (s_for pa rfl (i_str (l_var (i := 0) rfl (.inl rfl))) (pg_name (i := 2) nd rfl (.inl rfl)) (lg_name 2) (b_cons (s_if (t_cmp (op_eqDD hr.units) (l_var (i := 2) rfl (.inl rfl)) (l_str lit_5)) (b_one (s_set (i := 2) nd rfl (.inl rfl) (l_str lit_4))) (b_one (s_if (t_cmp (op_eqDD hr.units) (l_var (i := 2) rfl (.inl rfl)) (l_str lit_0)) (b_one (s_set (i := 2) nd rfl (.inl rfl) (l_str lit_3))) (b_one (s_if (t_cmp (op_eqDD hr.units) (l_var (i := 2) rfl (.inl rfl)) (l_str lit_2)) (b_one (s_set (i := 2) nd rfl (.inl rfl) (l_str lit_1))) b_nil))))) (b_one (s_app (i := 1) rfl (.inl rfl) (l_var (i := 2) rfl (.inl rfl)))))) (b_one (s_ret (l_op2 op_addD (l_op2 op_addD (l_str lit_0) (l_join (l_str lit_10) (l_var (i := 1) rfl (.inl rfl)))) (l_str lit_0))))))
theorem sc__law_target_words : FnScope ["_law_target_here", "_law_some"] ["_law_target_here"] (defScope (top 19)) := ⟨rfl, rfl, rfl, by decide +kernel, rfl, by decide +kernel, by decide +kernel⟩
theorem ok__law_target_words (Z : Txt K w mg) (cd : He.SaysD fa fn K) : ∃ fd, (∀ base : Heap, FnOk P w K mg base (L2.CX P w) 2 (He.ga K "_law_target_words") fd ["_law_target_here"] (spM K 1 m__law_target_words)) ∧ Binds K fd ["_law_target_here"] [] ∧ PySem.W.keepIn K (.ref (He.ga K "_law_target_words")) = true ∧ ∀ (s : Shared) (us : List Value), us.length = 1 → BindsTo s fd ⟨us, []⟩ ((["_law_target_here"] : List Str).zip us) := by
  obtain ⟨fd, F⟩ := cd.def_ 10 (d := dd 19 "_law_target_words") rfl
  obtain ⟨fd__law_quoted, F__law_quoted, b__law_quoted, k__law_quoted, _⟩ := ok__law_quoted (P := P) Z cd
  refine ⟨fd, fun base => fn_lift (N := ["_law_target_here", "_law_some"]) (k := 1) (b := d__law_target_words) F sc__law_target_words (fun cdv A outer s H E hr => ?_), F.bindsN fun _ _ _ _ _ _ us hl => match us, hl with | [_], _ => rfl, F.kp, FunD.bindsA (ps := ["_law_target_here"]) F fun _ _ _ _ _ _ us hl => match us, hl with | [_], _ => rfl⟩
  have F__law_quoted := F__law_quoted base
  have nd := sc__law_target_words.nd
  have tk : Takes (cxF P w K mg base ["_law_target_here", "_law_some"] "_law_target_words" (defScope (top 19)) (He.ga K "_law_target_words") cdv A outer s H E) (WF E) := takes_of rfl rfl rfl rfl
  have pa : PassesOwn (model P w) (cxF P w K mg base ["_law_target_here", "_law_some"] "_law_target_words" (defScope (top 19)) (He.ga K "_law_target_words") cdv A outer s H E).A (cxF P w K mg base ["_law_target_here", "_law_some"] "_law_target_words" (defScope (top 19)) (He.ga K "_law_target_words") cdv A outer s H E).env (cxF P w K mg base ["_law_target_here", "_law_some"] "_law_target_words" (defScope (top 19)) (He.ga K "_law_target_words") cdv A outer s H E).xe := passes_of rfl
  exact (b_cons (s_if (L2.PW.pt (w_and (t_cmp (op_eqDD hr.units) (l_blt cr_lenD rfl Z.n_len (by decide +kernel) (a_cons (l_var (i := 0) rfl (.inl rfl)) a_nil)) l_int) (pw_and1 (t_cmp (op_eqDD hr.units) (l_ix (l_var (i := 0) rfl (.inl rfl)) l_int) (l_str lit_6))))) (b_one (s_ret (l_fix (f_lst (a_cons (l_str lit_7) (a_cons (l_ix (l_var (i := 0) rfl (.inl rfl)) l_int) a_nil)))))) b_nil) (b_cons (s_if (t_cmp (op_eqDD hr.units) (l_blt cr_lenD rfl Z.n_len (by decide +kernel) (a_cons (l_var (i := 0) rfl (.inl rfl)) a_nil)) l_int) (b_one (s_ret (l_fix (f_lst (a_cons (l_ix (l_fix (f_lst (a_cons (l_str lit_71) (a_cons (l_str lit_70) a_nil)))) (l_bty cr_intD rfl Z.n_int (by decide +kernel) (a_cons (l_cmp (op_eqDD hr.units) (l_ix (l_var (i := 0) rfl (.inl rfl)) l_int) (l_str lit_72)) a_nil))) (a_cons (l_call F__law_quoted (hr.mono (by decide)) tk rfl Z.g__law_quoted k__law_quoted b__law_quoted (a_cons (l_ix (l_var (i := 0) rfl (.inl rfl)) l_int) a_nil)) a_nil)))))) b_nil) (b_cons (s_set (i := 1) nd rfl (.inl rfl) (l_fix (f_lst (a_cons (l_str lit_69) (a_cons (l_str lit_68) (a_cons (l_str lit_67) (a_cons (l_str lit_66) (a_cons (l_str lit_65) (a_cons (l_str lit_64) (a_cons (l_str lit_63) (a_cons (l_str lit_62) (a_cons (l_str lit_61) (a_cons (l_str lit_60) (a_cons (l_str lit_59) (a_cons (l_str lit_58) (a_cons (l_str lit_57) a_nil)))))))))))))))) (b_cons (s_set (i := 1) nd rfl (.inl rfl) (l_op2 op_addD (l_var (i := 1) rfl (.inl rfl)) (l_fix (f_lst (a_cons (l_str lit_56) (a_cons (l_str lit_55) (a_cons (l_str lit_54) (a_cons (l_str lit_53) (a_cons (l_str lit_52) (a_cons (l_str lit_51) (a_cons (l_str lit_50) (a_cons (l_str lit_49) (a_cons (l_str lit_48) a_nil))))))))))))) (b_cons (s_set (i := 1) nd rfl (.inl rfl) (l_op2 op_addD (l_var (i := 1) rfl (.inl rfl)) (l_fix (f_lst (a_cons (l_str lit_47) (a_cons (l_str lit_46) (a_cons (l_str lit_45) a_nil))))))) (b_one (s_ret (l_fix (f_lst (a_cons (l_ix (l_var (i := 1) rfl (.inl rfl)) (l_index (l_str lit_44) (l_var (i := 0) rfl (.inl rfl)))) a_nil))))))))))
theorem sc__law_words : FnScope ["_law_phrase_here", "_law_shelf", "_law_count", "_law_verb", "_law_target_here", "_law_signs_here", "_law_some", "_law_found"] ["_law_phrase_here"] (defScope (top 20)) := ⟨rfl, rfl, rfl, by decide +kernel, rfl, by decide +kernel, by decide +kernel⟩
theorem ok__law_words (Z : Txt K w mg) (cd : He.SaysD fa fn K) : ∃ fd, (∀ base : Heap, FnOk P w K mg base (L2.CX P w) 3 (He.ga K "_law_words") fd ["_law_phrase_here"] (spM K 1 m__law_words)) ∧ Binds K fd ["_law_phrase_here"] [] ∧ PySem.W.keepIn K (.ref (He.ga K "_law_words")) = true ∧ ∀ (s : Shared) (us : List Value), us.length = 1 → BindsTo s fd ⟨us, []⟩ ((["_law_phrase_here"] : List Str).zip us) := by
  obtain ⟨fd, F⟩ := cd.def_ 11 (d := dd 20 "_law_words") rfl
  obtain ⟨fd__law_quoted, F__law_quoted, b__law_quoted, k__law_quoted, _⟩ := ok__law_quoted (P := P) Z cd
  obtain ⟨fd__law_target_words, F__law_target_words, b__law_target_words, k__law_target_words, _⟩ := ok__law_target_words (P := P) Z cd
  refine ⟨fd, fun base => fn_lift (N := ["_law_phrase_here", "_law_shelf", "_law_count", "_law_verb", "_law_target_here", "_law_signs_here", "_law_some", "_law_found"]) (k := 2) (b := d__law_words) F sc__law_words (fun cdv A outer s H E hr => ?_), F.bindsN fun _ _ _ _ _ _ us hl => match us, hl with | [_], _ => rfl, F.kp, FunD.bindsA (ps := ["_law_phrase_here"]) F fun _ _ _ _ _ _ us hl => match us, hl with | [_], _ => rfl⟩
  have F__law_quoted := F__law_quoted base
  have F__law_target_words := F__law_target_words base
  have nd := sc__law_words.nd
  have tk : Takes (cxF P w K mg base ["_law_phrase_here", "_law_shelf", "_law_count", "_law_verb", "_law_target_here", "_law_signs_here", "_law_some", "_law_found"] "_law_words" (defScope (top 20)) (He.ga K "_law_words") cdv A outer s H E) (WF E) := takes_of rfl rfl rfl rfl
  have pa : PassesOwn (model P w) (cxF P w K mg base ["_law_phrase_here", "_law_shelf", "_law_count", "_law_verb", "_law_target_here", "_law_signs_here", "_law_some", "_law_found"] "_law_words" (defScope (top 20)) (He.ga K "_law_words") cdv A outer s H E).A (cxF P w K mg base ["_law_phrase_here", "_law_shelf", "_law_count", "_law_verb", "_law_target_here", "_law_signs_here", "_law_some", "_law_found"] "_law_words" (defScope (top 20)) (He.ga K "_law_words") cdv A outer s H E).env (cxF P w K mg base ["_law_phrase_here", "_law_shelf", "_law_count", "_law_verb", "_law_target_here", "_law_signs_here", "_law_some", "_law_found"] "_law_words" (defScope (top 20)) (He.ga K "_law_words") cdv A outer s H E).xe := passes_of rfl
  exact (b_cons (s_asgT (is := [1, 2, 3, 4, 5]) (pg_tup rfl (pgs_cons (pg_name (i := 1) nd rfl (.inl rfl)) (pgs_cons (pg_name (i := 2) nd rfl (.inl rfl)) (pgs_cons (pg_name (i := 3) nd rfl (.inl rfl)) (pgs_cons (pg_name (i := 4) nd rfl (.inl rfl)) (pgs_cons (pg_name (i := 5) nd rfl (.inl rfl)) pgs_nil)))))) (lg_tup [1, 2, 3, 4, 5] rfl) (l_var (i := 0) rfl (.inl rfl))) (b_cons (s_set (i := 6) nd rfl (.inl rfl) (l_fix (f_lst (a_cons (l_str lit_97) (a_cons (l_str lit_96) (a_cons (l_str lit_95) (a_cons (l_str lit_94) (a_cons (l_str lit_93) (a_cons (l_str lit_92) (a_cons (l_str lit_91) (a_cons (l_str lit_90) (a_cons (l_str lit_89) (a_cons (l_str lit_88) (a_cons (l_str lit_87) a_nil)))))))))))))) (b_cons (s_set (i := 6) nd rfl (.inl rfl) (l_op2 op_addD (l_var (i := 6) rfl (.inl rfl)) (l_fix (f_lst (a_cons (l_str lit_86) (a_cons (l_str lit_85) (a_cons (l_str lit_84) (a_cons (l_str lit_83) (a_cons (l_str lit_82) (a_cons (l_str lit_81) (a_cons (l_str lit_80) (a_cons (l_str lit_79) (a_cons (l_str lit_78) (a_cons (l_str lit_77) (a_cons (l_str lit_76) a_nil))))))))))))))) (b_cons (s_own (i := 7) nd rfl (.inl rfl) (f_lst (a_cons (l_str lit_75) a_nil))) (b_cons (s_if (t_cmp (op_neDD hr.units) (l_var (i := 3) rfl (.inl rfl)) (l_str lit_10)) (b_one (s_own (i := 7) nd rfl (.inl rfl) (f_lst (a_cons (l_ix (l_var (i := 6) rfl (.inl rfl)) (l_index (l_str lit_74) (l_var (i := 3) rfl (.inl rfl)))) a_nil)))) b_nil) (b_cons (s_if (t_cmp (op_neDD hr.units) (l_var (i := 1) rfl (.inl rfl)) (l_str lit_10)) (b_one (s_own (i := 7) nd rfl (.inl rfl) (f_cat (l_var (i := 7) rfl (.inl rfl)) (l_fix (f_lst (a_cons (l_str lit_13) (a_cons (l_var (i := 1) rfl (.inl rfl)) a_nil))))))) b_nil) (b_cons (s_if (t_cmp op_isnotD (l_var (i := 2) rfl (.inl rfl)) l_non) (b_one (s_own (i := 7) nd rfl (.inl rfl) (f_cat (l_var (i := 7) rfl (.inl rfl)) (l_fix (f_lst (a_cons (l_str lit_12) (a_cons (l_bty cr_strD rfl Z.n_str (by decide +kernel) (a_cons (l_var (i := 2) rfl (.inl rfl)) a_nil)) a_nil))))))) b_nil) (b_cons (s_if (t_cmp (op_neDD hr.units) (l_var (i := 4) rfl (.inl rfl)) (l_str lit_10)) (b_one (s_own (i := 7) nd rfl (.inl rfl) (f_cat (l_var (i := 7) rfl (.inl rfl)) (l_call F__law_target_words (hr.mono (by decide)) tk rfl Z.g__law_target_words k__law_target_words b__law_target_words (a_cons (l_var (i := 4) rfl (.inl rfl)) a_nil))))) b_nil) (b_cons (s_if (t_cmp op_inD (l_var (i := 3) rfl (.inl rfl)) (l_tup (a_cons (l_str lit_29) (a_cons (l_str lit_28) (a_cons (l_str lit_25) (a_cons (l_str lit_26) a_nil)))))) (b_one (s_ret (l_join (l_str lit_8) (l_op2 op_addD (l_var (i := 7) rfl (.inl rfl)) (l_fix (f_lst (a_cons (l_call F__law_quoted (hr.mono (by decide)) tk rfl Z.g__law_quoted k__law_quoted b__law_quoted (a_cons (l_var (i := 5) rfl (.inl rfl)) a_nil)) a_nil))))))) b_nil) (b_cons (s_if (t_cmp (op_eqDD hr.units) (l_var (i := 3) rfl (.inl rfl)) (l_str lit_9)) (b_one (s_ret (l_join (l_str lit_8) (l_op2 op_addD (l_var (i := 7) rfl (.inl rfl)) (l_fix (f_lst (a_cons (l_ix (l_fix (f_lst (a_cons (l_str lit_55) (a_cons (l_str lit_54) (a_cons (l_str lit_73) a_nil))))) (l_index (l_str lit_21) (l_var (i := 5) rfl (.inl rfl)))) a_nil))))))) b_nil) (b_cons (s_if (t_cmp (op_neDD hr.units) (l_var (i := 5) rfl (.inl rfl)) (l_str lit_10)) (b_one (s_app (i := 7) rfl (.inl rfl) (l_var (i := 5) rfl (.inl rfl)))) b_nil) (b_one (s_ret (l_join (l_str lit_8) (l_var (i := 7) rfl (.inl rfl))))))))))))))))
theorem sc_law : FnScope ["_law_script", "_law_some", "_law_cell", "_law_number", "_law_phrase_here", "_law_found"] ["_law_script"] (defScope (top 21)) := ⟨rfl, rfl, rfl, by decide +kernel, rfl, by decide +kernel, by decide +kernel⟩
theorem ok_law (Z : Txt K w mg) (cd : He.SaysD fa fn K) : ∃ fd, (∀ base : Heap, FnQ 367 P w K mg base 5 (He.ga K "law") fd ["_law_script"] (spM K 1 m_law)) ∧ Binds K fd ["_law_script"] [] ∧ PySem.W.keepIn K (.ref (He.ga K "law")) = true ∧ ∀ (s : Shared) (us : List Value), us.length = 1 → BindsTo s fd ⟨us, []⟩ ((["_law_script"] : List Str).zip us) := by
  obtain ⟨fd, F⟩ := cd.def_ 12 (d := dd 21 "law") rfl
  obtain ⟨fd_in_words, F_in_words, b_in_words, k_in_words, _⟩ := ok_in_words (P := P) Z cd
  obtain ⟨fd__law_phrase, F__law_phrase, b__law_phrase, k__law_phrase, _⟩ := ok__law_phrase (P := P) Z cd
  obtain ⟨fd__law_words, F__law_words, b__law_words, k__law_words, _⟩ := ok__law_words (P := P) Z cd
  have hm : 1 ≤ 367 := by decide
  refine ⟨fd, fun base => fn_liftQ (N := ["_law_script", "_law_some", "_law_cell", "_law_number", "_law_phrase_here", "_law_found"]) (k := 4) (b := d_law) F sc_law (fun cdv A outer s H E hr => ?_), F.bindsN fun _ _ _ _ _ _ us hl => match us, hl with | [_], _ => rfl, F.kp, FunD.bindsA (ps := ["_law_script"]) F fun _ _ _ _ _ _ us hl => match us, hl with | [_], _ => rfl⟩
  have F_in_words := F_in_words base
  have F__law_phrase := F__law_phrase base
  have F__law_words := F__law_words base
  have nd := sc_law.nd
  have tk : Takes (cxF P w K mg base ["_law_script", "_law_some", "_law_cell", "_law_number", "_law_phrase_here", "_law_found"] "law" (defScope (top 21)) (He.ga K "law") cdv A outer s H E) (WF E) := takes_of rfl rfl rfl rfl
  have pa : PassesOwn (model P w) (cxF P w K mg base ["_law_script", "_law_some", "_law_cell", "_law_number", "_law_phrase_here", "_law_found"] "law" (defScope (top 21)) (He.ga K "law") cdv A outer s H E).A (cxF P w K mg base ["_law_script", "_law_some", "_law_cell", "_law_number", "_law_phrase_here", "_law_found"] "law" (defScope (top 21)) (He.ga K "law") cdv A outer s H E).env (cxF P w K mg base ["_law_script", "_law_some", "_law_cell", "_law_number", "_law_phrase_here", "_law_found"] "law" (defScope (top 21)) (He.ga K "law") cdv A outer s H E).xe := passes_of rfl
  exact (qb_cons (qs_of (s_own (i := 1) nd rfl (.inl rfl) (f_lst a_nil))) (qb_cons (qs_for pa rfl (i_list (l_sl (l_var (i := 0) rfl (.inl rfl)) o_none (o_some l_int))) (pg_name (i := 2) nd rfl (.inl rfl)) (lg_name 2) (qb_cons (qs_of (s_set (i := 3) nd rfl (.inl rfl) (l_op2 op_modD (l_op2 op_mulD (l_var (i := 2) rfl (.inl rfl)) l_int) l_int))) (qb_one (qs_app (i := 1) rfl (.inl rfl) (q_call F__law_phrase (hr.mono (by decide)) tk rfl Z.g__law_phrase k__law_phrase b__law_phrase (qa_cons (q_of (l_var (i := 3) rfl (.inl rfl))) (qa_cons (q_of (l_op2 op_modD (l_op2 op_mulD (l_var (i := 3) rfl (.inl rfl)) l_int) l_int)) qa_nil))))))) (qb_cons (qs_for pa rfl (i_list (l_op2 op_addD (l_var (i := 1) rfl (.inl rfl)) (l_sl (l_var (i := 1) rfl (.inl rfl)) o_none (o_some l_int)))) (pg_name (i := 4) nd rfl (.inl rfl)) (lg_name 4) (qb_cons (qs_set (i := 5) nd rfl (.inl rfl) (q_call F_in_words (hr.mono (by decide)) tk rfl Z.g_in_words k_in_words b_in_words (qa_cons (q_of (l_var (i := 4) rfl (.inl rfl))) qa_nil))) (qb_one (qs_if (qt_of (L2.PW.pt (w_or (t_not (t_val (l_blt cr_isiD rfl Z.n_isinstance (by decide +kernel) (a_cons (l_var (i := 5) rfl (.inl rfl)) (a_cons (l_ty rfl Z.n_str (by decide +kernel)) a_nil))))) (pw_or1 (t_cmp (op_neDD hr.units) (l_var (i := 5) rfl (.inl rfl)) (l_call F__law_words (hr.mono (by decide)) tk rfl Z.g__law_words k__law_words b__law_words (a_cons (l_var (i := 4) rfl (.inl rfl)) a_nil))))))) (qb_one (qs_of (s_ret l_bl))) (qss_of b_nil))))) (qb_one (qs_ret (q_cmp (op_eqDD hr.units) (q_call F_in_words (hr.mono (by decide)) tk rfl Z.g_in_words k_in_words b_in_words (qa_cons (q_of (l_tup (a_cons (l_str lit_10) (a_cons l_non (a_cons (l_str lit_10) (a_cons (l_str lit_98) (a_cons (l_str lit_10) a_nil))))))) qa_nil)) (q_of (l_str lit_99))))))))
end
end Wa83
set_option Elab.async false
set_option linter.all false
set_option maxRecDepth 100000
set_option maxHeartbeats 0
/-! Hd83: the top, run once. Printed by gen.py. -/
namespace Wa83
open PySem PySem.Spec PyProof.Rows L2 Dl Mi83
abbrev Rr : PySem.W.OpenRow := PySem.W.OpenLaw.row PySem.Challenge.rw_modehand_k83_in_words
abbrev hk : PySem.W.Hook := He.hookM 4 367 fa fn ts xs
def ob (s : PySem.W.SharedT) : He.AlM := He.obM 4 367 fa fn ts xs s
theorem ob_eq (s : PySem.W.SharedT) : ob s = hk.obs s.abs := He.obM_eq s
def loose0 : List PySem.Str := ["__name__", "QUOTE", "quoted", "VERB_WORDS", "MOVE_WORDS", "THING_WORDS", "SEEN_WORDS", "QUOTED_VERBS", "target_words", "in_words", "_law_sign", "_law_letter", "_law_signs", "_law_target", "_law_typed", "_law_phrase", "_law_quoted", "_law_target_words", "_law_words"]
def loose : List PySem.Str := loose0
theorem runF (w : World) : HandSHeadRun.RunEq Rr (PySem.W.view Rr.prog [21]) hk ob 40000 loose (w.withFollow "special-get-raises" false) := by
  intro os
  kernel_rfl
theorem runT (w : World) : HandSHeadRun.RunEq Rr (PySem.W.view Rr.prog [21]) hk ob 40000 loose (w.withFollow "special-get-raises" true) := by
  intro os
  kernel_rfl
theorem run (w : World) : HandSHeadRun.RunEq Rr (PySem.W.view Rr.prog [21]) hk ob 40000 loose w := PySem.W.byRow2 "special-get-raises" (P := fun w => HandSHeadRun.RunEq Rr (PySem.W.view Rr.prog [21]) hk ob 40000 loose w) runF runT w
end Wa83
set_option Elab.async false
set_option linter.all false
set_option maxRecDepth 100000
set_option maxHeartbeats 4000000
/-! Ma83: the two readings of a phrase say the same. -/
namespace Ma83
open PySem L2 Dl Mi83
def esc (c : Nat) : List Nat := if c = 92 then [92, 92] else if c = 34 then [92, 113] else if c = 10 then [92, 110] else [c]
def quo (l : List Nat) : List Nat := 34 :: (l.flatMap esc ++ [34])
theorem rpl_one (c : Nat) (z : List Nat) : ∀ l : List Nat, rpl [c] z l = l.flatMap fun x => if x = c then z else [x]
  | [] => StrLaws.replL_nil
  | x :: r => by
    rw [List.flatMap_cons, ← rpl_one c z r]
    by_cases h : x = c
    · rw [if_pos h]
      exact StrLaws.replL_hit (by simp) (by simp [h])
    · rw [if_neg h]
      exact StrLaws.replL_miss (by simpa using h)
theorem rpl_three (l : List Nat) : rpl [10] [92, 110] (rpl [34] [92, 113] (rpl [92] [92, 92] l)) = l.flatMap esc := by
  rw [rpl_one, rpl_one, rpl_one, List.flatMap_assoc, List.flatMap_assoc]
  congr 1
  funext x
  unfold esc
  by_cases h1 : x = 92
  · subst h1; rfl
  · by_cases h2 : x = 34
    · subst h2; rfl
    · by_cases h3 : x = 10
      · subst h3; rfl
      · simp [h1, h2, h3]
theorem len_flat {f : Nat → List Nat} (h : ∀ x, (f x).length ≤ 2) : ∀ l : List Nat, (l.flatMap f).length ≤ 2 * l.length
  | [] => by simp
  | x :: r => by
    have := h x
    have := len_flat h r
    rw [List.flatMap_cons, List.length_append, List.length_cons]
    omega
theorem len_rpl (c a b : Nat) (l : List Nat) : (rpl [c] [a, b] l).length ≤ 2 * l.length := by
  rw [rpl_one]
  refine len_flat (fun x => ?_) l
  split <;> simp
theorem len_esc (l : List Nat) : (l.flatMap esc).length ≤ 2 * l.length := len_flat (fun x => by
  unfold esc
  (repeat' split) <;> simp) l
theorem quoted_ok (l : List Nat) (hl : l.length ≤ 1000) : m_quoted [.str l] = .ok (.str (quo l)) := by
  have a1 := len_rpl 92 92 92 l
  have a2 := len_rpl 34 92 113 (rpl [92] [92, 92] l)
  have a3 := len_rpl 10 92 110 (rpl [34] [92, 113] (rpl [92] [92, 92] l))
  have c1 : l.length + (l.length + 1) * 2 ≤ 1000000 := by omega
  have c2 : (rpl [92] [92, 92] l).length + ((rpl [92] [92, 92] l).length + 1) * 2 ≤ 1000000 := by omega
  have c3 : (rpl [34] [92, 113] (rpl [92] [92, 92] l)).length + ((rpl [34] [92, 113] (rpl [92] [92, 92] l)).length + 1) * 2 ≤ 1000000 := by omega
  have c4 : 1 + (l.flatMap esc).length ≤ 1000000 := by have := len_esc l; omega
  have c5 : (l.flatMap esc).length + 1 + 1 ≤ 1000000 := by have := len_esc l; omega
  unfold m_quoted d_quoted quo
  simp only [e_rdDat, e_rdOwn, e_at0, e_atS, e_pu0, e_puS, e_var, e_c, e_op2, e_op2R, e_op2S, e_op1, e_op1S, e_opA, e_opAS, e_ofS, e_ofN, e_dB, e_toBS, e_and, e_andT, e_andF, e_or, e_orT, e_orF, e_not, e_notT, e_notF, e_notB, e_andV, e_andVT, e_andVF, e_orV, e_orVT, e_orVF, e_notV, e_notVB, e_ifE, e_ifET, e_ifEF, e_nil, e_cons, e_consR, e_consS, e_cleanN, e_cleanC, e_oN, e_oB, e_oI, e_oS, e_oT, e_oL, e_oSL, e_oOb, e_nf, e_tt, e_tup, e_tupR, e_tupB, e_items, e_itemsR, e_itemsB, e_fix, e_fixR, e_cat, e_catR, e_appN, e_appC, e_catB, e_catLL, e_catOL, e_catLO, e_catOO, e_call, e_callR, e_callB0, e_callB1, e_callB2, e_callB3, e_callB4, e_callB5, e_seq, e_seqN, e_seqR, e_seqB, e_seqC, e_seqX, e_skip, e_break, e_cont, e_set, e_setR, e_setX, e_setB, e_own, e_ownR, e_asg, e_asgR, e_nxO, e_tgT, e_putN, e_putC, e_tgN, e_tgB, e_drop, e_dropR, e_ret, e_retR, e_retX, e_retB, e_retN, e_if, e_ifT, e_ifF, e_app, e_appR, e_appB, e_frz, e_frzO, e_frzD, e_frzU, e_for, e_forR, e_forN, e_forC, e_turnB, e_turnN, e_turnC, e_turnK, e_turnR, e_turnX, e_it, e_itR, e_itA, e_itAR, e_asLst, e_asSlst, e_asTup, e_asStr, e_raise, e_run, e_endN, e_endR, e_endX, e_stC, e_st0, e_stS, e_addI, e_addS, e_addB, e_addLL, e_addOL, e_addLO, e_addOO, e_sub, e_mul, e_mod, e_div, e_neg, e_cmp, e_eqI, e_eqS, e_eqB, e_id, e_n1, e_isN, e_isI, e_isS, e_isT, e_isL, e_isB, e_isnN, e_isnI, e_isnS, e_isnT, e_isnL, e_isnB, e_ixS, e_ixT, e_ixL, e_ixSL, e_ixO, e_at_0, e_at_1, e_at_2, e_sg, e_lenS, e_lenT, e_lenL, e_lenSL, e_lenO, e_int, e_intT, e_intF, e_str, e_min, e_max, e_abs, e_m1, e_m1R, e_m1S, e_joinL, e_joinO, e_joinT, e_joinB, e_txN, e_txC, e_txS, e_isiS, e_isiL, e_isiTu, e_rep, e_replS, e_tabG, e_mpS, e_tabI, e_inS, e_sl, e_slR, e_slS, e_slT, e_oNone, e_oSome, e_oRI, e_slStr, e_slL, e_slSL, e_slO, e_lc, e_ca0, e_ca1, e_ca2, e_ca3, e_ca4, e_ca5, e_ca6, e_ca7, e_ca8, e_ca9, e_ca10, e_ca11, e_ca12, e_scS, e_scI, e_scB, e_scN, e_allN, e_allC, e_inN, e_inC, e_eqFS, e_eqFI, e_inST, e_inIT, e_index, e_spR, e_mg, e_mgS, e_smN, e_smC, eq_self, Nat.reduceLT, Nat.reduceGT, Nat.reduceAdd, Nat.reduceMul, Nat.reduceSub, Nat.reduceLeDiff, Nat.reduceEqDiff, Int.reduceLT, Int.reduceLE, Int.reduceEq, Int.reduceAdd, Int.reduceSub, Int.reduceMul, Int.reduceMod, Int.reduceDiv, Int.reduceNeg, Nat.zero_le, Nat.le_refl, List.length_cons, List.length_nil, ite_true, ite_false, if_true, if_false, decide_true, decide_false, Bool.not_true, Bool.not_false, Bool.and_true, Bool.true_and, Bool.and_false, Bool.false_and, Bool.or_true, Bool.or_false, Bool.true_or, Bool.false_or, List.cons.injEq, and_true, true_and, and_false, false_and, and_self, ne_eq, not_true_eq_false, not_false_eq_true, reduceCtorEq, List.nil_append, List.cons_append, List.append_nil, List.append_assoc, e_rep, c1, c2, c3, rpl_three, c4, c5]

abbrev qBody : DS := dSeq (dIf (dB (dOp2 fEq (dVar 2) (dC (.str L5)))) (dSet 2 (dC (.str L4))) (dIf (dB (dOp2 fEq (dVar 2) (dC (.str L0)))) (dSet 2 (dC (.str L3))) (dIf (dB (dOp2 fEq (dVar 2) (dC (.str L2)))) (dSet 2 (dC (.str L1))) (dSkip)))) (dApp 1 (dVar 2))
theorem q_loop (a : D) : ∀ (l : List Nat) (acc : List D) (x : Sl), acc.length + l.length < 1000000 → ∃ x', dForL (tgN 2) qBody (l.map sg) [.dat a, .own acc, x] = .nx [.dat a, .own (acc ++ l.map fun c => .str (esc c)), x']
  | [], acc, x, _ => ⟨x, by simp only [List.map_nil, e_forN, List.append_nil]⟩
  | c :: r, acc, x, h => by
    rw [List.length_cons] at h
    have h1 : acc.length < 1000000 := by omega
    obtain ⟨x', e⟩ := q_loop a r (acc ++ [.str (esc c)]) (.dat (.str (esc c))) (by rw [List.length_append]; simp only [List.length_cons, List.length_nil]; omega)
    refine ⟨x', ?_⟩
    rw [List.append_assoc] at e
    rw [List.map_cons, List.map_cons, e_forC]
    have t : turnB qBody (tgN 2 (sg c) [.dat a, .own acc, x]) = .nx [.dat a, .own (acc ++ [.str (esc c)]), .dat (.str (esc c))] := by
      unfold esc
      by_cases c1 : c = 92
      · simp only [e_rdDat, e_rdOwn, e_at0, e_atS, e_pu0, e_puS, e_var, e_c, e_op2, e_op2R, e_op2S, e_op1, e_op1S, e_opA, e_opAS, e_ofS, e_ofN, e_dB, e_toBS, e_and, e_andT, e_andF, e_or, e_orT, e_orF, e_not, e_notT, e_notF, e_notB, e_andV, e_andVT, e_andVF, e_orV, e_orVT, e_orVF, e_notV, e_notVB, e_ifE, e_ifET, e_ifEF, e_nil, e_cons, e_consR, e_consS, e_cleanN, e_cleanC, e_oN, e_oB, e_oI, e_oS, e_oT, e_oL, e_oSL, e_oOb, e_nf, e_tt, e_tup, e_tupR, e_tupB, e_items, e_itemsR, e_itemsB, e_fix, e_fixR, e_cat, e_catR, e_appN, e_appC, e_catB, e_catLL, e_catOL, e_catLO, e_catOO, e_call, e_callR, e_callB0, e_callB1, e_callB2, e_callB3, e_callB4, e_callB5, e_seq, e_seqN, e_seqR, e_seqB, e_seqC, e_seqX, e_skip, e_break, e_cont, e_set, e_setR, e_setX, e_setB, e_own, e_ownR, e_asg, e_asgR, e_nxO, e_tgT, e_putN, e_putC, e_tgN, e_tgB, e_drop, e_dropR, e_ret, e_retR, e_retX, e_retB, e_retN, e_if, e_ifT, e_ifF, e_app, e_appR, e_appB, e_frz, e_frzO, e_frzD, e_frzU, e_for, e_forR, e_forN, e_forC, e_turnB, e_turnN, e_turnC, e_turnK, e_turnR, e_turnX, e_it, e_itR, e_itA, e_itAR, e_asLst, e_asSlst, e_asTup, e_asStr, e_raise, e_run, e_endN, e_endR, e_endX, e_stC, e_st0, e_stS, e_addI, e_addS, e_addB, e_addLL, e_addOL, e_addLO, e_addOO, e_sub, e_mul, e_mod, e_div, e_neg, e_cmp, e_eqI, e_eqS, e_eqB, e_id, e_n1, e_isN, e_isI, e_isS, e_isT, e_isL, e_isB, e_isnN, e_isnI, e_isnS, e_isnT, e_isnL, e_isnB, e_ixS, e_ixT, e_ixL, e_ixSL, e_ixO, e_at_0, e_at_1, e_at_2, e_sg, e_lenS, e_lenT, e_lenL, e_lenSL, e_lenO, e_int, e_intT, e_intF, e_str, e_min, e_max, e_abs, e_m1, e_m1R, e_m1S, e_joinL, e_joinO, e_joinT, e_joinB, e_txN, e_txC, e_txS, e_isiS, e_isiL, e_isiTu, e_rep, e_replS, e_tabG, e_mpS, e_tabI, e_inS, e_sl, e_slR, e_slS, e_slT, e_oNone, e_oSome, e_oRI, e_slStr, e_slL, e_slSL, e_slO, e_lc, e_ca0, e_ca1, e_ca2, e_ca3, e_ca4, e_ca5, e_ca6, e_ca7, e_ca8, e_ca9, e_ca10, e_ca11, e_ca12, e_scS, e_scI, e_scB, e_scN, e_allN, e_allC, e_inN, e_inC, e_eqFS, e_eqFI, e_inST, e_inIT, e_index, e_spR, e_mg, e_mgS, e_smN, e_smC, eq_self, Nat.reduceLT, Nat.reduceGT, Nat.reduceAdd, Nat.reduceMul, Nat.reduceSub, Nat.reduceLeDiff, Nat.reduceEqDiff, Int.reduceLT, Int.reduceLE, Int.reduceEq, Int.reduceAdd, Int.reduceSub, Int.reduceMul, Int.reduceMod, Int.reduceDiv, Int.reduceNeg, Nat.zero_le, Nat.le_refl, List.length_cons, List.length_nil, ite_true, ite_false, if_true, if_false, decide_true, decide_false, Bool.not_true, Bool.not_false, Bool.and_true, Bool.true_and, Bool.and_false, Bool.false_and, Bool.or_true, Bool.or_false, Bool.true_or, Bool.false_or, List.cons.injEq, and_true, true_and, and_false, false_and, and_self, ne_eq, not_true_eq_false, not_false_eq_true, reduceCtorEq, List.nil_append, List.cons_append, List.append_nil, List.append_assoc, c1, h1, appL]
      · by_cases c2 : c = 34
        · simp only [e_rdDat, e_rdOwn, e_at0, e_atS, e_pu0, e_puS, e_var, e_c, e_op2, e_op2R, e_op2S, e_op1, e_op1S, e_opA, e_opAS, e_ofS, e_ofN, e_dB, e_toBS, e_and, e_andT, e_andF, e_or, e_orT, e_orF, e_not, e_notT, e_notF, e_notB, e_andV, e_andVT, e_andVF, e_orV, e_orVT, e_orVF, e_notV, e_notVB, e_ifE, e_ifET, e_ifEF, e_nil, e_cons, e_consR, e_consS, e_cleanN, e_cleanC, e_oN, e_oB, e_oI, e_oS, e_oT, e_oL, e_oSL, e_oOb, e_nf, e_tt, e_tup, e_tupR, e_tupB, e_items, e_itemsR, e_itemsB, e_fix, e_fixR, e_cat, e_catR, e_appN, e_appC, e_catB, e_catLL, e_catOL, e_catLO, e_catOO, e_call, e_callR, e_callB0, e_callB1, e_callB2, e_callB3, e_callB4, e_callB5, e_seq, e_seqN, e_seqR, e_seqB, e_seqC, e_seqX, e_skip, e_break, e_cont, e_set, e_setR, e_setX, e_setB, e_own, e_ownR, e_asg, e_asgR, e_nxO, e_tgT, e_putN, e_putC, e_tgN, e_tgB, e_drop, e_dropR, e_ret, e_retR, e_retX, e_retB, e_retN, e_if, e_ifT, e_ifF, e_app, e_appR, e_appB, e_frz, e_frzO, e_frzD, e_frzU, e_for, e_forR, e_forN, e_forC, e_turnB, e_turnN, e_turnC, e_turnK, e_turnR, e_turnX, e_it, e_itR, e_itA, e_itAR, e_asLst, e_asSlst, e_asTup, e_asStr, e_raise, e_run, e_endN, e_endR, e_endX, e_stC, e_st0, e_stS, e_addI, e_addS, e_addB, e_addLL, e_addOL, e_addLO, e_addOO, e_sub, e_mul, e_mod, e_div, e_neg, e_cmp, e_eqI, e_eqS, e_eqB, e_id, e_n1, e_isN, e_isI, e_isS, e_isT, e_isL, e_isB, e_isnN, e_isnI, e_isnS, e_isnT, e_isnL, e_isnB, e_ixS, e_ixT, e_ixL, e_ixSL, e_ixO, e_at_0, e_at_1, e_at_2, e_sg, e_lenS, e_lenT, e_lenL, e_lenSL, e_lenO, e_int, e_intT, e_intF, e_str, e_min, e_max, e_abs, e_m1, e_m1R, e_m1S, e_joinL, e_joinO, e_joinT, e_joinB, e_txN, e_txC, e_txS, e_isiS, e_isiL, e_isiTu, e_rep, e_replS, e_tabG, e_mpS, e_tabI, e_inS, e_sl, e_slR, e_slS, e_slT, e_oNone, e_oSome, e_oRI, e_slStr, e_slL, e_slSL, e_slO, e_lc, e_ca0, e_ca1, e_ca2, e_ca3, e_ca4, e_ca5, e_ca6, e_ca7, e_ca8, e_ca9, e_ca10, e_ca11, e_ca12, e_scS, e_scI, e_scB, e_scN, e_allN, e_allC, e_inN, e_inC, e_eqFS, e_eqFI, e_inST, e_inIT, e_index, e_spR, e_mg, e_mgS, e_smN, e_smC, eq_self, Nat.reduceLT, Nat.reduceGT, Nat.reduceAdd, Nat.reduceMul, Nat.reduceSub, Nat.reduceLeDiff, Nat.reduceEqDiff, Int.reduceLT, Int.reduceLE, Int.reduceEq, Int.reduceAdd, Int.reduceSub, Int.reduceMul, Int.reduceMod, Int.reduceDiv, Int.reduceNeg, Nat.zero_le, Nat.le_refl, List.length_cons, List.length_nil, ite_true, ite_false, if_true, if_false, decide_true, decide_false, Bool.not_true, Bool.not_false, Bool.and_true, Bool.true_and, Bool.and_false, Bool.false_and, Bool.or_true, Bool.or_false, Bool.true_or, Bool.false_or, List.cons.injEq, and_true, true_and, and_false, false_and, and_self, ne_eq, not_true_eq_false, not_false_eq_true, reduceCtorEq, List.nil_append, List.cons_append, List.append_nil, List.append_assoc, c1, c2, h1, appL]
        · by_cases c3 : c = 10
          · simp only [e_rdDat, e_rdOwn, e_at0, e_atS, e_pu0, e_puS, e_var, e_c, e_op2, e_op2R, e_op2S, e_op1, e_op1S, e_opA, e_opAS, e_ofS, e_ofN, e_dB, e_toBS, e_and, e_andT, e_andF, e_or, e_orT, e_orF, e_not, e_notT, e_notF, e_notB, e_andV, e_andVT, e_andVF, e_orV, e_orVT, e_orVF, e_notV, e_notVB, e_ifE, e_ifET, e_ifEF, e_nil, e_cons, e_consR, e_consS, e_cleanN, e_cleanC, e_oN, e_oB, e_oI, e_oS, e_oT, e_oL, e_oSL, e_oOb, e_nf, e_tt, e_tup, e_tupR, e_tupB, e_items, e_itemsR, e_itemsB, e_fix, e_fixR, e_cat, e_catR, e_appN, e_appC, e_catB, e_catLL, e_catOL, e_catLO, e_catOO, e_call, e_callR, e_callB0, e_callB1, e_callB2, e_callB3, e_callB4, e_callB5, e_seq, e_seqN, e_seqR, e_seqB, e_seqC, e_seqX, e_skip, e_break, e_cont, e_set, e_setR, e_setX, e_setB, e_own, e_ownR, e_asg, e_asgR, e_nxO, e_tgT, e_putN, e_putC, e_tgN, e_tgB, e_drop, e_dropR, e_ret, e_retR, e_retX, e_retB, e_retN, e_if, e_ifT, e_ifF, e_app, e_appR, e_appB, e_frz, e_frzO, e_frzD, e_frzU, e_for, e_forR, e_forN, e_forC, e_turnB, e_turnN, e_turnC, e_turnK, e_turnR, e_turnX, e_it, e_itR, e_itA, e_itAR, e_asLst, e_asSlst, e_asTup, e_asStr, e_raise, e_run, e_endN, e_endR, e_endX, e_stC, e_st0, e_stS, e_addI, e_addS, e_addB, e_addLL, e_addOL, e_addLO, e_addOO, e_sub, e_mul, e_mod, e_div, e_neg, e_cmp, e_eqI, e_eqS, e_eqB, e_id, e_n1, e_isN, e_isI, e_isS, e_isT, e_isL, e_isB, e_isnN, e_isnI, e_isnS, e_isnT, e_isnL, e_isnB, e_ixS, e_ixT, e_ixL, e_ixSL, e_ixO, e_at_0, e_at_1, e_at_2, e_sg, e_lenS, e_lenT, e_lenL, e_lenSL, e_lenO, e_int, e_intT, e_intF, e_str, e_min, e_max, e_abs, e_m1, e_m1R, e_m1S, e_joinL, e_joinO, e_joinT, e_joinB, e_txN, e_txC, e_txS, e_isiS, e_isiL, e_isiTu, e_rep, e_replS, e_tabG, e_mpS, e_tabI, e_inS, e_sl, e_slR, e_slS, e_slT, e_oNone, e_oSome, e_oRI, e_slStr, e_slL, e_slSL, e_slO, e_lc, e_ca0, e_ca1, e_ca2, e_ca3, e_ca4, e_ca5, e_ca6, e_ca7, e_ca8, e_ca9, e_ca10, e_ca11, e_ca12, e_scS, e_scI, e_scB, e_scN, e_allN, e_allC, e_inN, e_inC, e_eqFS, e_eqFI, e_inST, e_inIT, e_index, e_spR, e_mg, e_mgS, e_smN, e_smC, eq_self, Nat.reduceLT, Nat.reduceGT, Nat.reduceAdd, Nat.reduceMul, Nat.reduceSub, Nat.reduceLeDiff, Nat.reduceEqDiff, Int.reduceLT, Int.reduceLE, Int.reduceEq, Int.reduceAdd, Int.reduceSub, Int.reduceMul, Int.reduceMod, Int.reduceDiv, Int.reduceNeg, Nat.zero_le, Nat.le_refl, List.length_cons, List.length_nil, ite_true, ite_false, if_true, if_false, decide_true, decide_false, Bool.not_true, Bool.not_false, Bool.and_true, Bool.true_and, Bool.and_false, Bool.false_and, Bool.or_true, Bool.or_false, Bool.true_or, Bool.false_or, List.cons.injEq, and_true, true_and, and_false, false_and, and_self, ne_eq, not_true_eq_false, not_false_eq_true, reduceCtorEq, List.nil_append, List.cons_append, List.append_nil, List.append_assoc, c1, c2, c3, h1, appL]
          · simp only [e_rdDat, e_rdOwn, e_at0, e_atS, e_pu0, e_puS, e_var, e_c, e_op2, e_op2R, e_op2S, e_op1, e_op1S, e_opA, e_opAS, e_ofS, e_ofN, e_dB, e_toBS, e_and, e_andT, e_andF, e_or, e_orT, e_orF, e_not, e_notT, e_notF, e_notB, e_andV, e_andVT, e_andVF, e_orV, e_orVT, e_orVF, e_notV, e_notVB, e_ifE, e_ifET, e_ifEF, e_nil, e_cons, e_consR, e_consS, e_cleanN, e_cleanC, e_oN, e_oB, e_oI, e_oS, e_oT, e_oL, e_oSL, e_oOb, e_nf, e_tt, e_tup, e_tupR, e_tupB, e_items, e_itemsR, e_itemsB, e_fix, e_fixR, e_cat, e_catR, e_appN, e_appC, e_catB, e_catLL, e_catOL, e_catLO, e_catOO, e_call, e_callR, e_callB0, e_callB1, e_callB2, e_callB3, e_callB4, e_callB5, e_seq, e_seqN, e_seqR, e_seqB, e_seqC, e_seqX, e_skip, e_break, e_cont, e_set, e_setR, e_setX, e_setB, e_own, e_ownR, e_asg, e_asgR, e_nxO, e_tgT, e_putN, e_putC, e_tgN, e_tgB, e_drop, e_dropR, e_ret, e_retR, e_retX, e_retB, e_retN, e_if, e_ifT, e_ifF, e_app, e_appR, e_appB, e_frz, e_frzO, e_frzD, e_frzU, e_for, e_forR, e_forN, e_forC, e_turnB, e_turnN, e_turnC, e_turnK, e_turnR, e_turnX, e_it, e_itR, e_itA, e_itAR, e_asLst, e_asSlst, e_asTup, e_asStr, e_raise, e_run, e_endN, e_endR, e_endX, e_stC, e_st0, e_stS, e_addI, e_addS, e_addB, e_addLL, e_addOL, e_addLO, e_addOO, e_sub, e_mul, e_mod, e_div, e_neg, e_cmp, e_eqI, e_eqS, e_eqB, e_id, e_n1, e_isN, e_isI, e_isS, e_isT, e_isL, e_isB, e_isnN, e_isnI, e_isnS, e_isnT, e_isnL, e_isnB, e_ixS, e_ixT, e_ixL, e_ixSL, e_ixO, e_at_0, e_at_1, e_at_2, e_sg, e_lenS, e_lenT, e_lenL, e_lenSL, e_lenO, e_int, e_intT, e_intF, e_str, e_min, e_max, e_abs, e_m1, e_m1R, e_m1S, e_joinL, e_joinO, e_joinT, e_joinB, e_txN, e_txC, e_txS, e_isiS, e_isiL, e_isiTu, e_rep, e_replS, e_tabG, e_mpS, e_tabI, e_inS, e_sl, e_slR, e_slS, e_slT, e_oNone, e_oSome, e_oRI, e_slStr, e_slL, e_slSL, e_slO, e_lc, e_ca0, e_ca1, e_ca2, e_ca3, e_ca4, e_ca5, e_ca6, e_ca7, e_ca8, e_ca9, e_ca10, e_ca11, e_ca12, e_scS, e_scI, e_scB, e_scN, e_allN, e_allC, e_inN, e_inC, e_eqFS, e_eqFI, e_inST, e_inIT, e_index, e_spR, e_mg, e_mgS, e_smN, e_smC, eq_self, Nat.reduceLT, Nat.reduceGT, Nat.reduceAdd, Nat.reduceMul, Nat.reduceSub, Nat.reduceLeDiff, Nat.reduceEqDiff, Int.reduceLT, Int.reduceLE, Int.reduceEq, Int.reduceAdd, Int.reduceSub, Int.reduceMul, Int.reduceMod, Int.reduceDiv, Int.reduceNeg, Nat.zero_le, Nat.le_refl, List.length_cons, List.length_nil, ite_true, ite_false, if_true, if_false, decide_true, decide_false, Bool.not_true, Bool.not_false, Bool.and_true, Bool.true_and, Bool.and_false, Bool.false_and, Bool.or_true, Bool.or_false, Bool.true_or, Bool.false_or, List.cons.injEq, and_true, true_and, and_false, false_and, and_self, ne_eq, not_true_eq_false, not_false_eq_true, reduceCtorEq, List.nil_append, List.cons_append, List.append_nil, List.append_assoc, c1, c2, c3, h1, appL]
    rw [t, e_turnN, e]
    rfl
theorem lawquoted_ok (l : List Nat) (hl : l.length ≤ 1000) : m__law_quoted [.str l] = .ok (.str (quo l)) := by
  obtain ⟨x', e⟩ := q_loop (.str l) l [] .un (by simp only [List.length_nil]; omega)
  have e2 : dForL (tgN 2) qBody (l.map sg) [.dat (.str l), .own [], .un] = .nx [.dat (.str l), .own ((l.map esc).map .str), x'] := by
    rw [e, List.map_map]
    rfl
  have c1 : (l.flatMap esc).length ≤ 1000000 := by have := len_esc l; omega
  have c2 : 1 + (l.flatMap esc).length ≤ 1000000 := by have := len_esc l; omega
  have c3 : (l.flatMap esc).length + 1 + 1 ≤ 1000000 := by have := len_esc l; omega
  have f : (l.map esc).flatten = l.flatMap esc := rfl
  unfold m__law_quoted d__law_quoted quo
  simp only [e_rdDat, e_rdOwn, e_at0, e_atS, e_pu0, e_puS, e_var, e_c, e_op2, e_op2R, e_op2S, e_op1, e_op1S, e_opA, e_opAS, e_ofS, e_ofN, e_dB, e_toBS, e_and, e_andT, e_andF, e_or, e_orT, e_orF, e_not, e_notT, e_notF, e_notB, e_andV, e_andVT, e_andVF, e_orV, e_orVT, e_orVF, e_notV, e_notVB, e_ifE, e_ifET, e_ifEF, e_nil, e_cons, e_consR, e_consS, e_cleanN, e_cleanC, e_oN, e_oB, e_oI, e_oS, e_oT, e_oL, e_oSL, e_oOb, e_nf, e_tt, e_tup, e_tupR, e_tupB, e_items, e_itemsR, e_itemsB, e_fix, e_fixR, e_cat, e_catR, e_appN, e_appC, e_catB, e_catLL, e_catOL, e_catLO, e_catOO, e_call, e_callR, e_callB0, e_callB1, e_callB2, e_callB3, e_callB4, e_callB5, e_seq, e_seqN, e_seqR, e_seqB, e_seqC, e_seqX, e_skip, e_break, e_cont, e_set, e_setR, e_setX, e_setB, e_own, e_ownR, e_asg, e_asgR, e_nxO, e_tgT, e_putN, e_putC, e_tgN, e_tgB, e_drop, e_dropR, e_ret, e_retR, e_retX, e_retB, e_retN, e_if, e_ifT, e_ifF, e_app, e_appR, e_appB, e_frz, e_frzO, e_frzD, e_frzU, e_for, e_forR, e_forN, e_forC, e_turnB, e_turnN, e_turnC, e_turnK, e_turnR, e_turnX, e_it, e_itR, e_itA, e_itAR, e_asLst, e_asSlst, e_asTup, e_asStr, e_raise, e_run, e_endN, e_endR, e_endX, e_stC, e_st0, e_stS, e_addI, e_addS, e_addB, e_addLL, e_addOL, e_addLO, e_addOO, e_sub, e_mul, e_mod, e_div, e_neg, e_cmp, e_eqI, e_eqS, e_eqB, e_id, e_n1, e_isN, e_isI, e_isS, e_isT, e_isL, e_isB, e_isnN, e_isnI, e_isnS, e_isnT, e_isnL, e_isnB, e_ixS, e_ixT, e_ixL, e_ixSL, e_ixO, e_at_0, e_at_1, e_at_2, e_sg, e_lenS, e_lenT, e_lenL, e_lenSL, e_lenO, e_int, e_intT, e_intF, e_str, e_min, e_max, e_abs, e_m1, e_m1R, e_m1S, e_joinL, e_joinO, e_joinT, e_joinB, e_txN, e_txC, e_txS, e_isiS, e_isiL, e_isiTu, e_rep, e_replS, e_tabG, e_mpS, e_tabI, e_inS, e_sl, e_slR, e_slS, e_slT, e_oNone, e_oSome, e_oRI, e_slStr, e_slL, e_slSL, e_slO, e_lc, e_ca0, e_ca1, e_ca2, e_ca3, e_ca4, e_ca5, e_ca6, e_ca7, e_ca8, e_ca9, e_ca10, e_ca11, e_ca12, e_scS, e_scI, e_scB, e_scN, e_allN, e_allC, e_inN, e_inC, e_eqFS, e_eqFI, e_inST, e_inIT, e_index, e_spR, e_mg, e_mgS, e_smN, e_smC, eq_self, Nat.reduceLT, Nat.reduceGT, Nat.reduceAdd, Nat.reduceMul, Nat.reduceSub, Nat.reduceLeDiff, Nat.reduceEqDiff, Int.reduceLT, Int.reduceLE, Int.reduceEq, Int.reduceAdd, Int.reduceSub, Int.reduceMul, Int.reduceMod, Int.reduceDiv, Int.reduceNeg, Nat.zero_le, Nat.le_refl, List.length_cons, List.length_nil, ite_true, ite_false, if_true, if_false, decide_true, decide_false, Bool.not_true, Bool.not_false, Bool.and_true, Bool.true_and, Bool.and_false, Bool.false_and, Bool.or_true, Bool.or_false, Bool.true_or, Bool.false_or, List.cons.injEq, and_true, true_and, and_false, false_and, and_self, ne_eq, not_true_eq_false, not_false_eq_true, reduceCtorEq, List.nil_append, List.cons_append, List.append_nil, List.append_assoc, e2, txts_map, jn_nil, sum_flat, f, Nat.mul_zero, Nat.add_zero, c1, c2, c3]

/-! ### what the drawn phrases are made of -/
theorem letter_ok (n : Int) : ∃ c, m__law_letter [.int n] = .ok (.str [c]) := by
  obtain ⟨c, _, e⟩ := at_in L14 (n % 26) (by omega) (by show n % 26 < 26; omega)
  refine ⟨c, ?_⟩
  have q : (L14.length ≤ 1000000) = True := by decide
  unfold m__law_letter d__law_letter
  simp only [e_rdDat, e_rdOwn, e_at0, e_atS, e_pu0, e_puS, e_var, e_c, e_op2, e_op2R, e_op2S, e_op1, e_op1S, e_opA, e_opAS, e_ofS, e_ofN, e_dB, e_toBS, e_and, e_andT, e_andF, e_or, e_orT, e_orF, e_not, e_notT, e_notF, e_notB, e_andV, e_andVT, e_andVF, e_orV, e_orVT, e_orVF, e_notV, e_notVB, e_ifE, e_ifET, e_ifEF, e_nil, e_cons, e_consR, e_consS, e_cleanN, e_cleanC, e_oN, e_oB, e_oI, e_oS, e_oT, e_oL, e_oSL, e_oOb, e_nf, e_tt, e_tup, e_tupR, e_tupB, e_items, e_itemsR, e_itemsB, e_fix, e_fixR, e_cat, e_catR, e_appN, e_appC, e_catB, e_catLL, e_catOL, e_catLO, e_catOO, e_call, e_callR, e_callB0, e_callB1, e_callB2, e_callB3, e_callB4, e_callB5, e_seq, e_seqN, e_seqR, e_seqB, e_seqC, e_seqX, e_skip, e_break, e_cont, e_set, e_setR, e_setX, e_setB, e_own, e_ownR, e_asg, e_asgR, e_nxO, e_tgT, e_putN, e_putC, e_tgN, e_tgB, e_drop, e_dropR, e_ret, e_retR, e_retX, e_retB, e_retN, e_if, e_ifT, e_ifF, e_app, e_appR, e_appB, e_frz, e_frzO, e_frzD, e_frzU, e_for, e_forR, e_forN, e_forC, e_turnB, e_turnN, e_turnC, e_turnK, e_turnR, e_turnX, e_it, e_itR, e_itA, e_itAR, e_asLst, e_asSlst, e_asTup, e_asStr, e_raise, e_run, e_endN, e_endR, e_endX, e_stC, e_st0, e_stS, e_addI, e_addS, e_addB, e_addLL, e_addOL, e_addLO, e_addOO, e_sub, e_mul, e_mod, e_div, e_neg, e_cmp, e_eqI, e_eqS, e_eqB, e_id, e_n1, e_isN, e_isI, e_isS, e_isT, e_isL, e_isB, e_isnN, e_isnI, e_isnS, e_isnT, e_isnL, e_isnB, e_ixS, e_ixT, e_ixL, e_ixSL, e_ixO, e_at_0, e_at_1, e_at_2, e_sg, e_lenS, e_lenT, e_lenL, e_lenSL, e_lenO, e_int, e_intT, e_intF, e_str, e_min, e_max, e_abs, e_m1, e_m1R, e_m1S, e_joinL, e_joinO, e_joinT, e_joinB, e_txN, e_txC, e_txS, e_isiS, e_isiL, e_isiTu, e_rep, e_replS, e_tabG, e_mpS, e_tabI, e_inS, e_sl, e_slR, e_slS, e_slT, e_oNone, e_oSome, e_oRI, e_slStr, e_slL, e_slSL, e_slO, e_lc, e_ca0, e_ca1, e_ca2, e_ca3, e_ca4, e_ca5, e_ca6, e_ca7, e_ca8, e_ca9, e_ca10, e_ca11, e_ca12, e_scS, e_scI, e_scB, e_scN, e_allN, e_allC, e_inN, e_inC, e_eqFS, e_eqFI, e_inST, e_inIT, e_index, e_spR, e_mg, e_mgS, e_smN, e_smC, eq_self, Nat.reduceLT, Nat.reduceGT, Nat.reduceAdd, Nat.reduceMul, Nat.reduceSub, Nat.reduceLeDiff, Nat.reduceEqDiff, Int.reduceLT, Int.reduceLE, Int.reduceEq, Int.reduceAdd, Int.reduceSub, Int.reduceMul, Int.reduceMod, Int.reduceDiv, Int.reduceNeg, Nat.zero_le, Nat.le_refl, List.length_cons, List.length_nil, ite_true, ite_false, if_true, if_false, decide_true, decide_false, Bool.not_true, Bool.not_false, Bool.and_true, Bool.true_and, Bool.and_false, Bool.false_and, Bool.or_true, Bool.or_false, Bool.true_or, Bool.false_or, List.cons.injEq, and_true, true_and, and_false, false_and, and_self, ne_eq, not_true_eq_false, not_false_eq_true, reduceCtorEq, List.nil_append, List.cons_append, List.append_nil, List.append_assoc, e, q]
theorem sign_ok (n : Int) : ∃ c, m__law_sign [.int n] = .ok (.str [c]) := by
  have q1 : (L16.length ≤ 1000000) = True := by decide
  have q2 : (L15.length ≤ 1000000) = True := by decide
  have q3 : (L17.length ≤ 1000000) = True := by decide
  unfold m__law_sign d__law_sign
  by_cases h1 : n % 8 = 0
  · exact ⟨10, by simp only [e_rdDat, e_rdOwn, e_at0, e_atS, e_pu0, e_puS, e_var, e_c, e_op2, e_op2R, e_op2S, e_op1, e_op1S, e_opA, e_opAS, e_ofS, e_ofN, e_dB, e_toBS, e_and, e_andT, e_andF, e_or, e_orT, e_orF, e_not, e_notT, e_notF, e_notB, e_andV, e_andVT, e_andVF, e_orV, e_orVT, e_orVF, e_notV, e_notVB, e_ifE, e_ifET, e_ifEF, e_nil, e_cons, e_consR, e_consS, e_cleanN, e_cleanC, e_oN, e_oB, e_oI, e_oS, e_oT, e_oL, e_oSL, e_oOb, e_nf, e_tt, e_tup, e_tupR, e_tupB, e_items, e_itemsR, e_itemsB, e_fix, e_fixR, e_cat, e_catR, e_appN, e_appC, e_catB, e_catLL, e_catOL, e_catLO, e_catOO, e_call, e_callR, e_callB0, e_callB1, e_callB2, e_callB3, e_callB4, e_callB5, e_seq, e_seqN, e_seqR, e_seqB, e_seqC, e_seqX, e_skip, e_break, e_cont, e_set, e_setR, e_setX, e_setB, e_own, e_ownR, e_asg, e_asgR, e_nxO, e_tgT, e_putN, e_putC, e_tgN, e_tgB, e_drop, e_dropR, e_ret, e_retR, e_retX, e_retB, e_retN, e_if, e_ifT, e_ifF, e_app, e_appR, e_appB, e_frz, e_frzO, e_frzD, e_frzU, e_for, e_forR, e_forN, e_forC, e_turnB, e_turnN, e_turnC, e_turnK, e_turnR, e_turnX, e_it, e_itR, e_itA, e_itAR, e_asLst, e_asSlst, e_asTup, e_asStr, e_raise, e_run, e_endN, e_endR, e_endX, e_stC, e_st0, e_stS, e_addI, e_addS, e_addB, e_addLL, e_addOL, e_addLO, e_addOO, e_sub, e_mul, e_mod, e_div, e_neg, e_cmp, e_eqI, e_eqS, e_eqB, e_id, e_n1, e_isN, e_isI, e_isS, e_isT, e_isL, e_isB, e_isnN, e_isnI, e_isnS, e_isnT, e_isnL, e_isnB, e_ixS, e_ixT, e_ixL, e_ixSL, e_ixO, e_at_0, e_at_1, e_at_2, e_sg, e_lenS, e_lenT, e_lenL, e_lenSL, e_lenO, e_int, e_intT, e_intF, e_str, e_min, e_max, e_abs, e_m1, e_m1R, e_m1S, e_joinL, e_joinO, e_joinT, e_joinB, e_txN, e_txC, e_txS, e_isiS, e_isiL, e_isiTu, e_rep, e_replS, e_tabG, e_mpS, e_tabI, e_inS, e_sl, e_slR, e_slS, e_slT, e_oNone, e_oSome, e_oRI, e_slStr, e_slL, e_slSL, e_slO, e_lc, e_ca0, e_ca1, e_ca2, e_ca3, e_ca4, e_ca5, e_ca6, e_ca7, e_ca8, e_ca9, e_ca10, e_ca11, e_ca12, e_scS, e_scI, e_scB, e_scN, e_allN, e_allC, e_inN, e_inC, e_eqFS, e_eqFI, e_inST, e_inIT, e_index, e_spR, e_mg, e_mgS, e_smN, e_smC, eq_self, Nat.reduceLT, Nat.reduceGT, Nat.reduceAdd, Nat.reduceMul, Nat.reduceSub, Nat.reduceLeDiff, Nat.reduceEqDiff, Int.reduceLT, Int.reduceLE, Int.reduceEq, Int.reduceAdd, Int.reduceSub, Int.reduceMul, Int.reduceMod, Int.reduceDiv, Int.reduceNeg, Nat.zero_le, Nat.le_refl, List.length_cons, List.length_nil, ite_true, ite_false, if_true, if_false, decide_true, decide_false, Bool.not_true, Bool.not_false, Bool.and_true, Bool.true_and, Bool.and_false, Bool.false_and, Bool.or_true, Bool.or_false, Bool.true_or, Bool.false_or, List.cons.injEq, and_true, true_and, and_false, false_and, and_self, ne_eq, not_true_eq_false, not_false_eq_true, reduceCtorEq, List.nil_append, List.cons_append, List.append_nil, List.append_assoc, h1]⟩
  by_cases h2 : n % 8 = 1
  · exact ⟨32, by simp only [e_rdDat, e_rdOwn, e_at0, e_atS, e_pu0, e_puS, e_var, e_c, e_op2, e_op2R, e_op2S, e_op1, e_op1S, e_opA, e_opAS, e_ofS, e_ofN, e_dB, e_toBS, e_and, e_andT, e_andF, e_or, e_orT, e_orF, e_not, e_notT, e_notF, e_notB, e_andV, e_andVT, e_andVF, e_orV, e_orVT, e_orVF, e_notV, e_notVB, e_ifE, e_ifET, e_ifEF, e_nil, e_cons, e_consR, e_consS, e_cleanN, e_cleanC, e_oN, e_oB, e_oI, e_oS, e_oT, e_oL, e_oSL, e_oOb, e_nf, e_tt, e_tup, e_tupR, e_tupB, e_items, e_itemsR, e_itemsB, e_fix, e_fixR, e_cat, e_catR, e_appN, e_appC, e_catB, e_catLL, e_catOL, e_catLO, e_catOO, e_call, e_callR, e_callB0, e_callB1, e_callB2, e_callB3, e_callB4, e_callB5, e_seq, e_seqN, e_seqR, e_seqB, e_seqC, e_seqX, e_skip, e_break, e_cont, e_set, e_setR, e_setX, e_setB, e_own, e_ownR, e_asg, e_asgR, e_nxO, e_tgT, e_putN, e_putC, e_tgN, e_tgB, e_drop, e_dropR, e_ret, e_retR, e_retX, e_retB, e_retN, e_if, e_ifT, e_ifF, e_app, e_appR, e_appB, e_frz, e_frzO, e_frzD, e_frzU, e_for, e_forR, e_forN, e_forC, e_turnB, e_turnN, e_turnC, e_turnK, e_turnR, e_turnX, e_it, e_itR, e_itA, e_itAR, e_asLst, e_asSlst, e_asTup, e_asStr, e_raise, e_run, e_endN, e_endR, e_endX, e_stC, e_st0, e_stS, e_addI, e_addS, e_addB, e_addLL, e_addOL, e_addLO, e_addOO, e_sub, e_mul, e_mod, e_div, e_neg, e_cmp, e_eqI, e_eqS, e_eqB, e_id, e_n1, e_isN, e_isI, e_isS, e_isT, e_isL, e_isB, e_isnN, e_isnI, e_isnS, e_isnT, e_isnL, e_isnB, e_ixS, e_ixT, e_ixL, e_ixSL, e_ixO, e_at_0, e_at_1, e_at_2, e_sg, e_lenS, e_lenT, e_lenL, e_lenSL, e_lenO, e_int, e_intT, e_intF, e_str, e_min, e_max, e_abs, e_m1, e_m1R, e_m1S, e_joinL, e_joinO, e_joinT, e_joinB, e_txN, e_txC, e_txS, e_isiS, e_isiL, e_isiTu, e_rep, e_replS, e_tabG, e_mpS, e_tabI, e_inS, e_sl, e_slR, e_slS, e_slT, e_oNone, e_oSome, e_oRI, e_slStr, e_slL, e_slSL, e_slO, e_lc, e_ca0, e_ca1, e_ca2, e_ca3, e_ca4, e_ca5, e_ca6, e_ca7, e_ca8, e_ca9, e_ca10, e_ca11, e_ca12, e_scS, e_scI, e_scB, e_scN, e_allN, e_allC, e_inN, e_inC, e_eqFS, e_eqFI, e_inST, e_inIT, e_index, e_spR, e_mg, e_mgS, e_smN, e_smC, eq_self, Nat.reduceLT, Nat.reduceGT, Nat.reduceAdd, Nat.reduceMul, Nat.reduceSub, Nat.reduceLeDiff, Nat.reduceEqDiff, Int.reduceLT, Int.reduceLE, Int.reduceEq, Int.reduceAdd, Int.reduceSub, Int.reduceMul, Int.reduceMod, Int.reduceDiv, Int.reduceNeg, Nat.zero_le, Nat.le_refl, List.length_cons, List.length_nil, ite_true, ite_false, if_true, if_false, decide_true, decide_false, Bool.not_true, Bool.not_false, Bool.and_true, Bool.true_and, Bool.and_false, Bool.false_and, Bool.or_true, Bool.or_false, Bool.true_or, Bool.false_or, List.cons.injEq, and_true, true_and, and_false, false_and, and_self, ne_eq, not_true_eq_false, not_false_eq_true, reduceCtorEq, List.nil_append, List.cons_append, List.append_nil, List.append_assoc, h2]⟩
  by_cases h3 : n % 8 = 2
  · obtain ⟨c, _, e⟩ := at_in L16 (n / 8 % 6) (by omega) (by show n / 8 % 6 < 6; omega)
    exact ⟨c, by simp only [e_rdDat, e_rdOwn, e_at0, e_atS, e_pu0, e_puS, e_var, e_c, e_op2, e_op2R, e_op2S, e_op1, e_op1S, e_opA, e_opAS, e_ofS, e_ofN, e_dB, e_toBS, e_and, e_andT, e_andF, e_or, e_orT, e_orF, e_not, e_notT, e_notF, e_notB, e_andV, e_andVT, e_andVF, e_orV, e_orVT, e_orVF, e_notV, e_notVB, e_ifE, e_ifET, e_ifEF, e_nil, e_cons, e_consR, e_consS, e_cleanN, e_cleanC, e_oN, e_oB, e_oI, e_oS, e_oT, e_oL, e_oSL, e_oOb, e_nf, e_tt, e_tup, e_tupR, e_tupB, e_items, e_itemsR, e_itemsB, e_fix, e_fixR, e_cat, e_catR, e_appN, e_appC, e_catB, e_catLL, e_catOL, e_catLO, e_catOO, e_call, e_callR, e_callB0, e_callB1, e_callB2, e_callB3, e_callB4, e_callB5, e_seq, e_seqN, e_seqR, e_seqB, e_seqC, e_seqX, e_skip, e_break, e_cont, e_set, e_setR, e_setX, e_setB, e_own, e_ownR, e_asg, e_asgR, e_nxO, e_tgT, e_putN, e_putC, e_tgN, e_tgB, e_drop, e_dropR, e_ret, e_retR, e_retX, e_retB, e_retN, e_if, e_ifT, e_ifF, e_app, e_appR, e_appB, e_frz, e_frzO, e_frzD, e_frzU, e_for, e_forR, e_forN, e_forC, e_turnB, e_turnN, e_turnC, e_turnK, e_turnR, e_turnX, e_it, e_itR, e_itA, e_itAR, e_asLst, e_asSlst, e_asTup, e_asStr, e_raise, e_run, e_endN, e_endR, e_endX, e_stC, e_st0, e_stS, e_addI, e_addS, e_addB, e_addLL, e_addOL, e_addLO, e_addOO, e_sub, e_mul, e_mod, e_div, e_neg, e_cmp, e_eqI, e_eqS, e_eqB, e_id, e_n1, e_isN, e_isI, e_isS, e_isT, e_isL, e_isB, e_isnN, e_isnI, e_isnS, e_isnT, e_isnL, e_isnB, e_ixS, e_ixT, e_ixL, e_ixSL, e_ixO, e_at_0, e_at_1, e_at_2, e_sg, e_lenS, e_lenT, e_lenL, e_lenSL, e_lenO, e_int, e_intT, e_intF, e_str, e_min, e_max, e_abs, e_m1, e_m1R, e_m1S, e_joinL, e_joinO, e_joinT, e_joinB, e_txN, e_txC, e_txS, e_isiS, e_isiL, e_isiTu, e_rep, e_replS, e_tabG, e_mpS, e_tabI, e_inS, e_sl, e_slR, e_slS, e_slT, e_oNone, e_oSome, e_oRI, e_slStr, e_slL, e_slSL, e_slO, e_lc, e_ca0, e_ca1, e_ca2, e_ca3, e_ca4, e_ca5, e_ca6, e_ca7, e_ca8, e_ca9, e_ca10, e_ca11, e_ca12, e_scS, e_scI, e_scB, e_scN, e_allN, e_allC, e_inN, e_inC, e_eqFS, e_eqFI, e_inST, e_inIT, e_index, e_spR, e_mg, e_mgS, e_smN, e_smC, eq_self, Nat.reduceLT, Nat.reduceGT, Nat.reduceAdd, Nat.reduceMul, Nat.reduceSub, Nat.reduceLeDiff, Nat.reduceEqDiff, Int.reduceLT, Int.reduceLE, Int.reduceEq, Int.reduceAdd, Int.reduceSub, Int.reduceMul, Int.reduceMod, Int.reduceDiv, Int.reduceNeg, Nat.zero_le, Nat.le_refl, List.length_cons, List.length_nil, ite_true, ite_false, if_true, if_false, decide_true, decide_false, Bool.not_true, Bool.not_false, Bool.and_true, Bool.true_and, Bool.and_false, Bool.false_and, Bool.or_true, Bool.or_false, Bool.true_or, Bool.false_or, List.cons.injEq, and_true, true_and, and_false, false_and, and_self, ne_eq, not_true_eq_false, not_false_eq_true, reduceCtorEq, List.nil_append, List.cons_append, List.append_nil, List.append_assoc, h3, e, q1]⟩
  by_cases h4 : n % 8 < 6
  · obtain ⟨c, _, e⟩ := at_in L15 (n / 8 % 16) (by omega) (by show n / 8 % 16 < 16; omega)
    exact ⟨c, by simp only [e_rdDat, e_rdOwn, e_at0, e_atS, e_pu0, e_puS, e_var, e_c, e_op2, e_op2R, e_op2S, e_op1, e_op1S, e_opA, e_opAS, e_ofS, e_ofN, e_dB, e_toBS, e_and, e_andT, e_andF, e_or, e_orT, e_orF, e_not, e_notT, e_notF, e_notB, e_andV, e_andVT, e_andVF, e_orV, e_orVT, e_orVF, e_notV, e_notVB, e_ifE, e_ifET, e_ifEF, e_nil, e_cons, e_consR, e_consS, e_cleanN, e_cleanC, e_oN, e_oB, e_oI, e_oS, e_oT, e_oL, e_oSL, e_oOb, e_nf, e_tt, e_tup, e_tupR, e_tupB, e_items, e_itemsR, e_itemsB, e_fix, e_fixR, e_cat, e_catR, e_appN, e_appC, e_catB, e_catLL, e_catOL, e_catLO, e_catOO, e_call, e_callR, e_callB0, e_callB1, e_callB2, e_callB3, e_callB4, e_callB5, e_seq, e_seqN, e_seqR, e_seqB, e_seqC, e_seqX, e_skip, e_break, e_cont, e_set, e_setR, e_setX, e_setB, e_own, e_ownR, e_asg, e_asgR, e_nxO, e_tgT, e_putN, e_putC, e_tgN, e_tgB, e_drop, e_dropR, e_ret, e_retR, e_retX, e_retB, e_retN, e_if, e_ifT, e_ifF, e_app, e_appR, e_appB, e_frz, e_frzO, e_frzD, e_frzU, e_for, e_forR, e_forN, e_forC, e_turnB, e_turnN, e_turnC, e_turnK, e_turnR, e_turnX, e_it, e_itR, e_itA, e_itAR, e_asLst, e_asSlst, e_asTup, e_asStr, e_raise, e_run, e_endN, e_endR, e_endX, e_stC, e_st0, e_stS, e_addI, e_addS, e_addB, e_addLL, e_addOL, e_addLO, e_addOO, e_sub, e_mul, e_mod, e_div, e_neg, e_cmp, e_eqI, e_eqS, e_eqB, e_id, e_n1, e_isN, e_isI, e_isS, e_isT, e_isL, e_isB, e_isnN, e_isnI, e_isnS, e_isnT, e_isnL, e_isnB, e_ixS, e_ixT, e_ixL, e_ixSL, e_ixO, e_at_0, e_at_1, e_at_2, e_sg, e_lenS, e_lenT, e_lenL, e_lenSL, e_lenO, e_int, e_intT, e_intF, e_str, e_min, e_max, e_abs, e_m1, e_m1R, e_m1S, e_joinL, e_joinO, e_joinT, e_joinB, e_txN, e_txC, e_txS, e_isiS, e_isiL, e_isiTu, e_rep, e_replS, e_tabG, e_mpS, e_tabI, e_inS, e_sl, e_slR, e_slS, e_slT, e_oNone, e_oSome, e_oRI, e_slStr, e_slL, e_slSL, e_slO, e_lc, e_ca0, e_ca1, e_ca2, e_ca3, e_ca4, e_ca5, e_ca6, e_ca7, e_ca8, e_ca9, e_ca10, e_ca11, e_ca12, e_scS, e_scI, e_scB, e_scN, e_allN, e_allC, e_inN, e_inC, e_eqFS, e_eqFI, e_inST, e_inIT, e_index, e_spR, e_mg, e_mgS, e_smN, e_smC, eq_self, Nat.reduceLT, Nat.reduceGT, Nat.reduceAdd, Nat.reduceMul, Nat.reduceSub, Nat.reduceLeDiff, Nat.reduceEqDiff, Int.reduceLT, Int.reduceLE, Int.reduceEq, Int.reduceAdd, Int.reduceSub, Int.reduceMul, Int.reduceMod, Int.reduceDiv, Int.reduceNeg, Nat.zero_le, Nat.le_refl, List.length_cons, List.length_nil, ite_true, ite_false, if_true, if_false, decide_true, decide_false, Bool.not_true, Bool.not_false, Bool.and_true, Bool.true_and, Bool.and_false, Bool.false_and, Bool.or_true, Bool.or_false, Bool.true_or, Bool.false_or, List.cons.injEq, and_true, true_and, and_false, false_and, and_self, ne_eq, not_true_eq_false, not_false_eq_true, reduceCtorEq, List.nil_append, List.cons_append, List.append_nil, List.append_assoc, h1, h2, h3, h4, e, q2]⟩
  · obtain ⟨c, _, e⟩ := at_in L17 (n / 8 % 93) (by omega) (by show n / 8 % 93 < 93; omega)
    exact ⟨c, by simp only [e_rdDat, e_rdOwn, e_at0, e_atS, e_pu0, e_puS, e_var, e_c, e_op2, e_op2R, e_op2S, e_op1, e_op1S, e_opA, e_opAS, e_ofS, e_ofN, e_dB, e_toBS, e_and, e_andT, e_andF, e_or, e_orT, e_orF, e_not, e_notT, e_notF, e_notB, e_andV, e_andVT, e_andVF, e_orV, e_orVT, e_orVF, e_notV, e_notVB, e_ifE, e_ifET, e_ifEF, e_nil, e_cons, e_consR, e_consS, e_cleanN, e_cleanC, e_oN, e_oB, e_oI, e_oS, e_oT, e_oL, e_oSL, e_oOb, e_nf, e_tt, e_tup, e_tupR, e_tupB, e_items, e_itemsR, e_itemsB, e_fix, e_fixR, e_cat, e_catR, e_appN, e_appC, e_catB, e_catLL, e_catOL, e_catLO, e_catOO, e_call, e_callR, e_callB0, e_callB1, e_callB2, e_callB3, e_callB4, e_callB5, e_seq, e_seqN, e_seqR, e_seqB, e_seqC, e_seqX, e_skip, e_break, e_cont, e_set, e_setR, e_setX, e_setB, e_own, e_ownR, e_asg, e_asgR, e_nxO, e_tgT, e_putN, e_putC, e_tgN, e_tgB, e_drop, e_dropR, e_ret, e_retR, e_retX, e_retB, e_retN, e_if, e_ifT, e_ifF, e_app, e_appR, e_appB, e_frz, e_frzO, e_frzD, e_frzU, e_for, e_forR, e_forN, e_forC, e_turnB, e_turnN, e_turnC, e_turnK, e_turnR, e_turnX, e_it, e_itR, e_itA, e_itAR, e_asLst, e_asSlst, e_asTup, e_asStr, e_raise, e_run, e_endN, e_endR, e_endX, e_stC, e_st0, e_stS, e_addI, e_addS, e_addB, e_addLL, e_addOL, e_addLO, e_addOO, e_sub, e_mul, e_mod, e_div, e_neg, e_cmp, e_eqI, e_eqS, e_eqB, e_id, e_n1, e_isN, e_isI, e_isS, e_isT, e_isL, e_isB, e_isnN, e_isnI, e_isnS, e_isnT, e_isnL, e_isnB, e_ixS, e_ixT, e_ixL, e_ixSL, e_ixO, e_at_0, e_at_1, e_at_2, e_sg, e_lenS, e_lenT, e_lenL, e_lenSL, e_lenO, e_int, e_intT, e_intF, e_str, e_min, e_max, e_abs, e_m1, e_m1R, e_m1S, e_joinL, e_joinO, e_joinT, e_joinB, e_txN, e_txC, e_txS, e_isiS, e_isiL, e_isiTu, e_rep, e_replS, e_tabG, e_mpS, e_tabI, e_inS, e_sl, e_slR, e_slS, e_slT, e_oNone, e_oSome, e_oRI, e_slStr, e_slL, e_slSL, e_slO, e_lc, e_ca0, e_ca1, e_ca2, e_ca3, e_ca4, e_ca5, e_ca6, e_ca7, e_ca8, e_ca9, e_ca10, e_ca11, e_ca12, e_scS, e_scI, e_scB, e_scN, e_allN, e_allC, e_inN, e_inC, e_eqFS, e_eqFI, e_inST, e_inIT, e_index, e_spR, e_mg, e_mgS, e_smN, e_smC, eq_self, Nat.reduceLT, Nat.reduceGT, Nat.reduceAdd, Nat.reduceMul, Nat.reduceSub, Nat.reduceLeDiff, Nat.reduceEqDiff, Int.reduceLT, Int.reduceLE, Int.reduceEq, Int.reduceAdd, Int.reduceSub, Int.reduceMul, Int.reduceMod, Int.reduceDiv, Int.reduceNeg, Nat.zero_le, Nat.le_refl, List.length_cons, List.length_nil, ite_true, ite_false, if_true, if_false, decide_true, decide_false, Bool.not_true, Bool.not_false, Bool.and_true, Bool.true_and, Bool.and_false, Bool.false_and, Bool.or_true, Bool.or_false, Bool.true_or, Bool.false_or, List.cons.injEq, and_true, true_and, and_false, false_and, and_self, ne_eq, not_true_eq_false, not_false_eq_true, reduceCtorEq, List.nil_append, List.cons_append, List.append_nil, List.append_assoc, h1, h2, h3, h4, e, q3]⟩
noncomputable def sgn (n : Int) : Nat := Classical.choose (sign_ok n)
theorem sgn_ok (n : Int) : m__law_sign [.int n] = .ok (.str [sgn n]) := Classical.choose_spec (sign_ok n)
theorem rng_len {k : Int} (h1 : k ≤ 9) : (rng 0 k.toNat).length ≤ 100000 := by
  unfold rng
  rw [List.length_map, List.length_range]
  omega
theorem asR_ok {k : Int} (h0 : 0 ≤ k) (h1 : k ≤ 9) : asR1 [.int k] = .ok (rng 0 k.toNat) := by
  have q : inI k = true := by
    unfold inI
    rw [decide_eq_true (by omega), decide_eq_true (by omega)]
    rfl
  show (if inI k then _ else _) = _
  rw [q]
  rfl
noncomputable def sgF (n : Int) : D → D
  | .int j => .str [sgn (n * (j + 3) % 1000003)]
  | d => d
abbrev sE : DE := dCall 1 m__law_sign (dCons (dOp2 fMod (dOp2 fMul (dVar 0) (dOp2 fAdd (dVar 2) (dC (.int 3)))) (dC (.int 1000003))) (dNil))
theorem s_item (n k : Int) (i : Nat) (hi : i < 9) : sE [.dat (.int n), .dat (.int k), .dat (.int (0 + (i : Int)))] = .ok (sgF n (.int (0 + (i : Int)))) := by
  have sm : smallI (0 + (i : Int) + 3) = true := by
    unfold smallI
    rw [decide_eq_true (by omega), decide_eq_true (by omega)]
    rfl
  unfold sgF
  simp only [e_rdDat, e_rdOwn, e_at0, e_atS, e_pu0, e_puS, e_var, e_c, e_op2, e_op2R, e_op2S, e_op1, e_op1S, e_opA, e_opAS, e_ofS, e_ofN, e_dB, e_toBS, e_and, e_andT, e_andF, e_or, e_orT, e_orF, e_not, e_notT, e_notF, e_notB, e_andV, e_andVT, e_andVF, e_orV, e_orVT, e_orVF, e_notV, e_notVB, e_ifE, e_ifET, e_ifEF, e_nil, e_cons, e_consR, e_consS, e_cleanN, e_cleanC, e_oN, e_oB, e_oI, e_oS, e_oT, e_oL, e_oSL, e_oOb, e_nf, e_tt, e_tup, e_tupR, e_tupB, e_items, e_itemsR, e_itemsB, e_fix, e_fixR, e_cat, e_catR, e_appN, e_appC, e_catB, e_catLL, e_catOL, e_catLO, e_catOO, e_call, e_callR, e_callB0, e_callB1, e_callB2, e_callB3, e_callB4, e_callB5, e_seq, e_seqN, e_seqR, e_seqB, e_seqC, e_seqX, e_skip, e_break, e_cont, e_set, e_setR, e_setX, e_setB, e_own, e_ownR, e_asg, e_asgR, e_nxO, e_tgT, e_putN, e_putC, e_tgN, e_tgB, e_drop, e_dropR, e_ret, e_retR, e_retX, e_retB, e_retN, e_if, e_ifT, e_ifF, e_app, e_appR, e_appB, e_frz, e_frzO, e_frzD, e_frzU, e_for, e_forR, e_forN, e_forC, e_turnB, e_turnN, e_turnC, e_turnK, e_turnR, e_turnX, e_it, e_itR, e_itA, e_itAR, e_asLst, e_asSlst, e_asTup, e_asStr, e_raise, e_run, e_endN, e_endR, e_endX, e_stC, e_st0, e_stS, e_addI, e_addS, e_addB, e_addLL, e_addOL, e_addLO, e_addOO, e_sub, e_mul, e_mod, e_div, e_neg, e_cmp, e_eqI, e_eqS, e_eqB, e_id, e_n1, e_isN, e_isI, e_isS, e_isT, e_isL, e_isB, e_isnN, e_isnI, e_isnS, e_isnT, e_isnL, e_isnB, e_ixS, e_ixT, e_ixL, e_ixSL, e_ixO, e_at_0, e_at_1, e_at_2, e_sg, e_lenS, e_lenT, e_lenL, e_lenSL, e_lenO, e_int, e_intT, e_intF, e_str, e_min, e_max, e_abs, e_m1, e_m1R, e_m1S, e_joinL, e_joinO, e_joinT, e_joinB, e_txN, e_txC, e_txS, e_isiS, e_isiL, e_isiTu, e_rep, e_replS, e_tabG, e_mpS, e_tabI, e_inS, e_sl, e_slR, e_slS, e_slT, e_oNone, e_oSome, e_oRI, e_slStr, e_slL, e_slSL, e_slO, e_lc, e_ca0, e_ca1, e_ca2, e_ca3, e_ca4, e_ca5, e_ca6, e_ca7, e_ca8, e_ca9, e_ca10, e_ca11, e_ca12, e_scS, e_scI, e_scB, e_scN, e_allN, e_allC, e_inN, e_inC, e_eqFS, e_eqFI, e_inST, e_inIT, e_index, e_spR, e_mg, e_mgS, e_smN, e_smC, eq_self, Nat.reduceLT, Nat.reduceGT, Nat.reduceAdd, Nat.reduceMul, Nat.reduceSub, Nat.reduceLeDiff, Nat.reduceEqDiff, Int.reduceLT, Int.reduceLE, Int.reduceEq, Int.reduceAdd, Int.reduceSub, Int.reduceMul, Int.reduceMod, Int.reduceDiv, Int.reduceNeg, Nat.zero_le, Nat.le_refl, List.length_cons, List.length_nil, ite_true, ite_false, if_true, if_false, decide_true, decide_false, Bool.not_true, Bool.not_false, Bool.and_true, Bool.true_and, Bool.and_false, Bool.false_and, Bool.or_true, Bool.or_false, Bool.true_or, Bool.false_or, List.cons.injEq, and_true, true_and, and_false, false_and, and_self, ne_eq, not_true_eq_false, not_false_eq_true, reduceCtorEq, List.nil_append, List.cons_append, List.append_nil, List.append_assoc, mul_r _ _ sm, sgn_ok]
theorem s_list (n k : Int) (h1 : k ≤ 9) : dLcL (tgN 2) dYes sE [.dat (.int n), .dat (.int k), .un] (rng 0 k.toNat) = .ok ((rng 0 k.toNat).map (sgF n)) := by
  refine lc_map fun x hx => ?_
  unfold rng at hx
  obtain ⟨i, hi, rfl⟩ := List.mem_map.mp hx
  have hi' : i < k.toNat := List.mem_range.mp hi
  exact ⟨[.dat (.int n), .dat (.int k), .dat (.int (0 + (i : Int)))], rfl, rfl, s_item n k i (by omega), rfl⟩
theorem s_texts (n k : Int) (h1 : k ≤ 9) : ∃ ls : List (List Nat), (rng 0 k.toNat).map (sgF n) = ls.map D.str ∧ sumL ls ≤ 9 ∧ ls.flatten.length ≤ 9 := by
  refine ⟨(List.range k.toNat).map fun i : Nat => [sgn (n * (0 + (i : Int) + 3) % 1000003)], ?_, ?_⟩
  · unfold rng
    rw [List.map_map, List.map_map]
    rfl
  · have hs : ∀ (f : Nat → Nat) (l : List Nat), (l.map fun i => [f i]).flatten.length = l.length := fun f l => by
      induction l with
      | nil => rfl
      | cons a r ih =>
        rw [List.map_cons, List.flatten_cons, List.length_append, ih, List.length_singleton, List.length_cons]
        omega
    rw [sum_flat, hs, List.length_range]
    omega
theorem signs_ok (n k : Int) (h0 : 0 ≤ k) (h1 : k ≤ 9) : ∃ l : List Nat, l.length ≤ 9 ∧ m__law_signs [.int n, .int k] = .ok (.str l) := by
  obtain ⟨ls, e1, e2, e3⟩ := s_texts n k h1
  have hm := s_list n k h1
  rw [e1] at hm
  refine ⟨ls.flatten, e3, ?_⟩
  have e4 : sumL ls + ls.length * 0 ≤ 1000000 := by omega
  have w : wipeD [.dat (.int n), .dat (.int k), .un] [2] = [.dat (.int n), .dat (.int k), .un] := rfl
  unfold m__law_signs d__law_signs
  simp only [e_rdDat, e_rdOwn, e_at0, e_atS, e_pu0, e_puS, e_var, e_c, e_op2, e_op2R, e_op2S, e_op1, e_op1S, e_opA, e_opAS, e_ofS, e_ofN, e_dB, e_toBS, e_and, e_andT, e_andF, e_or, e_orT, e_orF, e_not, e_notT, e_notF, e_notB, e_andV, e_andVT, e_andVF, e_orV, e_orVT, e_orVF, e_notV, e_notVB, e_ifE, e_ifET, e_ifEF, e_nil, e_cons, e_consR, e_consS, e_cleanN, e_cleanC, e_oN, e_oB, e_oI, e_oS, e_oT, e_oL, e_oSL, e_oOb, e_nf, e_tt, e_tup, e_tupR, e_tupB, e_items, e_itemsR, e_itemsB, e_fix, e_fixR, e_cat, e_catR, e_appN, e_appC, e_catB, e_catLL, e_catOL, e_catLO, e_catOO, e_call, e_callR, e_callB0, e_callB1, e_callB2, e_callB3, e_callB4, e_callB5, e_seq, e_seqN, e_seqR, e_seqB, e_seqC, e_seqX, e_skip, e_break, e_cont, e_set, e_setR, e_setX, e_setB, e_own, e_ownR, e_asg, e_asgR, e_nxO, e_tgT, e_putN, e_putC, e_tgN, e_tgB, e_drop, e_dropR, e_ret, e_retR, e_retX, e_retB, e_retN, e_if, e_ifT, e_ifF, e_app, e_appR, e_appB, e_frz, e_frzO, e_frzD, e_frzU, e_for, e_forR, e_forN, e_forC, e_turnB, e_turnN, e_turnC, e_turnK, e_turnR, e_turnX, e_it, e_itR, e_itA, e_itAR, e_asLst, e_asSlst, e_asTup, e_asStr, e_raise, e_run, e_endN, e_endR, e_endX, e_stC, e_st0, e_stS, e_addI, e_addS, e_addB, e_addLL, e_addOL, e_addLO, e_addOO, e_sub, e_mul, e_mod, e_div, e_neg, e_cmp, e_eqI, e_eqS, e_eqB, e_id, e_n1, e_isN, e_isI, e_isS, e_isT, e_isL, e_isB, e_isnN, e_isnI, e_isnS, e_isnT, e_isnL, e_isnB, e_ixS, e_ixT, e_ixL, e_ixSL, e_ixO, e_at_0, e_at_1, e_at_2, e_sg, e_lenS, e_lenT, e_lenL, e_lenSL, e_lenO, e_int, e_intT, e_intF, e_str, e_min, e_max, e_abs, e_m1, e_m1R, e_m1S, e_joinL, e_joinO, e_joinT, e_joinB, e_txN, e_txC, e_txS, e_isiS, e_isiL, e_isiTu, e_rep, e_replS, e_tabG, e_mpS, e_tabI, e_inS, e_sl, e_slR, e_slS, e_slT, e_oNone, e_oSome, e_oRI, e_slStr, e_slL, e_slSL, e_slO, e_lc, e_ca0, e_ca1, e_ca2, e_ca3, e_ca4, e_ca5, e_ca6, e_ca7, e_ca8, e_ca9, e_ca10, e_ca11, e_ca12, e_scS, e_scI, e_scB, e_scN, e_allN, e_allC, e_inN, e_inC, e_eqFS, e_eqFI, e_inST, e_inIT, e_index, e_spR, e_mg, e_mgS, e_smN, e_smC, eq_self, Nat.reduceLT, Nat.reduceGT, Nat.reduceAdd, Nat.reduceMul, Nat.reduceSub, Nat.reduceLeDiff, Nat.reduceEqDiff, Int.reduceLT, Int.reduceLE, Int.reduceEq, Int.reduceAdd, Int.reduceSub, Int.reduceMul, Int.reduceMod, Int.reduceDiv, Int.reduceNeg, Nat.zero_le, Nat.le_refl, List.length_cons, List.length_nil, ite_true, ite_false, if_true, if_false, decide_true, decide_false, Bool.not_true, Bool.not_false, Bool.and_true, Bool.true_and, Bool.and_false, Bool.false_and, Bool.or_true, Bool.or_false, Bool.true_or, Bool.false_or, List.cons.injEq, and_true, true_and, and_false, false_and, and_self, ne_eq, not_true_eq_false, not_false_eq_true, reduceCtorEq, List.nil_append, List.cons_append, List.append_nil, List.append_assoc, asR_ok h0 h1, e_lcR _ _ _ _ _ _ (rng_len h1), w, hm, txts_map, jn_nil, e4]

/-! ### targets -/
/-- a target that may be drawn -/
def GoodT (t : List Nat) : Prop := (∃ c, c ∈ L44 ∧ t = [c]) ∨ (∃ c, t = [109, c]) ∨ (∃ c, t = [102, c]) ∨ ∃ c, t = [116, c]
theorem third (n : Int) : n % 3 = 0 ∨ n % 3 = 1 ∨ n % 3 = 2 := by omega
theorem key_ok (n : Int) (b : Bool) (h0 : (b = true ∧ n % 3 = 0) = False) (h2 : (n % 3 = 2) = False) : ∃ t, GoodT t ∧ m__law_target [.int n, .bl b] = .ok (.str t) := by
  obtain ⟨c, ec⟩ := letter_ok (n / 9)
  obtain ⟨d, ed⟩ := sign_ok (n / 9)
  have q : andR (.ok b) (dB (dOp2 fEq (dOp2 fMod (dVar 0) (dC (.int 3))) (dC (.int 0)))) [.dat (.int n), .dat (.bl b), .un, .un] = .ok false := by
    cases b with
    | false => rfl
    | true =>
      have h3 : (n % 3 = 0) = False := by simpa using h0
      simp only [e_rdDat, e_rdOwn, e_at0, e_atS, e_pu0, e_puS, e_var, e_c, e_op2, e_op2R, e_op2S, e_op1, e_op1S, e_opA, e_opAS, e_ofS, e_ofN, e_dB, e_toBS, e_and, e_andT, e_andF, e_or, e_orT, e_orF, e_not, e_notT, e_notF, e_notB, e_andV, e_andVT, e_andVF, e_orV, e_orVT, e_orVF, e_notV, e_notVB, e_ifE, e_ifET, e_ifEF, e_nil, e_cons, e_consR, e_consS, e_cleanN, e_cleanC, e_oN, e_oB, e_oI, e_oS, e_oT, e_oL, e_oSL, e_oOb, e_nf, e_tt, e_tup, e_tupR, e_tupB, e_items, e_itemsR, e_itemsB, e_fix, e_fixR, e_cat, e_catR, e_appN, e_appC, e_catB, e_catLL, e_catOL, e_catLO, e_catOO, e_call, e_callR, e_callB0, e_callB1, e_callB2, e_callB3, e_callB4, e_callB5, e_seq, e_seqN, e_seqR, e_seqB, e_seqC, e_seqX, e_skip, e_break, e_cont, e_set, e_setR, e_setX, e_setB, e_own, e_ownR, e_asg, e_asgR, e_nxO, e_tgT, e_putN, e_putC, e_tgN, e_tgB, e_drop, e_dropR, e_ret, e_retR, e_retX, e_retB, e_retN, e_if, e_ifT, e_ifF, e_app, e_appR, e_appB, e_frz, e_frzO, e_frzD, e_frzU, e_for, e_forR, e_forN, e_forC, e_turnB, e_turnN, e_turnC, e_turnK, e_turnR, e_turnX, e_it, e_itR, e_itA, e_itAR, e_asLst, e_asSlst, e_asTup, e_asStr, e_raise, e_run, e_endN, e_endR, e_endX, e_stC, e_st0, e_stS, e_addI, e_addS, e_addB, e_addLL, e_addOL, e_addLO, e_addOO, e_sub, e_mul, e_mod, e_div, e_neg, e_cmp, e_eqI, e_eqS, e_eqB, e_id, e_n1, e_isN, e_isI, e_isS, e_isT, e_isL, e_isB, e_isnN, e_isnI, e_isnS, e_isnT, e_isnL, e_isnB, e_ixS, e_ixT, e_ixL, e_ixSL, e_ixO, e_at_0, e_at_1, e_at_2, e_sg, e_lenS, e_lenT, e_lenL, e_lenSL, e_lenO, e_int, e_intT, e_intF, e_str, e_min, e_max, e_abs, e_m1, e_m1R, e_m1S, e_joinL, e_joinO, e_joinT, e_joinB, e_txN, e_txC, e_txS, e_isiS, e_isiL, e_isiTu, e_rep, e_replS, e_tabG, e_mpS, e_tabI, e_inS, e_sl, e_slR, e_slS, e_slT, e_oNone, e_oSome, e_oRI, e_slStr, e_slL, e_slSL, e_slO, e_lc, e_ca0, e_ca1, e_ca2, e_ca3, e_ca4, e_ca5, e_ca6, e_ca7, e_ca8, e_ca9, e_ca10, e_ca11, e_ca12, e_scS, e_scI, e_scB, e_scN, e_allN, e_allC, e_inN, e_inC, e_eqFS, e_eqFI, e_inST, e_inIT, e_index, e_spR, e_mg, e_mgS, e_smN, e_smC, eq_self, Nat.reduceLT, Nat.reduceGT, Nat.reduceAdd, Nat.reduceMul, Nat.reduceSub, Nat.reduceLeDiff, Nat.reduceEqDiff, Int.reduceLT, Int.reduceLE, Int.reduceEq, Int.reduceAdd, Int.reduceSub, Int.reduceMul, Int.reduceMod, Int.reduceDiv, Int.reduceNeg, Nat.zero_le, Nat.le_refl, List.length_cons, List.length_nil, ite_true, ite_false, if_true, if_false, decide_true, decide_false, Bool.not_true, Bool.not_false, Bool.and_true, Bool.true_and, Bool.and_false, Bool.false_and, Bool.or_true, Bool.or_false, Bool.true_or, Bool.false_or, List.cons.injEq, and_true, true_and, and_false, false_and, and_self, ne_eq, not_true_eq_false, not_false_eq_true, reduceCtorEq, List.nil_append, List.cons_append, List.append_nil, List.append_assoc, h3]
  have e18 : L18 = [102, 116, 109] := rfl
  unfold m__law_target d__law_target
  rcases third (n / 3) with h | h | h
  · by_cases h4 : d = 10
    · refine ⟨[102, 34], .inr (.inr (.inl ⟨34, rfl⟩)), ?_⟩
      simp only [e_rdDat, e_rdOwn, e_at0, e_atS, e_pu0, e_puS, e_var, e_c, e_op2, e_op2R, e_op2S, e_op1, e_op1S, e_opA, e_opAS, e_ofS, e_ofN, e_dB, e_toBS, e_and, e_andT, e_andF, e_or, e_orT, e_orF, e_not, e_notT, e_notF, e_notB, e_andV, e_andVT, e_andVF, e_orV, e_orVT, e_orVF, e_notV, e_notVB, e_ifE, e_ifET, e_ifEF, e_nil, e_cons, e_consR, e_consS, e_cleanN, e_cleanC, e_oN, e_oB, e_oI, e_oS, e_oT, e_oL, e_oSL, e_oOb, e_nf, e_tt, e_tup, e_tupR, e_tupB, e_items, e_itemsR, e_itemsB, e_fix, e_fixR, e_cat, e_catR, e_appN, e_appC, e_catB, e_catLL, e_catOL, e_catLO, e_catOO, e_call, e_callR, e_callB0, e_callB1, e_callB2, e_callB3, e_callB4, e_callB5, e_seq, e_seqN, e_seqR, e_seqB, e_seqC, e_seqX, e_skip, e_break, e_cont, e_set, e_setR, e_setX, e_setB, e_own, e_ownR, e_asg, e_asgR, e_nxO, e_tgT, e_putN, e_putC, e_tgN, e_tgB, e_drop, e_dropR, e_ret, e_retR, e_retX, e_retB, e_retN, e_if, e_ifT, e_ifF, e_app, e_appR, e_appB, e_frz, e_frzO, e_frzD, e_frzU, e_for, e_forR, e_forN, e_forC, e_turnB, e_turnN, e_turnC, e_turnK, e_turnR, e_turnX, e_it, e_itR, e_itA, e_itAR, e_asLst, e_asSlst, e_asTup, e_asStr, e_raise, e_run, e_endN, e_endR, e_endX, e_stC, e_st0, e_stS, e_addI, e_addS, e_addB, e_addLL, e_addOL, e_addLO, e_addOO, e_sub, e_mul, e_mod, e_div, e_neg, e_cmp, e_eqI, e_eqS, e_eqB, e_id, e_n1, e_isN, e_isI, e_isS, e_isT, e_isL, e_isB, e_isnN, e_isnI, e_isnS, e_isnT, e_isnL, e_isnB, e_ixS, e_ixT, e_ixL, e_ixSL, e_ixO, e_at_0, e_at_1, e_at_2, e_sg, e_lenS, e_lenT, e_lenL, e_lenSL, e_lenO, e_int, e_intT, e_intF, e_str, e_min, e_max, e_abs, e_m1, e_m1R, e_m1S, e_joinL, e_joinO, e_joinT, e_joinB, e_txN, e_txC, e_txS, e_isiS, e_isiL, e_isiTu, e_rep, e_replS, e_tabG, e_mpS, e_tabI, e_inS, e_sl, e_slR, e_slS, e_slT, e_oNone, e_oSome, e_oRI, e_slStr, e_slL, e_slSL, e_slO, e_lc, e_ca0, e_ca1, e_ca2, e_ca3, e_ca4, e_ca5, e_ca6, e_ca7, e_ca8, e_ca9, e_ca10, e_ca11, e_ca12, e_scS, e_scI, e_scB, e_scN, e_allN, e_allC, e_inN, e_inC, e_eqFS, e_eqFI, e_inST, e_inIT, e_index, e_spR, e_mg, e_mgS, e_smN, e_smC, eq_self, Nat.reduceLT, Nat.reduceGT, Nat.reduceAdd, Nat.reduceMul, Nat.reduceSub, Nat.reduceLeDiff, Nat.reduceEqDiff, Int.reduceLT, Int.reduceLE, Int.reduceEq, Int.reduceAdd, Int.reduceSub, Int.reduceMul, Int.reduceMod, Int.reduceDiv, Int.reduceNeg, Nat.zero_le, Nat.le_refl, List.length_cons, List.length_nil, ite_true, ite_false, if_true, if_false, decide_true, decide_false, Bool.not_true, Bool.not_false, Bool.and_true, Bool.true_and, Bool.and_false, Bool.false_and, Bool.or_true, Bool.or_false, Bool.true_or, Bool.false_or, List.cons.injEq, and_true, true_and, and_false, false_and, and_self, ne_eq, not_true_eq_false, not_false_eq_true, reduceCtorEq, List.nil_append, List.cons_append, List.append_nil, List.append_assoc, q, h2, h, e18, ed, h4]
    · refine ⟨[102, d], .inr (.inr (.inl ⟨d, rfl⟩)), ?_⟩
      simp only [e_rdDat, e_rdOwn, e_at0, e_atS, e_pu0, e_puS, e_var, e_c, e_op2, e_op2R, e_op2S, e_op1, e_op1S, e_opA, e_opAS, e_ofS, e_ofN, e_dB, e_toBS, e_and, e_andT, e_andF, e_or, e_orT, e_orF, e_not, e_notT, e_notF, e_notB, e_andV, e_andVT, e_andVF, e_orV, e_orVT, e_orVF, e_notV, e_notVB, e_ifE, e_ifET, e_ifEF, e_nil, e_cons, e_consR, e_consS, e_cleanN, e_cleanC, e_oN, e_oB, e_oI, e_oS, e_oT, e_oL, e_oSL, e_oOb, e_nf, e_tt, e_tup, e_tupR, e_tupB, e_items, e_itemsR, e_itemsB, e_fix, e_fixR, e_cat, e_catR, e_appN, e_appC, e_catB, e_catLL, e_catOL, e_catLO, e_catOO, e_call, e_callR, e_callB0, e_callB1, e_callB2, e_callB3, e_callB4, e_callB5, e_seq, e_seqN, e_seqR, e_seqB, e_seqC, e_seqX, e_skip, e_break, e_cont, e_set, e_setR, e_setX, e_setB, e_own, e_ownR, e_asg, e_asgR, e_nxO, e_tgT, e_putN, e_putC, e_tgN, e_tgB, e_drop, e_dropR, e_ret, e_retR, e_retX, e_retB, e_retN, e_if, e_ifT, e_ifF, e_app, e_appR, e_appB, e_frz, e_frzO, e_frzD, e_frzU, e_for, e_forR, e_forN, e_forC, e_turnB, e_turnN, e_turnC, e_turnK, e_turnR, e_turnX, e_it, e_itR, e_itA, e_itAR, e_asLst, e_asSlst, e_asTup, e_asStr, e_raise, e_run, e_endN, e_endR, e_endX, e_stC, e_st0, e_stS, e_addI, e_addS, e_addB, e_addLL, e_addOL, e_addLO, e_addOO, e_sub, e_mul, e_mod, e_div, e_neg, e_cmp, e_eqI, e_eqS, e_eqB, e_id, e_n1, e_isN, e_isI, e_isS, e_isT, e_isL, e_isB, e_isnN, e_isnI, e_isnS, e_isnT, e_isnL, e_isnB, e_ixS, e_ixT, e_ixL, e_ixSL, e_ixO, e_at_0, e_at_1, e_at_2, e_sg, e_lenS, e_lenT, e_lenL, e_lenSL, e_lenO, e_int, e_intT, e_intF, e_str, e_min, e_max, e_abs, e_m1, e_m1R, e_m1S, e_joinL, e_joinO, e_joinT, e_joinB, e_txN, e_txC, e_txS, e_isiS, e_isiL, e_isiTu, e_rep, e_replS, e_tabG, e_mpS, e_tabI, e_inS, e_sl, e_slR, e_slS, e_slT, e_oNone, e_oSome, e_oRI, e_slStr, e_slL, e_slSL, e_slO, e_lc, e_ca0, e_ca1, e_ca2, e_ca3, e_ca4, e_ca5, e_ca6, e_ca7, e_ca8, e_ca9, e_ca10, e_ca11, e_ca12, e_scS, e_scI, e_scB, e_scN, e_allN, e_allC, e_inN, e_inC, e_eqFS, e_eqFI, e_inST, e_inIT, e_index, e_spR, e_mg, e_mgS, e_smN, e_smC, eq_self, Nat.reduceLT, Nat.reduceGT, Nat.reduceAdd, Nat.reduceMul, Nat.reduceSub, Nat.reduceLeDiff, Nat.reduceEqDiff, Int.reduceLT, Int.reduceLE, Int.reduceEq, Int.reduceAdd, Int.reduceSub, Int.reduceMul, Int.reduceMod, Int.reduceDiv, Int.reduceNeg, Nat.zero_le, Nat.le_refl, List.length_cons, List.length_nil, ite_true, ite_false, if_true, if_false, decide_true, decide_false, Bool.not_true, Bool.not_false, Bool.and_true, Bool.true_and, Bool.and_false, Bool.false_and, Bool.or_true, Bool.or_false, Bool.true_or, Bool.false_or, List.cons.injEq, and_true, true_and, and_false, false_and, and_self, ne_eq, not_true_eq_false, not_false_eq_true, reduceCtorEq, List.nil_append, List.cons_append, List.append_nil, List.append_assoc, q, h2, h, e18, ed, h4]
  · by_cases h4 : d = 10
    · refine ⟨[116, 34], .inr (.inr (.inr ⟨34, rfl⟩)), ?_⟩
      simp only [e_rdDat, e_rdOwn, e_at0, e_atS, e_pu0, e_puS, e_var, e_c, e_op2, e_op2R, e_op2S, e_op1, e_op1S, e_opA, e_opAS, e_ofS, e_ofN, e_dB, e_toBS, e_and, e_andT, e_andF, e_or, e_orT, e_orF, e_not, e_notT, e_notF, e_notB, e_andV, e_andVT, e_andVF, e_orV, e_orVT, e_orVF, e_notV, e_notVB, e_ifE, e_ifET, e_ifEF, e_nil, e_cons, e_consR, e_consS, e_cleanN, e_cleanC, e_oN, e_oB, e_oI, e_oS, e_oT, e_oL, e_oSL, e_oOb, e_nf, e_tt, e_tup, e_tupR, e_tupB, e_items, e_itemsR, e_itemsB, e_fix, e_fixR, e_cat, e_catR, e_appN, e_appC, e_catB, e_catLL, e_catOL, e_catLO, e_catOO, e_call, e_callR, e_callB0, e_callB1, e_callB2, e_callB3, e_callB4, e_callB5, e_seq, e_seqN, e_seqR, e_seqB, e_seqC, e_seqX, e_skip, e_break, e_cont, e_set, e_setR, e_setX, e_setB, e_own, e_ownR, e_asg, e_asgR, e_nxO, e_tgT, e_putN, e_putC, e_tgN, e_tgB, e_drop, e_dropR, e_ret, e_retR, e_retX, e_retB, e_retN, e_if, e_ifT, e_ifF, e_app, e_appR, e_appB, e_frz, e_frzO, e_frzD, e_frzU, e_for, e_forR, e_forN, e_forC, e_turnB, e_turnN, e_turnC, e_turnK, e_turnR, e_turnX, e_it, e_itR, e_itA, e_itAR, e_asLst, e_asSlst, e_asTup, e_asStr, e_raise, e_run, e_endN, e_endR, e_endX, e_stC, e_st0, e_stS, e_addI, e_addS, e_addB, e_addLL, e_addOL, e_addLO, e_addOO, e_sub, e_mul, e_mod, e_div, e_neg, e_cmp, e_eqI, e_eqS, e_eqB, e_id, e_n1, e_isN, e_isI, e_isS, e_isT, e_isL, e_isB, e_isnN, e_isnI, e_isnS, e_isnT, e_isnL, e_isnB, e_ixS, e_ixT, e_ixL, e_ixSL, e_ixO, e_at_0, e_at_1, e_at_2, e_sg, e_lenS, e_lenT, e_lenL, e_lenSL, e_lenO, e_int, e_intT, e_intF, e_str, e_min, e_max, e_abs, e_m1, e_m1R, e_m1S, e_joinL, e_joinO, e_joinT, e_joinB, e_txN, e_txC, e_txS, e_isiS, e_isiL, e_isiTu, e_rep, e_replS, e_tabG, e_mpS, e_tabI, e_inS, e_sl, e_slR, e_slS, e_slT, e_oNone, e_oSome, e_oRI, e_slStr, e_slL, e_slSL, e_slO, e_lc, e_ca0, e_ca1, e_ca2, e_ca3, e_ca4, e_ca5, e_ca6, e_ca7, e_ca8, e_ca9, e_ca10, e_ca11, e_ca12, e_scS, e_scI, e_scB, e_scN, e_allN, e_allC, e_inN, e_inC, e_eqFS, e_eqFI, e_inST, e_inIT, e_index, e_spR, e_mg, e_mgS, e_smN, e_smC, eq_self, Nat.reduceLT, Nat.reduceGT, Nat.reduceAdd, Nat.reduceMul, Nat.reduceSub, Nat.reduceLeDiff, Nat.reduceEqDiff, Int.reduceLT, Int.reduceLE, Int.reduceEq, Int.reduceAdd, Int.reduceSub, Int.reduceMul, Int.reduceMod, Int.reduceDiv, Int.reduceNeg, Nat.zero_le, Nat.le_refl, List.length_cons, List.length_nil, ite_true, ite_false, if_true, if_false, decide_true, decide_false, Bool.not_true, Bool.not_false, Bool.and_true, Bool.true_and, Bool.and_false, Bool.false_and, Bool.or_true, Bool.or_false, Bool.true_or, Bool.false_or, List.cons.injEq, and_true, true_and, and_false, false_and, and_self, ne_eq, not_true_eq_false, not_false_eq_true, reduceCtorEq, List.nil_append, List.cons_append, List.append_nil, List.append_assoc, q, h2, h, e18, ed, h4]
    · refine ⟨[116, d], .inr (.inr (.inr ⟨d, rfl⟩)), ?_⟩
      simp only [e_rdDat, e_rdOwn, e_at0, e_atS, e_pu0, e_puS, e_var, e_c, e_op2, e_op2R, e_op2S, e_op1, e_op1S, e_opA, e_opAS, e_ofS, e_ofN, e_dB, e_toBS, e_and, e_andT, e_andF, e_or, e_orT, e_orF, e_not, e_notT, e_notF, e_notB, e_andV, e_andVT, e_andVF, e_orV, e_orVT, e_orVF, e_notV, e_notVB, e_ifE, e_ifET, e_ifEF, e_nil, e_cons, e_consR, e_consS, e_cleanN, e_cleanC, e_oN, e_oB, e_oI, e_oS, e_oT, e_oL, e_oSL, e_oOb, e_nf, e_tt, e_tup, e_tupR, e_tupB, e_items, e_itemsR, e_itemsB, e_fix, e_fixR, e_cat, e_catR, e_appN, e_appC, e_catB, e_catLL, e_catOL, e_catLO, e_catOO, e_call, e_callR, e_callB0, e_callB1, e_callB2, e_callB3, e_callB4, e_callB5, e_seq, e_seqN, e_seqR, e_seqB, e_seqC, e_seqX, e_skip, e_break, e_cont, e_set, e_setR, e_setX, e_setB, e_own, e_ownR, e_asg, e_asgR, e_nxO, e_tgT, e_putN, e_putC, e_tgN, e_tgB, e_drop, e_dropR, e_ret, e_retR, e_retX, e_retB, e_retN, e_if, e_ifT, e_ifF, e_app, e_appR, e_appB, e_frz, e_frzO, e_frzD, e_frzU, e_for, e_forR, e_forN, e_forC, e_turnB, e_turnN, e_turnC, e_turnK, e_turnR, e_turnX, e_it, e_itR, e_itA, e_itAR, e_asLst, e_asSlst, e_asTup, e_asStr, e_raise, e_run, e_endN, e_endR, e_endX, e_stC, e_st0, e_stS, e_addI, e_addS, e_addB, e_addLL, e_addOL, e_addLO, e_addOO, e_sub, e_mul, e_mod, e_div, e_neg, e_cmp, e_eqI, e_eqS, e_eqB, e_id, e_n1, e_isN, e_isI, e_isS, e_isT, e_isL, e_isB, e_isnN, e_isnI, e_isnS, e_isnT, e_isnL, e_isnB, e_ixS, e_ixT, e_ixL, e_ixSL, e_ixO, e_at_0, e_at_1, e_at_2, e_sg, e_lenS, e_lenT, e_lenL, e_lenSL, e_lenO, e_int, e_intT, e_intF, e_str, e_min, e_max, e_abs, e_m1, e_m1R, e_m1S, e_joinL, e_joinO, e_joinT, e_joinB, e_txN, e_txC, e_txS, e_isiS, e_isiL, e_isiTu, e_rep, e_replS, e_tabG, e_mpS, e_tabI, e_inS, e_sl, e_slR, e_slS, e_slT, e_oNone, e_oSome, e_oRI, e_slStr, e_slL, e_slSL, e_slO, e_lc, e_ca0, e_ca1, e_ca2, e_ca3, e_ca4, e_ca5, e_ca6, e_ca7, e_ca8, e_ca9, e_ca10, e_ca11, e_ca12, e_scS, e_scI, e_scB, e_scN, e_allN, e_allC, e_inN, e_inC, e_eqFS, e_eqFI, e_inST, e_inIT, e_index, e_spR, e_mg, e_mgS, e_smN, e_smC, eq_self, Nat.reduceLT, Nat.reduceGT, Nat.reduceAdd, Nat.reduceMul, Nat.reduceSub, Nat.reduceLeDiff, Nat.reduceEqDiff, Int.reduceLT, Int.reduceLE, Int.reduceEq, Int.reduceAdd, Int.reduceSub, Int.reduceMul, Int.reduceMod, Int.reduceDiv, Int.reduceNeg, Nat.zero_le, Nat.le_refl, List.length_cons, List.length_nil, ite_true, ite_false, if_true, if_false, decide_true, decide_false, Bool.not_true, Bool.not_false, Bool.and_true, Bool.true_and, Bool.and_false, Bool.false_and, Bool.or_true, Bool.or_false, Bool.true_or, Bool.false_or, List.cons.injEq, and_true, true_and, and_false, false_and, and_self, ne_eq, not_true_eq_false, not_false_eq_true, reduceCtorEq, List.nil_append, List.cons_append, List.append_nil, List.append_assoc, q, h2, h, e18, ed, h4]
  · refine ⟨[109, c], .inr (.inl ⟨c, rfl⟩), ?_⟩
    simp only [e_rdDat, e_rdOwn, e_at0, e_atS, e_pu0, e_puS, e_var, e_c, e_op2, e_op2R, e_op2S, e_op1, e_op1S, e_opA, e_opAS, e_ofS, e_ofN, e_dB, e_toBS, e_and, e_andT, e_andF, e_or, e_orT, e_orF, e_not, e_notT, e_notF, e_notB, e_andV, e_andVT, e_andVF, e_orV, e_orVT, e_orVF, e_notV, e_notVB, e_ifE, e_ifET, e_ifEF, e_nil, e_cons, e_consR, e_consS, e_cleanN, e_cleanC, e_oN, e_oB, e_oI, e_oS, e_oT, e_oL, e_oSL, e_oOb, e_nf, e_tt, e_tup, e_tupR, e_tupB, e_items, e_itemsR, e_itemsB, e_fix, e_fixR, e_cat, e_catR, e_appN, e_appC, e_catB, e_catLL, e_catOL, e_catLO, e_catOO, e_call, e_callR, e_callB0, e_callB1, e_callB2, e_callB3, e_callB4, e_callB5, e_seq, e_seqN, e_seqR, e_seqB, e_seqC, e_seqX, e_skip, e_break, e_cont, e_set, e_setR, e_setX, e_setB, e_own, e_ownR, e_asg, e_asgR, e_nxO, e_tgT, e_putN, e_putC, e_tgN, e_tgB, e_drop, e_dropR, e_ret, e_retR, e_retX, e_retB, e_retN, e_if, e_ifT, e_ifF, e_app, e_appR, e_appB, e_frz, e_frzO, e_frzD, e_frzU, e_for, e_forR, e_forN, e_forC, e_turnB, e_turnN, e_turnC, e_turnK, e_turnR, e_turnX, e_it, e_itR, e_itA, e_itAR, e_asLst, e_asSlst, e_asTup, e_asStr, e_raise, e_run, e_endN, e_endR, e_endX, e_stC, e_st0, e_stS, e_addI, e_addS, e_addB, e_addLL, e_addOL, e_addLO, e_addOO, e_sub, e_mul, e_mod, e_div, e_neg, e_cmp, e_eqI, e_eqS, e_eqB, e_id, e_n1, e_isN, e_isI, e_isS, e_isT, e_isL, e_isB, e_isnN, e_isnI, e_isnS, e_isnT, e_isnL, e_isnB, e_ixS, e_ixT, e_ixL, e_ixSL, e_ixO, e_at_0, e_at_1, e_at_2, e_sg, e_lenS, e_lenT, e_lenL, e_lenSL, e_lenO, e_int, e_intT, e_intF, e_str, e_min, e_max, e_abs, e_m1, e_m1R, e_m1S, e_joinL, e_joinO, e_joinT, e_joinB, e_txN, e_txC, e_txS, e_isiS, e_isiL, e_isiTu, e_rep, e_replS, e_tabG, e_mpS, e_tabI, e_inS, e_sl, e_slR, e_slS, e_slT, e_oNone, e_oSome, e_oRI, e_slStr, e_slL, e_slSL, e_slO, e_lc, e_ca0, e_ca1, e_ca2, e_ca3, e_ca4, e_ca5, e_ca6, e_ca7, e_ca8, e_ca9, e_ca10, e_ca11, e_ca12, e_scS, e_scI, e_scB, e_scN, e_allN, e_allC, e_inN, e_inC, e_eqFS, e_eqFI, e_inST, e_inIT, e_index, e_spR, e_mg, e_mgS, e_smN, e_smC, eq_self, Nat.reduceLT, Nat.reduceGT, Nat.reduceAdd, Nat.reduceMul, Nat.reduceSub, Nat.reduceLeDiff, Nat.reduceEqDiff, Int.reduceLT, Int.reduceLE, Int.reduceEq, Int.reduceAdd, Int.reduceSub, Int.reduceMul, Int.reduceMod, Int.reduceDiv, Int.reduceNeg, Nat.zero_le, Nat.le_refl, List.length_cons, List.length_nil, ite_true, ite_false, if_true, if_false, decide_true, decide_false, Bool.not_true, Bool.not_false, Bool.and_true, Bool.true_and, Bool.and_false, Bool.false_and, Bool.or_true, Bool.or_false, Bool.true_or, Bool.false_or, List.cons.injEq, and_true, true_and, and_false, false_and, and_self, ne_eq, not_true_eq_false, not_false_eq_true, reduceCtorEq, List.nil_append, List.cons_append, List.append_nil, List.append_assoc, q, h2, h, e18, ec]
theorem target_ok (n : Int) (b : Bool) : ∃ t, GoodT t ∧ m__law_target [.int n, .bl b] = .ok (.str t) := by
  have q1 : (L20.length ≤ 1000000) = True := by decide
  have q2 : (L19.length ≤ 1000000) = True := by decide
  by_cases h0 : b = true ∧ n % 3 = 0
  · obtain ⟨hb, h1⟩ := h0
    subst hb
    obtain ⟨c, hc, e⟩ := at_in L20 (n / 3 % 13) (by omega) (by show n / 3 % 13 < 13; omega)
    refine ⟨[c], .inl ⟨c, (by decide : ∀ c ∈ L20, c ∈ L44) c hc, rfl⟩, ?_⟩
    unfold m__law_target d__law_target
    simp only [e_rdDat, e_rdOwn, e_at0, e_atS, e_pu0, e_puS, e_var, e_c, e_op2, e_op2R, e_op2S, e_op1, e_op1S, e_opA, e_opAS, e_ofS, e_ofN, e_dB, e_toBS, e_and, e_andT, e_andF, e_or, e_orT, e_orF, e_not, e_notT, e_notF, e_notB, e_andV, e_andVT, e_andVF, e_orV, e_orVT, e_orVF, e_notV, e_notVB, e_ifE, e_ifET, e_ifEF, e_nil, e_cons, e_consR, e_consS, e_cleanN, e_cleanC, e_oN, e_oB, e_oI, e_oS, e_oT, e_oL, e_oSL, e_oOb, e_nf, e_tt, e_tup, e_tupR, e_tupB, e_items, e_itemsR, e_itemsB, e_fix, e_fixR, e_cat, e_catR, e_appN, e_appC, e_catB, e_catLL, e_catOL, e_catLO, e_catOO, e_call, e_callR, e_callB0, e_callB1, e_callB2, e_callB3, e_callB4, e_callB5, e_seq, e_seqN, e_seqR, e_seqB, e_seqC, e_seqX, e_skip, e_break, e_cont, e_set, e_setR, e_setX, e_setB, e_own, e_ownR, e_asg, e_asgR, e_nxO, e_tgT, e_putN, e_putC, e_tgN, e_tgB, e_drop, e_dropR, e_ret, e_retR, e_retX, e_retB, e_retN, e_if, e_ifT, e_ifF, e_app, e_appR, e_appB, e_frz, e_frzO, e_frzD, e_frzU, e_for, e_forR, e_forN, e_forC, e_turnB, e_turnN, e_turnC, e_turnK, e_turnR, e_turnX, e_it, e_itR, e_itA, e_itAR, e_asLst, e_asSlst, e_asTup, e_asStr, e_raise, e_run, e_endN, e_endR, e_endX, e_stC, e_st0, e_stS, e_addI, e_addS, e_addB, e_addLL, e_addOL, e_addLO, e_addOO, e_sub, e_mul, e_mod, e_div, e_neg, e_cmp, e_eqI, e_eqS, e_eqB, e_id, e_n1, e_isN, e_isI, e_isS, e_isT, e_isL, e_isB, e_isnN, e_isnI, e_isnS, e_isnT, e_isnL, e_isnB, e_ixS, e_ixT, e_ixL, e_ixSL, e_ixO, e_at_0, e_at_1, e_at_2, e_sg, e_lenS, e_lenT, e_lenL, e_lenSL, e_lenO, e_int, e_intT, e_intF, e_str, e_min, e_max, e_abs, e_m1, e_m1R, e_m1S, e_joinL, e_joinO, e_joinT, e_joinB, e_txN, e_txC, e_txS, e_isiS, e_isiL, e_isiTu, e_rep, e_replS, e_tabG, e_mpS, e_tabI, e_inS, e_sl, e_slR, e_slS, e_slT, e_oNone, e_oSome, e_oRI, e_slStr, e_slL, e_slSL, e_slO, e_lc, e_ca0, e_ca1, e_ca2, e_ca3, e_ca4, e_ca5, e_ca6, e_ca7, e_ca8, e_ca9, e_ca10, e_ca11, e_ca12, e_scS, e_scI, e_scB, e_scN, e_allN, e_allC, e_inN, e_inC, e_eqFS, e_eqFI, e_inST, e_inIT, e_index, e_spR, e_mg, e_mgS, e_smN, e_smC, eq_self, Nat.reduceLT, Nat.reduceGT, Nat.reduceAdd, Nat.reduceMul, Nat.reduceSub, Nat.reduceLeDiff, Nat.reduceEqDiff, Int.reduceLT, Int.reduceLE, Int.reduceEq, Int.reduceAdd, Int.reduceSub, Int.reduceMul, Int.reduceMod, Int.reduceDiv, Int.reduceNeg, Nat.zero_le, Nat.le_refl, List.length_cons, List.length_nil, ite_true, ite_false, if_true, if_false, decide_true, decide_false, Bool.not_true, Bool.not_false, Bool.and_true, Bool.true_and, Bool.and_false, Bool.false_and, Bool.or_true, Bool.or_false, Bool.true_or, Bool.false_or, List.cons.injEq, and_true, true_and, and_false, false_and, and_self, ne_eq, not_true_eq_false, not_false_eq_true, reduceCtorEq, List.nil_append, List.cons_append, List.append_nil, List.append_assoc, h1, e, q1]
  · by_cases h2 : n % 3 = 2
    · obtain ⟨c, hc, e⟩ := at_in L19 (n / 3 % 12) (by omega) (by show n / 3 % 12 < 12; omega)
      refine ⟨[c], .inl ⟨c, (by decide : ∀ c ∈ L19, c ∈ L44) c hc, rfl⟩, ?_⟩
      unfold m__law_target d__law_target
      cases b <;> simp only [e_rdDat, e_rdOwn, e_at0, e_atS, e_pu0, e_puS, e_var, e_c, e_op2, e_op2R, e_op2S, e_op1, e_op1S, e_opA, e_opAS, e_ofS, e_ofN, e_dB, e_toBS, e_and, e_andT, e_andF, e_or, e_orT, e_orF, e_not, e_notT, e_notF, e_notB, e_andV, e_andVT, e_andVF, e_orV, e_orVT, e_orVF, e_notV, e_notVB, e_ifE, e_ifET, e_ifEF, e_nil, e_cons, e_consR, e_consS, e_cleanN, e_cleanC, e_oN, e_oB, e_oI, e_oS, e_oT, e_oL, e_oSL, e_oOb, e_nf, e_tt, e_tup, e_tupR, e_tupB, e_items, e_itemsR, e_itemsB, e_fix, e_fixR, e_cat, e_catR, e_appN, e_appC, e_catB, e_catLL, e_catOL, e_catLO, e_catOO, e_call, e_callR, e_callB0, e_callB1, e_callB2, e_callB3, e_callB4, e_callB5, e_seq, e_seqN, e_seqR, e_seqB, e_seqC, e_seqX, e_skip, e_break, e_cont, e_set, e_setR, e_setX, e_setB, e_own, e_ownR, e_asg, e_asgR, e_nxO, e_tgT, e_putN, e_putC, e_tgN, e_tgB, e_drop, e_dropR, e_ret, e_retR, e_retX, e_retB, e_retN, e_if, e_ifT, e_ifF, e_app, e_appR, e_appB, e_frz, e_frzO, e_frzD, e_frzU, e_for, e_forR, e_forN, e_forC, e_turnB, e_turnN, e_turnC, e_turnK, e_turnR, e_turnX, e_it, e_itR, e_itA, e_itAR, e_asLst, e_asSlst, e_asTup, e_asStr, e_raise, e_run, e_endN, e_endR, e_endX, e_stC, e_st0, e_stS, e_addI, e_addS, e_addB, e_addLL, e_addOL, e_addLO, e_addOO, e_sub, e_mul, e_mod, e_div, e_neg, e_cmp, e_eqI, e_eqS, e_eqB, e_id, e_n1, e_isN, e_isI, e_isS, e_isT, e_isL, e_isB, e_isnN, e_isnI, e_isnS, e_isnT, e_isnL, e_isnB, e_ixS, e_ixT, e_ixL, e_ixSL, e_ixO, e_at_0, e_at_1, e_at_2, e_sg, e_lenS, e_lenT, e_lenL, e_lenSL, e_lenO, e_int, e_intT, e_intF, e_str, e_min, e_max, e_abs, e_m1, e_m1R, e_m1S, e_joinL, e_joinO, e_joinT, e_joinB, e_txN, e_txC, e_txS, e_isiS, e_isiL, e_isiTu, e_rep, e_replS, e_tabG, e_mpS, e_tabI, e_inS, e_sl, e_slR, e_slS, e_slT, e_oNone, e_oSome, e_oRI, e_slStr, e_slL, e_slSL, e_slO, e_lc, e_ca0, e_ca1, e_ca2, e_ca3, e_ca4, e_ca5, e_ca6, e_ca7, e_ca8, e_ca9, e_ca10, e_ca11, e_ca12, e_scS, e_scI, e_scB, e_scN, e_allN, e_allC, e_inN, e_inC, e_eqFS, e_eqFI, e_inST, e_inIT, e_index, e_spR, e_mg, e_mgS, e_smN, e_smC, eq_self, Nat.reduceLT, Nat.reduceGT, Nat.reduceAdd, Nat.reduceMul, Nat.reduceSub, Nat.reduceLeDiff, Nat.reduceEqDiff, Int.reduceLT, Int.reduceLE, Int.reduceEq, Int.reduceAdd, Int.reduceSub, Int.reduceMul, Int.reduceMod, Int.reduceDiv, Int.reduceNeg, Nat.zero_le, Nat.le_refl, List.length_cons, List.length_nil, ite_true, ite_false, if_true, if_false, decide_true, decide_false, Bool.not_true, Bool.not_false, Bool.and_true, Bool.true_and, Bool.and_false, Bool.false_and, Bool.or_true, Bool.or_false, Bool.true_or, Bool.false_or, List.cons.injEq, and_true, true_and, and_false, false_and, and_self, ne_eq, not_true_eq_false, not_false_eq_true, reduceCtorEq, List.nil_append, List.cons_append, List.append_nil, List.append_assoc, h2, e, q2]
    · exact key_ok n b (eq_false h0) (eq_false h2)
/-! ### a target's words -/
def tw (c : Nat) : List Nat := (tbGet tb_THING_WORDS [c]).getD ((tbGet tb_MOVE_WORDS [c]).getD [])
def wordB (c : Nat) : Bool := (tw c).length ≤ 20 && (match m_target_words [.str [c]] with | .ok (.lst [.str w]) => w == tw c | _ => false) && (match m__law_target_words [.str [c]] with | .ok (.lst [.str w]) => w == tw c | _ => false)
theorem words_all : L44.all wordB = true := by decide +kernel
theorem lst1 {r : R D} {x : List Nat} (h : (match r with | .ok (.lst [.str w]) => w == x | _ => false) = true) : r = .ok (.lst [.str x]) := by
  split at h
  · rw [eq_of_beq h]
  · cases h
theorem word1 {c : Nat} (h : c ∈ L44) : (tw c).length ≤ 20 ∧ m_target_words [.str [c]] = .ok (.lst [.str (tw c)]) ∧ m__law_target_words [.str [c]] = .ok (.lst [.str (tw c)]) := by
  have q := List.all_eq_true.mp words_all c h
  unfold wordB at q
  obtain ⟨q1, q3⟩ := Bool.and_eq_true_iff.mp q
  obtain ⟨q1, q2⟩ := Bool.and_eq_true_iff.mp q1
  exact ⟨of_decide_eq_true q1, lst1 q2, lst1 q3⟩
theorem len_quo (l : List Nat) : (quo l).length ≤ 2 * l.length + 2 := by
  have := len_esc l
  unfold quo
  rw [List.length_cons, List.length_append, List.length_singleton]
  omega
theorem t_words {t : List Nat} (h : GoodT t) : t ≠ [] ∧ ((∃ x, x.length ≤ 20 ∧ m_target_words [.str t] = .ok (.lst [.str x]) ∧ m__law_target_words [.str t] = .ok (.lst [.str x])) ∨ ∃ x y, x.length ≤ 20 ∧ y.length ≤ 20 ∧ m_target_words [.str t] = .ok (.lst [.str x, .str y]) ∧ m__law_target_words [.str t] = .ok (.lst [.str x, .str y])) := by
  have g1 : tbGet tb_THING_WORDS [109] = none := by decide
  have g2 : tbGet tb_THING_WORDS [102] = none := by decide
  have g3 : tbGet tb_THING_WORDS [116] = none := by decide
  have g4 : tbGet tb_MOVE_WORDS [102] = some L71 := by decide
  have g5 : tbGet tb_MOVE_WORDS [116] = some L70 := by decide
  rcases h with ⟨c, hc, rfl⟩ | ⟨c, rfl⟩ | ⟨c, rfl⟩ | ⟨c, rfl⟩
  · exact ⟨by simp, .inl ⟨tw c, word1 hc⟩⟩
  · refine ⟨by simp, .inr ⟨L7, [c], by decide, by simp, ?_, ?_⟩⟩
    · unfold m_target_words d_target_words
      simp only [e_rdDat, e_rdOwn, e_at0, e_atS, e_pu0, e_puS, e_var, e_c, e_op2, e_op2R, e_op2S, e_op1, e_op1S, e_opA, e_opAS, e_ofS, e_ofN, e_dB, e_toBS, e_and, e_andT, e_andF, e_or, e_orT, e_orF, e_not, e_notT, e_notF, e_notB, e_andV, e_andVT, e_andVF, e_orV, e_orVT, e_orVF, e_notV, e_notVB, e_ifE, e_ifET, e_ifEF, e_nil, e_cons, e_consR, e_consS, e_cleanN, e_cleanC, e_oN, e_oB, e_oI, e_oS, e_oT, e_oL, e_oSL, e_oOb, e_nf, e_tt, e_tup, e_tupR, e_tupB, e_items, e_itemsR, e_itemsB, e_fix, e_fixR, e_cat, e_catR, e_appN, e_appC, e_catB, e_catLL, e_catOL, e_catLO, e_catOO, e_call, e_callR, e_callB0, e_callB1, e_callB2, e_callB3, e_callB4, e_callB5, e_seq, e_seqN, e_seqR, e_seqB, e_seqC, e_seqX, e_skip, e_break, e_cont, e_set, e_setR, e_setX, e_setB, e_own, e_ownR, e_asg, e_asgR, e_nxO, e_tgT, e_putN, e_putC, e_tgN, e_tgB, e_drop, e_dropR, e_ret, e_retR, e_retX, e_retB, e_retN, e_if, e_ifT, e_ifF, e_app, e_appR, e_appB, e_frz, e_frzO, e_frzD, e_frzU, e_for, e_forR, e_forN, e_forC, e_turnB, e_turnN, e_turnC, e_turnK, e_turnR, e_turnX, e_it, e_itR, e_itA, e_itAR, e_asLst, e_asSlst, e_asTup, e_asStr, e_raise, e_run, e_endN, e_endR, e_endX, e_stC, e_st0, e_stS, e_addI, e_addS, e_addB, e_addLL, e_addOL, e_addLO, e_addOO, e_sub, e_mul, e_mod, e_div, e_neg, e_cmp, e_eqI, e_eqS, e_eqB, e_id, e_n1, e_isN, e_isI, e_isS, e_isT, e_isL, e_isB, e_isnN, e_isnI, e_isnS, e_isnT, e_isnL, e_isnB, e_ixS, e_ixT, e_ixL, e_ixSL, e_ixO, e_at_0, e_at_1, e_at_2, e_sg, e_lenS, e_lenT, e_lenL, e_lenSL, e_lenO, e_int, e_intT, e_intF, e_str, e_min, e_max, e_abs, e_m1, e_m1R, e_m1S, e_joinL, e_joinO, e_joinT, e_joinB, e_txN, e_txC, e_txS, e_isiS, e_isiL, e_isiTu, e_rep, e_replS, e_tabG, e_mpS, e_tabI, e_inS, e_sl, e_slR, e_slS, e_slT, e_oNone, e_oSome, e_oRI, e_slStr, e_slL, e_slSL, e_slO, e_lc, e_ca0, e_ca1, e_ca2, e_ca3, e_ca4, e_ca5, e_ca6, e_ca7, e_ca8, e_ca9, e_ca10, e_ca11, e_ca12, e_scS, e_scI, e_scB, e_scN, e_allN, e_allC, e_inN, e_inC, e_eqFS, e_eqFI, e_inST, e_inIT, e_index, e_spR, e_mg, e_mgS, e_smN, e_smC, eq_self, Nat.reduceLT, Nat.reduceGT, Nat.reduceAdd, Nat.reduceMul, Nat.reduceSub, Nat.reduceLeDiff, Nat.reduceEqDiff, Int.reduceLT, Int.reduceLE, Int.reduceEq, Int.reduceAdd, Int.reduceSub, Int.reduceMul, Int.reduceMod, Int.reduceDiv, Int.reduceNeg, Nat.zero_le, Nat.le_refl, List.length_cons, List.length_nil, ite_true, ite_false, if_true, if_false, decide_true, decide_false, Bool.not_true, Bool.not_false, Bool.and_true, Bool.true_and, Bool.and_false, Bool.false_and, Bool.or_true, Bool.or_false, Bool.true_or, Bool.false_or, List.cons.injEq, and_true, true_and, and_false, false_and, and_self, ne_eq, not_true_eq_false, not_false_eq_true, reduceCtorEq, List.nil_append, List.cons_append, List.append_nil, List.append_assoc, g1, Option.isSome_none]
    · unfold m__law_target_words d__law_target_words
      simp only [e_rdDat, e_rdOwn, e_at0, e_atS, e_pu0, e_puS, e_var, e_c, e_op2, e_op2R, e_op2S, e_op1, e_op1S, e_opA, e_opAS, e_ofS, e_ofN, e_dB, e_toBS, e_and, e_andT, e_andF, e_or, e_orT, e_orF, e_not, e_notT, e_notF, e_notB, e_andV, e_andVT, e_andVF, e_orV, e_orVT, e_orVF, e_notV, e_notVB, e_ifE, e_ifET, e_ifEF, e_nil, e_cons, e_consR, e_consS, e_cleanN, e_cleanC, e_oN, e_oB, e_oI, e_oS, e_oT, e_oL, e_oSL, e_oOb, e_nf, e_tt, e_tup, e_tupR, e_tupB, e_items, e_itemsR, e_itemsB, e_fix, e_fixR, e_cat, e_catR, e_appN, e_appC, e_catB, e_catLL, e_catOL, e_catLO, e_catOO, e_call, e_callR, e_callB0, e_callB1, e_callB2, e_callB3, e_callB4, e_callB5, e_seq, e_seqN, e_seqR, e_seqB, e_seqC, e_seqX, e_skip, e_break, e_cont, e_set, e_setR, e_setX, e_setB, e_own, e_ownR, e_asg, e_asgR, e_nxO, e_tgT, e_putN, e_putC, e_tgN, e_tgB, e_drop, e_dropR, e_ret, e_retR, e_retX, e_retB, e_retN, e_if, e_ifT, e_ifF, e_app, e_appR, e_appB, e_frz, e_frzO, e_frzD, e_frzU, e_for, e_forR, e_forN, e_forC, e_turnB, e_turnN, e_turnC, e_turnK, e_turnR, e_turnX, e_it, e_itR, e_itA, e_itAR, e_asLst, e_asSlst, e_asTup, e_asStr, e_raise, e_run, e_endN, e_endR, e_endX, e_stC, e_st0, e_stS, e_addI, e_addS, e_addB, e_addLL, e_addOL, e_addLO, e_addOO, e_sub, e_mul, e_mod, e_div, e_neg, e_cmp, e_eqI, e_eqS, e_eqB, e_id, e_n1, e_isN, e_isI, e_isS, e_isT, e_isL, e_isB, e_isnN, e_isnI, e_isnS, e_isnT, e_isnL, e_isnB, e_ixS, e_ixT, e_ixL, e_ixSL, e_ixO, e_at_0, e_at_1, e_at_2, e_sg, e_lenS, e_lenT, e_lenL, e_lenSL, e_lenO, e_int, e_intT, e_intF, e_str, e_min, e_max, e_abs, e_m1, e_m1R, e_m1S, e_joinL, e_joinO, e_joinT, e_joinB, e_txN, e_txC, e_txS, e_isiS, e_isiL, e_isiTu, e_rep, e_replS, e_tabG, e_mpS, e_tabI, e_inS, e_sl, e_slR, e_slS, e_slT, e_oNone, e_oSome, e_oRI, e_slStr, e_slL, e_slSL, e_slO, e_lc, e_ca0, e_ca1, e_ca2, e_ca3, e_ca4, e_ca5, e_ca6, e_ca7, e_ca8, e_ca9, e_ca10, e_ca11, e_ca12, e_scS, e_scI, e_scB, e_scN, e_allN, e_allC, e_inN, e_inC, e_eqFS, e_eqFI, e_inST, e_inIT, e_index, e_spR, e_mg, e_mgS, e_smN, e_smC, eq_self, Nat.reduceLT, Nat.reduceGT, Nat.reduceAdd, Nat.reduceMul, Nat.reduceSub, Nat.reduceLeDiff, Nat.reduceEqDiff, Int.reduceLT, Int.reduceLE, Int.reduceEq, Int.reduceAdd, Int.reduceSub, Int.reduceMul, Int.reduceMod, Int.reduceDiv, Int.reduceNeg, Nat.zero_le, Nat.le_refl, List.length_cons, List.length_nil, ite_true, ite_false, if_true, if_false, decide_true, decide_false, Bool.not_true, Bool.not_false, Bool.and_true, Bool.true_and, Bool.and_false, Bool.false_and, Bool.or_true, Bool.or_false, Bool.true_or, Bool.false_or, List.cons.injEq, and_true, true_and, and_false, false_and, and_self, ne_eq, not_true_eq_false, not_false_eq_true, reduceCtorEq, List.nil_append, List.cons_append, List.append_nil, List.append_assoc, g1, Option.isSome_none]
  · have hq := len_quo [c]
    have hl : [c].length ≤ 1000 := by simp
    refine ⟨by simp, .inr ⟨L71, quo [c], by decide, by simpa using Nat.le_trans hq (by simp), ?_, ?_⟩⟩
    · unfold m_target_words d_target_words
      simp only [e_rdDat, e_rdOwn, e_at0, e_atS, e_pu0, e_puS, e_var, e_c, e_op2, e_op2R, e_op2S, e_op1, e_op1S, e_opA, e_opAS, e_ofS, e_ofN, e_dB, e_toBS, e_and, e_andT, e_andF, e_or, e_orT, e_orF, e_not, e_notT, e_notF, e_notB, e_andV, e_andVT, e_andVF, e_orV, e_orVT, e_orVF, e_notV, e_notVB, e_ifE, e_ifET, e_ifEF, e_nil, e_cons, e_consR, e_consS, e_cleanN, e_cleanC, e_oN, e_oB, e_oI, e_oS, e_oT, e_oL, e_oSL, e_oOb, e_nf, e_tt, e_tup, e_tupR, e_tupB, e_items, e_itemsR, e_itemsB, e_fix, e_fixR, e_cat, e_catR, e_appN, e_appC, e_catB, e_catLL, e_catOL, e_catLO, e_catOO, e_call, e_callR, e_callB0, e_callB1, e_callB2, e_callB3, e_callB4, e_callB5, e_seq, e_seqN, e_seqR, e_seqB, e_seqC, e_seqX, e_skip, e_break, e_cont, e_set, e_setR, e_setX, e_setB, e_own, e_ownR, e_asg, e_asgR, e_nxO, e_tgT, e_putN, e_putC, e_tgN, e_tgB, e_drop, e_dropR, e_ret, e_retR, e_retX, e_retB, e_retN, e_if, e_ifT, e_ifF, e_app, e_appR, e_appB, e_frz, e_frzO, e_frzD, e_frzU, e_for, e_forR, e_forN, e_forC, e_turnB, e_turnN, e_turnC, e_turnK, e_turnR, e_turnX, e_it, e_itR, e_itA, e_itAR, e_asLst, e_asSlst, e_asTup, e_asStr, e_raise, e_run, e_endN, e_endR, e_endX, e_stC, e_st0, e_stS, e_addI, e_addS, e_addB, e_addLL, e_addOL, e_addLO, e_addOO, e_sub, e_mul, e_mod, e_div, e_neg, e_cmp, e_eqI, e_eqS, e_eqB, e_id, e_n1, e_isN, e_isI, e_isS, e_isT, e_isL, e_isB, e_isnN, e_isnI, e_isnS, e_isnT, e_isnL, e_isnB, e_ixS, e_ixT, e_ixL, e_ixSL, e_ixO, e_at_0, e_at_1, e_at_2, e_sg, e_lenS, e_lenT, e_lenL, e_lenSL, e_lenO, e_int, e_intT, e_intF, e_str, e_min, e_max, e_abs, e_m1, e_m1R, e_m1S, e_joinL, e_joinO, e_joinT, e_joinB, e_txN, e_txC, e_txS, e_isiS, e_isiL, e_isiTu, e_rep, e_replS, e_tabG, e_mpS, e_tabI, e_inS, e_sl, e_slR, e_slS, e_slT, e_oNone, e_oSome, e_oRI, e_slStr, e_slL, e_slSL, e_slO, e_lc, e_ca0, e_ca1, e_ca2, e_ca3, e_ca4, e_ca5, e_ca6, e_ca7, e_ca8, e_ca9, e_ca10, e_ca11, e_ca12, e_scS, e_scI, e_scB, e_scN, e_allN, e_allC, e_inN, e_inC, e_eqFS, e_eqFI, e_inST, e_inIT, e_index, e_spR, e_mg, e_mgS, e_smN, e_smC, eq_self, Nat.reduceLT, Nat.reduceGT, Nat.reduceAdd, Nat.reduceMul, Nat.reduceSub, Nat.reduceLeDiff, Nat.reduceEqDiff, Int.reduceLT, Int.reduceLE, Int.reduceEq, Int.reduceAdd, Int.reduceSub, Int.reduceMul, Int.reduceMod, Int.reduceDiv, Int.reduceNeg, Nat.zero_le, Nat.le_refl, List.length_cons, List.length_nil, ite_true, ite_false, if_true, if_false, decide_true, decide_false, Bool.not_true, Bool.not_false, Bool.and_true, Bool.true_and, Bool.and_false, Bool.false_and, Bool.or_true, Bool.or_false, Bool.true_or, Bool.false_or, List.cons.injEq, and_true, true_and, and_false, false_and, and_self, ne_eq, not_true_eq_false, not_false_eq_true, reduceCtorEq, List.nil_append, List.cons_append, List.append_nil, List.append_assoc, g2, g4, Option.isSome_none, quoted_ok _ hl]
    · unfold m__law_target_words d__law_target_words
      simp only [e_rdDat, e_rdOwn, e_at0, e_atS, e_pu0, e_puS, e_var, e_c, e_op2, e_op2R, e_op2S, e_op1, e_op1S, e_opA, e_opAS, e_ofS, e_ofN, e_dB, e_toBS, e_and, e_andT, e_andF, e_or, e_orT, e_orF, e_not, e_notT, e_notF, e_notB, e_andV, e_andVT, e_andVF, e_orV, e_orVT, e_orVF, e_notV, e_notVB, e_ifE, e_ifET, e_ifEF, e_nil, e_cons, e_consR, e_consS, e_cleanN, e_cleanC, e_oN, e_oB, e_oI, e_oS, e_oT, e_oL, e_oSL, e_oOb, e_nf, e_tt, e_tup, e_tupR, e_tupB, e_items, e_itemsR, e_itemsB, e_fix, e_fixR, e_cat, e_catR, e_appN, e_appC, e_catB, e_catLL, e_catOL, e_catLO, e_catOO, e_call, e_callR, e_callB0, e_callB1, e_callB2, e_callB3, e_callB4, e_callB5, e_seq, e_seqN, e_seqR, e_seqB, e_seqC, e_seqX, e_skip, e_break, e_cont, e_set, e_setR, e_setX, e_setB, e_own, e_ownR, e_asg, e_asgR, e_nxO, e_tgT, e_putN, e_putC, e_tgN, e_tgB, e_drop, e_dropR, e_ret, e_retR, e_retX, e_retB, e_retN, e_if, e_ifT, e_ifF, e_app, e_appR, e_appB, e_frz, e_frzO, e_frzD, e_frzU, e_for, e_forR, e_forN, e_forC, e_turnB, e_turnN, e_turnC, e_turnK, e_turnR, e_turnX, e_it, e_itR, e_itA, e_itAR, e_asLst, e_asSlst, e_asTup, e_asStr, e_raise, e_run, e_endN, e_endR, e_endX, e_stC, e_st0, e_stS, e_addI, e_addS, e_addB, e_addLL, e_addOL, e_addLO, e_addOO, e_sub, e_mul, e_mod, e_div, e_neg, e_cmp, e_eqI, e_eqS, e_eqB, e_id, e_n1, e_isN, e_isI, e_isS, e_isT, e_isL, e_isB, e_isnN, e_isnI, e_isnS, e_isnT, e_isnL, e_isnB, e_ixS, e_ixT, e_ixL, e_ixSL, e_ixO, e_at_0, e_at_1, e_at_2, e_sg, e_lenS, e_lenT, e_lenL, e_lenSL, e_lenO, e_int, e_intT, e_intF, e_str, e_min, e_max, e_abs, e_m1, e_m1R, e_m1S, e_joinL, e_joinO, e_joinT, e_joinB, e_txN, e_txC, e_txS, e_isiS, e_isiL, e_isiTu, e_rep, e_replS, e_tabG, e_mpS, e_tabI, e_inS, e_sl, e_slR, e_slS, e_slT, e_oNone, e_oSome, e_oRI, e_slStr, e_slL, e_slSL, e_slO, e_lc, e_ca0, e_ca1, e_ca2, e_ca3, e_ca4, e_ca5, e_ca6, e_ca7, e_ca8, e_ca9, e_ca10, e_ca11, e_ca12, e_scS, e_scI, e_scB, e_scN, e_allN, e_allC, e_inN, e_inC, e_eqFS, e_eqFI, e_inST, e_inIT, e_index, e_spR, e_mg, e_mgS, e_smN, e_smC, eq_self, Nat.reduceLT, Nat.reduceGT, Nat.reduceAdd, Nat.reduceMul, Nat.reduceSub, Nat.reduceLeDiff, Nat.reduceEqDiff, Int.reduceLT, Int.reduceLE, Int.reduceEq, Int.reduceAdd, Int.reduceSub, Int.reduceMul, Int.reduceMod, Int.reduceDiv, Int.reduceNeg, Nat.zero_le, Nat.le_refl, List.length_cons, List.length_nil, ite_true, ite_false, if_true, if_false, decide_true, decide_false, Bool.not_true, Bool.not_false, Bool.and_true, Bool.true_and, Bool.and_false, Bool.false_and, Bool.or_true, Bool.or_false, Bool.true_or, Bool.false_or, List.cons.injEq, and_true, true_and, and_false, false_and, and_self, ne_eq, not_true_eq_false, not_false_eq_true, reduceCtorEq, List.nil_append, List.cons_append, List.append_nil, List.append_assoc, lawquoted_ok _ hl]
  · have hq := len_quo [c]
    have hl : [c].length ≤ 1000 := by simp
    refine ⟨by simp, .inr ⟨L70, quo [c], by decide, by simpa using Nat.le_trans hq (by simp), ?_, ?_⟩⟩
    · unfold m_target_words d_target_words
      simp only [e_rdDat, e_rdOwn, e_at0, e_atS, e_pu0, e_puS, e_var, e_c, e_op2, e_op2R, e_op2S, e_op1, e_op1S, e_opA, e_opAS, e_ofS, e_ofN, e_dB, e_toBS, e_and, e_andT, e_andF, e_or, e_orT, e_orF, e_not, e_notT, e_notF, e_notB, e_andV, e_andVT, e_andVF, e_orV, e_orVT, e_orVF, e_notV, e_notVB, e_ifE, e_ifET, e_ifEF, e_nil, e_cons, e_consR, e_consS, e_cleanN, e_cleanC, e_oN, e_oB, e_oI, e_oS, e_oT, e_oL, e_oSL, e_oOb, e_nf, e_tt, e_tup, e_tupR, e_tupB, e_items, e_itemsR, e_itemsB, e_fix, e_fixR, e_cat, e_catR, e_appN, e_appC, e_catB, e_catLL, e_catOL, e_catLO, e_catOO, e_call, e_callR, e_callB0, e_callB1, e_callB2, e_callB3, e_callB4, e_callB5, e_seq, e_seqN, e_seqR, e_seqB, e_seqC, e_seqX, e_skip, e_break, e_cont, e_set, e_setR, e_setX, e_setB, e_own, e_ownR, e_asg, e_asgR, e_nxO, e_tgT, e_putN, e_putC, e_tgN, e_tgB, e_drop, e_dropR, e_ret, e_retR, e_retX, e_retB, e_retN, e_if, e_ifT, e_ifF, e_app, e_appR, e_appB, e_frz, e_frzO, e_frzD, e_frzU, e_for, e_forR, e_forN, e_forC, e_turnB, e_turnN, e_turnC, e_turnK, e_turnR, e_turnX, e_it, e_itR, e_itA, e_itAR, e_asLst, e_asSlst, e_asTup, e_asStr, e_raise, e_run, e_endN, e_endR, e_endX, e_stC, e_st0, e_stS, e_addI, e_addS, e_addB, e_addLL, e_addOL, e_addLO, e_addOO, e_sub, e_mul, e_mod, e_div, e_neg, e_cmp, e_eqI, e_eqS, e_eqB, e_id, e_n1, e_isN, e_isI, e_isS, e_isT, e_isL, e_isB, e_isnN, e_isnI, e_isnS, e_isnT, e_isnL, e_isnB, e_ixS, e_ixT, e_ixL, e_ixSL, e_ixO, e_at_0, e_at_1, e_at_2, e_sg, e_lenS, e_lenT, e_lenL, e_lenSL, e_lenO, e_int, e_intT, e_intF, e_str, e_min, e_max, e_abs, e_m1, e_m1R, e_m1S, e_joinL, e_joinO, e_joinT, e_joinB, e_txN, e_txC, e_txS, e_isiS, e_isiL, e_isiTu, e_rep, e_replS, e_tabG, e_mpS, e_tabI, e_inS, e_sl, e_slR, e_slS, e_slT, e_oNone, e_oSome, e_oRI, e_slStr, e_slL, e_slSL, e_slO, e_lc, e_ca0, e_ca1, e_ca2, e_ca3, e_ca4, e_ca5, e_ca6, e_ca7, e_ca8, e_ca9, e_ca10, e_ca11, e_ca12, e_scS, e_scI, e_scB, e_scN, e_allN, e_allC, e_inN, e_inC, e_eqFS, e_eqFI, e_inST, e_inIT, e_index, e_spR, e_mg, e_mgS, e_smN, e_smC, eq_self, Nat.reduceLT, Nat.reduceGT, Nat.reduceAdd, Nat.reduceMul, Nat.reduceSub, Nat.reduceLeDiff, Nat.reduceEqDiff, Int.reduceLT, Int.reduceLE, Int.reduceEq, Int.reduceAdd, Int.reduceSub, Int.reduceMul, Int.reduceMod, Int.reduceDiv, Int.reduceNeg, Nat.zero_le, Nat.le_refl, List.length_cons, List.length_nil, ite_true, ite_false, if_true, if_false, decide_true, decide_false, Bool.not_true, Bool.not_false, Bool.and_true, Bool.true_and, Bool.and_false, Bool.false_and, Bool.or_true, Bool.or_false, Bool.true_or, Bool.false_or, List.cons.injEq, and_true, true_and, and_false, false_and, and_self, ne_eq, not_true_eq_false, not_false_eq_true, reduceCtorEq, List.nil_append, List.cons_append, List.append_nil, List.append_assoc, g3, g5, Option.isSome_none, quoted_ok _ hl]
    · unfold m__law_target_words d__law_target_words
      simp only [e_rdDat, e_rdOwn, e_at0, e_atS, e_pu0, e_puS, e_var, e_c, e_op2, e_op2R, e_op2S, e_op1, e_op1S, e_opA, e_opAS, e_ofS, e_ofN, e_dB, e_toBS, e_and, e_andT, e_andF, e_or, e_orT, e_orF, e_not, e_notT, e_notF, e_notB, e_andV, e_andVT, e_andVF, e_orV, e_orVT, e_orVF, e_notV, e_notVB, e_ifE, e_ifET, e_ifEF, e_nil, e_cons, e_consR, e_consS, e_cleanN, e_cleanC, e_oN, e_oB, e_oI, e_oS, e_oT, e_oL, e_oSL, e_oOb, e_nf, e_tt, e_tup, e_tupR, e_tupB, e_items, e_itemsR, e_itemsB, e_fix, e_fixR, e_cat, e_catR, e_appN, e_appC, e_catB, e_catLL, e_catOL, e_catLO, e_catOO, e_call, e_callR, e_callB0, e_callB1, e_callB2, e_callB3, e_callB4, e_callB5, e_seq, e_seqN, e_seqR, e_seqB, e_seqC, e_seqX, e_skip, e_break, e_cont, e_set, e_setR, e_setX, e_setB, e_own, e_ownR, e_asg, e_asgR, e_nxO, e_tgT, e_putN, e_putC, e_tgN, e_tgB, e_drop, e_dropR, e_ret, e_retR, e_retX, e_retB, e_retN, e_if, e_ifT, e_ifF, e_app, e_appR, e_appB, e_frz, e_frzO, e_frzD, e_frzU, e_for, e_forR, e_forN, e_forC, e_turnB, e_turnN, e_turnC, e_turnK, e_turnR, e_turnX, e_it, e_itR, e_itA, e_itAR, e_asLst, e_asSlst, e_asTup, e_asStr, e_raise, e_run, e_endN, e_endR, e_endX, e_stC, e_st0, e_stS, e_addI, e_addS, e_addB, e_addLL, e_addOL, e_addLO, e_addOO, e_sub, e_mul, e_mod, e_div, e_neg, e_cmp, e_eqI, e_eqS, e_eqB, e_id, e_n1, e_isN, e_isI, e_isS, e_isT, e_isL, e_isB, e_isnN, e_isnI, e_isnS, e_isnT, e_isnL, e_isnB, e_ixS, e_ixT, e_ixL, e_ixSL, e_ixO, e_at_0, e_at_1, e_at_2, e_sg, e_lenS, e_lenT, e_lenL, e_lenSL, e_lenO, e_int, e_intT, e_intF, e_str, e_min, e_max, e_abs, e_m1, e_m1R, e_m1S, e_joinL, e_joinO, e_joinT, e_joinB, e_txN, e_txC, e_txS, e_isiS, e_isiL, e_isiTu, e_rep, e_replS, e_tabG, e_mpS, e_tabI, e_inS, e_sl, e_slR, e_slS, e_slT, e_oNone, e_oSome, e_oRI, e_slStr, e_slL, e_slSL, e_slO, e_lc, e_ca0, e_ca1, e_ca2, e_ca3, e_ca4, e_ca5, e_ca6, e_ca7, e_ca8, e_ca9, e_ca10, e_ca11, e_ca12, e_scS, e_scI, e_scB, e_scN, e_allN, e_allC, e_inN, e_inC, e_eqFS, e_eqFI, e_inST, e_inIT, e_index, e_spR, e_mg, e_mgS, e_smN, e_smC, eq_self, Nat.reduceLT, Nat.reduceGT, Nat.reduceAdd, Nat.reduceMul, Nat.reduceSub, Nat.reduceLeDiff, Nat.reduceEqDiff, Int.reduceLT, Int.reduceLE, Int.reduceEq, Int.reduceAdd, Int.reduceSub, Int.reduceMul, Int.reduceMod, Int.reduceDiv, Int.reduceNeg, Nat.zero_le, Nat.le_refl, List.length_cons, List.length_nil, ite_true, ite_false, if_true, if_false, decide_true, decide_false, Bool.not_true, Bool.not_false, Bool.and_true, Bool.true_and, Bool.and_false, Bool.false_and, Bool.or_true, Bool.or_false, Bool.true_or, Bool.false_or, List.cons.injEq, and_true, true_and, and_false, false_and, and_self, ne_eq, not_true_eq_false, not_false_eq_true, reduceCtorEq, List.nil_append, List.cons_append, List.append_nil, List.append_assoc, lawquoted_ok _ hl]

/-! ### what is typed -/
abbrev Vs : List (List Nat) := [L10, L36, L35, L29, L34, L33, L32, L31, L30, L28, L25, L37, L24, L23, L9, L43, L42, L41, L40, L39, L38, L22, L26]
def Kind (v y : List Nat) : Prop := (v = [] ∧ y = []) ∨ (v ∈ [L29, L28, L25, L26] ∧ y.length ≤ 20) ∨ (v = L9 ∧ y ∈ [[115], [114], [98]]) ∨ (v ∈ [L36, L35, L34, L33, L32, L31, L30, L37, L24, L23, L43, L42, L41, L40, L39, L38, L22] ∧ (y = [] ∨ ∃ c, y = [c]))
theorem typed_ok (v : List Nat) (hv : v ∈ Vs) (n : Int) : ∃ y, Kind v y ∧ m__law_typed [.str v, .int n] = .ok (.str y) := by
  obtain ⟨l, hl, el⟩ := signs_ok (n / 11) (n / 5 % 9) (by omega) (by omega)
  obtain ⟨c, ec⟩ := letter_ok n
  obtain ⟨d, hd, ed⟩ := at_in L21 (n % 3) (by omega) (by show n % 3 < 3; omega)
  have r1 : (rpl [10] [126] l).length ≤ 20 := by
    rw [rpl_one]
    have := len_flat (f := fun x => if x = 10 then [126] else [x]) (fun x => by split <;> simp) l
    omega
  have r2 : (rpl [10] [] l).length ≤ 18 := by
    rw [rpl_one]
    have := len_flat (f := fun x => if x = 10 then [] else [x]) (fun x => by split <;> simp) l
    omega
  obtain ⟨z, ez⟩ : ∃ z, atI (rpl [10] [] l ++ [92]) 0 = some z := by
    cases rpl [10] [] l with
    | nil => exact ⟨92, rfl⟩
    | cons a r => exact ⟨a, e_at_0 ..⟩
  have q1 : (l.length + (l.length + 1) * 1 ≤ 1000000) = True := eq_true (by omega)
  have q2 : (l.length + (l.length + 1) * 0 ≤ 1000000) = True := eq_true (by omega)
  have q3 : ((rpl [10] [] l).length + 1 ≤ 1000000) = True := eq_true (by omega)
  have q4 : ((rpl [10] [] l ++ [92]).length ≤ 1000000) = True := eq_true (by rw [List.length_append, List.length_singleton]; omega)
  unfold m__law_typed d__law_typed
  have hv' : v = L29 ∨ v = L28 ∨ v = L26 ∨ v = L25 ∨ (v = L24 ∨ v = L23 ∨ v = L22) ∨ v = L9 ∨ v = L10 ∨ (v ∈ [L36, L35, L34, L33, L32, L31, L30, L37, L43, L42, L41, L40, L39, L38]) := by
    revert v
    decide
  rcases hv' with rfl | rfl | rfl | rfl | h | rfl | rfl | h
  · exact ⟨l, .inr (.inl ⟨by decide, by omega⟩), by simp only [e_rdDat, e_rdOwn, e_at0, e_atS, e_pu0, e_puS, e_var, e_c, e_op2, e_op2R, e_op2S, e_op1, e_op1S, e_opA, e_opAS, e_ofS, e_ofN, e_dB, e_toBS, e_and, e_andT, e_andF, e_or, e_orT, e_orF, e_not, e_notT, e_notF, e_notB, e_andV, e_andVT, e_andVF, e_orV, e_orVT, e_orVF, e_notV, e_notVB, e_ifE, e_ifET, e_ifEF, e_nil, e_cons, e_consR, e_consS, e_cleanN, e_cleanC, e_oN, e_oB, e_oI, e_oS, e_oT, e_oL, e_oSL, e_oOb, e_nf, e_tt, e_tup, e_tupR, e_tupB, e_items, e_itemsR, e_itemsB, e_fix, e_fixR, e_cat, e_catR, e_appN, e_appC, e_catB, e_catLL, e_catOL, e_catLO, e_catOO, e_call, e_callR, e_callB0, e_callB1, e_callB2, e_callB3, e_callB4, e_callB5, e_seq, e_seqN, e_seqR, e_seqB, e_seqC, e_seqX, e_skip, e_break, e_cont, e_set, e_setR, e_setX, e_setB, e_own, e_ownR, e_asg, e_asgR, e_nxO, e_tgT, e_putN, e_putC, e_tgN, e_tgB, e_drop, e_dropR, e_ret, e_retR, e_retX, e_retB, e_retN, e_if, e_ifT, e_ifF, e_app, e_appR, e_appB, e_frz, e_frzO, e_frzD, e_frzU, e_for, e_forR, e_forN, e_forC, e_turnB, e_turnN, e_turnC, e_turnK, e_turnR, e_turnX, e_it, e_itR, e_itA, e_itAR, e_asLst, e_asSlst, e_asTup, e_asStr, e_raise, e_run, e_endN, e_endR, e_endX, e_stC, e_st0, e_stS, e_addI, e_addS, e_addB, e_addLL, e_addOL, e_addLO, e_addOO, e_sub, e_mul, e_mod, e_div, e_neg, e_cmp, e_eqI, e_eqS, e_eqB, e_id, e_n1, e_isN, e_isI, e_isS, e_isT, e_isL, e_isB, e_isnN, e_isnI, e_isnS, e_isnT, e_isnL, e_isnB, e_ixS, e_ixT, e_ixL, e_ixSL, e_ixO, e_at_0, e_at_1, e_at_2, e_sg, e_lenS, e_lenT, e_lenL, e_lenSL, e_lenO, e_int, e_intT, e_intF, e_str, e_min, e_max, e_abs, e_m1, e_m1R, e_m1S, e_joinL, e_joinO, e_joinT, e_joinB, e_txN, e_txC, e_txS, e_isiS, e_isiL, e_isiTu, e_rep, e_replS, e_tabG, e_mpS, e_tabI, e_inS, e_sl, e_slR, e_slS, e_slT, e_oNone, e_oSome, e_oRI, e_slStr, e_slL, e_slSL, e_slO, e_lc, e_ca0, e_ca1, e_ca2, e_ca3, e_ca4, e_ca5, e_ca6, e_ca7, e_ca8, e_ca9, e_ca10, e_ca11, e_ca12, e_scS, e_scI, e_scB, e_scN, e_allN, e_allC, e_inN, e_inC, e_eqFS, e_eqFI, e_inST, e_inIT, e_index, e_spR, e_mg, e_mgS, e_smN, e_smC, eq_self, Nat.reduceLT, Nat.reduceGT, Nat.reduceAdd, Nat.reduceMul, Nat.reduceSub, Nat.reduceLeDiff, Nat.reduceEqDiff, Int.reduceLT, Int.reduceLE, Int.reduceEq, Int.reduceAdd, Int.reduceSub, Int.reduceMul, Int.reduceMod, Int.reduceDiv, Int.reduceNeg, Nat.zero_le, Nat.le_refl, List.length_cons, List.length_nil, ite_true, ite_false, if_true, if_false, decide_true, decide_false, Bool.not_true, Bool.not_false, Bool.and_true, Bool.true_and, Bool.and_false, Bool.false_and, Bool.or_true, Bool.or_false, Bool.true_or, Bool.false_or, List.cons.injEq, and_true, true_and, and_false, false_and, and_self, ne_eq, not_true_eq_false, not_false_eq_true, reduceCtorEq, List.nil_append, List.cons_append, List.append_nil, List.append_assoc, el]⟩
  · exact ⟨l, .inr (.inl ⟨by decide, by omega⟩), by simp only [e_rdDat, e_rdOwn, e_at0, e_atS, e_pu0, e_puS, e_var, e_c, e_op2, e_op2R, e_op2S, e_op1, e_op1S, e_opA, e_opAS, e_ofS, e_ofN, e_dB, e_toBS, e_and, e_andT, e_andF, e_or, e_orT, e_orF, e_not, e_notT, e_notF, e_notB, e_andV, e_andVT, e_andVF, e_orV, e_orVT, e_orVF, e_notV, e_notVB, e_ifE, e_ifET, e_ifEF, e_nil, e_cons, e_consR, e_consS, e_cleanN, e_cleanC, e_oN, e_oB, e_oI, e_oS, e_oT, e_oL, e_oSL, e_oOb, e_nf, e_tt, e_tup, e_tupR, e_tupB, e_items, e_itemsR, e_itemsB, e_fix, e_fixR, e_cat, e_catR, e_appN, e_appC, e_catB, e_catLL, e_catOL, e_catLO, e_catOO, e_call, e_callR, e_callB0, e_callB1, e_callB2, e_callB3, e_callB4, e_callB5, e_seq, e_seqN, e_seqR, e_seqB, e_seqC, e_seqX, e_skip, e_break, e_cont, e_set, e_setR, e_setX, e_setB, e_own, e_ownR, e_asg, e_asgR, e_nxO, e_tgT, e_putN, e_putC, e_tgN, e_tgB, e_drop, e_dropR, e_ret, e_retR, e_retX, e_retB, e_retN, e_if, e_ifT, e_ifF, e_app, e_appR, e_appB, e_frz, e_frzO, e_frzD, e_frzU, e_for, e_forR, e_forN, e_forC, e_turnB, e_turnN, e_turnC, e_turnK, e_turnR, e_turnX, e_it, e_itR, e_itA, e_itAR, e_asLst, e_asSlst, e_asTup, e_asStr, e_raise, e_run, e_endN, e_endR, e_endX, e_stC, e_st0, e_stS, e_addI, e_addS, e_addB, e_addLL, e_addOL, e_addLO, e_addOO, e_sub, e_mul, e_mod, e_div, e_neg, e_cmp, e_eqI, e_eqS, e_eqB, e_id, e_n1, e_isN, e_isI, e_isS, e_isT, e_isL, e_isB, e_isnN, e_isnI, e_isnS, e_isnT, e_isnL, e_isnB, e_ixS, e_ixT, e_ixL, e_ixSL, e_ixO, e_at_0, e_at_1, e_at_2, e_sg, e_lenS, e_lenT, e_lenL, e_lenSL, e_lenO, e_int, e_intT, e_intF, e_str, e_min, e_max, e_abs, e_m1, e_m1R, e_m1S, e_joinL, e_joinO, e_joinT, e_joinB, e_txN, e_txC, e_txS, e_isiS, e_isiL, e_isiTu, e_rep, e_replS, e_tabG, e_mpS, e_tabI, e_inS, e_sl, e_slR, e_slS, e_slT, e_oNone, e_oSome, e_oRI, e_slStr, e_slL, e_slSL, e_slO, e_lc, e_ca0, e_ca1, e_ca2, e_ca3, e_ca4, e_ca5, e_ca6, e_ca7, e_ca8, e_ca9, e_ca10, e_ca11, e_ca12, e_scS, e_scI, e_scB, e_scN, e_allN, e_allC, e_inN, e_inC, e_eqFS, e_eqFI, e_inST, e_inIT, e_index, e_spR, e_mg, e_mgS, e_smN, e_smC, eq_self, Nat.reduceLT, Nat.reduceGT, Nat.reduceAdd, Nat.reduceMul, Nat.reduceSub, Nat.reduceLeDiff, Nat.reduceEqDiff, Int.reduceLT, Int.reduceLE, Int.reduceEq, Int.reduceAdd, Int.reduceSub, Int.reduceMul, Int.reduceMod, Int.reduceDiv, Int.reduceNeg, Nat.zero_le, Nat.le_refl, List.length_cons, List.length_nil, ite_true, ite_false, if_true, if_false, decide_true, decide_false, Bool.not_true, Bool.not_false, Bool.and_true, Bool.true_and, Bool.and_false, Bool.false_and, Bool.or_true, Bool.or_false, Bool.true_or, Bool.false_or, List.cons.injEq, and_true, true_and, and_false, false_and, and_self, ne_eq, not_true_eq_false, not_false_eq_true, reduceCtorEq, List.nil_append, List.cons_append, List.append_nil, List.append_assoc, el]⟩
  · exact ⟨_, .inr (.inl ⟨by decide, r1⟩), by simp only [e_rdDat, e_rdOwn, e_at0, e_atS, e_pu0, e_puS, e_var, e_c, e_op2, e_op2R, e_op2S, e_op1, e_op1S, e_opA, e_opAS, e_ofS, e_ofN, e_dB, e_toBS, e_and, e_andT, e_andF, e_or, e_orT, e_orF, e_not, e_notT, e_notF, e_notB, e_andV, e_andVT, e_andVF, e_orV, e_orVT, e_orVF, e_notV, e_notVB, e_ifE, e_ifET, e_ifEF, e_nil, e_cons, e_consR, e_consS, e_cleanN, e_cleanC, e_oN, e_oB, e_oI, e_oS, e_oT, e_oL, e_oSL, e_oOb, e_nf, e_tt, e_tup, e_tupR, e_tupB, e_items, e_itemsR, e_itemsB, e_fix, e_fixR, e_cat, e_catR, e_appN, e_appC, e_catB, e_catLL, e_catOL, e_catLO, e_catOO, e_call, e_callR, e_callB0, e_callB1, e_callB2, e_callB3, e_callB4, e_callB5, e_seq, e_seqN, e_seqR, e_seqB, e_seqC, e_seqX, e_skip, e_break, e_cont, e_set, e_setR, e_setX, e_setB, e_own, e_ownR, e_asg, e_asgR, e_nxO, e_tgT, e_putN, e_putC, e_tgN, e_tgB, e_drop, e_dropR, e_ret, e_retR, e_retX, e_retB, e_retN, e_if, e_ifT, e_ifF, e_app, e_appR, e_appB, e_frz, e_frzO, e_frzD, e_frzU, e_for, e_forR, e_forN, e_forC, e_turnB, e_turnN, e_turnC, e_turnK, e_turnR, e_turnX, e_it, e_itR, e_itA, e_itAR, e_asLst, e_asSlst, e_asTup, e_asStr, e_raise, e_run, e_endN, e_endR, e_endX, e_stC, e_st0, e_stS, e_addI, e_addS, e_addB, e_addLL, e_addOL, e_addLO, e_addOO, e_sub, e_mul, e_mod, e_div, e_neg, e_cmp, e_eqI, e_eqS, e_eqB, e_id, e_n1, e_isN, e_isI, e_isS, e_isT, e_isL, e_isB, e_isnN, e_isnI, e_isnS, e_isnT, e_isnL, e_isnB, e_ixS, e_ixT, e_ixL, e_ixSL, e_ixO, e_at_0, e_at_1, e_at_2, e_sg, e_lenS, e_lenT, e_lenL, e_lenSL, e_lenO, e_int, e_intT, e_intF, e_str, e_min, e_max, e_abs, e_m1, e_m1R, e_m1S, e_joinL, e_joinO, e_joinT, e_joinB, e_txN, e_txC, e_txS, e_isiS, e_isiL, e_isiTu, e_rep, e_replS, e_tabG, e_mpS, e_tabI, e_inS, e_sl, e_slR, e_slS, e_slT, e_oNone, e_oSome, e_oRI, e_slStr, e_slL, e_slSL, e_slO, e_lc, e_ca0, e_ca1, e_ca2, e_ca3, e_ca4, e_ca5, e_ca6, e_ca7, e_ca8, e_ca9, e_ca10, e_ca11, e_ca12, e_scS, e_scI, e_scB, e_scN, e_allN, e_allC, e_inN, e_inC, e_eqFS, e_eqFI, e_inST, e_inIT, e_index, e_spR, e_mg, e_mgS, e_smN, e_smC, eq_self, Nat.reduceLT, Nat.reduceGT, Nat.reduceAdd, Nat.reduceMul, Nat.reduceSub, Nat.reduceLeDiff, Nat.reduceEqDiff, Int.reduceLT, Int.reduceLE, Int.reduceEq, Int.reduceAdd, Int.reduceSub, Int.reduceMul, Int.reduceMod, Int.reduceDiv, Int.reduceNeg, Nat.zero_le, Nat.le_refl, List.length_cons, List.length_nil, ite_true, ite_false, if_true, if_false, decide_true, decide_false, Bool.not_true, Bool.not_false, Bool.and_true, Bool.true_and, Bool.and_false, Bool.false_and, Bool.or_true, Bool.or_false, Bool.true_or, Bool.false_or, List.cons.injEq, and_true, true_and, and_false, false_and, and_self, ne_eq, not_true_eq_false, not_false_eq_true, reduceCtorEq, List.nil_append, List.cons_append, List.append_nil, List.append_assoc, e_rep, el, q1]⟩
  · exact ⟨[z], .inr (.inl ⟨by decide, by simp⟩), by simp only [e_rdDat, e_rdOwn, e_at0, e_atS, e_pu0, e_puS, e_var, e_c, e_op2, e_op2R, e_op2S, e_op1, e_op1S, e_opA, e_opAS, e_ofS, e_ofN, e_dB, e_toBS, e_and, e_andT, e_andF, e_or, e_orT, e_orF, e_not, e_notT, e_notF, e_notB, e_andV, e_andVT, e_andVF, e_orV, e_orVT, e_orVF, e_notV, e_notVB, e_ifE, e_ifET, e_ifEF, e_nil, e_cons, e_consR, e_consS, e_cleanN, e_cleanC, e_oN, e_oB, e_oI, e_oS, e_oT, e_oL, e_oSL, e_oOb, e_nf, e_tt, e_tup, e_tupR, e_tupB, e_items, e_itemsR, e_itemsB, e_fix, e_fixR, e_cat, e_catR, e_appN, e_appC, e_catB, e_catLL, e_catOL, e_catLO, e_catOO, e_call, e_callR, e_callB0, e_callB1, e_callB2, e_callB3, e_callB4, e_callB5, e_seq, e_seqN, e_seqR, e_seqB, e_seqC, e_seqX, e_skip, e_break, e_cont, e_set, e_setR, e_setX, e_setB, e_own, e_ownR, e_asg, e_asgR, e_nxO, e_tgT, e_putN, e_putC, e_tgN, e_tgB, e_drop, e_dropR, e_ret, e_retR, e_retX, e_retB, e_retN, e_if, e_ifT, e_ifF, e_app, e_appR, e_appB, e_frz, e_frzO, e_frzD, e_frzU, e_for, e_forR, e_forN, e_forC, e_turnB, e_turnN, e_turnC, e_turnK, e_turnR, e_turnX, e_it, e_itR, e_itA, e_itAR, e_asLst, e_asSlst, e_asTup, e_asStr, e_raise, e_run, e_endN, e_endR, e_endX, e_stC, e_st0, e_stS, e_addI, e_addS, e_addB, e_addLL, e_addOL, e_addLO, e_addOO, e_sub, e_mul, e_mod, e_div, e_neg, e_cmp, e_eqI, e_eqS, e_eqB, e_id, e_n1, e_isN, e_isI, e_isS, e_isT, e_isL, e_isB, e_isnN, e_isnI, e_isnS, e_isnT, e_isnL, e_isnB, e_ixS, e_ixT, e_ixL, e_ixSL, e_ixO, e_at_0, e_at_1, e_at_2, e_sg, e_lenS, e_lenT, e_lenL, e_lenSL, e_lenO, e_int, e_intT, e_intF, e_str, e_min, e_max, e_abs, e_m1, e_m1R, e_m1S, e_joinL, e_joinO, e_joinT, e_joinB, e_txN, e_txC, e_txS, e_isiS, e_isiL, e_isiTu, e_rep, e_replS, e_tabG, e_mpS, e_tabI, e_inS, e_sl, e_slR, e_slS, e_slT, e_oNone, e_oSome, e_oRI, e_slStr, e_slL, e_slSL, e_slO, e_lc, e_ca0, e_ca1, e_ca2, e_ca3, e_ca4, e_ca5, e_ca6, e_ca7, e_ca8, e_ca9, e_ca10, e_ca11, e_ca12, e_scS, e_scI, e_scB, e_scN, e_allN, e_allC, e_inN, e_inC, e_eqFS, e_eqFI, e_inST, e_inIT, e_index, e_spR, e_mg, e_mgS, e_smN, e_smC, eq_self, Nat.reduceLT, Nat.reduceGT, Nat.reduceAdd, Nat.reduceMul, Nat.reduceSub, Nat.reduceLeDiff, Nat.reduceEqDiff, Int.reduceLT, Int.reduceLE, Int.reduceEq, Int.reduceAdd, Int.reduceSub, Int.reduceMul, Int.reduceMod, Int.reduceDiv, Int.reduceNeg, Nat.zero_le, Nat.le_refl, List.length_cons, List.length_nil, ite_true, ite_false, if_true, if_false, decide_true, decide_false, Bool.not_true, Bool.not_false, Bool.and_true, Bool.true_and, Bool.and_false, Bool.false_and, Bool.or_true, Bool.or_false, Bool.true_or, Bool.false_or, List.cons.injEq, and_true, true_and, and_false, false_and, and_self, ne_eq, not_true_eq_false, not_false_eq_true, reduceCtorEq, List.nil_append, List.cons_append, List.append_nil, List.append_assoc, e_rep, el, q2, q3, q4, ez]⟩
  · rcases h with rfl | rfl | rfl
    · exact ⟨[c], .inr (.inr (.inr ⟨by decide, .inr ⟨c, rfl⟩⟩)), by simp only [e_rdDat, e_rdOwn, e_at0, e_atS, e_pu0, e_puS, e_var, e_c, e_op2, e_op2R, e_op2S, e_op1, e_op1S, e_opA, e_opAS, e_ofS, e_ofN, e_dB, e_toBS, e_and, e_andT, e_andF, e_or, e_orT, e_orF, e_not, e_notT, e_notF, e_notB, e_andV, e_andVT, e_andVF, e_orV, e_orVT, e_orVF, e_notV, e_notVB, e_ifE, e_ifET, e_ifEF, e_nil, e_cons, e_consR, e_consS, e_cleanN, e_cleanC, e_oN, e_oB, e_oI, e_oS, e_oT, e_oL, e_oSL, e_oOb, e_nf, e_tt, e_tup, e_tupR, e_tupB, e_items, e_itemsR, e_itemsB, e_fix, e_fixR, e_cat, e_catR, e_appN, e_appC, e_catB, e_catLL, e_catOL, e_catLO, e_catOO, e_call, e_callR, e_callB0, e_callB1, e_callB2, e_callB3, e_callB4, e_callB5, e_seq, e_seqN, e_seqR, e_seqB, e_seqC, e_seqX, e_skip, e_break, e_cont, e_set, e_setR, e_setX, e_setB, e_own, e_ownR, e_asg, e_asgR, e_nxO, e_tgT, e_putN, e_putC, e_tgN, e_tgB, e_drop, e_dropR, e_ret, e_retR, e_retX, e_retB, e_retN, e_if, e_ifT, e_ifF, e_app, e_appR, e_appB, e_frz, e_frzO, e_frzD, e_frzU, e_for, e_forR, e_forN, e_forC, e_turnB, e_turnN, e_turnC, e_turnK, e_turnR, e_turnX, e_it, e_itR, e_itA, e_itAR, e_asLst, e_asSlst, e_asTup, e_asStr, e_raise, e_run, e_endN, e_endR, e_endX, e_stC, e_st0, e_stS, e_addI, e_addS, e_addB, e_addLL, e_addOL, e_addLO, e_addOO, e_sub, e_mul, e_mod, e_div, e_neg, e_cmp, e_eqI, e_eqS, e_eqB, e_id, e_n1, e_isN, e_isI, e_isS, e_isT, e_isL, e_isB, e_isnN, e_isnI, e_isnS, e_isnT, e_isnL, e_isnB, e_ixS, e_ixT, e_ixL, e_ixSL, e_ixO, e_at_0, e_at_1, e_at_2, e_sg, e_lenS, e_lenT, e_lenL, e_lenSL, e_lenO, e_int, e_intT, e_intF, e_str, e_min, e_max, e_abs, e_m1, e_m1R, e_m1S, e_joinL, e_joinO, e_joinT, e_joinB, e_txN, e_txC, e_txS, e_isiS, e_isiL, e_isiTu, e_rep, e_replS, e_tabG, e_mpS, e_tabI, e_inS, e_sl, e_slR, e_slS, e_slT, e_oNone, e_oSome, e_oRI, e_slStr, e_slL, e_slSL, e_slO, e_lc, e_ca0, e_ca1, e_ca2, e_ca3, e_ca4, e_ca5, e_ca6, e_ca7, e_ca8, e_ca9, e_ca10, e_ca11, e_ca12, e_scS, e_scI, e_scB, e_scN, e_allN, e_allC, e_inN, e_inC, e_eqFS, e_eqFI, e_inST, e_inIT, e_index, e_spR, e_mg, e_mgS, e_smN, e_smC, eq_self, Nat.reduceLT, Nat.reduceGT, Nat.reduceAdd, Nat.reduceMul, Nat.reduceSub, Nat.reduceLeDiff, Nat.reduceEqDiff, Int.reduceLT, Int.reduceLE, Int.reduceEq, Int.reduceAdd, Int.reduceSub, Int.reduceMul, Int.reduceMod, Int.reduceDiv, Int.reduceNeg, Nat.zero_le, Nat.le_refl, List.length_cons, List.length_nil, ite_true, ite_false, if_true, if_false, decide_true, decide_false, Bool.not_true, Bool.not_false, Bool.and_true, Bool.true_and, Bool.and_false, Bool.false_and, Bool.or_true, Bool.or_false, Bool.true_or, Bool.false_or, List.cons.injEq, and_true, true_and, and_false, false_and, and_self, ne_eq, not_true_eq_false, not_false_eq_true, reduceCtorEq, List.nil_append, List.cons_append, List.append_nil, List.append_assoc, el, ec]⟩
    · exact ⟨[c], .inr (.inr (.inr ⟨by decide, .inr ⟨c, rfl⟩⟩)), by simp only [e_rdDat, e_rdOwn, e_at0, e_atS, e_pu0, e_puS, e_var, e_c, e_op2, e_op2R, e_op2S, e_op1, e_op1S, e_opA, e_opAS, e_ofS, e_ofN, e_dB, e_toBS, e_and, e_andT, e_andF, e_or, e_orT, e_orF, e_not, e_notT, e_notF, e_notB, e_andV, e_andVT, e_andVF, e_orV, e_orVT, e_orVF, e_notV, e_notVB, e_ifE, e_ifET, e_ifEF, e_nil, e_cons, e_consR, e_consS, e_cleanN, e_cleanC, e_oN, e_oB, e_oI, e_oS, e_oT, e_oL, e_oSL, e_oOb, e_nf, e_tt, e_tup, e_tupR, e_tupB, e_items, e_itemsR, e_itemsB, e_fix, e_fixR, e_cat, e_catR, e_appN, e_appC, e_catB, e_catLL, e_catOL, e_catLO, e_catOO, e_call, e_callR, e_callB0, e_callB1, e_callB2, e_callB3, e_callB4, e_callB5, e_seq, e_seqN, e_seqR, e_seqB, e_seqC, e_seqX, e_skip, e_break, e_cont, e_set, e_setR, e_setX, e_setB, e_own, e_ownR, e_asg, e_asgR, e_nxO, e_tgT, e_putN, e_putC, e_tgN, e_tgB, e_drop, e_dropR, e_ret, e_retR, e_retX, e_retB, e_retN, e_if, e_ifT, e_ifF, e_app, e_appR, e_appB, e_frz, e_frzO, e_frzD, e_frzU, e_for, e_forR, e_forN, e_forC, e_turnB, e_turnN, e_turnC, e_turnK, e_turnR, e_turnX, e_it, e_itR, e_itA, e_itAR, e_asLst, e_asSlst, e_asTup, e_asStr, e_raise, e_run, e_endN, e_endR, e_endX, e_stC, e_st0, e_stS, e_addI, e_addS, e_addB, e_addLL, e_addOL, e_addLO, e_addOO, e_sub, e_mul, e_mod, e_div, e_neg, e_cmp, e_eqI, e_eqS, e_eqB, e_id, e_n1, e_isN, e_isI, e_isS, e_isT, e_isL, e_isB, e_isnN, e_isnI, e_isnS, e_isnT, e_isnL, e_isnB, e_ixS, e_ixT, e_ixL, e_ixSL, e_ixO, e_at_0, e_at_1, e_at_2, e_sg, e_lenS, e_lenT, e_lenL, e_lenSL, e_lenO, e_int, e_intT, e_intF, e_str, e_min, e_max, e_abs, e_m1, e_m1R, e_m1S, e_joinL, e_joinO, e_joinT, e_joinB, e_txN, e_txC, e_txS, e_isiS, e_isiL, e_isiTu, e_rep, e_replS, e_tabG, e_mpS, e_tabI, e_inS, e_sl, e_slR, e_slS, e_slT, e_oNone, e_oSome, e_oRI, e_slStr, e_slL, e_slSL, e_slO, e_lc, e_ca0, e_ca1, e_ca2, e_ca3, e_ca4, e_ca5, e_ca6, e_ca7, e_ca8, e_ca9, e_ca10, e_ca11, e_ca12, e_scS, e_scI, e_scB, e_scN, e_allN, e_allC, e_inN, e_inC, e_eqFS, e_eqFI, e_inST, e_inIT, e_index, e_spR, e_mg, e_mgS, e_smN, e_smC, eq_self, Nat.reduceLT, Nat.reduceGT, Nat.reduceAdd, Nat.reduceMul, Nat.reduceSub, Nat.reduceLeDiff, Nat.reduceEqDiff, Int.reduceLT, Int.reduceLE, Int.reduceEq, Int.reduceAdd, Int.reduceSub, Int.reduceMul, Int.reduceMod, Int.reduceDiv, Int.reduceNeg, Nat.zero_le, Nat.le_refl, List.length_cons, List.length_nil, ite_true, ite_false, if_true, if_false, decide_true, decide_false, Bool.not_true, Bool.not_false, Bool.and_true, Bool.true_and, Bool.and_false, Bool.false_and, Bool.or_true, Bool.or_false, Bool.true_or, Bool.false_or, List.cons.injEq, and_true, true_and, and_false, false_and, and_self, ne_eq, not_true_eq_false, not_false_eq_true, reduceCtorEq, List.nil_append, List.cons_append, List.append_nil, List.append_assoc, el, ec]⟩
    · exact ⟨[c], .inr (.inr (.inr ⟨by decide, .inr ⟨c, rfl⟩⟩)), by simp only [e_rdDat, e_rdOwn, e_at0, e_atS, e_pu0, e_puS, e_var, e_c, e_op2, e_op2R, e_op2S, e_op1, e_op1S, e_opA, e_opAS, e_ofS, e_ofN, e_dB, e_toBS, e_and, e_andT, e_andF, e_or, e_orT, e_orF, e_not, e_notT, e_notF, e_notB, e_andV, e_andVT, e_andVF, e_orV, e_orVT, e_orVF, e_notV, e_notVB, e_ifE, e_ifET, e_ifEF, e_nil, e_cons, e_consR, e_consS, e_cleanN, e_cleanC, e_oN, e_oB, e_oI, e_oS, e_oT, e_oL, e_oSL, e_oOb, e_nf, e_tt, e_tup, e_tupR, e_tupB, e_items, e_itemsR, e_itemsB, e_fix, e_fixR, e_cat, e_catR, e_appN, e_appC, e_catB, e_catLL, e_catOL, e_catLO, e_catOO, e_call, e_callR, e_callB0, e_callB1, e_callB2, e_callB3, e_callB4, e_callB5, e_seq, e_seqN, e_seqR, e_seqB, e_seqC, e_seqX, e_skip, e_break, e_cont, e_set, e_setR, e_setX, e_setB, e_own, e_ownR, e_asg, e_asgR, e_nxO, e_tgT, e_putN, e_putC, e_tgN, e_tgB, e_drop, e_dropR, e_ret, e_retR, e_retX, e_retB, e_retN, e_if, e_ifT, e_ifF, e_app, e_appR, e_appB, e_frz, e_frzO, e_frzD, e_frzU, e_for, e_forR, e_forN, e_forC, e_turnB, e_turnN, e_turnC, e_turnK, e_turnR, e_turnX, e_it, e_itR, e_itA, e_itAR, e_asLst, e_asSlst, e_asTup, e_asStr, e_raise, e_run, e_endN, e_endR, e_endX, e_stC, e_st0, e_stS, e_addI, e_addS, e_addB, e_addLL, e_addOL, e_addLO, e_addOO, e_sub, e_mul, e_mod, e_div, e_neg, e_cmp, e_eqI, e_eqS, e_eqB, e_id, e_n1, e_isN, e_isI, e_isS, e_isT, e_isL, e_isB, e_isnN, e_isnI, e_isnS, e_isnT, e_isnL, e_isnB, e_ixS, e_ixT, e_ixL, e_ixSL, e_ixO, e_at_0, e_at_1, e_at_2, e_sg, e_lenS, e_lenT, e_lenL, e_lenSL, e_lenO, e_int, e_intT, e_intF, e_str, e_min, e_max, e_abs, e_m1, e_m1R, e_m1S, e_joinL, e_joinO, e_joinT, e_joinB, e_txN, e_txC, e_txS, e_isiS, e_isiL, e_isiTu, e_rep, e_replS, e_tabG, e_mpS, e_tabI, e_inS, e_sl, e_slR, e_slS, e_slT, e_oNone, e_oSome, e_oRI, e_slStr, e_slL, e_slSL, e_slO, e_lc, e_ca0, e_ca1, e_ca2, e_ca3, e_ca4, e_ca5, e_ca6, e_ca7, e_ca8, e_ca9, e_ca10, e_ca11, e_ca12, e_scS, e_scI, e_scB, e_scN, e_allN, e_allC, e_inN, e_inC, e_eqFS, e_eqFI, e_inST, e_inIT, e_index, e_spR, e_mg, e_mgS, e_smN, e_smC, eq_self, Nat.reduceLT, Nat.reduceGT, Nat.reduceAdd, Nat.reduceMul, Nat.reduceSub, Nat.reduceLeDiff, Nat.reduceEqDiff, Int.reduceLT, Int.reduceLE, Int.reduceEq, Int.reduceAdd, Int.reduceSub, Int.reduceMul, Int.reduceMod, Int.reduceDiv, Int.reduceNeg, Nat.zero_le, Nat.le_refl, List.length_cons, List.length_nil, ite_true, ite_false, if_true, if_false, decide_true, decide_false, Bool.not_true, Bool.not_false, Bool.and_true, Bool.true_and, Bool.and_false, Bool.false_and, Bool.or_true, Bool.or_false, Bool.true_or, Bool.false_or, List.cons.injEq, and_true, true_and, and_false, false_and, and_self, ne_eq, not_true_eq_false, not_false_eq_true, reduceCtorEq, List.nil_append, List.cons_append, List.append_nil, List.append_assoc, el, ec]⟩
  · have hd' : [d] ∈ [[115], [114], [98]] := (by decide : ∀ d ∈ L21, [d] ∈ [[115], [114], [98]]) d hd
    exact ⟨[d], .inr (.inr (.inl ⟨rfl, hd'⟩)), by simp only [e_rdDat, e_rdOwn, e_at0, e_atS, e_pu0, e_puS, e_var, e_c, e_op2, e_op2R, e_op2S, e_op1, e_op1S, e_opA, e_opAS, e_ofS, e_ofN, e_dB, e_toBS, e_and, e_andT, e_andF, e_or, e_orT, e_orF, e_not, e_notT, e_notF, e_notB, e_andV, e_andVT, e_andVF, e_orV, e_orVT, e_orVF, e_notV, e_notVB, e_ifE, e_ifET, e_ifEF, e_nil, e_cons, e_consR, e_consS, e_cleanN, e_cleanC, e_oN, e_oB, e_oI, e_oS, e_oT, e_oL, e_oSL, e_oOb, e_nf, e_tt, e_tup, e_tupR, e_tupB, e_items, e_itemsR, e_itemsB, e_fix, e_fixR, e_cat, e_catR, e_appN, e_appC, e_catB, e_catLL, e_catOL, e_catLO, e_catOO, e_call, e_callR, e_callB0, e_callB1, e_callB2, e_callB3, e_callB4, e_callB5, e_seq, e_seqN, e_seqR, e_seqB, e_seqC, e_seqX, e_skip, e_break, e_cont, e_set, e_setR, e_setX, e_setB, e_own, e_ownR, e_asg, e_asgR, e_nxO, e_tgT, e_putN, e_putC, e_tgN, e_tgB, e_drop, e_dropR, e_ret, e_retR, e_retX, e_retB, e_retN, e_if, e_ifT, e_ifF, e_app, e_appR, e_appB, e_frz, e_frzO, e_frzD, e_frzU, e_for, e_forR, e_forN, e_forC, e_turnB, e_turnN, e_turnC, e_turnK, e_turnR, e_turnX, e_it, e_itR, e_itA, e_itAR, e_asLst, e_asSlst, e_asTup, e_asStr, e_raise, e_run, e_endN, e_endR, e_endX, e_stC, e_st0, e_stS, e_addI, e_addS, e_addB, e_addLL, e_addOL, e_addLO, e_addOO, e_sub, e_mul, e_mod, e_div, e_neg, e_cmp, e_eqI, e_eqS, e_eqB, e_id, e_n1, e_isN, e_isI, e_isS, e_isT, e_isL, e_isB, e_isnN, e_isnI, e_isnS, e_isnT, e_isnL, e_isnB, e_ixS, e_ixT, e_ixL, e_ixSL, e_ixO, e_at_0, e_at_1, e_at_2, e_sg, e_lenS, e_lenT, e_lenL, e_lenSL, e_lenO, e_int, e_intT, e_intF, e_str, e_min, e_max, e_abs, e_m1, e_m1R, e_m1S, e_joinL, e_joinO, e_joinT, e_joinB, e_txN, e_txC, e_txS, e_isiS, e_isiL, e_isiTu, e_rep, e_replS, e_tabG, e_mpS, e_tabI, e_inS, e_sl, e_slR, e_slS, e_slT, e_oNone, e_oSome, e_oRI, e_slStr, e_slL, e_slSL, e_slO, e_lc, e_ca0, e_ca1, e_ca2, e_ca3, e_ca4, e_ca5, e_ca6, e_ca7, e_ca8, e_ca9, e_ca10, e_ca11, e_ca12, e_scS, e_scI, e_scB, e_scN, e_allN, e_allC, e_inN, e_inC, e_eqFS, e_eqFI, e_inST, e_inIT, e_index, e_spR, e_mg, e_mgS, e_smN, e_smC, eq_self, Nat.reduceLT, Nat.reduceGT, Nat.reduceAdd, Nat.reduceMul, Nat.reduceSub, Nat.reduceLeDiff, Nat.reduceEqDiff, Int.reduceLT, Int.reduceLE, Int.reduceEq, Int.reduceAdd, Int.reduceSub, Int.reduceMul, Int.reduceMod, Int.reduceDiv, Int.reduceNeg, Nat.zero_le, Nat.le_refl, List.length_cons, List.length_nil, ite_true, ite_false, if_true, if_false, decide_true, decide_false, Bool.not_true, Bool.not_false, Bool.and_true, Bool.true_and, Bool.and_false, Bool.false_and, Bool.or_true, Bool.or_false, Bool.true_or, Bool.false_or, List.cons.injEq, and_true, true_and, and_false, false_and, and_self, ne_eq, not_true_eq_false, not_false_eq_true, reduceCtorEq, List.nil_append, List.cons_append, List.append_nil, List.append_assoc, el, ed]⟩
  · exact ⟨[], .inl ⟨rfl, rfl⟩, by simp only [e_rdDat, e_rdOwn, e_at0, e_atS, e_pu0, e_puS, e_var, e_c, e_op2, e_op2R, e_op2S, e_op1, e_op1S, e_opA, e_opAS, e_ofS, e_ofN, e_dB, e_toBS, e_and, e_andT, e_andF, e_or, e_orT, e_orF, e_not, e_notT, e_notF, e_notB, e_andV, e_andVT, e_andVF, e_orV, e_orVT, e_orVF, e_notV, e_notVB, e_ifE, e_ifET, e_ifEF, e_nil, e_cons, e_consR, e_consS, e_cleanN, e_cleanC, e_oN, e_oB, e_oI, e_oS, e_oT, e_oL, e_oSL, e_oOb, e_nf, e_tt, e_tup, e_tupR, e_tupB, e_items, e_itemsR, e_itemsB, e_fix, e_fixR, e_cat, e_catR, e_appN, e_appC, e_catB, e_catLL, e_catOL, e_catLO, e_catOO, e_call, e_callR, e_callB0, e_callB1, e_callB2, e_callB3, e_callB4, e_callB5, e_seq, e_seqN, e_seqR, e_seqB, e_seqC, e_seqX, e_skip, e_break, e_cont, e_set, e_setR, e_setX, e_setB, e_own, e_ownR, e_asg, e_asgR, e_nxO, e_tgT, e_putN, e_putC, e_tgN, e_tgB, e_drop, e_dropR, e_ret, e_retR, e_retX, e_retB, e_retN, e_if, e_ifT, e_ifF, e_app, e_appR, e_appB, e_frz, e_frzO, e_frzD, e_frzU, e_for, e_forR, e_forN, e_forC, e_turnB, e_turnN, e_turnC, e_turnK, e_turnR, e_turnX, e_it, e_itR, e_itA, e_itAR, e_asLst, e_asSlst, e_asTup, e_asStr, e_raise, e_run, e_endN, e_endR, e_endX, e_stC, e_st0, e_stS, e_addI, e_addS, e_addB, e_addLL, e_addOL, e_addLO, e_addOO, e_sub, e_mul, e_mod, e_div, e_neg, e_cmp, e_eqI, e_eqS, e_eqB, e_id, e_n1, e_isN, e_isI, e_isS, e_isT, e_isL, e_isB, e_isnN, e_isnI, e_isnS, e_isnT, e_isnL, e_isnB, e_ixS, e_ixT, e_ixL, e_ixSL, e_ixO, e_at_0, e_at_1, e_at_2, e_sg, e_lenS, e_lenT, e_lenL, e_lenSL, e_lenO, e_int, e_intT, e_intF, e_str, e_min, e_max, e_abs, e_m1, e_m1R, e_m1S, e_joinL, e_joinO, e_joinT, e_joinB, e_txN, e_txC, e_txS, e_isiS, e_isiL, e_isiTu, e_rep, e_replS, e_tabG, e_mpS, e_tabI, e_inS, e_sl, e_slR, e_slS, e_slT, e_oNone, e_oSome, e_oRI, e_slStr, e_slL, e_slSL, e_slO, e_lc, e_ca0, e_ca1, e_ca2, e_ca3, e_ca4, e_ca5, e_ca6, e_ca7, e_ca8, e_ca9, e_ca10, e_ca11, e_ca12, e_scS, e_scI, e_scB, e_scN, e_allN, e_allC, e_inN, e_inC, e_eqFS, e_eqFI, e_inST, e_inIT, e_index, e_spR, e_mg, e_mgS, e_smN, e_smC, eq_self, Nat.reduceLT, Nat.reduceGT, Nat.reduceAdd, Nat.reduceMul, Nat.reduceSub, Nat.reduceLeDiff, Nat.reduceEqDiff, Int.reduceLT, Int.reduceLE, Int.reduceEq, Int.reduceAdd, Int.reduceSub, Int.reduceMul, Int.reduceMod, Int.reduceDiv, Int.reduceNeg, Nat.zero_le, Nat.le_refl, List.length_cons, List.length_nil, ite_true, ite_false, if_true, if_false, decide_true, decide_false, Bool.not_true, Bool.not_false, Bool.and_true, Bool.true_and, Bool.and_false, Bool.false_and, Bool.or_true, Bool.or_false, Bool.true_or, Bool.false_or, List.cons.injEq, and_true, true_and, and_false, false_and, and_self, ne_eq, not_true_eq_false, not_false_eq_true, reduceCtorEq, List.nil_append, List.cons_append, List.append_nil, List.append_assoc, el]⟩
  · have f : ∀ v ∈ [L36, L35, L34, L33, L32, L31, L30, L37, L43, L42, L41, L40, L39, L38], v ∈ [L36, L35, L34, L33, L32, L31, L30, L37, L24, L23, L43, L42, L41, L40, L39, L38, L22] ∧ inF (.str v) [.str L29, .str L28] = false ∧ ((v = L26) = False ∧ (v = L25) = False) ∧ inF (.str v) [.str L24, .str L23, .str L22] = false ∧ (v = L9) = False := by
      intro v hv
      have g : v ∈ [L36, L35, L34, L33, L32, L31, L30, L37, L24, L23, L43, L42, L41, L40, L39, L38, L22] ∧ inF (.str v) [.str L29, .str L28] = false ∧ (v ≠ L26 ∧ v ≠ L25) ∧ inF (.str v) [.str L24, .str L23, .str L22] = false ∧ v ≠ L9 := by
        revert v
        decide
      exact ⟨g.1, g.2.1, ⟨eq_false g.2.2.1.1, eq_false g.2.2.1.2⟩, g.2.2.2.1, eq_false g.2.2.2.2⟩
    obtain ⟨f1, f2, ⟨f3, f4⟩, f5, f6⟩ := f v h
    exact ⟨[], .inr (.inr (.inr ⟨f1, .inl rfl⟩)), by simp only [e_rdDat, e_rdOwn, e_at0, e_atS, e_pu0, e_puS, e_var, e_c, e_op2, e_op2R, e_op2S, e_op1, e_op1S, e_opA, e_opAS, e_ofS, e_ofN, e_dB, e_toBS, e_and, e_andT, e_andF, e_or, e_orT, e_orF, e_not, e_notT, e_notF, e_notB, e_andV, e_andVT, e_andVF, e_orV, e_orVT, e_orVF, e_notV, e_notVB, e_ifE, e_ifET, e_ifEF, e_nil, e_cons, e_consR, e_consS, e_cleanN, e_cleanC, e_oN, e_oB, e_oI, e_oS, e_oT, e_oL, e_oSL, e_oOb, e_nf, e_tt, e_tup, e_tupR, e_tupB, e_items, e_itemsR, e_itemsB, e_fix, e_fixR, e_cat, e_catR, e_appN, e_appC, e_catB, e_catLL, e_catOL, e_catLO, e_catOO, e_call, e_callR, e_callB0, e_callB1, e_callB2, e_callB3, e_callB4, e_callB5, e_seq, e_seqN, e_seqR, e_seqB, e_seqC, e_seqX, e_skip, e_break, e_cont, e_set, e_setR, e_setX, e_setB, e_own, e_ownR, e_asg, e_asgR, e_nxO, e_tgT, e_putN, e_putC, e_tgN, e_tgB, e_drop, e_dropR, e_ret, e_retR, e_retX, e_retB, e_retN, e_if, e_ifT, e_ifF, e_app, e_appR, e_appB, e_frz, e_frzO, e_frzD, e_frzU, e_for, e_forR, e_forN, e_forC, e_turnB, e_turnN, e_turnC, e_turnK, e_turnR, e_turnX, e_it, e_itR, e_itA, e_itAR, e_asLst, e_asSlst, e_asTup, e_asStr, e_raise, e_run, e_endN, e_endR, e_endX, e_stC, e_st0, e_stS, e_addI, e_addS, e_addB, e_addLL, e_addOL, e_addLO, e_addOO, e_sub, e_mul, e_mod, e_div, e_neg, e_cmp, e_eqI, e_eqS, e_eqB, e_id, e_n1, e_isN, e_isI, e_isS, e_isT, e_isL, e_isB, e_isnN, e_isnI, e_isnS, e_isnT, e_isnL, e_isnB, e_ixS, e_ixT, e_ixL, e_ixSL, e_ixO, e_at_0, e_at_1, e_at_2, e_sg, e_lenS, e_lenT, e_lenL, e_lenSL, e_lenO, e_int, e_intT, e_intF, e_str, e_min, e_max, e_abs, e_m1, e_m1R, e_m1S, e_joinL, e_joinO, e_joinT, e_joinB, e_txN, e_txC, e_txS, e_isiS, e_isiL, e_isiTu, e_rep, e_replS, e_tabG, e_mpS, e_tabI, e_inS, e_sl, e_slR, e_slS, e_slT, e_oNone, e_oSome, e_oRI, e_slStr, e_slL, e_slSL, e_slO, e_lc, e_ca0, e_ca1, e_ca2, e_ca3, e_ca4, e_ca5, e_ca6, e_ca7, e_ca8, e_ca9, e_ca10, e_ca11, e_ca12, e_scS, e_scI, e_scB, e_scN, e_allN, e_allC, e_eqFS, e_eqFI, e_inST, e_inIT, e_index, e_spR, e_mg, e_mgS, e_smN, e_smC, eq_self, Nat.reduceLT, Nat.reduceGT, Nat.reduceAdd, Nat.reduceMul, Nat.reduceSub, Nat.reduceLeDiff, Nat.reduceEqDiff, Int.reduceLT, Int.reduceLE, Int.reduceEq, Int.reduceAdd, Int.reduceSub, Int.reduceMul, Int.reduceMod, Int.reduceDiv, Int.reduceNeg, Nat.zero_le, Nat.le_refl, List.length_cons, List.length_nil, ite_true, ite_false, if_true, if_false, decide_true, decide_false, Bool.not_true, Bool.not_false, Bool.and_true, Bool.true_and, Bool.and_false, Bool.false_and, Bool.or_true, Bool.or_false, Bool.true_or, Bool.false_or, List.cons.injEq, and_true, true_and, and_false, false_and, and_self, ne_eq, not_true_eq_false, not_false_eq_true, reduceCtorEq, List.nil_append, List.cons_append, List.append_nil, List.append_assoc, el, f2, f3, f4, f5, f6]⟩

/-! ### a drawn phrase -/
def Good (p : D) : Prop := ∃ (sh v t y : List Nat) (k : D), p = .tup [.str sh, k, .str v, .str t, .str y] ∧ (sh = [] ∨ ∃ c, sh = [c]) ∧ (k = .non ∨ ∃ i : Int, 0 ≤ i ∧ i ≤ 1000 ∧ k = .int i) ∧ (t = [] ∨ GoodT t) ∧ Kind v y
theorem phrase_ok (a b : Int) : ∃ p, Good p ∧ m__law_phrase [.int a, .int b] = .ok p ∧ isO p = false := by
  obtain ⟨d, hd, ed⟩ := at_in (Vs.map D.str) (a % 23) (by omega) (by show a % 23 < 23; omega)
  obtain ⟨v, hv, rfl⟩ := List.mem_map.mp hd
  have ed' : atI [D.str L10, D.str L36, D.str L35, D.str L29, D.str L34, D.str L33, D.str L32, D.str L31, D.str L30, D.str L28, D.str L25, D.str L37, D.str L24, D.str L23, D.str L9, D.str L43, D.str L42, D.str L41, D.str L40, D.str L39, D.str L38, D.str L22, D.str L26] (a % 23) = some (.str v) := ed
  obtain ⟨c, ec⟩ := letter_ok (a / 46)
  obtain ⟨t, ht, et⟩ := target_ok (b / 7) (!decide (v = L10))
  obtain ⟨y, hy, ey⟩ := typed_ok v hv (b / 13)
  obtain ⟨m, hm, em⟩ : ∃ m : Int, (0 < m ∧ m ≤ 999) ∧ atI [D.int 9, D.int 99, D.int 999] (a / 3588 % 3) = some (.int m) := by
    obtain ⟨d, hd, ed⟩ := at_in [D.int 9, D.int 99, D.int 999] (a / 3588 % 3) (by omega) (by show a / 3588 % 3 < 3; omega)
    rcases List.mem_cons.mp hd with rfl | hd
    · exact ⟨9, by decide, ed⟩
    rcases List.mem_cons.mp hd with rfl | hd
    · exact ⟨99, by decide, ed⟩
    rcases List.mem_cons.mp hd with rfl | hd
    · exact ⟨999, by decide, ed⟩
    · cases hd
  have hm0 : (0 < m) = True := eq_true hm.1
  have hb : 0 ≤ 1 + b % m ∧ 1 + b % m ≤ 1000 := by
    have h1 := Int.emod_nonneg b (show m ≠ 0 by omega)
    have h2 := Int.emod_lt_of_pos b hm.1
    omega
  have A : ∃ sh, (sh = [] ∨ ∃ c, sh = [c]) ∧ ∀ (x1 x2 x5 x6 : Sl), dIf (dAndT (dB (dOp2 fIn (dVar 3) (dTup (dCons (dC (.str L36)) (dCons (dC (.str L35)) (dCons (dC (.str L29)) (dCons (dC (.str L37)) (dNil)))))))) (dB (dOp2 fEq (dOp2 fMod (dOp2 fDiv (dVar 0) (dC (.int 23))) (dC (.int 2))) (dC (.int 1))))) (dSet 4 (dCall 1 m__law_letter (dCons (dOp2 fDiv (dVar 0) (dC (.int 46))) (dNil)))) (dSkip) [.dat (.int a), x1, x2, .dat (.str v), .dat (.str L10), x5, x6] = .nx [.dat (.int a), x1, x2, .dat (.str v), .dat (.str sh), x5, x6] := by
    cases h1 : inF (.str v) [.str L36, .str L35, .str L29, .str L37] with
    | false => exact ⟨[], .inl rfl, fun _ _ _ _ => by simp only [e_rdDat, e_rdOwn, e_at0, e_atS, e_pu0, e_puS, e_var, e_c, e_op2, e_op2R, e_op2S, e_op1, e_op1S, e_opA, e_opAS, e_ofS, e_ofN, e_dB, e_toBS, e_and, e_andT, e_andF, e_or, e_orT, e_orF, e_not, e_notT, e_notF, e_notB, e_andV, e_andVT, e_andVF, e_orV, e_orVT, e_orVF, e_notV, e_notVB, e_ifE, e_ifET, e_ifEF, e_nil, e_cons, e_consR, e_consS, e_cleanN, e_cleanC, e_oN, e_oB, e_oI, e_oS, e_oT, e_oL, e_oSL, e_oOb, e_nf, e_tt, e_tup, e_tupR, e_tupB, e_items, e_itemsR, e_itemsB, e_fix, e_fixR, e_cat, e_catR, e_appN, e_appC, e_catB, e_catLL, e_catOL, e_catLO, e_catOO, e_call, e_callR, e_callB0, e_callB1, e_callB2, e_callB3, e_callB4, e_callB5, e_seq, e_seqN, e_seqR, e_seqB, e_seqC, e_seqX, e_skip, e_break, e_cont, e_set, e_setR, e_setX, e_setB, e_own, e_ownR, e_asg, e_asgR, e_nxO, e_tgT, e_putN, e_putC, e_tgN, e_tgB, e_drop, e_dropR, e_ret, e_retR, e_retX, e_retB, e_retN, e_if, e_ifT, e_ifF, e_app, e_appR, e_appB, e_frz, e_frzO, e_frzD, e_frzU, e_for, e_forR, e_forN, e_forC, e_turnB, e_turnN, e_turnC, e_turnK, e_turnR, e_turnX, e_it, e_itR, e_itA, e_itAR, e_asLst, e_asSlst, e_asTup, e_asStr, e_raise, e_run, e_endN, e_endR, e_endX, e_stC, e_st0, e_stS, e_addI, e_addS, e_addB, e_addLL, e_addOL, e_addLO, e_addOO, e_sub, e_mul, e_mod, e_div, e_neg, e_cmp, e_eqI, e_eqS, e_eqB, e_id, e_n1, e_isN, e_isI, e_isS, e_isT, e_isL, e_isB, e_isnN, e_isnI, e_isnS, e_isnT, e_isnL, e_isnB, e_ixS, e_ixT, e_ixL, e_ixSL, e_ixO, e_at_0, e_at_1, e_at_2, e_sg, e_lenS, e_lenT, e_lenL, e_lenSL, e_lenO, e_int, e_intT, e_intF, e_str, e_min, e_max, e_abs, e_m1, e_m1R, e_m1S, e_joinL, e_joinO, e_joinT, e_joinB, e_txN, e_txC, e_txS, e_isiS, e_isiL, e_isiTu, e_rep, e_replS, e_tabG, e_mpS, e_tabI, e_inS, e_sl, e_slR, e_slS, e_slT, e_oNone, e_oSome, e_oRI, e_slStr, e_slL, e_slSL, e_slO, e_lc, e_ca0, e_ca1, e_ca2, e_ca3, e_ca4, e_ca5, e_ca6, e_ca7, e_ca8, e_ca9, e_ca10, e_ca11, e_ca12, e_scS, e_scI, e_scB, e_scN, e_allN, e_allC, e_eqFS, e_eqFI, e_inST, e_inIT, e_index, e_spR, e_mg, e_mgS, e_smN, e_smC, eq_self, Nat.reduceLT, Nat.reduceGT, Nat.reduceAdd, Nat.reduceMul, Nat.reduceSub, Nat.reduceLeDiff, Nat.reduceEqDiff, Int.reduceLT, Int.reduceLE, Int.reduceEq, Int.reduceAdd, Int.reduceSub, Int.reduceMul, Int.reduceMod, Int.reduceDiv, Int.reduceNeg, Nat.zero_le, Nat.le_refl, List.length_cons, List.length_nil, ite_true, ite_false, if_true, if_false, decide_true, decide_false, Bool.not_true, Bool.not_false, Bool.and_true, Bool.true_and, Bool.and_false, Bool.false_and, Bool.or_true, Bool.or_false, Bool.true_or, Bool.false_or, List.cons.injEq, and_true, true_and, and_false, false_and, and_self, ne_eq, not_true_eq_false, not_false_eq_true, reduceCtorEq, List.nil_append, List.cons_append, List.append_nil, List.append_assoc, h1]⟩
    | true =>
      by_cases h2 : a / 23 % 2 = 1
      · exact ⟨[c], .inr ⟨c, rfl⟩, fun _ _ _ _ => by simp only [e_rdDat, e_rdOwn, e_at0, e_atS, e_pu0, e_puS, e_var, e_c, e_op2, e_op2R, e_op2S, e_op1, e_op1S, e_opA, e_opAS, e_ofS, e_ofN, e_dB, e_toBS, e_and, e_andT, e_andF, e_or, e_orT, e_orF, e_not, e_notT, e_notF, e_notB, e_andV, e_andVT, e_andVF, e_orV, e_orVT, e_orVF, e_notV, e_notVB, e_ifE, e_ifET, e_ifEF, e_nil, e_cons, e_consR, e_consS, e_cleanN, e_cleanC, e_oN, e_oB, e_oI, e_oS, e_oT, e_oL, e_oSL, e_oOb, e_nf, e_tt, e_tup, e_tupR, e_tupB, e_items, e_itemsR, e_itemsB, e_fix, e_fixR, e_cat, e_catR, e_appN, e_appC, e_catB, e_catLL, e_catOL, e_catLO, e_catOO, e_call, e_callR, e_callB0, e_callB1, e_callB2, e_callB3, e_callB4, e_callB5, e_seq, e_seqN, e_seqR, e_seqB, e_seqC, e_seqX, e_skip, e_break, e_cont, e_set, e_setR, e_setX, e_setB, e_own, e_ownR, e_asg, e_asgR, e_nxO, e_tgT, e_putN, e_putC, e_tgN, e_tgB, e_drop, e_dropR, e_ret, e_retR, e_retX, e_retB, e_retN, e_if, e_ifT, e_ifF, e_app, e_appR, e_appB, e_frz, e_frzO, e_frzD, e_frzU, e_for, e_forR, e_forN, e_forC, e_turnB, e_turnN, e_turnC, e_turnK, e_turnR, e_turnX, e_it, e_itR, e_itA, e_itAR, e_asLst, e_asSlst, e_asTup, e_asStr, e_raise, e_run, e_endN, e_endR, e_endX, e_stC, e_st0, e_stS, e_addI, e_addS, e_addB, e_addLL, e_addOL, e_addLO, e_addOO, e_sub, e_mul, e_mod, e_div, e_neg, e_cmp, e_eqI, e_eqS, e_eqB, e_id, e_n1, e_isN, e_isI, e_isS, e_isT, e_isL, e_isB, e_isnN, e_isnI, e_isnS, e_isnT, e_isnL, e_isnB, e_ixS, e_ixT, e_ixL, e_ixSL, e_ixO, e_at_0, e_at_1, e_at_2, e_sg, e_lenS, e_lenT, e_lenL, e_lenSL, e_lenO, e_int, e_intT, e_intF, e_str, e_min, e_max, e_abs, e_m1, e_m1R, e_m1S, e_joinL, e_joinO, e_joinT, e_joinB, e_txN, e_txC, e_txS, e_isiS, e_isiL, e_isiTu, e_rep, e_replS, e_tabG, e_mpS, e_tabI, e_inS, e_sl, e_slR, e_slS, e_slT, e_oNone, e_oSome, e_oRI, e_slStr, e_slL, e_slSL, e_slO, e_lc, e_ca0, e_ca1, e_ca2, e_ca3, e_ca4, e_ca5, e_ca6, e_ca7, e_ca8, e_ca9, e_ca10, e_ca11, e_ca12, e_scS, e_scI, e_scB, e_scN, e_allN, e_allC, e_eqFS, e_eqFI, e_inST, e_inIT, e_index, e_spR, e_mg, e_mgS, e_smN, e_smC, eq_self, Nat.reduceLT, Nat.reduceGT, Nat.reduceAdd, Nat.reduceMul, Nat.reduceSub, Nat.reduceLeDiff, Nat.reduceEqDiff, Int.reduceLT, Int.reduceLE, Int.reduceEq, Int.reduceAdd, Int.reduceSub, Int.reduceMul, Int.reduceMod, Int.reduceDiv, Int.reduceNeg, Nat.zero_le, Nat.le_refl, List.length_cons, List.length_nil, ite_true, ite_false, if_true, if_false, decide_true, decide_false, Bool.not_true, Bool.not_false, Bool.and_true, Bool.true_and, Bool.and_false, Bool.false_and, Bool.or_true, Bool.or_false, Bool.true_or, Bool.false_or, List.cons.injEq, and_true, true_and, and_false, false_and, and_self, ne_eq, not_true_eq_false, not_false_eq_true, reduceCtorEq, List.nil_append, List.cons_append, List.append_nil, List.append_assoc, h1, h2, ec]⟩
      · exact ⟨[], .inl rfl, fun _ _ _ _ => by simp only [e_rdDat, e_rdOwn, e_at0, e_atS, e_pu0, e_puS, e_var, e_c, e_op2, e_op2R, e_op2S, e_op1, e_op1S, e_opA, e_opAS, e_ofS, e_ofN, e_dB, e_toBS, e_and, e_andT, e_andF, e_or, e_orT, e_orF, e_not, e_notT, e_notF, e_notB, e_andV, e_andVT, e_andVF, e_orV, e_orVT, e_orVF, e_notV, e_notVB, e_ifE, e_ifET, e_ifEF, e_nil, e_cons, e_consR, e_consS, e_cleanN, e_cleanC, e_oN, e_oB, e_oI, e_oS, e_oT, e_oL, e_oSL, e_oOb, e_nf, e_tt, e_tup, e_tupR, e_tupB, e_items, e_itemsR, e_itemsB, e_fix, e_fixR, e_cat, e_catR, e_appN, e_appC, e_catB, e_catLL, e_catOL, e_catLO, e_catOO, e_call, e_callR, e_callB0, e_callB1, e_callB2, e_callB3, e_callB4, e_callB5, e_seq, e_seqN, e_seqR, e_seqB, e_seqC, e_seqX, e_skip, e_break, e_cont, e_set, e_setR, e_setX, e_setB, e_own, e_ownR, e_asg, e_asgR, e_nxO, e_tgT, e_putN, e_putC, e_tgN, e_tgB, e_drop, e_dropR, e_ret, e_retR, e_retX, e_retB, e_retN, e_if, e_ifT, e_ifF, e_app, e_appR, e_appB, e_frz, e_frzO, e_frzD, e_frzU, e_for, e_forR, e_forN, e_forC, e_turnB, e_turnN, e_turnC, e_turnK, e_turnR, e_turnX, e_it, e_itR, e_itA, e_itAR, e_asLst, e_asSlst, e_asTup, e_asStr, e_raise, e_run, e_endN, e_endR, e_endX, e_stC, e_st0, e_stS, e_addI, e_addS, e_addB, e_addLL, e_addOL, e_addLO, e_addOO, e_sub, e_mul, e_mod, e_div, e_neg, e_cmp, e_eqI, e_eqS, e_eqB, e_id, e_n1, e_isN, e_isI, e_isS, e_isT, e_isL, e_isB, e_isnN, e_isnI, e_isnS, e_isnT, e_isnL, e_isnB, e_ixS, e_ixT, e_ixL, e_ixSL, e_ixO, e_at_0, e_at_1, e_at_2, e_sg, e_lenS, e_lenT, e_lenL, e_lenSL, e_lenO, e_int, e_intT, e_intF, e_str, e_min, e_max, e_abs, e_m1, e_m1R, e_m1S, e_joinL, e_joinO, e_joinT, e_joinB, e_txN, e_txC, e_txS, e_isiS, e_isiL, e_isiTu, e_rep, e_replS, e_tabG, e_mpS, e_tabI, e_inS, e_sl, e_slR, e_slS, e_slT, e_oNone, e_oSome, e_oRI, e_slStr, e_slL, e_slSL, e_slO, e_lc, e_ca0, e_ca1, e_ca2, e_ca3, e_ca4, e_ca5, e_ca6, e_ca7, e_ca8, e_ca9, e_ca10, e_ca11, e_ca12, e_scS, e_scI, e_scB, e_scN, e_allN, e_allC, e_eqFS, e_eqFI, e_inST, e_inIT, e_index, e_spR, e_mg, e_mgS, e_smN, e_smC, eq_self, Nat.reduceLT, Nat.reduceGT, Nat.reduceAdd, Nat.reduceMul, Nat.reduceSub, Nat.reduceLeDiff, Nat.reduceEqDiff, Int.reduceLT, Int.reduceLE, Int.reduceEq, Int.reduceAdd, Int.reduceSub, Int.reduceMul, Int.reduceMod, Int.reduceDiv, Int.reduceNeg, Nat.zero_le, Nat.le_refl, List.length_cons, List.length_nil, ite_true, ite_false, if_true, if_false, decide_true, decide_false, Bool.not_true, Bool.not_false, Bool.and_true, Bool.true_and, Bool.and_false, Bool.false_and, Bool.or_true, Bool.or_false, Bool.true_or, Bool.false_or, List.cons.injEq, and_true, true_and, and_false, false_and, and_self, ne_eq, not_true_eq_false, not_false_eq_true, reduceCtorEq, List.nil_append, List.cons_append, List.append_nil, List.append_assoc, h1, h2]⟩
  have B : ∃ k : D, (k = .non ∨ ∃ i : Int, 0 ≤ i ∧ i ≤ 1000 ∧ k = .int i) ∧ isO k = false ∧ ∀ (x2 x4 x6 : Sl), dIf (dAndT (dB (dOp2 fNin (dVar 3) (dTup (dCons (dC (.str L24)) (dCons (dC (.str L23)) (dCons (dC (.str L9)) (dCons (dC (.str L26)) (dNil)))))))) (dB (dOp2 fGt (dOp2 fMod (dOp2 fDiv (dVar 0) (dC (.int 1196))) (dC (.int 3))) (dC (.int 0))))) (dSet 5 (dOp2 fAdd (dC (.int 1)) (dOp2 fMod (dVar 1) (dOp2 fIx (dFix (dItems (dCons (dC (.int 9)) (dCons (dC (.int 99)) (dCons (dC (.int 999)) (dNil)))))) (dOp2 fMod (dOp2 fDiv (dVar 0) (dC (.int 3588))) (dC (.int 3))))))) (dSkip) [.dat (.int a), .dat (.int b), x2, .dat (.str v), x4, .dat .non, x6] = .nx [.dat (.int a), .dat (.int b), x2, .dat (.str v), x4, .dat k, x6] := by
    cases h1 : inF (.str v) [.str L24, .str L23, .str L9, .str L26] with
    | true => exact ⟨.non, .inl rfl, rfl, fun _ _ _ => by simp only [e_rdDat, e_rdOwn, e_at0, e_atS, e_pu0, e_puS, e_var, e_c, e_op2, e_op2R, e_op2S, e_op1, e_op1S, e_opA, e_opAS, e_ofS, e_ofN, e_dB, e_toBS, e_and, e_andT, e_andF, e_or, e_orT, e_orF, e_not, e_notT, e_notF, e_notB, e_andV, e_andVT, e_andVF, e_orV, e_orVT, e_orVF, e_notV, e_notVB, e_ifE, e_ifET, e_ifEF, e_nil, e_cons, e_consR, e_consS, e_cleanN, e_cleanC, e_oN, e_oB, e_oI, e_oS, e_oT, e_oL, e_oSL, e_oOb, e_nf, e_tt, e_tup, e_tupR, e_tupB, e_items, e_itemsR, e_itemsB, e_fix, e_fixR, e_cat, e_catR, e_appN, e_appC, e_catB, e_catLL, e_catOL, e_catLO, e_catOO, e_call, e_callR, e_callB0, e_callB1, e_callB2, e_callB3, e_callB4, e_callB5, e_seq, e_seqN, e_seqR, e_seqB, e_seqC, e_seqX, e_skip, e_break, e_cont, e_set, e_setR, e_setX, e_setB, e_own, e_ownR, e_asg, e_asgR, e_nxO, e_tgT, e_putN, e_putC, e_tgN, e_tgB, e_drop, e_dropR, e_ret, e_retR, e_retX, e_retB, e_retN, e_if, e_ifT, e_ifF, e_app, e_appR, e_appB, e_frz, e_frzO, e_frzD, e_frzU, e_for, e_forR, e_forN, e_forC, e_turnB, e_turnN, e_turnC, e_turnK, e_turnR, e_turnX, e_it, e_itR, e_itA, e_itAR, e_asLst, e_asSlst, e_asTup, e_asStr, e_raise, e_run, e_endN, e_endR, e_endX, e_stC, e_st0, e_stS, e_addI, e_addS, e_addB, e_addLL, e_addOL, e_addLO, e_addOO, e_sub, e_mul, e_mod, e_div, e_neg, e_cmp, e_eqI, e_eqS, e_eqB, e_id, e_n1, e_isN, e_isI, e_isS, e_isT, e_isL, e_isB, e_isnN, e_isnI, e_isnS, e_isnT, e_isnL, e_isnB, e_ixS, e_ixT, e_ixL, e_ixSL, e_ixO, e_at_0, e_at_1, e_at_2, e_sg, e_lenS, e_lenT, e_lenL, e_lenSL, e_lenO, e_int, e_intT, e_intF, e_str, e_min, e_max, e_abs, e_m1, e_m1R, e_m1S, e_joinL, e_joinO, e_joinT, e_joinB, e_txN, e_txC, e_txS, e_isiS, e_isiL, e_isiTu, e_rep, e_replS, e_tabG, e_mpS, e_tabI, e_inS, e_sl, e_slR, e_slS, e_slT, e_oNone, e_oSome, e_oRI, e_slStr, e_slL, e_slSL, e_slO, e_lc, e_ca0, e_ca1, e_ca2, e_ca3, e_ca4, e_ca5, e_ca6, e_ca7, e_ca8, e_ca9, e_ca10, e_ca11, e_ca12, e_scS, e_scI, e_scB, e_scN, e_allN, e_allC, e_eqFS, e_eqFI, e_inST, e_inIT, e_index, e_spR, e_mg, e_mgS, e_smN, e_smC, eq_self, Nat.reduceLT, Nat.reduceGT, Nat.reduceAdd, Nat.reduceMul, Nat.reduceSub, Nat.reduceLeDiff, Nat.reduceEqDiff, Int.reduceLT, Int.reduceLE, Int.reduceEq, Int.reduceAdd, Int.reduceSub, Int.reduceMul, Int.reduceMod, Int.reduceDiv, Int.reduceNeg, Nat.zero_le, Nat.le_refl, List.length_cons, List.length_nil, ite_true, ite_false, if_true, if_false, decide_true, decide_false, Bool.not_true, Bool.not_false, Bool.and_true, Bool.true_and, Bool.and_false, Bool.false_and, Bool.or_true, Bool.or_false, Bool.true_or, Bool.false_or, List.cons.injEq, and_true, true_and, and_false, false_and, and_self, ne_eq, not_true_eq_false, not_false_eq_true, reduceCtorEq, List.nil_append, List.cons_append, List.append_nil, List.append_assoc, h1]⟩
    | false =>
      by_cases h2 : 0 < a / 1196 % 3
      · exact ⟨.int (1 + b % m), .inr ⟨_, hb.1, hb.2, rfl⟩, rfl, fun _ _ _ => by simp only [e_rdDat, e_rdOwn, e_at0, e_atS, e_pu0, e_puS, e_var, e_c, e_op2, e_op2R, e_op2S, e_op1, e_op1S, e_opA, e_opAS, e_ofS, e_ofN, e_dB, e_toBS, e_and, e_andT, e_andF, e_or, e_orT, e_orF, e_not, e_notT, e_notF, e_notB, e_andV, e_andVT, e_andVF, e_orV, e_orVT, e_orVF, e_notV, e_notVB, e_ifE, e_ifET, e_ifEF, e_nil, e_cons, e_consR, e_consS, e_cleanN, e_cleanC, e_oN, e_oB, e_oI, e_oS, e_oT, e_oL, e_oSL, e_oOb, e_nf, e_tt, e_tup, e_tupR, e_tupB, e_items, e_itemsR, e_itemsB, e_fix, e_fixR, e_cat, e_catR, e_appN, e_appC, e_catB, e_catLL, e_catOL, e_catLO, e_catOO, e_call, e_callR, e_callB0, e_callB1, e_callB2, e_callB3, e_callB4, e_callB5, e_seq, e_seqN, e_seqR, e_seqB, e_seqC, e_seqX, e_skip, e_break, e_cont, e_set, e_setR, e_setX, e_setB, e_own, e_ownR, e_asg, e_asgR, e_nxO, e_tgT, e_putN, e_putC, e_tgN, e_tgB, e_drop, e_dropR, e_ret, e_retR, e_retX, e_retB, e_retN, e_if, e_ifT, e_ifF, e_app, e_appR, e_appB, e_frz, e_frzO, e_frzD, e_frzU, e_for, e_forR, e_forN, e_forC, e_turnB, e_turnN, e_turnC, e_turnK, e_turnR, e_turnX, e_it, e_itR, e_itA, e_itAR, e_asLst, e_asSlst, e_asTup, e_asStr, e_raise, e_run, e_endN, e_endR, e_endX, e_stC, e_st0, e_stS, e_addI, e_addS, e_addB, e_addLL, e_addOL, e_addLO, e_addOO, e_sub, e_mul, e_mod, e_div, e_neg, e_cmp, e_eqI, e_eqS, e_eqB, e_id, e_n1, e_isN, e_isI, e_isS, e_isT, e_isL, e_isB, e_isnN, e_isnI, e_isnS, e_isnT, e_isnL, e_isnB, e_ixS, e_ixT, e_ixL, e_ixSL, e_ixO, e_at_0, e_at_1, e_at_2, e_sg, e_lenS, e_lenT, e_lenL, e_lenSL, e_lenO, e_int, e_intT, e_intF, e_str, e_min, e_max, e_abs, e_m1, e_m1R, e_m1S, e_joinL, e_joinO, e_joinT, e_joinB, e_txN, e_txC, e_txS, e_isiS, e_isiL, e_isiTu, e_rep, e_replS, e_tabG, e_mpS, e_tabI, e_inS, e_sl, e_slR, e_slS, e_slT, e_oNone, e_oSome, e_oRI, e_slStr, e_slL, e_slSL, e_slO, e_lc, e_ca0, e_ca1, e_ca2, e_ca3, e_ca4, e_ca5, e_ca6, e_ca7, e_ca8, e_ca9, e_ca10, e_ca11, e_ca12, e_scS, e_scI, e_scB, e_scN, e_allN, e_allC, e_eqFS, e_eqFI, e_inST, e_inIT, e_index, e_spR, e_mg, e_mgS, e_smN, e_smC, eq_self, Nat.reduceLT, Nat.reduceGT, Nat.reduceAdd, Nat.reduceMul, Nat.reduceSub, Nat.reduceLeDiff, Nat.reduceEqDiff, Int.reduceLT, Int.reduceLE, Int.reduceEq, Int.reduceAdd, Int.reduceSub, Int.reduceMul, Int.reduceMod, Int.reduceDiv, Int.reduceNeg, Nat.zero_le, Nat.le_refl, List.length_cons, List.length_nil, ite_true, ite_false, if_true, if_false, decide_true, decide_false, Bool.not_true, Bool.not_false, Bool.and_true, Bool.true_and, Bool.and_false, Bool.false_and, Bool.or_true, Bool.or_false, Bool.true_or, Bool.false_or, List.cons.injEq, and_true, true_and, and_false, false_and, and_self, ne_eq, not_true_eq_false, not_false_eq_true, reduceCtorEq, List.nil_append, List.cons_append, List.append_nil, List.append_assoc, h1, h2, em, hm0]⟩
      · exact ⟨.non, .inl rfl, rfl, fun _ _ _ => by simp only [e_rdDat, e_rdOwn, e_at0, e_atS, e_pu0, e_puS, e_var, e_c, e_op2, e_op2R, e_op2S, e_op1, e_op1S, e_opA, e_opAS, e_ofS, e_ofN, e_dB, e_toBS, e_and, e_andT, e_andF, e_or, e_orT, e_orF, e_not, e_notT, e_notF, e_notB, e_andV, e_andVT, e_andVF, e_orV, e_orVT, e_orVF, e_notV, e_notVB, e_ifE, e_ifET, e_ifEF, e_nil, e_cons, e_consR, e_consS, e_cleanN, e_cleanC, e_oN, e_oB, e_oI, e_oS, e_oT, e_oL, e_oSL, e_oOb, e_nf, e_tt, e_tup, e_tupR, e_tupB, e_items, e_itemsR, e_itemsB, e_fix, e_fixR, e_cat, e_catR, e_appN, e_appC, e_catB, e_catLL, e_catOL, e_catLO, e_catOO, e_call, e_callR, e_callB0, e_callB1, e_callB2, e_callB3, e_callB4, e_callB5, e_seq, e_seqN, e_seqR, e_seqB, e_seqC, e_seqX, e_skip, e_break, e_cont, e_set, e_setR, e_setX, e_setB, e_own, e_ownR, e_asg, e_asgR, e_nxO, e_tgT, e_putN, e_putC, e_tgN, e_tgB, e_drop, e_dropR, e_ret, e_retR, e_retX, e_retB, e_retN, e_if, e_ifT, e_ifF, e_app, e_appR, e_appB, e_frz, e_frzO, e_frzD, e_frzU, e_for, e_forR, e_forN, e_forC, e_turnB, e_turnN, e_turnC, e_turnK, e_turnR, e_turnX, e_it, e_itR, e_itA, e_itAR, e_asLst, e_asSlst, e_asTup, e_asStr, e_raise, e_run, e_endN, e_endR, e_endX, e_stC, e_st0, e_stS, e_addI, e_addS, e_addB, e_addLL, e_addOL, e_addLO, e_addOO, e_sub, e_mul, e_mod, e_div, e_neg, e_cmp, e_eqI, e_eqS, e_eqB, e_id, e_n1, e_isN, e_isI, e_isS, e_isT, e_isL, e_isB, e_isnN, e_isnI, e_isnS, e_isnT, e_isnL, e_isnB, e_ixS, e_ixT, e_ixL, e_ixSL, e_ixO, e_at_0, e_at_1, e_at_2, e_sg, e_lenS, e_lenT, e_lenL, e_lenSL, e_lenO, e_int, e_intT, e_intF, e_str, e_min, e_max, e_abs, e_m1, e_m1R, e_m1S, e_joinL, e_joinO, e_joinT, e_joinB, e_txN, e_txC, e_txS, e_isiS, e_isiL, e_isiTu, e_rep, e_replS, e_tabG, e_mpS, e_tabI, e_inS, e_sl, e_slR, e_slS, e_slT, e_oNone, e_oSome, e_oRI, e_slStr, e_slL, e_slSL, e_slO, e_lc, e_ca0, e_ca1, e_ca2, e_ca3, e_ca4, e_ca5, e_ca6, e_ca7, e_ca8, e_ca9, e_ca10, e_ca11, e_ca12, e_scS, e_scI, e_scB, e_scN, e_allN, e_allC, e_eqFS, e_eqFI, e_inST, e_inIT, e_index, e_spR, e_mg, e_mgS, e_smN, e_smC, eq_self, Nat.reduceLT, Nat.reduceGT, Nat.reduceAdd, Nat.reduceMul, Nat.reduceSub, Nat.reduceLeDiff, Nat.reduceEqDiff, Int.reduceLT, Int.reduceLE, Int.reduceEq, Int.reduceAdd, Int.reduceSub, Int.reduceMul, Int.reduceMod, Int.reduceDiv, Int.reduceNeg, Nat.zero_le, Nat.le_refl, List.length_cons, List.length_nil, ite_true, ite_false, if_true, if_false, decide_true, decide_false, Bool.not_true, Bool.not_false, Bool.and_true, Bool.true_and, Bool.and_false, Bool.false_and, Bool.or_true, Bool.or_false, Bool.true_or, Bool.false_or, List.cons.injEq, and_true, true_and, and_false, false_and, and_self, ne_eq, not_true_eq_false, not_false_eq_true, reduceCtorEq, List.nil_append, List.cons_append, List.append_nil, List.append_assoc, h1, h2]⟩
  have C : ∃ t, (t = [] ∨ GoodT t) ∧ ∀ (x0 x2 x4 x5 : Sl), dIf (dB (dOp2 fIn (dVar 3) (dTup (dCons (dC (.str L10)) (dCons (dC (.str L36)) (dCons (dC (.str L35)) (dCons (dC (.str L29)) (dCons (dC (.str L34)) (dCons (dC (.str L33)) (dCons (dC (.str L32)) (dCons (dC (.str L31)) (dCons (dC (.str L30)) (dNil))))))))))))) (dSet 6 (dCall 2 m__law_target (dCons (dOp2 fDiv (dVar 1) (dC (.int 7))) (dCons (dOp2 fNe (dVar 3) (dC (.str L10))) (dNil))))) (dSkip) [x0, .dat (.int b), x2, .dat (.str v), x4, x5, .dat (.str L10)] = .nx [x0, .dat (.int b), x2, .dat (.str v), x4, x5, .dat (.str t)] := by
    cases h1 : inF (.str v) [.str L10, .str L36, .str L35, .str L29, .str L34, .str L33, .str L32, .str L31, .str L30] with
    | false => exact ⟨[], .inl rfl, fun _ _ _ _ => by simp only [e_rdDat, e_rdOwn, e_at0, e_atS, e_pu0, e_puS, e_var, e_c, e_op2, e_op2R, e_op2S, e_op1, e_op1S, e_opA, e_opAS, e_ofS, e_ofN, e_dB, e_toBS, e_and, e_andT, e_andF, e_or, e_orT, e_orF, e_not, e_notT, e_notF, e_notB, e_andV, e_andVT, e_andVF, e_orV, e_orVT, e_orVF, e_notV, e_notVB, e_ifE, e_ifET, e_ifEF, e_nil, e_cons, e_consR, e_consS, e_cleanN, e_cleanC, e_oN, e_oB, e_oI, e_oS, e_oT, e_oL, e_oSL, e_oOb, e_nf, e_tt, e_tup, e_tupR, e_tupB, e_items, e_itemsR, e_itemsB, e_fix, e_fixR, e_cat, e_catR, e_appN, e_appC, e_catB, e_catLL, e_catOL, e_catLO, e_catOO, e_call, e_callR, e_callB0, e_callB1, e_callB2, e_callB3, e_callB4, e_callB5, e_seq, e_seqN, e_seqR, e_seqB, e_seqC, e_seqX, e_skip, e_break, e_cont, e_set, e_setR, e_setX, e_setB, e_own, e_ownR, e_asg, e_asgR, e_nxO, e_tgT, e_putN, e_putC, e_tgN, e_tgB, e_drop, e_dropR, e_ret, e_retR, e_retX, e_retB, e_retN, e_if, e_ifT, e_ifF, e_app, e_appR, e_appB, e_frz, e_frzO, e_frzD, e_frzU, e_for, e_forR, e_forN, e_forC, e_turnB, e_turnN, e_turnC, e_turnK, e_turnR, e_turnX, e_it, e_itR, e_itA, e_itAR, e_asLst, e_asSlst, e_asTup, e_asStr, e_raise, e_run, e_endN, e_endR, e_endX, e_stC, e_st0, e_stS, e_addI, e_addS, e_addB, e_addLL, e_addOL, e_addLO, e_addOO, e_sub, e_mul, e_mod, e_div, e_neg, e_cmp, e_eqI, e_eqS, e_eqB, e_id, e_n1, e_isN, e_isI, e_isS, e_isT, e_isL, e_isB, e_isnN, e_isnI, e_isnS, e_isnT, e_isnL, e_isnB, e_ixS, e_ixT, e_ixL, e_ixSL, e_ixO, e_at_0, e_at_1, e_at_2, e_sg, e_lenS, e_lenT, e_lenL, e_lenSL, e_lenO, e_int, e_intT, e_intF, e_str, e_min, e_max, e_abs, e_m1, e_m1R, e_m1S, e_joinL, e_joinO, e_joinT, e_joinB, e_txN, e_txC, e_txS, e_isiS, e_isiL, e_isiTu, e_rep, e_replS, e_tabG, e_mpS, e_tabI, e_inS, e_sl, e_slR, e_slS, e_slT, e_oNone, e_oSome, e_oRI, e_slStr, e_slL, e_slSL, e_slO, e_lc, e_ca0, e_ca1, e_ca2, e_ca3, e_ca4, e_ca5, e_ca6, e_ca7, e_ca8, e_ca9, e_ca10, e_ca11, e_ca12, e_scS, e_scI, e_scB, e_scN, e_allN, e_allC, e_eqFS, e_eqFI, e_inST, e_inIT, e_index, e_spR, e_mg, e_mgS, e_smN, e_smC, eq_self, Nat.reduceLT, Nat.reduceGT, Nat.reduceAdd, Nat.reduceMul, Nat.reduceSub, Nat.reduceLeDiff, Nat.reduceEqDiff, Int.reduceLT, Int.reduceLE, Int.reduceEq, Int.reduceAdd, Int.reduceSub, Int.reduceMul, Int.reduceMod, Int.reduceDiv, Int.reduceNeg, Nat.zero_le, Nat.le_refl, List.length_cons, List.length_nil, ite_true, ite_false, if_true, if_false, decide_true, decide_false, Bool.not_true, Bool.not_false, Bool.and_true, Bool.true_and, Bool.and_false, Bool.false_and, Bool.or_true, Bool.or_false, Bool.true_or, Bool.false_or, List.cons.injEq, and_true, true_and, and_false, false_and, and_self, ne_eq, not_true_eq_false, not_false_eq_true, reduceCtorEq, List.nil_append, List.cons_append, List.append_nil, List.append_assoc, h1]⟩
    | true => exact ⟨t, .inr ht, fun _ _ _ _ => by simp only [e_rdDat, e_rdOwn, e_at0, e_atS, e_pu0, e_puS, e_var, e_c, e_op2, e_op2R, e_op2S, e_op1, e_op1S, e_opA, e_opAS, e_ofS, e_ofN, e_dB, e_toBS, e_and, e_andT, e_andF, e_or, e_orT, e_orF, e_not, e_notT, e_notF, e_notB, e_andV, e_andVT, e_andVF, e_orV, e_orVT, e_orVF, e_notV, e_notVB, e_ifE, e_ifET, e_ifEF, e_nil, e_cons, e_consR, e_consS, e_cleanN, e_cleanC, e_oN, e_oB, e_oI, e_oS, e_oT, e_oL, e_oSL, e_oOb, e_nf, e_tt, e_tup, e_tupR, e_tupB, e_items, e_itemsR, e_itemsB, e_fix, e_fixR, e_cat, e_catR, e_appN, e_appC, e_catB, e_catLL, e_catOL, e_catLO, e_catOO, e_call, e_callR, e_callB0, e_callB1, e_callB2, e_callB3, e_callB4, e_callB5, e_seq, e_seqN, e_seqR, e_seqB, e_seqC, e_seqX, e_skip, e_break, e_cont, e_set, e_setR, e_setX, e_setB, e_own, e_ownR, e_asg, e_asgR, e_nxO, e_tgT, e_putN, e_putC, e_tgN, e_tgB, e_drop, e_dropR, e_ret, e_retR, e_retX, e_retB, e_retN, e_if, e_ifT, e_ifF, e_app, e_appR, e_appB, e_frz, e_frzO, e_frzD, e_frzU, e_for, e_forR, e_forN, e_forC, e_turnB, e_turnN, e_turnC, e_turnK, e_turnR, e_turnX, e_it, e_itR, e_itA, e_itAR, e_asLst, e_asSlst, e_asTup, e_asStr, e_raise, e_run, e_endN, e_endR, e_endX, e_stC, e_st0, e_stS, e_addI, e_addS, e_addB, e_addLL, e_addOL, e_addLO, e_addOO, e_sub, e_mul, e_mod, e_div, e_neg, e_cmp, e_eqI, e_eqS, e_eqB, e_id, e_n1, e_isN, e_isI, e_isS, e_isT, e_isL, e_isB, e_isnN, e_isnI, e_isnS, e_isnT, e_isnL, e_isnB, e_ixS, e_ixT, e_ixL, e_ixSL, e_ixO, e_at_0, e_at_1, e_at_2, e_sg, e_lenS, e_lenT, e_lenL, e_lenSL, e_lenO, e_int, e_intT, e_intF, e_str, e_min, e_max, e_abs, e_m1, e_m1R, e_m1S, e_joinL, e_joinO, e_joinT, e_joinB, e_txN, e_txC, e_txS, e_isiS, e_isiL, e_isiTu, e_rep, e_replS, e_tabG, e_mpS, e_tabI, e_inS, e_sl, e_slR, e_slS, e_slT, e_oNone, e_oSome, e_oRI, e_slStr, e_slL, e_slSL, e_slO, e_lc, e_ca0, e_ca1, e_ca2, e_ca3, e_ca4, e_ca5, e_ca6, e_ca7, e_ca8, e_ca9, e_ca10, e_ca11, e_ca12, e_scS, e_scI, e_scB, e_scN, e_allN, e_allC, e_eqFS, e_eqFI, e_inST, e_inIT, e_index, e_spR, e_mg, e_mgS, e_smN, e_smC, eq_self, Nat.reduceLT, Nat.reduceGT, Nat.reduceAdd, Nat.reduceMul, Nat.reduceSub, Nat.reduceLeDiff, Nat.reduceEqDiff, Int.reduceLT, Int.reduceLE, Int.reduceEq, Int.reduceAdd, Int.reduceSub, Int.reduceMul, Int.reduceMod, Int.reduceDiv, Int.reduceNeg, Nat.zero_le, Nat.le_refl, List.length_cons, List.length_nil, ite_true, ite_false, if_true, if_false, decide_true, decide_false, Bool.not_true, Bool.not_false, Bool.and_true, Bool.true_and, Bool.and_false, Bool.false_and, Bool.or_true, Bool.or_false, Bool.true_or, Bool.false_or, List.cons.injEq, and_true, true_and, and_false, false_and, and_self, ne_eq, not_true_eq_false, not_false_eq_true, reduceCtorEq, List.nil_append, List.cons_append, List.append_nil, List.append_assoc, h1, et]⟩
  obtain ⟨sh, hsh, eA⟩ := A
  obtain ⟨k, hk, ok, eB⟩ := B
  obtain ⟨t', ht', eC⟩ := C
  refine ⟨.tup [.str sh, k, .str v, .str t', .str y], ⟨sh, v, t', y, k, rfl, hsh, hk, ht', hy⟩, ?_, rfl⟩
  unfold m__law_phrase d__law_phrase
  simp only [e_rdDat, e_rdOwn, e_at0, e_atS, e_pu0, e_puS, e_var, e_c, e_op2, e_op2R, e_op2S, e_op1, e_op1S, e_opA, e_opAS, e_ofS, e_ofN, e_dB, e_toBS, e_and, e_andT, e_andF, e_or, e_orT, e_orF, e_not, e_notT, e_notF, e_notB, e_andV, e_andVT, e_andVF, e_orV, e_orVT, e_orVF, e_notV, e_notVB, e_ifE, e_ifET, e_ifEF, e_nil, e_cons, e_consR, e_consS, e_cleanN, e_cleanC, e_oN, e_oB, e_oI, e_oS, e_oT, e_oL, e_oSL, e_oOb, e_nf, e_tt, e_tup, e_tupR, e_tupB, e_items, e_itemsR, e_itemsB, e_fix, e_fixR, e_cat, e_catR, e_appN, e_appC, e_catB, e_catLL, e_catOL, e_catLO, e_catOO, e_call, e_callR, e_callB0, e_callB1, e_callB2, e_callB3, e_callB4, e_callB5, e_seq, e_seqN, e_seqR, e_seqB, e_seqC, e_seqX, e_skip, e_break, e_cont, e_set, e_setR, e_setX, e_setB, e_own, e_ownR, e_asg, e_asgR, e_nxO, e_tgT, e_putN, e_putC, e_tgN, e_tgB, e_drop, e_dropR, e_ret, e_retR, e_retX, e_retB, e_retN, e_ifT, e_ifF, e_app, e_appR, e_appB, e_frz, e_frzO, e_frzD, e_frzU, e_for, e_forR, e_forN, e_forC, e_turnB, e_turnN, e_turnC, e_turnK, e_turnR, e_turnX, e_it, e_itR, e_itA, e_itAR, e_asLst, e_asSlst, e_asTup, e_asStr, e_raise, e_run, e_endN, e_endR, e_endX, e_stC, e_st0, e_stS, e_addI, e_addS, e_addB, e_addLL, e_addOL, e_addLO, e_addOO, e_sub, e_mul, e_mod, e_div, e_neg, e_cmp, e_eqI, e_eqS, e_eqB, e_id, e_n1, e_isN, e_isI, e_isS, e_isT, e_isL, e_isB, e_isnN, e_isnI, e_isnS, e_isnT, e_isnL, e_isnB, e_ixS, e_ixT, e_ixL, e_ixSL, e_ixO, e_at_0, e_at_1, e_at_2, e_sg, e_lenS, e_lenT, e_lenL, e_lenSL, e_lenO, e_int, e_intT, e_intF, e_str, e_min, e_max, e_abs, e_m1, e_m1R, e_m1S, e_joinL, e_joinO, e_joinT, e_joinB, e_txN, e_txC, e_txS, e_isiS, e_isiL, e_isiTu, e_rep, e_replS, e_tabG, e_mpS, e_tabI, e_inS, e_sl, e_slR, e_slS, e_slT, e_oNone, e_oSome, e_oRI, e_slStr, e_slL, e_slSL, e_slO, e_lc, e_ca0, e_ca1, e_ca2, e_ca3, e_ca4, e_ca5, e_ca6, e_ca7, e_ca8, e_ca9, e_ca10, e_ca11, e_ca12, e_scS, e_scI, e_scB, e_scN, e_allN, e_allC, e_inN, e_inC, e_eqFS, e_eqFI, e_inST, e_inIT, e_index, e_spR, e_mg, e_mgS, e_smN, e_smC, eq_self, Nat.reduceLT, Nat.reduceGT, Nat.reduceAdd, Nat.reduceMul, Nat.reduceSub, Nat.reduceLeDiff, Nat.reduceEqDiff, Int.reduceLT, Int.reduceLE, Int.reduceEq, Int.reduceAdd, Int.reduceSub, Int.reduceMul, Int.reduceMod, Int.reduceDiv, Int.reduceNeg, Nat.zero_le, Nat.le_refl, List.length_cons, List.length_nil, ite_true, ite_false, if_true, if_false, decide_true, decide_false, Bool.not_true, Bool.not_false, Bool.and_true, Bool.true_and, Bool.and_false, Bool.false_and, Bool.or_true, Bool.or_false, Bool.true_or, Bool.false_or, List.cons.injEq, and_true, true_and, and_false, false_and, and_self, ne_eq, not_true_eq_false, not_false_eq_true, reduceCtorEq, List.nil_append, List.cons_append, List.append_nil, List.append_assoc, ed', eA, eB, eC, ok, ey]

/-! ### the words of a phrase -/
def law22 : List (List Nat) := [L97, L96, L95, L94, L93, L92, L91, L90, L89, L88, L87, L86, L85, L84, L83, L82, L81, L80, L79, L78, L77, L76]
def verbB (v : List Nat) : Bool := match tbGet tb_VERB_WORDS v, spot v L74 with
  | some w, some i => decide (law22[i]? = some w) && decide (w.length ≤ 1000)
  | _, _ => false
theorem verbs_all : (Vs.drop 1).all verbB = true := by decide +kernel
theorem verb_ok {v : List Nat} (hv : v ∈ Vs.drop 1) : ∃ (w : List Nat) (i : Nat), tbGet tb_VERB_WORDS v = some w ∧ spot v L74 = some i ∧ atI [D.str L97, D.str L96, D.str L95, D.str L94, D.str L93, D.str L92, D.str L91, D.str L90, D.str L89, D.str L88, D.str L87, D.str L86, D.str L85, D.str L84, D.str L83, D.str L82, D.str L81, D.str L80, D.str L79, D.str L78, D.str L77, D.str L76] (i : Int) = some (.str w) ∧ (w.length ≤ 1000) = True := by
  have q := List.all_eq_true.mp verbs_all v hv
  unfold verbB at q
  split at q
  · rename_i w i h1 h2
    obtain ⟨q1, q2⟩ := Bool.and_eq_true_iff.mp q
    refine ⟨w, i, h1, h2, ?_, eq_true (of_decide_eq_true q2)⟩
    rw [at_nat]
    have e : [D.str L97, D.str L96, D.str L95, D.str L94, D.str L93, D.str L92, D.str L91, D.str L90, D.str L89, D.str L88, D.str L87, D.str L86, D.str L85, D.str L84, D.str L83, D.str L82, D.str L81, D.str L80, D.str L79, D.str L78, D.str L77, D.str L76] = law22.map D.str := rfl
    rw [e, List.getElem?_map, of_decide_eq_true q1]
    rfl
  · cases q
theorem strI_small : ∀ n : Nat, n < 1001 → (strI (n : Int)).length ≤ 1000 := by
  have h : ∀ n : Fin 1001, (strI ((n : Nat) : Int)).length ≤ 1000 := by decide +kernel
  exact fun n hn => h ⟨n, hn⟩
theorem cnt_ok {k : D} (h : k = .non ∨ ∃ i : Int, 0 ≤ i ∧ i ≤ 1000 ∧ k = .int i) : (fIsNot k .non = some (.bl false) ∧ isO k = false) ∨ ∃ cw, fIsNot k .non = some (.bl true) ∧ isO k = false ∧ fStr [k] = some (.str cw) ∧ (cw.length ≤ 1000) = True := by
  rcases h with rfl | ⟨i, h0, h1, rfl⟩
  · exact .inl ⟨rfl, rfl⟩
  · refine .inr ⟨strI i, rfl, rfl, ?_, ?_⟩
    · show (if i.natAbs < 1000000000000000000 then _ else _) = _
      rw [if_pos (by omega)]
    · have e : i = ((i.toNat : Nat) : Int) := by omega
      rw [e]
      exact eq_true (strI_small _ (by omega))
theorem seen_ok {y : List Nat} (h : y ∈ [[115], [114], [98]]) : ∃ (w : List Nat) (j : Nat), tbGet tb_SEEN_WORDS y = some w ∧ spot y L21 = some j ∧ atI [D.str L55, D.str L54, D.str L73] (j : Int) = some (.str w) ∧ (w.length ≤ 1000) = True := by
  rcases List.mem_cons.mp h with rfl | h
  · exact ⟨L55, 0, by decide, by decide, rfl, eq_true (by decide)⟩
  rcases List.mem_cons.mp h with rfl | h
  · exact ⟨L54, 1, by decide, by decide, rfl, eq_true (by decide)⟩
  rcases List.mem_cons.mp h with rfl | h
  · exact ⟨L73, 2, by decide, by decide, rfl, eq_true (by decide)⟩
  · cases h
theorem quoted_verb {v : List Nat} (h : v ∈ [L29, L28, L25, L26]) : v ∈ Vs.drop 1 ∧ (v = []) = False ∧ (v = L9) = False ∧ subIn v L11 = true ∧ inF (.str v) [.str L29, .str L28, .str L25, .str L26] = true := by
  have g : v ∈ Vs.drop 1 ∧ (v ≠ [] ∧ v ≠ L9) ∧ subIn v L11 = true ∧ inF (.str v) [.str L29, .str L28, .str L25, .str L26] = true := by
    revert v
    decide +kernel
  exact ⟨g.1, eq_false g.2.1.1, eq_false g.2.1.2, g.2.2⟩
theorem other_verb {v : List Nat} (h : v ∈ [L36, L35, L34, L33, L32, L31, L30, L37, L24, L23, L43, L42, L41, L40, L39, L38, L22]) : v ∈ Vs.drop 1 ∧ (v = []) = False ∧ (v = L9) = False ∧ subIn v L11 = false ∧ inF (.str v) [.str L29, .str L28, .str L25, .str L26] = false := by
  have g : v ∈ Vs.drop 1 ∧ (v ≠ [] ∧ v ≠ L9) ∧ subIn v L11 = false ∧ inF (.str v) [.str L29, .str L28, .str L25, .str L26] = false := by
    revert v
    decide +kernel
  exact ⟨g.1, eq_false g.2.1.1, eq_false g.2.1.2, g.2.2⟩
theorem words1 {sh v t y : List Nat} {k : D} (hsh : sh = [] ∨ ∃ c, sh = [c]) (hk : k = .non ∨ ∃ i : Int, 0 ≤ i ∧ i ≤ 1000 ∧ k = .int i) (ht : t = [] ∨ GoodT t) (hv : v = []) (hy : y = []) : ∃ x, m_in_words [.tup [.str sh, k, .str v, .str t, .str y]] = .ok (.str x) ∧ m__law_words [.tup [.str sh, k, .str v, .str t, .str y]] = .ok (.str x) := by
  subst hv hy
  have f1 : tbGet tb_VERB_WORDS [] = some L75 := by decide
  have f2 : inF (.str []) [.str L29, .str L28, .str L25, .str L26] = false := by decide
  rcases cnt_ok hk with ⟨k1, k2⟩ | ⟨cw, k1, k2, k3, k4⟩
  · rcases hsh with rfl | ⟨c, rfl⟩
    · rcases ht with rfl | ht
      · skip
        refine ⟨jn L8 [L75], ?_, ?_⟩
        · unfold m_in_words d_in_words
          simp only [e_rdDat, e_rdOwn, e_at0, e_atS, e_pu0, e_puS, e_var, e_c, e_op2, e_op2R, e_op2S, e_op1, e_op1S, e_opA, e_opAS, e_ofS, e_ofN, e_dB, e_toBS, e_and, e_andT, e_andF, e_or, e_orT, e_orF, e_not, e_notT, e_notF, e_notB, e_andV, e_andVT, e_andVF, e_orV, e_orVT, e_orVF, e_notV, e_notVB, e_ifE, e_ifET, e_ifEF, e_nil, e_cons, e_consR, e_consS, e_cleanN, e_cleanC, e_oN, e_oB, e_oI, e_oS, e_oT, e_oL, e_oSL, e_oOb, e_nf, e_tt, e_tup, e_tupR, e_tupB, e_items, e_itemsR, e_itemsB, e_fix, e_fixR, e_cat, e_catR, e_appN, e_appC, e_catB, e_catLL, e_catOL, e_catLO, e_catOO, e_call, e_callR, e_callB0, e_callB1, e_callB2, e_callB3, e_callB4, e_callB5, e_seq, e_seqN, e_seqR, e_seqB, e_seqC, e_seqX, e_skip, e_break, e_cont, e_set, e_setR, e_setX, e_setB, e_own, e_ownR, e_asg, e_asgR, e_nxO, e_tgT, e_putN, e_putC, e_tgN, e_tgB, e_drop, e_dropR, e_ret, e_retR, e_retX, e_retB, e_retN, e_if, e_ifT, e_ifF, e_app, e_appR, e_appB, e_frz, e_frzO, e_frzD, e_frzU, e_for, e_forR, e_forN, e_forC, e_turnB, e_turnN, e_turnC, e_turnK, e_turnR, e_turnX, e_it, e_itR, e_itA, e_itAR, e_asLst, e_asSlst, e_asTup, e_asStr, e_raise, e_run, e_endN, e_endR, e_endX, e_stC, e_st0, e_stS, e_addI, e_addS, e_addB, e_addLL, e_addOL, e_addLO, e_addOO, e_sub, e_mul, e_mod, e_div, e_neg, e_cmp, e_eqI, e_eqS, e_eqB, e_id, e_n1, e_isN, e_isI, e_isS, e_isT, e_isL, e_isB, e_isnN, e_isnI, e_isnS, e_isnT, e_isnL, e_isnB, e_ixS, e_ixT, e_ixL, e_ixSL, e_ixO, e_at_0, e_at_1, e_at_2, e_sg, e_lenS, e_lenT, e_lenL, e_lenSL, e_lenO, e_int, e_intT, e_intF, e_str, e_min, e_max, e_abs, e_m1, e_m1R, e_m1S, e_joinL, e_joinO, e_joinT, e_txN, e_txC, e_txS, e_isiS, e_isiL, e_isiTu, e_rep, e_replS, e_tabG, e_mpS, e_tabI, e_inS, e_sl, e_slR, e_slS, e_slT, e_oNone, e_oSome, e_oRI, e_slStr, e_slL, e_slSL, e_slO, e_lc, e_ca0, e_ca1, e_ca2, e_ca3, e_ca4, e_ca5, e_ca6, e_ca7, e_ca8, e_ca9, e_ca10, e_ca11, e_ca12, e_scS, e_scI, e_scB, e_scN, e_allN, e_allC, e_eqFS, e_eqFI, e_inST, e_inIT, e_index, e_spR, e_mg, e_mgS, e_smN, e_smC, eq_self, Nat.reduceLT, Nat.reduceGT, Nat.reduceAdd, Nat.reduceMul, Nat.reduceSub, Nat.reduceLeDiff, Nat.reduceEqDiff, Int.reduceLT, Int.reduceLE, Int.reduceEq, Int.reduceAdd, Int.reduceSub, Int.reduceMul, Int.reduceMod, Int.reduceDiv, Int.reduceNeg, Nat.zero_le, Nat.le_refl, List.length_cons, List.length_nil, ite_true, ite_false, if_true, if_false, decide_true, decide_false, Bool.not_true, Bool.not_false, Bool.and_true, Bool.true_and, Bool.and_false, Bool.false_and, Bool.or_true, Bool.or_false, Bool.true_or, Bool.false_or, List.cons.injEq, and_true, true_and, and_false, false_and, and_self, ne_eq, not_true_eq_false, not_false_eq_true, reduceCtorEq, List.nil_append, List.cons_append, List.append_nil, List.append_assoc, e_joinW, e_joinWT, k1, k2, f1, f2]
        · unfold m__law_words d__law_words
          simp only [e_rdDat, e_rdOwn, e_at0, e_atS, e_pu0, e_puS, e_var, e_c, e_op2, e_op2R, e_op2S, e_op1, e_op1S, e_opA, e_opAS, e_ofS, e_ofN, e_dB, e_toBS, e_and, e_andT, e_andF, e_or, e_orT, e_orF, e_not, e_notT, e_notF, e_notB, e_andV, e_andVT, e_andVF, e_orV, e_orVT, e_orVF, e_notV, e_notVB, e_ifE, e_ifET, e_ifEF, e_nil, e_cons, e_consR, e_consS, e_cleanN, e_cleanC, e_oN, e_oB, e_oI, e_oS, e_oT, e_oL, e_oSL, e_oOb, e_nf, e_tt, e_tup, e_tupR, e_tupB, e_items, e_itemsR, e_itemsB, e_fix, e_fixR, e_cat, e_catR, e_appN, e_appC, e_catB, e_catLL, e_catOL, e_catLO, e_catOO, e_call, e_callR, e_callB0, e_callB1, e_callB2, e_callB3, e_callB4, e_callB5, e_seq, e_seqN, e_seqR, e_seqB, e_seqC, e_seqX, e_skip, e_break, e_cont, e_set, e_setR, e_setX, e_setB, e_own, e_ownR, e_asg, e_asgR, e_nxO, e_tgT, e_putN, e_putC, e_tgN, e_tgB, e_drop, e_dropR, e_ret, e_retR, e_retX, e_retB, e_retN, e_if, e_ifT, e_ifF, e_app, e_appR, e_appB, e_frz, e_frzO, e_frzD, e_frzU, e_for, e_forR, e_forN, e_forC, e_turnB, e_turnN, e_turnC, e_turnK, e_turnR, e_turnX, e_it, e_itR, e_itA, e_itAR, e_asLst, e_asSlst, e_asTup, e_asStr, e_raise, e_run, e_endN, e_endR, e_endX, e_stC, e_st0, e_stS, e_addI, e_addS, e_addB, e_addLL, e_addOL, e_addLO, e_addOO, e_sub, e_mul, e_mod, e_div, e_neg, e_cmp, e_eqI, e_eqS, e_eqB, e_id, e_n1, e_isN, e_isI, e_isS, e_isT, e_isL, e_isB, e_isnN, e_isnI, e_isnS, e_isnT, e_isnL, e_isnB, e_ixS, e_ixT, e_ixL, e_ixSL, e_ixO, e_at_0, e_at_1, e_at_2, e_sg, e_lenS, e_lenT, e_lenL, e_lenSL, e_lenO, e_int, e_intT, e_intF, e_str, e_min, e_max, e_abs, e_m1, e_m1R, e_m1S, e_joinL, e_joinO, e_joinT, e_txN, e_txC, e_txS, e_isiS, e_isiL, e_isiTu, e_rep, e_replS, e_tabG, e_mpS, e_tabI, e_inS, e_sl, e_slR, e_slS, e_slT, e_oNone, e_oSome, e_oRI, e_slStr, e_slL, e_slSL, e_slO, e_lc, e_ca0, e_ca1, e_ca2, e_ca3, e_ca4, e_ca5, e_ca6, e_ca7, e_ca8, e_ca9, e_ca10, e_ca11, e_ca12, e_scS, e_scI, e_scB, e_scN, e_allN, e_allC, e_eqFS, e_eqFI, e_inST, e_inIT, e_index, e_spR, e_mg, e_mgS, e_smN, e_smC, eq_self, Nat.reduceLT, Nat.reduceGT, Nat.reduceAdd, Nat.reduceMul, Nat.reduceSub, Nat.reduceLeDiff, Nat.reduceEqDiff, Int.reduceLT, Int.reduceLE, Int.reduceEq, Int.reduceAdd, Int.reduceSub, Int.reduceMul, Int.reduceMod, Int.reduceDiv, Int.reduceNeg, Nat.zero_le, Nat.le_refl, List.length_cons, List.length_nil, ite_true, ite_false, if_true, if_false, decide_true, decide_false, Bool.not_true, Bool.not_false, Bool.and_true, Bool.true_and, Bool.and_false, Bool.false_and, Bool.or_true, Bool.or_false, Bool.true_or, Bool.false_or, List.cons.injEq, and_true, true_and, and_false, false_and, and_self, ne_eq, not_true_eq_false, not_false_eq_true, reduceCtorEq, List.nil_append, List.cons_append, List.append_nil, List.append_assoc, e_joinW, e_joinWT, k1, k2, f1, f2]
      · obtain ⟨t0, tt⟩ := t_words ht
        have t0 : (t = []) = False := eq_false t0
        rcases tt with ⟨p, p1, p2, p3⟩ | ⟨p, q, p1, q1, p2, p3⟩
        · have p1 : (p.length ≤ 1000) = True := eq_true (by omega)
          refine ⟨jn L8 [L75, p], ?_, ?_⟩
          · unfold m_in_words d_in_words
            simp only [e_rdDat, e_rdOwn, e_at0, e_atS, e_pu0, e_puS, e_var, e_c, e_op2, e_op2R, e_op2S, e_op1, e_op1S, e_opA, e_opAS, e_ofS, e_ofN, e_dB, e_toBS, e_and, e_andT, e_andF, e_or, e_orT, e_orF, e_not, e_notT, e_notF, e_notB, e_andV, e_andVT, e_andVF, e_orV, e_orVT, e_orVF, e_notV, e_notVB, e_ifE, e_ifET, e_ifEF, e_nil, e_cons, e_consR, e_consS, e_cleanN, e_cleanC, e_oN, e_oB, e_oI, e_oS, e_oT, e_oL, e_oSL, e_oOb, e_nf, e_tt, e_tup, e_tupR, e_tupB, e_items, e_itemsR, e_itemsB, e_fix, e_fixR, e_cat, e_catR, e_appN, e_appC, e_catB, e_catLL, e_catOL, e_catLO, e_catOO, e_call, e_callR, e_callB0, e_callB1, e_callB2, e_callB3, e_callB4, e_callB5, e_seq, e_seqN, e_seqR, e_seqB, e_seqC, e_seqX, e_skip, e_break, e_cont, e_set, e_setR, e_setX, e_setB, e_own, e_ownR, e_asg, e_asgR, e_nxO, e_tgT, e_putN, e_putC, e_tgN, e_tgB, e_drop, e_dropR, e_ret, e_retR, e_retX, e_retB, e_retN, e_if, e_ifT, e_ifF, e_app, e_appR, e_appB, e_frz, e_frzO, e_frzD, e_frzU, e_for, e_forR, e_forN, e_forC, e_turnB, e_turnN, e_turnC, e_turnK, e_turnR, e_turnX, e_it, e_itR, e_itA, e_itAR, e_asLst, e_asSlst, e_asTup, e_asStr, e_raise, e_run, e_endN, e_endR, e_endX, e_stC, e_st0, e_stS, e_addI, e_addS, e_addB, e_addLL, e_addOL, e_addLO, e_addOO, e_sub, e_mul, e_mod, e_div, e_neg, e_cmp, e_eqI, e_eqS, e_eqB, e_id, e_n1, e_isN, e_isI, e_isS, e_isT, e_isL, e_isB, e_isnN, e_isnI, e_isnS, e_isnT, e_isnL, e_isnB, e_ixS, e_ixT, e_ixL, e_ixSL, e_ixO, e_at_0, e_at_1, e_at_2, e_sg, e_lenS, e_lenT, e_lenL, e_lenSL, e_lenO, e_int, e_intT, e_intF, e_str, e_min, e_max, e_abs, e_m1, e_m1R, e_m1S, e_joinL, e_joinO, e_joinT, e_txN, e_txC, e_txS, e_isiS, e_isiL, e_isiTu, e_rep, e_replS, e_tabG, e_mpS, e_tabI, e_inS, e_sl, e_slR, e_slS, e_slT, e_oNone, e_oSome, e_oRI, e_slStr, e_slL, e_slSL, e_slO, e_lc, e_ca0, e_ca1, e_ca2, e_ca3, e_ca4, e_ca5, e_ca6, e_ca7, e_ca8, e_ca9, e_ca10, e_ca11, e_ca12, e_scS, e_scI, e_scB, e_scN, e_allN, e_allC, e_eqFS, e_eqFI, e_inST, e_inIT, e_index, e_spR, e_mg, e_mgS, e_smN, e_smC, eq_self, Nat.reduceLT, Nat.reduceGT, Nat.reduceAdd, Nat.reduceMul, Nat.reduceSub, Nat.reduceLeDiff, Nat.reduceEqDiff, Int.reduceLT, Int.reduceLE, Int.reduceEq, Int.reduceAdd, Int.reduceSub, Int.reduceMul, Int.reduceMod, Int.reduceDiv, Int.reduceNeg, Nat.zero_le, Nat.le_refl, List.length_cons, List.length_nil, ite_true, ite_false, if_true, if_false, decide_true, decide_false, Bool.not_true, Bool.not_false, Bool.and_true, Bool.true_and, Bool.and_false, Bool.false_and, Bool.or_true, Bool.or_false, Bool.true_or, Bool.false_or, List.cons.injEq, and_true, true_and, and_false, false_and, and_self, ne_eq, not_true_eq_false, not_false_eq_true, reduceCtorEq, List.nil_append, List.cons_append, List.append_nil, List.append_assoc, e_joinW, e_joinWT, k1, k2, f1, f2, t0, p1, p2, p3]
          · unfold m__law_words d__law_words
            simp only [e_rdDat, e_rdOwn, e_at0, e_atS, e_pu0, e_puS, e_var, e_c, e_op2, e_op2R, e_op2S, e_op1, e_op1S, e_opA, e_opAS, e_ofS, e_ofN, e_dB, e_toBS, e_and, e_andT, e_andF, e_or, e_orT, e_orF, e_not, e_notT, e_notF, e_notB, e_andV, e_andVT, e_andVF, e_orV, e_orVT, e_orVF, e_notV, e_notVB, e_ifE, e_ifET, e_ifEF, e_nil, e_cons, e_consR, e_consS, e_cleanN, e_cleanC, e_oN, e_oB, e_oI, e_oS, e_oT, e_oL, e_oSL, e_oOb, e_nf, e_tt, e_tup, e_tupR, e_tupB, e_items, e_itemsR, e_itemsB, e_fix, e_fixR, e_cat, e_catR, e_appN, e_appC, e_catB, e_catLL, e_catOL, e_catLO, e_catOO, e_call, e_callR, e_callB0, e_callB1, e_callB2, e_callB3, e_callB4, e_callB5, e_seq, e_seqN, e_seqR, e_seqB, e_seqC, e_seqX, e_skip, e_break, e_cont, e_set, e_setR, e_setX, e_setB, e_own, e_ownR, e_asg, e_asgR, e_nxO, e_tgT, e_putN, e_putC, e_tgN, e_tgB, e_drop, e_dropR, e_ret, e_retR, e_retX, e_retB, e_retN, e_if, e_ifT, e_ifF, e_app, e_appR, e_appB, e_frz, e_frzO, e_frzD, e_frzU, e_for, e_forR, e_forN, e_forC, e_turnB, e_turnN, e_turnC, e_turnK, e_turnR, e_turnX, e_it, e_itR, e_itA, e_itAR, e_asLst, e_asSlst, e_asTup, e_asStr, e_raise, e_run, e_endN, e_endR, e_endX, e_stC, e_st0, e_stS, e_addI, e_addS, e_addB, e_addLL, e_addOL, e_addLO, e_addOO, e_sub, e_mul, e_mod, e_div, e_neg, e_cmp, e_eqI, e_eqS, e_eqB, e_id, e_n1, e_isN, e_isI, e_isS, e_isT, e_isL, e_isB, e_isnN, e_isnI, e_isnS, e_isnT, e_isnL, e_isnB, e_ixS, e_ixT, e_ixL, e_ixSL, e_ixO, e_at_0, e_at_1, e_at_2, e_sg, e_lenS, e_lenT, e_lenL, e_lenSL, e_lenO, e_int, e_intT, e_intF, e_str, e_min, e_max, e_abs, e_m1, e_m1R, e_m1S, e_joinL, e_joinO, e_joinT, e_txN, e_txC, e_txS, e_isiS, e_isiL, e_isiTu, e_rep, e_replS, e_tabG, e_mpS, e_tabI, e_inS, e_sl, e_slR, e_slS, e_slT, e_oNone, e_oSome, e_oRI, e_slStr, e_slL, e_slSL, e_slO, e_lc, e_ca0, e_ca1, e_ca2, e_ca3, e_ca4, e_ca5, e_ca6, e_ca7, e_ca8, e_ca9, e_ca10, e_ca11, e_ca12, e_scS, e_scI, e_scB, e_scN, e_allN, e_allC, e_eqFS, e_eqFI, e_inST, e_inIT, e_index, e_spR, e_mg, e_mgS, e_smN, e_smC, eq_self, Nat.reduceLT, Nat.reduceGT, Nat.reduceAdd, Nat.reduceMul, Nat.reduceSub, Nat.reduceLeDiff, Nat.reduceEqDiff, Int.reduceLT, Int.reduceLE, Int.reduceEq, Int.reduceAdd, Int.reduceSub, Int.reduceMul, Int.reduceMod, Int.reduceDiv, Int.reduceNeg, Nat.zero_le, Nat.le_refl, List.length_cons, List.length_nil, ite_true, ite_false, if_true, if_false, decide_true, decide_false, Bool.not_true, Bool.not_false, Bool.and_true, Bool.true_and, Bool.and_false, Bool.false_and, Bool.or_true, Bool.or_false, Bool.true_or, Bool.false_or, List.cons.injEq, and_true, true_and, and_false, false_and, and_self, ne_eq, not_true_eq_false, not_false_eq_true, reduceCtorEq, List.nil_append, List.cons_append, List.append_nil, List.append_assoc, e_joinW, e_joinWT, k1, k2, f1, f2, t0, p1, p2, p3]
        · have p1 : (p.length ≤ 1000) = True := eq_true (by omega)
          have q1 : (q.length ≤ 1000) = True := eq_true (by omega)
          refine ⟨jn L8 [L75, p, q], ?_, ?_⟩
          · unfold m_in_words d_in_words
            simp only [e_rdDat, e_rdOwn, e_at0, e_atS, e_pu0, e_puS, e_var, e_c, e_op2, e_op2R, e_op2S, e_op1, e_op1S, e_opA, e_opAS, e_ofS, e_ofN, e_dB, e_toBS, e_and, e_andT, e_andF, e_or, e_orT, e_orF, e_not, e_notT, e_notF, e_notB, e_andV, e_andVT, e_andVF, e_orV, e_orVT, e_orVF, e_notV, e_notVB, e_ifE, e_ifET, e_ifEF, e_nil, e_cons, e_consR, e_consS, e_cleanN, e_cleanC, e_oN, e_oB, e_oI, e_oS, e_oT, e_oL, e_oSL, e_oOb, e_nf, e_tt, e_tup, e_tupR, e_tupB, e_items, e_itemsR, e_itemsB, e_fix, e_fixR, e_cat, e_catR, e_appN, e_appC, e_catB, e_catLL, e_catOL, e_catLO, e_catOO, e_call, e_callR, e_callB0, e_callB1, e_callB2, e_callB3, e_callB4, e_callB5, e_seq, e_seqN, e_seqR, e_seqB, e_seqC, e_seqX, e_skip, e_break, e_cont, e_set, e_setR, e_setX, e_setB, e_own, e_ownR, e_asg, e_asgR, e_nxO, e_tgT, e_putN, e_putC, e_tgN, e_tgB, e_drop, e_dropR, e_ret, e_retR, e_retX, e_retB, e_retN, e_if, e_ifT, e_ifF, e_app, e_appR, e_appB, e_frz, e_frzO, e_frzD, e_frzU, e_for, e_forR, e_forN, e_forC, e_turnB, e_turnN, e_turnC, e_turnK, e_turnR, e_turnX, e_it, e_itR, e_itA, e_itAR, e_asLst, e_asSlst, e_asTup, e_asStr, e_raise, e_run, e_endN, e_endR, e_endX, e_stC, e_st0, e_stS, e_addI, e_addS, e_addB, e_addLL, e_addOL, e_addLO, e_addOO, e_sub, e_mul, e_mod, e_div, e_neg, e_cmp, e_eqI, e_eqS, e_eqB, e_id, e_n1, e_isN, e_isI, e_isS, e_isT, e_isL, e_isB, e_isnN, e_isnI, e_isnS, e_isnT, e_isnL, e_isnB, e_ixS, e_ixT, e_ixL, e_ixSL, e_ixO, e_at_0, e_at_1, e_at_2, e_sg, e_lenS, e_lenT, e_lenL, e_lenSL, e_lenO, e_int, e_intT, e_intF, e_str, e_min, e_max, e_abs, e_m1, e_m1R, e_m1S, e_joinL, e_joinO, e_joinT, e_txN, e_txC, e_txS, e_isiS, e_isiL, e_isiTu, e_rep, e_replS, e_tabG, e_mpS, e_tabI, e_inS, e_sl, e_slR, e_slS, e_slT, e_oNone, e_oSome, e_oRI, e_slStr, e_slL, e_slSL, e_slO, e_lc, e_ca0, e_ca1, e_ca2, e_ca3, e_ca4, e_ca5, e_ca6, e_ca7, e_ca8, e_ca9, e_ca10, e_ca11, e_ca12, e_scS, e_scI, e_scB, e_scN, e_allN, e_allC, e_eqFS, e_eqFI, e_inST, e_inIT, e_index, e_spR, e_mg, e_mgS, e_smN, e_smC, eq_self, Nat.reduceLT, Nat.reduceGT, Nat.reduceAdd, Nat.reduceMul, Nat.reduceSub, Nat.reduceLeDiff, Nat.reduceEqDiff, Int.reduceLT, Int.reduceLE, Int.reduceEq, Int.reduceAdd, Int.reduceSub, Int.reduceMul, Int.reduceMod, Int.reduceDiv, Int.reduceNeg, Nat.zero_le, Nat.le_refl, List.length_cons, List.length_nil, ite_true, ite_false, if_true, if_false, decide_true, decide_false, Bool.not_true, Bool.not_false, Bool.and_true, Bool.true_and, Bool.and_false, Bool.false_and, Bool.or_true, Bool.or_false, Bool.true_or, Bool.false_or, List.cons.injEq, and_true, true_and, and_false, false_and, and_self, ne_eq, not_true_eq_false, not_false_eq_true, reduceCtorEq, List.nil_append, List.cons_append, List.append_nil, List.append_assoc, e_joinW, e_joinWT, k1, k2, f1, f2, t0, p1, q1, p2, p3]
          · unfold m__law_words d__law_words
            simp only [e_rdDat, e_rdOwn, e_at0, e_atS, e_pu0, e_puS, e_var, e_c, e_op2, e_op2R, e_op2S, e_op1, e_op1S, e_opA, e_opAS, e_ofS, e_ofN, e_dB, e_toBS, e_and, e_andT, e_andF, e_or, e_orT, e_orF, e_not, e_notT, e_notF, e_notB, e_andV, e_andVT, e_andVF, e_orV, e_orVT, e_orVF, e_notV, e_notVB, e_ifE, e_ifET, e_ifEF, e_nil, e_cons, e_consR, e_consS, e_cleanN, e_cleanC, e_oN, e_oB, e_oI, e_oS, e_oT, e_oL, e_oSL, e_oOb, e_nf, e_tt, e_tup, e_tupR, e_tupB, e_items, e_itemsR, e_itemsB, e_fix, e_fixR, e_cat, e_catR, e_appN, e_appC, e_catB, e_catLL, e_catOL, e_catLO, e_catOO, e_call, e_callR, e_callB0, e_callB1, e_callB2, e_callB3, e_callB4, e_callB5, e_seq, e_seqN, e_seqR, e_seqB, e_seqC, e_seqX, e_skip, e_break, e_cont, e_set, e_setR, e_setX, e_setB, e_own, e_ownR, e_asg, e_asgR, e_nxO, e_tgT, e_putN, e_putC, e_tgN, e_tgB, e_drop, e_dropR, e_ret, e_retR, e_retX, e_retB, e_retN, e_if, e_ifT, e_ifF, e_app, e_appR, e_appB, e_frz, e_frzO, e_frzD, e_frzU, e_for, e_forR, e_forN, e_forC, e_turnB, e_turnN, e_turnC, e_turnK, e_turnR, e_turnX, e_it, e_itR, e_itA, e_itAR, e_asLst, e_asSlst, e_asTup, e_asStr, e_raise, e_run, e_endN, e_endR, e_endX, e_stC, e_st0, e_stS, e_addI, e_addS, e_addB, e_addLL, e_addOL, e_addLO, e_addOO, e_sub, e_mul, e_mod, e_div, e_neg, e_cmp, e_eqI, e_eqS, e_eqB, e_id, e_n1, e_isN, e_isI, e_isS, e_isT, e_isL, e_isB, e_isnN, e_isnI, e_isnS, e_isnT, e_isnL, e_isnB, e_ixS, e_ixT, e_ixL, e_ixSL, e_ixO, e_at_0, e_at_1, e_at_2, e_sg, e_lenS, e_lenT, e_lenL, e_lenSL, e_lenO, e_int, e_intT, e_intF, e_str, e_min, e_max, e_abs, e_m1, e_m1R, e_m1S, e_joinL, e_joinO, e_joinT, e_txN, e_txC, e_txS, e_isiS, e_isiL, e_isiTu, e_rep, e_replS, e_tabG, e_mpS, e_tabI, e_inS, e_sl, e_slR, e_slS, e_slT, e_oNone, e_oSome, e_oRI, e_slStr, e_slL, e_slSL, e_slO, e_lc, e_ca0, e_ca1, e_ca2, e_ca3, e_ca4, e_ca5, e_ca6, e_ca7, e_ca8, e_ca9, e_ca10, e_ca11, e_ca12, e_scS, e_scI, e_scB, e_scN, e_allN, e_allC, e_eqFS, e_eqFI, e_inST, e_inIT, e_index, e_spR, e_mg, e_mgS, e_smN, e_smC, eq_self, Nat.reduceLT, Nat.reduceGT, Nat.reduceAdd, Nat.reduceMul, Nat.reduceSub, Nat.reduceLeDiff, Nat.reduceEqDiff, Int.reduceLT, Int.reduceLE, Int.reduceEq, Int.reduceAdd, Int.reduceSub, Int.reduceMul, Int.reduceMod, Int.reduceDiv, Int.reduceNeg, Nat.zero_le, Nat.le_refl, List.length_cons, List.length_nil, ite_true, ite_false, if_true, if_false, decide_true, decide_false, Bool.not_true, Bool.not_false, Bool.and_true, Bool.true_and, Bool.and_false, Bool.false_and, Bool.or_true, Bool.or_false, Bool.true_or, Bool.false_or, List.cons.injEq, and_true, true_and, and_false, false_and, and_self, ne_eq, not_true_eq_false, not_false_eq_true, reduceCtorEq, List.nil_append, List.cons_append, List.append_nil, List.append_assoc, e_joinW, e_joinWT, k1, k2, f1, f2, t0, p1, q1, p2, p3]
    · rcases ht with rfl | ht
      · skip
        refine ⟨jn L8 [L75, L13, [c]], ?_, ?_⟩
        · unfold m_in_words d_in_words
          simp only [e_rdDat, e_rdOwn, e_at0, e_atS, e_pu0, e_puS, e_var, e_c, e_op2, e_op2R, e_op2S, e_op1, e_op1S, e_opA, e_opAS, e_ofS, e_ofN, e_dB, e_toBS, e_and, e_andT, e_andF, e_or, e_orT, e_orF, e_not, e_notT, e_notF, e_notB, e_andV, e_andVT, e_andVF, e_orV, e_orVT, e_orVF, e_notV, e_notVB, e_ifE, e_ifET, e_ifEF, e_nil, e_cons, e_consR, e_consS, e_cleanN, e_cleanC, e_oN, e_oB, e_oI, e_oS, e_oT, e_oL, e_oSL, e_oOb, e_nf, e_tt, e_tup, e_tupR, e_tupB, e_items, e_itemsR, e_itemsB, e_fix, e_fixR, e_cat, e_catR, e_appN, e_appC, e_catB, e_catLL, e_catOL, e_catLO, e_catOO, e_call, e_callR, e_callB0, e_callB1, e_callB2, e_callB3, e_callB4, e_callB5, e_seq, e_seqN, e_seqR, e_seqB, e_seqC, e_seqX, e_skip, e_break, e_cont, e_set, e_setR, e_setX, e_setB, e_own, e_ownR, e_asg, e_asgR, e_nxO, e_tgT, e_putN, e_putC, e_tgN, e_tgB, e_drop, e_dropR, e_ret, e_retR, e_retX, e_retB, e_retN, e_if, e_ifT, e_ifF, e_app, e_appR, e_appB, e_frz, e_frzO, e_frzD, e_frzU, e_for, e_forR, e_forN, e_forC, e_turnB, e_turnN, e_turnC, e_turnK, e_turnR, e_turnX, e_it, e_itR, e_itA, e_itAR, e_asLst, e_asSlst, e_asTup, e_asStr, e_raise, e_run, e_endN, e_endR, e_endX, e_stC, e_st0, e_stS, e_addI, e_addS, e_addB, e_addLL, e_addOL, e_addLO, e_addOO, e_sub, e_mul, e_mod, e_div, e_neg, e_cmp, e_eqI, e_eqS, e_eqB, e_id, e_n1, e_isN, e_isI, e_isS, e_isT, e_isL, e_isB, e_isnN, e_isnI, e_isnS, e_isnT, e_isnL, e_isnB, e_ixS, e_ixT, e_ixL, e_ixSL, e_ixO, e_at_0, e_at_1, e_at_2, e_sg, e_lenS, e_lenT, e_lenL, e_lenSL, e_lenO, e_int, e_intT, e_intF, e_str, e_min, e_max, e_abs, e_m1, e_m1R, e_m1S, e_joinL, e_joinO, e_joinT, e_txN, e_txC, e_txS, e_isiS, e_isiL, e_isiTu, e_rep, e_replS, e_tabG, e_mpS, e_tabI, e_inS, e_sl, e_slR, e_slS, e_slT, e_oNone, e_oSome, e_oRI, e_slStr, e_slL, e_slSL, e_slO, e_lc, e_ca0, e_ca1, e_ca2, e_ca3, e_ca4, e_ca5, e_ca6, e_ca7, e_ca8, e_ca9, e_ca10, e_ca11, e_ca12, e_scS, e_scI, e_scB, e_scN, e_allN, e_allC, e_eqFS, e_eqFI, e_inST, e_inIT, e_index, e_spR, e_mg, e_mgS, e_smN, e_smC, eq_self, Nat.reduceLT, Nat.reduceGT, Nat.reduceAdd, Nat.reduceMul, Nat.reduceSub, Nat.reduceLeDiff, Nat.reduceEqDiff, Int.reduceLT, Int.reduceLE, Int.reduceEq, Int.reduceAdd, Int.reduceSub, Int.reduceMul, Int.reduceMod, Int.reduceDiv, Int.reduceNeg, Nat.zero_le, Nat.le_refl, List.length_cons, List.length_nil, ite_true, ite_false, if_true, if_false, decide_true, decide_false, Bool.not_true, Bool.not_false, Bool.and_true, Bool.true_and, Bool.and_false, Bool.false_and, Bool.or_true, Bool.or_false, Bool.true_or, Bool.false_or, List.cons.injEq, and_true, true_and, and_false, false_and, and_self, ne_eq, not_true_eq_false, not_false_eq_true, reduceCtorEq, List.nil_append, List.cons_append, List.append_nil, List.append_assoc, e_joinW, e_joinWT, k1, k2, f1, f2]
        · unfold m__law_words d__law_words
          simp only [e_rdDat, e_rdOwn, e_at0, e_atS, e_pu0, e_puS, e_var, e_c, e_op2, e_op2R, e_op2S, e_op1, e_op1S, e_opA, e_opAS, e_ofS, e_ofN, e_dB, e_toBS, e_and, e_andT, e_andF, e_or, e_orT, e_orF, e_not, e_notT, e_notF, e_notB, e_andV, e_andVT, e_andVF, e_orV, e_orVT, e_orVF, e_notV, e_notVB, e_ifE, e_ifET, e_ifEF, e_nil, e_cons, e_consR, e_consS, e_cleanN, e_cleanC, e_oN, e_oB, e_oI, e_oS, e_oT, e_oL, e_oSL, e_oOb, e_nf, e_tt, e_tup, e_tupR, e_tupB, e_items, e_itemsR, e_itemsB, e_fix, e_fixR, e_cat, e_catR, e_appN, e_appC, e_catB, e_catLL, e_catOL, e_catLO, e_catOO, e_call, e_callR, e_callB0, e_callB1, e_callB2, e_callB3, e_callB4, e_callB5, e_seq, e_seqN, e_seqR, e_seqB, e_seqC, e_seqX, e_skip, e_break, e_cont, e_set, e_setR, e_setX, e_setB, e_own, e_ownR, e_asg, e_asgR, e_nxO, e_tgT, e_putN, e_putC, e_tgN, e_tgB, e_drop, e_dropR, e_ret, e_retR, e_retX, e_retB, e_retN, e_if, e_ifT, e_ifF, e_app, e_appR, e_appB, e_frz, e_frzO, e_frzD, e_frzU, e_for, e_forR, e_forN, e_forC, e_turnB, e_turnN, e_turnC, e_turnK, e_turnR, e_turnX, e_it, e_itR, e_itA, e_itAR, e_asLst, e_asSlst, e_asTup, e_asStr, e_raise, e_run, e_endN, e_endR, e_endX, e_stC, e_st0, e_stS, e_addI, e_addS, e_addB, e_addLL, e_addOL, e_addLO, e_addOO, e_sub, e_mul, e_mod, e_div, e_neg, e_cmp, e_eqI, e_eqS, e_eqB, e_id, e_n1, e_isN, e_isI, e_isS, e_isT, e_isL, e_isB, e_isnN, e_isnI, e_isnS, e_isnT, e_isnL, e_isnB, e_ixS, e_ixT, e_ixL, e_ixSL, e_ixO, e_at_0, e_at_1, e_at_2, e_sg, e_lenS, e_lenT, e_lenL, e_lenSL, e_lenO, e_int, e_intT, e_intF, e_str, e_min, e_max, e_abs, e_m1, e_m1R, e_m1S, e_joinL, e_joinO, e_joinT, e_txN, e_txC, e_txS, e_isiS, e_isiL, e_isiTu, e_rep, e_replS, e_tabG, e_mpS, e_tabI, e_inS, e_sl, e_slR, e_slS, e_slT, e_oNone, e_oSome, e_oRI, e_slStr, e_slL, e_slSL, e_slO, e_lc, e_ca0, e_ca1, e_ca2, e_ca3, e_ca4, e_ca5, e_ca6, e_ca7, e_ca8, e_ca9, e_ca10, e_ca11, e_ca12, e_scS, e_scI, e_scB, e_scN, e_allN, e_allC, e_eqFS, e_eqFI, e_inST, e_inIT, e_index, e_spR, e_mg, e_mgS, e_smN, e_smC, eq_self, Nat.reduceLT, Nat.reduceGT, Nat.reduceAdd, Nat.reduceMul, Nat.reduceSub, Nat.reduceLeDiff, Nat.reduceEqDiff, Int.reduceLT, Int.reduceLE, Int.reduceEq, Int.reduceAdd, Int.reduceSub, Int.reduceMul, Int.reduceMod, Int.reduceDiv, Int.reduceNeg, Nat.zero_le, Nat.le_refl, List.length_cons, List.length_nil, ite_true, ite_false, if_true, if_false, decide_true, decide_false, Bool.not_true, Bool.not_false, Bool.and_true, Bool.true_and, Bool.and_false, Bool.false_and, Bool.or_true, Bool.or_false, Bool.true_or, Bool.false_or, List.cons.injEq, and_true, true_and, and_false, false_and, and_self, ne_eq, not_true_eq_false, not_false_eq_true, reduceCtorEq, List.nil_append, List.cons_append, List.append_nil, List.append_assoc, e_joinW, e_joinWT, k1, k2, f1, f2]
      · obtain ⟨t0, tt⟩ := t_words ht
        have t0 : (t = []) = False := eq_false t0
        rcases tt with ⟨p, p1, p2, p3⟩ | ⟨p, q, p1, q1, p2, p3⟩
        · have p1 : (p.length ≤ 1000) = True := eq_true (by omega)
          refine ⟨jn L8 [L75, L13, [c], p], ?_, ?_⟩
          · unfold m_in_words d_in_words
            simp only [e_rdDat, e_rdOwn, e_at0, e_atS, e_pu0, e_puS, e_var, e_c, e_op2, e_op2R, e_op2S, e_op1, e_op1S, e_opA, e_opAS, e_ofS, e_ofN, e_dB, e_toBS, e_and, e_andT, e_andF, e_or, e_orT, e_orF, e_not, e_notT, e_notF, e_notB, e_andV, e_andVT, e_andVF, e_orV, e_orVT, e_orVF, e_notV, e_notVB, e_ifE, e_ifET, e_ifEF, e_nil, e_cons, e_consR, e_consS, e_cleanN, e_cleanC, e_oN, e_oB, e_oI, e_oS, e_oT, e_oL, e_oSL, e_oOb, e_nf, e_tt, e_tup, e_tupR, e_tupB, e_items, e_itemsR, e_itemsB, e_fix, e_fixR, e_cat, e_catR, e_appN, e_appC, e_catB, e_catLL, e_catOL, e_catLO, e_catOO, e_call, e_callR, e_callB0, e_callB1, e_callB2, e_callB3, e_callB4, e_callB5, e_seq, e_seqN, e_seqR, e_seqB, e_seqC, e_seqX, e_skip, e_break, e_cont, e_set, e_setR, e_setX, e_setB, e_own, e_ownR, e_asg, e_asgR, e_nxO, e_tgT, e_putN, e_putC, e_tgN, e_tgB, e_drop, e_dropR, e_ret, e_retR, e_retX, e_retB, e_retN, e_if, e_ifT, e_ifF, e_app, e_appR, e_appB, e_frz, e_frzO, e_frzD, e_frzU, e_for, e_forR, e_forN, e_forC, e_turnB, e_turnN, e_turnC, e_turnK, e_turnR, e_turnX, e_it, e_itR, e_itA, e_itAR, e_asLst, e_asSlst, e_asTup, e_asStr, e_raise, e_run, e_endN, e_endR, e_endX, e_stC, e_st0, e_stS, e_addI, e_addS, e_addB, e_addLL, e_addOL, e_addLO, e_addOO, e_sub, e_mul, e_mod, e_div, e_neg, e_cmp, e_eqI, e_eqS, e_eqB, e_id, e_n1, e_isN, e_isI, e_isS, e_isT, e_isL, e_isB, e_isnN, e_isnI, e_isnS, e_isnT, e_isnL, e_isnB, e_ixS, e_ixT, e_ixL, e_ixSL, e_ixO, e_at_0, e_at_1, e_at_2, e_sg, e_lenS, e_lenT, e_lenL, e_lenSL, e_lenO, e_int, e_intT, e_intF, e_str, e_min, e_max, e_abs, e_m1, e_m1R, e_m1S, e_joinL, e_joinO, e_joinT, e_txN, e_txC, e_txS, e_isiS, e_isiL, e_isiTu, e_rep, e_replS, e_tabG, e_mpS, e_tabI, e_inS, e_sl, e_slR, e_slS, e_slT, e_oNone, e_oSome, e_oRI, e_slStr, e_slL, e_slSL, e_slO, e_lc, e_ca0, e_ca1, e_ca2, e_ca3, e_ca4, e_ca5, e_ca6, e_ca7, e_ca8, e_ca9, e_ca10, e_ca11, e_ca12, e_scS, e_scI, e_scB, e_scN, e_allN, e_allC, e_eqFS, e_eqFI, e_inST, e_inIT, e_index, e_spR, e_mg, e_mgS, e_smN, e_smC, eq_self, Nat.reduceLT, Nat.reduceGT, Nat.reduceAdd, Nat.reduceMul, Nat.reduceSub, Nat.reduceLeDiff, Nat.reduceEqDiff, Int.reduceLT, Int.reduceLE, Int.reduceEq, Int.reduceAdd, Int.reduceSub, Int.reduceMul, Int.reduceMod, Int.reduceDiv, Int.reduceNeg, Nat.zero_le, Nat.le_refl, List.length_cons, List.length_nil, ite_true, ite_false, if_true, if_false, decide_true, decide_false, Bool.not_true, Bool.not_false, Bool.and_true, Bool.true_and, Bool.and_false, Bool.false_and, Bool.or_true, Bool.or_false, Bool.true_or, Bool.false_or, List.cons.injEq, and_true, true_and, and_false, false_and, and_self, ne_eq, not_true_eq_false, not_false_eq_true, reduceCtorEq, List.nil_append, List.cons_append, List.append_nil, List.append_assoc, e_joinW, e_joinWT, k1, k2, f1, f2, t0, p1, p2, p3]
          · unfold m__law_words d__law_words
            simp only [e_rdDat, e_rdOwn, e_at0, e_atS, e_pu0, e_puS, e_var, e_c, e_op2, e_op2R, e_op2S, e_op1, e_op1S, e_opA, e_opAS, e_ofS, e_ofN, e_dB, e_toBS, e_and, e_andT, e_andF, e_or, e_orT, e_orF, e_not, e_notT, e_notF, e_notB, e_andV, e_andVT, e_andVF, e_orV, e_orVT, e_orVF, e_notV, e_notVB, e_ifE, e_ifET, e_ifEF, e_nil, e_cons, e_consR, e_consS, e_cleanN, e_cleanC, e_oN, e_oB, e_oI, e_oS, e_oT, e_oL, e_oSL, e_oOb, e_nf, e_tt, e_tup, e_tupR, e_tupB, e_items, e_itemsR, e_itemsB, e_fix, e_fixR, e_cat, e_catR, e_appN, e_appC, e_catB, e_catLL, e_catOL, e_catLO, e_catOO, e_call, e_callR, e_callB0, e_callB1, e_callB2, e_callB3, e_callB4, e_callB5, e_seq, e_seqN, e_seqR, e_seqB, e_seqC, e_seqX, e_skip, e_break, e_cont, e_set, e_setR, e_setX, e_setB, e_own, e_ownR, e_asg, e_asgR, e_nxO, e_tgT, e_putN, e_putC, e_tgN, e_tgB, e_drop, e_dropR, e_ret, e_retR, e_retX, e_retB, e_retN, e_if, e_ifT, e_ifF, e_app, e_appR, e_appB, e_frz, e_frzO, e_frzD, e_frzU, e_for, e_forR, e_forN, e_forC, e_turnB, e_turnN, e_turnC, e_turnK, e_turnR, e_turnX, e_it, e_itR, e_itA, e_itAR, e_asLst, e_asSlst, e_asTup, e_asStr, e_raise, e_run, e_endN, e_endR, e_endX, e_stC, e_st0, e_stS, e_addI, e_addS, e_addB, e_addLL, e_addOL, e_addLO, e_addOO, e_sub, e_mul, e_mod, e_div, e_neg, e_cmp, e_eqI, e_eqS, e_eqB, e_id, e_n1, e_isN, e_isI, e_isS, e_isT, e_isL, e_isB, e_isnN, e_isnI, e_isnS, e_isnT, e_isnL, e_isnB, e_ixS, e_ixT, e_ixL, e_ixSL, e_ixO, e_at_0, e_at_1, e_at_2, e_sg, e_lenS, e_lenT, e_lenL, e_lenSL, e_lenO, e_int, e_intT, e_intF, e_str, e_min, e_max, e_abs, e_m1, e_m1R, e_m1S, e_joinL, e_joinO, e_joinT, e_txN, e_txC, e_txS, e_isiS, e_isiL, e_isiTu, e_rep, e_replS, e_tabG, e_mpS, e_tabI, e_inS, e_sl, e_slR, e_slS, e_slT, e_oNone, e_oSome, e_oRI, e_slStr, e_slL, e_slSL, e_slO, e_lc, e_ca0, e_ca1, e_ca2, e_ca3, e_ca4, e_ca5, e_ca6, e_ca7, e_ca8, e_ca9, e_ca10, e_ca11, e_ca12, e_scS, e_scI, e_scB, e_scN, e_allN, e_allC, e_eqFS, e_eqFI, e_inST, e_inIT, e_index, e_spR, e_mg, e_mgS, e_smN, e_smC, eq_self, Nat.reduceLT, Nat.reduceGT, Nat.reduceAdd, Nat.reduceMul, Nat.reduceSub, Nat.reduceLeDiff, Nat.reduceEqDiff, Int.reduceLT, Int.reduceLE, Int.reduceEq, Int.reduceAdd, Int.reduceSub, Int.reduceMul, Int.reduceMod, Int.reduceDiv, Int.reduceNeg, Nat.zero_le, Nat.le_refl, List.length_cons, List.length_nil, ite_true, ite_false, if_true, if_false, decide_true, decide_false, Bool.not_true, Bool.not_false, Bool.and_true, Bool.true_and, Bool.and_false, Bool.false_and, Bool.or_true, Bool.or_false, Bool.true_or, Bool.false_or, List.cons.injEq, and_true, true_and, and_false, false_and, and_self, ne_eq, not_true_eq_false, not_false_eq_true, reduceCtorEq, List.nil_append, List.cons_append, List.append_nil, List.append_assoc, e_joinW, e_joinWT, k1, k2, f1, f2, t0, p1, p2, p3]
        · have p1 : (p.length ≤ 1000) = True := eq_true (by omega)
          have q1 : (q.length ≤ 1000) = True := eq_true (by omega)
          refine ⟨jn L8 [L75, L13, [c], p, q], ?_, ?_⟩
          · unfold m_in_words d_in_words
            simp only [e_rdDat, e_rdOwn, e_at0, e_atS, e_pu0, e_puS, e_var, e_c, e_op2, e_op2R, e_op2S, e_op1, e_op1S, e_opA, e_opAS, e_ofS, e_ofN, e_dB, e_toBS, e_and, e_andT, e_andF, e_or, e_orT, e_orF, e_not, e_notT, e_notF, e_notB, e_andV, e_andVT, e_andVF, e_orV, e_orVT, e_orVF, e_notV, e_notVB, e_ifE, e_ifET, e_ifEF, e_nil, e_cons, e_consR, e_consS, e_cleanN, e_cleanC, e_oN, e_oB, e_oI, e_oS, e_oT, e_oL, e_oSL, e_oOb, e_nf, e_tt, e_tup, e_tupR, e_tupB, e_items, e_itemsR, e_itemsB, e_fix, e_fixR, e_cat, e_catR, e_appN, e_appC, e_catB, e_catLL, e_catOL, e_catLO, e_catOO, e_call, e_callR, e_callB0, e_callB1, e_callB2, e_callB3, e_callB4, e_callB5, e_seq, e_seqN, e_seqR, e_seqB, e_seqC, e_seqX, e_skip, e_break, e_cont, e_set, e_setR, e_setX, e_setB, e_own, e_ownR, e_asg, e_asgR, e_nxO, e_tgT, e_putN, e_putC, e_tgN, e_tgB, e_drop, e_dropR, e_ret, e_retR, e_retX, e_retB, e_retN, e_if, e_ifT, e_ifF, e_app, e_appR, e_appB, e_frz, e_frzO, e_frzD, e_frzU, e_for, e_forR, e_forN, e_forC, e_turnB, e_turnN, e_turnC, e_turnK, e_turnR, e_turnX, e_it, e_itR, e_itA, e_itAR, e_asLst, e_asSlst, e_asTup, e_asStr, e_raise, e_run, e_endN, e_endR, e_endX, e_stC, e_st0, e_stS, e_addI, e_addS, e_addB, e_addLL, e_addOL, e_addLO, e_addOO, e_sub, e_mul, e_mod, e_div, e_neg, e_cmp, e_eqI, e_eqS, e_eqB, e_id, e_n1, e_isN, e_isI, e_isS, e_isT, e_isL, e_isB, e_isnN, e_isnI, e_isnS, e_isnT, e_isnL, e_isnB, e_ixS, e_ixT, e_ixL, e_ixSL, e_ixO, e_at_0, e_at_1, e_at_2, e_sg, e_lenS, e_lenT, e_lenL, e_lenSL, e_lenO, e_int, e_intT, e_intF, e_str, e_min, e_max, e_abs, e_m1, e_m1R, e_m1S, e_joinL, e_joinO, e_joinT, e_txN, e_txC, e_txS, e_isiS, e_isiL, e_isiTu, e_rep, e_replS, e_tabG, e_mpS, e_tabI, e_inS, e_sl, e_slR, e_slS, e_slT, e_oNone, e_oSome, e_oRI, e_slStr, e_slL, e_slSL, e_slO, e_lc, e_ca0, e_ca1, e_ca2, e_ca3, e_ca4, e_ca5, e_ca6, e_ca7, e_ca8, e_ca9, e_ca10, e_ca11, e_ca12, e_scS, e_scI, e_scB, e_scN, e_allN, e_allC, e_eqFS, e_eqFI, e_inST, e_inIT, e_index, e_spR, e_mg, e_mgS, e_smN, e_smC, eq_self, Nat.reduceLT, Nat.reduceGT, Nat.reduceAdd, Nat.reduceMul, Nat.reduceSub, Nat.reduceLeDiff, Nat.reduceEqDiff, Int.reduceLT, Int.reduceLE, Int.reduceEq, Int.reduceAdd, Int.reduceSub, Int.reduceMul, Int.reduceMod, Int.reduceDiv, Int.reduceNeg, Nat.zero_le, Nat.le_refl, List.length_cons, List.length_nil, ite_true, ite_false, if_true, if_false, decide_true, decide_false, Bool.not_true, Bool.not_false, Bool.and_true, Bool.true_and, Bool.and_false, Bool.false_and, Bool.or_true, Bool.or_false, Bool.true_or, Bool.false_or, List.cons.injEq, and_true, true_and, and_false, false_and, and_self, ne_eq, not_true_eq_false, not_false_eq_true, reduceCtorEq, List.nil_append, List.cons_append, List.append_nil, List.append_assoc, e_joinW, e_joinWT, k1, k2, f1, f2, t0, p1, q1, p2, p3]
          · unfold m__law_words d__law_words
            simp only [e_rdDat, e_rdOwn, e_at0, e_atS, e_pu0, e_puS, e_var, e_c, e_op2, e_op2R, e_op2S, e_op1, e_op1S, e_opA, e_opAS, e_ofS, e_ofN, e_dB, e_toBS, e_and, e_andT, e_andF, e_or, e_orT, e_orF, e_not, e_notT, e_notF, e_notB, e_andV, e_andVT, e_andVF, e_orV, e_orVT, e_orVF, e_notV, e_notVB, e_ifE, e_ifET, e_ifEF, e_nil, e_cons, e_consR, e_consS, e_cleanN, e_cleanC, e_oN, e_oB, e_oI, e_oS, e_oT, e_oL, e_oSL, e_oOb, e_nf, e_tt, e_tup, e_tupR, e_tupB, e_items, e_itemsR, e_itemsB, e_fix, e_fixR, e_cat, e_catR, e_appN, e_appC, e_catB, e_catLL, e_catOL, e_catLO, e_catOO, e_call, e_callR, e_callB0, e_callB1, e_callB2, e_callB3, e_callB4, e_callB5, e_seq, e_seqN, e_seqR, e_seqB, e_seqC, e_seqX, e_skip, e_break, e_cont, e_set, e_setR, e_setX, e_setB, e_own, e_ownR, e_asg, e_asgR, e_nxO, e_tgT, e_putN, e_putC, e_tgN, e_tgB, e_drop, e_dropR, e_ret, e_retR, e_retX, e_retB, e_retN, e_if, e_ifT, e_ifF, e_app, e_appR, e_appB, e_frz, e_frzO, e_frzD, e_frzU, e_for, e_forR, e_forN, e_forC, e_turnB, e_turnN, e_turnC, e_turnK, e_turnR, e_turnX, e_it, e_itR, e_itA, e_itAR, e_asLst, e_asSlst, e_asTup, e_asStr, e_raise, e_run, e_endN, e_endR, e_endX, e_stC, e_st0, e_stS, e_addI, e_addS, e_addB, e_addLL, e_addOL, e_addLO, e_addOO, e_sub, e_mul, e_mod, e_div, e_neg, e_cmp, e_eqI, e_eqS, e_eqB, e_id, e_n1, e_isN, e_isI, e_isS, e_isT, e_isL, e_isB, e_isnN, e_isnI, e_isnS, e_isnT, e_isnL, e_isnB, e_ixS, e_ixT, e_ixL, e_ixSL, e_ixO, e_at_0, e_at_1, e_at_2, e_sg, e_lenS, e_lenT, e_lenL, e_lenSL, e_lenO, e_int, e_intT, e_intF, e_str, e_min, e_max, e_abs, e_m1, e_m1R, e_m1S, e_joinL, e_joinO, e_joinT, e_txN, e_txC, e_txS, e_isiS, e_isiL, e_isiTu, e_rep, e_replS, e_tabG, e_mpS, e_tabI, e_inS, e_sl, e_slR, e_slS, e_slT, e_oNone, e_oSome, e_oRI, e_slStr, e_slL, e_slSL, e_slO, e_lc, e_ca0, e_ca1, e_ca2, e_ca3, e_ca4, e_ca5, e_ca6, e_ca7, e_ca8, e_ca9, e_ca10, e_ca11, e_ca12, e_scS, e_scI, e_scB, e_scN, e_allN, e_allC, e_eqFS, e_eqFI, e_inST, e_inIT, e_index, e_spR, e_mg, e_mgS, e_smN, e_smC, eq_self, Nat.reduceLT, Nat.reduceGT, Nat.reduceAdd, Nat.reduceMul, Nat.reduceSub, Nat.reduceLeDiff, Nat.reduceEqDiff, Int.reduceLT, Int.reduceLE, Int.reduceEq, Int.reduceAdd, Int.reduceSub, Int.reduceMul, Int.reduceMod, Int.reduceDiv, Int.reduceNeg, Nat.zero_le, Nat.le_refl, List.length_cons, List.length_nil, ite_true, ite_false, if_true, if_false, decide_true, decide_false, Bool.not_true, Bool.not_false, Bool.and_true, Bool.true_and, Bool.and_false, Bool.false_and, Bool.or_true, Bool.or_false, Bool.true_or, Bool.false_or, List.cons.injEq, and_true, true_and, and_false, false_and, and_self, ne_eq, not_true_eq_false, not_false_eq_true, reduceCtorEq, List.nil_append, List.cons_append, List.append_nil, List.append_assoc, e_joinW, e_joinWT, k1, k2, f1, f2, t0, p1, q1, p2, p3]
  · rcases hsh with rfl | ⟨c, rfl⟩
    · rcases ht with rfl | ht
      · skip
        refine ⟨jn L8 [L75, L12, cw], ?_, ?_⟩
        · unfold m_in_words d_in_words
          simp only [e_rdDat, e_rdOwn, e_at0, e_atS, e_pu0, e_puS, e_var, e_c, e_op2, e_op2R, e_op2S, e_op1, e_op1S, e_opA, e_opAS, e_ofS, e_ofN, e_dB, e_toBS, e_and, e_andT, e_andF, e_or, e_orT, e_orF, e_not, e_notT, e_notF, e_notB, e_andV, e_andVT, e_andVF, e_orV, e_orVT, e_orVF, e_notV, e_notVB, e_ifE, e_ifET, e_ifEF, e_nil, e_cons, e_consR, e_consS, e_cleanN, e_cleanC, e_oN, e_oB, e_oI, e_oS, e_oT, e_oL, e_oSL, e_oOb, e_nf, e_tt, e_tup, e_tupR, e_tupB, e_items, e_itemsR, e_itemsB, e_fix, e_fixR, e_cat, e_catR, e_appN, e_appC, e_catB, e_catLL, e_catOL, e_catLO, e_catOO, e_call, e_callR, e_callB0, e_callB1, e_callB2, e_callB3, e_callB4, e_callB5, e_seq, e_seqN, e_seqR, e_seqB, e_seqC, e_seqX, e_skip, e_break, e_cont, e_set, e_setR, e_setX, e_setB, e_own, e_ownR, e_asg, e_asgR, e_nxO, e_tgT, e_putN, e_putC, e_tgN, e_tgB, e_drop, e_dropR, e_ret, e_retR, e_retX, e_retB, e_retN, e_if, e_ifT, e_ifF, e_app, e_appR, e_appB, e_frz, e_frzO, e_frzD, e_frzU, e_for, e_forR, e_forN, e_forC, e_turnB, e_turnN, e_turnC, e_turnK, e_turnR, e_turnX, e_it, e_itR, e_itA, e_itAR, e_asLst, e_asSlst, e_asTup, e_asStr, e_raise, e_run, e_endN, e_endR, e_endX, e_stC, e_st0, e_stS, e_addI, e_addS, e_addB, e_addLL, e_addOL, e_addLO, e_addOO, e_sub, e_mul, e_mod, e_div, e_neg, e_cmp, e_eqI, e_eqS, e_eqB, e_id, e_n1, e_isN, e_isI, e_isS, e_isT, e_isL, e_isB, e_isnN, e_isnI, e_isnS, e_isnT, e_isnL, e_isnB, e_ixS, e_ixT, e_ixL, e_ixSL, e_ixO, e_at_0, e_at_1, e_at_2, e_sg, e_lenS, e_lenT, e_lenL, e_lenSL, e_lenO, e_int, e_intT, e_intF, e_str, e_min, e_max, e_abs, e_m1, e_m1R, e_m1S, e_joinL, e_joinO, e_joinT, e_txN, e_txC, e_txS, e_isiS, e_isiL, e_isiTu, e_rep, e_replS, e_tabG, e_mpS, e_tabI, e_inS, e_sl, e_slR, e_slS, e_slT, e_oNone, e_oSome, e_oRI, e_slStr, e_slL, e_slSL, e_slO, e_lc, e_ca0, e_ca1, e_ca2, e_ca3, e_ca4, e_ca5, e_ca6, e_ca7, e_ca8, e_ca9, e_ca10, e_ca11, e_ca12, e_scS, e_scI, e_scB, e_scN, e_allN, e_allC, e_eqFS, e_eqFI, e_inST, e_inIT, e_index, e_spR, e_mg, e_mgS, e_smN, e_smC, eq_self, Nat.reduceLT, Nat.reduceGT, Nat.reduceAdd, Nat.reduceMul, Nat.reduceSub, Nat.reduceLeDiff, Nat.reduceEqDiff, Int.reduceLT, Int.reduceLE, Int.reduceEq, Int.reduceAdd, Int.reduceSub, Int.reduceMul, Int.reduceMod, Int.reduceDiv, Int.reduceNeg, Nat.zero_le, Nat.le_refl, List.length_cons, List.length_nil, ite_true, ite_false, if_true, if_false, decide_true, decide_false, Bool.not_true, Bool.not_false, Bool.and_true, Bool.true_and, Bool.and_false, Bool.false_and, Bool.or_true, Bool.or_false, Bool.true_or, Bool.false_or, List.cons.injEq, and_true, true_and, and_false, false_and, and_self, ne_eq, not_true_eq_false, not_false_eq_true, reduceCtorEq, List.nil_append, List.cons_append, List.append_nil, List.append_assoc, e_joinW, e_joinWT, k1, k2, k3, k4, f1, f2]
        · unfold m__law_words d__law_words
          simp only [e_rdDat, e_rdOwn, e_at0, e_atS, e_pu0, e_puS, e_var, e_c, e_op2, e_op2R, e_op2S, e_op1, e_op1S, e_opA, e_opAS, e_ofS, e_ofN, e_dB, e_toBS, e_and, e_andT, e_andF, e_or, e_orT, e_orF, e_not, e_notT, e_notF, e_notB, e_andV, e_andVT, e_andVF, e_orV, e_orVT, e_orVF, e_notV, e_notVB, e_ifE, e_ifET, e_ifEF, e_nil, e_cons, e_consR, e_consS, e_cleanN, e_cleanC, e_oN, e_oB, e_oI, e_oS, e_oT, e_oL, e_oSL, e_oOb, e_nf, e_tt, e_tup, e_tupR, e_tupB, e_items, e_itemsR, e_itemsB, e_fix, e_fixR, e_cat, e_catR, e_appN, e_appC, e_catB, e_catLL, e_catOL, e_catLO, e_catOO, e_call, e_callR, e_callB0, e_callB1, e_callB2, e_callB3, e_callB4, e_callB5, e_seq, e_seqN, e_seqR, e_seqB, e_seqC, e_seqX, e_skip, e_break, e_cont, e_set, e_setR, e_setX, e_setB, e_own, e_ownR, e_asg, e_asgR, e_nxO, e_tgT, e_putN, e_putC, e_tgN, e_tgB, e_drop, e_dropR, e_ret, e_retR, e_retX, e_retB, e_retN, e_if, e_ifT, e_ifF, e_app, e_appR, e_appB, e_frz, e_frzO, e_frzD, e_frzU, e_for, e_forR, e_forN, e_forC, e_turnB, e_turnN, e_turnC, e_turnK, e_turnR, e_turnX, e_it, e_itR, e_itA, e_itAR, e_asLst, e_asSlst, e_asTup, e_asStr, e_raise, e_run, e_endN, e_endR, e_endX, e_stC, e_st0, e_stS, e_addI, e_addS, e_addB, e_addLL, e_addOL, e_addLO, e_addOO, e_sub, e_mul, e_mod, e_div, e_neg, e_cmp, e_eqI, e_eqS, e_eqB, e_id, e_n1, e_isN, e_isI, e_isS, e_isT, e_isL, e_isB, e_isnN, e_isnI, e_isnS, e_isnT, e_isnL, e_isnB, e_ixS, e_ixT, e_ixL, e_ixSL, e_ixO, e_at_0, e_at_1, e_at_2, e_sg, e_lenS, e_lenT, e_lenL, e_lenSL, e_lenO, e_int, e_intT, e_intF, e_str, e_min, e_max, e_abs, e_m1, e_m1R, e_m1S, e_joinL, e_joinO, e_joinT, e_txN, e_txC, e_txS, e_isiS, e_isiL, e_isiTu, e_rep, e_replS, e_tabG, e_mpS, e_tabI, e_inS, e_sl, e_slR, e_slS, e_slT, e_oNone, e_oSome, e_oRI, e_slStr, e_slL, e_slSL, e_slO, e_lc, e_ca0, e_ca1, e_ca2, e_ca3, e_ca4, e_ca5, e_ca6, e_ca7, e_ca8, e_ca9, e_ca10, e_ca11, e_ca12, e_scS, e_scI, e_scB, e_scN, e_allN, e_allC, e_eqFS, e_eqFI, e_inST, e_inIT, e_index, e_spR, e_mg, e_mgS, e_smN, e_smC, eq_self, Nat.reduceLT, Nat.reduceGT, Nat.reduceAdd, Nat.reduceMul, Nat.reduceSub, Nat.reduceLeDiff, Nat.reduceEqDiff, Int.reduceLT, Int.reduceLE, Int.reduceEq, Int.reduceAdd, Int.reduceSub, Int.reduceMul, Int.reduceMod, Int.reduceDiv, Int.reduceNeg, Nat.zero_le, Nat.le_refl, List.length_cons, List.length_nil, ite_true, ite_false, if_true, if_false, decide_true, decide_false, Bool.not_true, Bool.not_false, Bool.and_true, Bool.true_and, Bool.and_false, Bool.false_and, Bool.or_true, Bool.or_false, Bool.true_or, Bool.false_or, List.cons.injEq, and_true, true_and, and_false, false_and, and_self, ne_eq, not_true_eq_false, not_false_eq_true, reduceCtorEq, List.nil_append, List.cons_append, List.append_nil, List.append_assoc, e_joinW, e_joinWT, k1, k2, k3, k4, f1, f2]
      · obtain ⟨t0, tt⟩ := t_words ht
        have t0 : (t = []) = False := eq_false t0
        rcases tt with ⟨p, p1, p2, p3⟩ | ⟨p, q, p1, q1, p2, p3⟩
        · have p1 : (p.length ≤ 1000) = True := eq_true (by omega)
          refine ⟨jn L8 [L75, L12, cw, p], ?_, ?_⟩
          · unfold m_in_words d_in_words
            simp only [e_rdDat, e_rdOwn, e_at0, e_atS, e_pu0, e_puS, e_var, e_c, e_op2, e_op2R, e_op2S, e_op1, e_op1S, e_opA, e_opAS, e_ofS, e_ofN, e_dB, e_toBS, e_and, e_andT, e_andF, e_or, e_orT, e_orF, e_not, e_notT, e_notF, e_notB, e_andV, e_andVT, e_andVF, e_orV, e_orVT, e_orVF, e_notV, e_notVB, e_ifE, e_ifET, e_ifEF, e_nil, e_cons, e_consR, e_consS, e_cleanN, e_cleanC, e_oN, e_oB, e_oI, e_oS, e_oT, e_oL, e_oSL, e_oOb, e_nf, e_tt, e_tup, e_tupR, e_tupB, e_items, e_itemsR, e_itemsB, e_fix, e_fixR, e_cat, e_catR, e_appN, e_appC, e_catB, e_catLL, e_catOL, e_catLO, e_catOO, e_call, e_callR, e_callB0, e_callB1, e_callB2, e_callB3, e_callB4, e_callB5, e_seq, e_seqN, e_seqR, e_seqB, e_seqC, e_seqX, e_skip, e_break, e_cont, e_set, e_setR, e_setX, e_setB, e_own, e_ownR, e_asg, e_asgR, e_nxO, e_tgT, e_putN, e_putC, e_tgN, e_tgB, e_drop, e_dropR, e_ret, e_retR, e_retX, e_retB, e_retN, e_if, e_ifT, e_ifF, e_app, e_appR, e_appB, e_frz, e_frzO, e_frzD, e_frzU, e_for, e_forR, e_forN, e_forC, e_turnB, e_turnN, e_turnC, e_turnK, e_turnR, e_turnX, e_it, e_itR, e_itA, e_itAR, e_asLst, e_asSlst, e_asTup, e_asStr, e_raise, e_run, e_endN, e_endR, e_endX, e_stC, e_st0, e_stS, e_addI, e_addS, e_addB, e_addLL, e_addOL, e_addLO, e_addOO, e_sub, e_mul, e_mod, e_div, e_neg, e_cmp, e_eqI, e_eqS, e_eqB, e_id, e_n1, e_isN, e_isI, e_isS, e_isT, e_isL, e_isB, e_isnN, e_isnI, e_isnS, e_isnT, e_isnL, e_isnB, e_ixS, e_ixT, e_ixL, e_ixSL, e_ixO, e_at_0, e_at_1, e_at_2, e_sg, e_lenS, e_lenT, e_lenL, e_lenSL, e_lenO, e_int, e_intT, e_intF, e_str, e_min, e_max, e_abs, e_m1, e_m1R, e_m1S, e_joinL, e_joinO, e_joinT, e_txN, e_txC, e_txS, e_isiS, e_isiL, e_isiTu, e_rep, e_replS, e_tabG, e_mpS, e_tabI, e_inS, e_sl, e_slR, e_slS, e_slT, e_oNone, e_oSome, e_oRI, e_slStr, e_slL, e_slSL, e_slO, e_lc, e_ca0, e_ca1, e_ca2, e_ca3, e_ca4, e_ca5, e_ca6, e_ca7, e_ca8, e_ca9, e_ca10, e_ca11, e_ca12, e_scS, e_scI, e_scB, e_scN, e_allN, e_allC, e_eqFS, e_eqFI, e_inST, e_inIT, e_index, e_spR, e_mg, e_mgS, e_smN, e_smC, eq_self, Nat.reduceLT, Nat.reduceGT, Nat.reduceAdd, Nat.reduceMul, Nat.reduceSub, Nat.reduceLeDiff, Nat.reduceEqDiff, Int.reduceLT, Int.reduceLE, Int.reduceEq, Int.reduceAdd, Int.reduceSub, Int.reduceMul, Int.reduceMod, Int.reduceDiv, Int.reduceNeg, Nat.zero_le, Nat.le_refl, List.length_cons, List.length_nil, ite_true, ite_false, if_true, if_false, decide_true, decide_false, Bool.not_true, Bool.not_false, Bool.and_true, Bool.true_and, Bool.and_false, Bool.false_and, Bool.or_true, Bool.or_false, Bool.true_or, Bool.false_or, List.cons.injEq, and_true, true_and, and_false, false_and, and_self, ne_eq, not_true_eq_false, not_false_eq_true, reduceCtorEq, List.nil_append, List.cons_append, List.append_nil, List.append_assoc, e_joinW, e_joinWT, k1, k2, k3, k4, f1, f2, t0, p1, p2, p3]
          · unfold m__law_words d__law_words
            simp only [e_rdDat, e_rdOwn, e_at0, e_atS, e_pu0, e_puS, e_var, e_c, e_op2, e_op2R, e_op2S, e_op1, e_op1S, e_opA, e_opAS, e_ofS, e_ofN, e_dB, e_toBS, e_and, e_andT, e_andF, e_or, e_orT, e_orF, e_not, e_notT, e_notF, e_notB, e_andV, e_andVT, e_andVF, e_orV, e_orVT, e_orVF, e_notV, e_notVB, e_ifE, e_ifET, e_ifEF, e_nil, e_cons, e_consR, e_consS, e_cleanN, e_cleanC, e_oN, e_oB, e_oI, e_oS, e_oT, e_oL, e_oSL, e_oOb, e_nf, e_tt, e_tup, e_tupR, e_tupB, e_items, e_itemsR, e_itemsB, e_fix, e_fixR, e_cat, e_catR, e_appN, e_appC, e_catB, e_catLL, e_catOL, e_catLO, e_catOO, e_call, e_callR, e_callB0, e_callB1, e_callB2, e_callB3, e_callB4, e_callB5, e_seq, e_seqN, e_seqR, e_seqB, e_seqC, e_seqX, e_skip, e_break, e_cont, e_set, e_setR, e_setX, e_setB, e_own, e_ownR, e_asg, e_asgR, e_nxO, e_tgT, e_putN, e_putC, e_tgN, e_tgB, e_drop, e_dropR, e_ret, e_retR, e_retX, e_retB, e_retN, e_if, e_ifT, e_ifF, e_app, e_appR, e_appB, e_frz, e_frzO, e_frzD, e_frzU, e_for, e_forR, e_forN, e_forC, e_turnB, e_turnN, e_turnC, e_turnK, e_turnR, e_turnX, e_it, e_itR, e_itA, e_itAR, e_asLst, e_asSlst, e_asTup, e_asStr, e_raise, e_run, e_endN, e_endR, e_endX, e_stC, e_st0, e_stS, e_addI, e_addS, e_addB, e_addLL, e_addOL, e_addLO, e_addOO, e_sub, e_mul, e_mod, e_div, e_neg, e_cmp, e_eqI, e_eqS, e_eqB, e_id, e_n1, e_isN, e_isI, e_isS, e_isT, e_isL, e_isB, e_isnN, e_isnI, e_isnS, e_isnT, e_isnL, e_isnB, e_ixS, e_ixT, e_ixL, e_ixSL, e_ixO, e_at_0, e_at_1, e_at_2, e_sg, e_lenS, e_lenT, e_lenL, e_lenSL, e_lenO, e_int, e_intT, e_intF, e_str, e_min, e_max, e_abs, e_m1, e_m1R, e_m1S, e_joinL, e_joinO, e_joinT, e_txN, e_txC, e_txS, e_isiS, e_isiL, e_isiTu, e_rep, e_replS, e_tabG, e_mpS, e_tabI, e_inS, e_sl, e_slR, e_slS, e_slT, e_oNone, e_oSome, e_oRI, e_slStr, e_slL, e_slSL, e_slO, e_lc, e_ca0, e_ca1, e_ca2, e_ca3, e_ca4, e_ca5, e_ca6, e_ca7, e_ca8, e_ca9, e_ca10, e_ca11, e_ca12, e_scS, e_scI, e_scB, e_scN, e_allN, e_allC, e_eqFS, e_eqFI, e_inST, e_inIT, e_index, e_spR, e_mg, e_mgS, e_smN, e_smC, eq_self, Nat.reduceLT, Nat.reduceGT, Nat.reduceAdd, Nat.reduceMul, Nat.reduceSub, Nat.reduceLeDiff, Nat.reduceEqDiff, Int.reduceLT, Int.reduceLE, Int.reduceEq, Int.reduceAdd, Int.reduceSub, Int.reduceMul, Int.reduceMod, Int.reduceDiv, Int.reduceNeg, Nat.zero_le, Nat.le_refl, List.length_cons, List.length_nil, ite_true, ite_false, if_true, if_false, decide_true, decide_false, Bool.not_true, Bool.not_false, Bool.and_true, Bool.true_and, Bool.and_false, Bool.false_and, Bool.or_true, Bool.or_false, Bool.true_or, Bool.false_or, List.cons.injEq, and_true, true_and, and_false, false_and, and_self, ne_eq, not_true_eq_false, not_false_eq_true, reduceCtorEq, List.nil_append, List.cons_append, List.append_nil, List.append_assoc, e_joinW, e_joinWT, k1, k2, k3, k4, f1, f2, t0, p1, p2, p3]
        · have p1 : (p.length ≤ 1000) = True := eq_true (by omega)
          have q1 : (q.length ≤ 1000) = True := eq_true (by omega)
          refine ⟨jn L8 [L75, L12, cw, p, q], ?_, ?_⟩
          · unfold m_in_words d_in_words
            simp only [e_rdDat, e_rdOwn, e_at0, e_atS, e_pu0, e_puS, e_var, e_c, e_op2, e_op2R, e_op2S, e_op1, e_op1S, e_opA, e_opAS, e_ofS, e_ofN, e_dB, e_toBS, e_and, e_andT, e_andF, e_or, e_orT, e_orF, e_not, e_notT, e_notF, e_notB, e_andV, e_andVT, e_andVF, e_orV, e_orVT, e_orVF, e_notV, e_notVB, e_ifE, e_ifET, e_ifEF, e_nil, e_cons, e_consR, e_consS, e_cleanN, e_cleanC, e_oN, e_oB, e_oI, e_oS, e_oT, e_oL, e_oSL, e_oOb, e_nf, e_tt, e_tup, e_tupR, e_tupB, e_items, e_itemsR, e_itemsB, e_fix, e_fixR, e_cat, e_catR, e_appN, e_appC, e_catB, e_catLL, e_catOL, e_catLO, e_catOO, e_call, e_callR, e_callB0, e_callB1, e_callB2, e_callB3, e_callB4, e_callB5, e_seq, e_seqN, e_seqR, e_seqB, e_seqC, e_seqX, e_skip, e_break, e_cont, e_set, e_setR, e_setX, e_setB, e_own, e_ownR, e_asg, e_asgR, e_nxO, e_tgT, e_putN, e_putC, e_tgN, e_tgB, e_drop, e_dropR, e_ret, e_retR, e_retX, e_retB, e_retN, e_if, e_ifT, e_ifF, e_app, e_appR, e_appB, e_frz, e_frzO, e_frzD, e_frzU, e_for, e_forR, e_forN, e_forC, e_turnB, e_turnN, e_turnC, e_turnK, e_turnR, e_turnX, e_it, e_itR, e_itA, e_itAR, e_asLst, e_asSlst, e_asTup, e_asStr, e_raise, e_run, e_endN, e_endR, e_endX, e_stC, e_st0, e_stS, e_addI, e_addS, e_addB, e_addLL, e_addOL, e_addLO, e_addOO, e_sub, e_mul, e_mod, e_div, e_neg, e_cmp, e_eqI, e_eqS, e_eqB, e_id, e_n1, e_isN, e_isI, e_isS, e_isT, e_isL, e_isB, e_isnN, e_isnI, e_isnS, e_isnT, e_isnL, e_isnB, e_ixS, e_ixT, e_ixL, e_ixSL, e_ixO, e_at_0, e_at_1, e_at_2, e_sg, e_lenS, e_lenT, e_lenL, e_lenSL, e_lenO, e_int, e_intT, e_intF, e_str, e_min, e_max, e_abs, e_m1, e_m1R, e_m1S, e_joinL, e_joinO, e_joinT, e_txN, e_txC, e_txS, e_isiS, e_isiL, e_isiTu, e_rep, e_replS, e_tabG, e_mpS, e_tabI, e_inS, e_sl, e_slR, e_slS, e_slT, e_oNone, e_oSome, e_oRI, e_slStr, e_slL, e_slSL, e_slO, e_lc, e_ca0, e_ca1, e_ca2, e_ca3, e_ca4, e_ca5, e_ca6, e_ca7, e_ca8, e_ca9, e_ca10, e_ca11, e_ca12, e_scS, e_scI, e_scB, e_scN, e_allN, e_allC, e_eqFS, e_eqFI, e_inST, e_inIT, e_index, e_spR, e_mg, e_mgS, e_smN, e_smC, eq_self, Nat.reduceLT, Nat.reduceGT, Nat.reduceAdd, Nat.reduceMul, Nat.reduceSub, Nat.reduceLeDiff, Nat.reduceEqDiff, Int.reduceLT, Int.reduceLE, Int.reduceEq, Int.reduceAdd, Int.reduceSub, Int.reduceMul, Int.reduceMod, Int.reduceDiv, Int.reduceNeg, Nat.zero_le, Nat.le_refl, List.length_cons, List.length_nil, ite_true, ite_false, if_true, if_false, decide_true, decide_false, Bool.not_true, Bool.not_false, Bool.and_true, Bool.true_and, Bool.and_false, Bool.false_and, Bool.or_true, Bool.or_false, Bool.true_or, Bool.false_or, List.cons.injEq, and_true, true_and, and_false, false_and, and_self, ne_eq, not_true_eq_false, not_false_eq_true, reduceCtorEq, List.nil_append, List.cons_append, List.append_nil, List.append_assoc, e_joinW, e_joinWT, k1, k2, k3, k4, f1, f2, t0, p1, q1, p2, p3]
          · unfold m__law_words d__law_words
            simp only [e_rdDat, e_rdOwn, e_at0, e_atS, e_pu0, e_puS, e_var, e_c, e_op2, e_op2R, e_op2S, e_op1, e_op1S, e_opA, e_opAS, e_ofS, e_ofN, e_dB, e_toBS, e_and, e_andT, e_andF, e_or, e_orT, e_orF, e_not, e_notT, e_notF, e_notB, e_andV, e_andVT, e_andVF, e_orV, e_orVT, e_orVF, e_notV, e_notVB, e_ifE, e_ifET, e_ifEF, e_nil, e_cons, e_consR, e_consS, e_cleanN, e_cleanC, e_oN, e_oB, e_oI, e_oS, e_oT, e_oL, e_oSL, e_oOb, e_nf, e_tt, e_tup, e_tupR, e_tupB, e_items, e_itemsR, e_itemsB, e_fix, e_fixR, e_cat, e_catR, e_appN, e_appC, e_catB, e_catLL, e_catOL, e_catLO, e_catOO, e_call, e_callR, e_callB0, e_callB1, e_callB2, e_callB3, e_callB4, e_callB5, e_seq, e_seqN, e_seqR, e_seqB, e_seqC, e_seqX, e_skip, e_break, e_cont, e_set, e_setR, e_setX, e_setB, e_own, e_ownR, e_asg, e_asgR, e_nxO, e_tgT, e_putN, e_putC, e_tgN, e_tgB, e_drop, e_dropR, e_ret, e_retR, e_retX, e_retB, e_retN, e_if, e_ifT, e_ifF, e_app, e_appR, e_appB, e_frz, e_frzO, e_frzD, e_frzU, e_for, e_forR, e_forN, e_forC, e_turnB, e_turnN, e_turnC, e_turnK, e_turnR, e_turnX, e_it, e_itR, e_itA, e_itAR, e_asLst, e_asSlst, e_asTup, e_asStr, e_raise, e_run, e_endN, e_endR, e_endX, e_stC, e_st0, e_stS, e_addI, e_addS, e_addB, e_addLL, e_addOL, e_addLO, e_addOO, e_sub, e_mul, e_mod, e_div, e_neg, e_cmp, e_eqI, e_eqS, e_eqB, e_id, e_n1, e_isN, e_isI, e_isS, e_isT, e_isL, e_isB, e_isnN, e_isnI, e_isnS, e_isnT, e_isnL, e_isnB, e_ixS, e_ixT, e_ixL, e_ixSL, e_ixO, e_at_0, e_at_1, e_at_2, e_sg, e_lenS, e_lenT, e_lenL, e_lenSL, e_lenO, e_int, e_intT, e_intF, e_str, e_min, e_max, e_abs, e_m1, e_m1R, e_m1S, e_joinL, e_joinO, e_joinT, e_txN, e_txC, e_txS, e_isiS, e_isiL, e_isiTu, e_rep, e_replS, e_tabG, e_mpS, e_tabI, e_inS, e_sl, e_slR, e_slS, e_slT, e_oNone, e_oSome, e_oRI, e_slStr, e_slL, e_slSL, e_slO, e_lc, e_ca0, e_ca1, e_ca2, e_ca3, e_ca4, e_ca5, e_ca6, e_ca7, e_ca8, e_ca9, e_ca10, e_ca11, e_ca12, e_scS, e_scI, e_scB, e_scN, e_allN, e_allC, e_eqFS, e_eqFI, e_inST, e_inIT, e_index, e_spR, e_mg, e_mgS, e_smN, e_smC, eq_self, Nat.reduceLT, Nat.reduceGT, Nat.reduceAdd, Nat.reduceMul, Nat.reduceSub, Nat.reduceLeDiff, Nat.reduceEqDiff, Int.reduceLT, Int.reduceLE, Int.reduceEq, Int.reduceAdd, Int.reduceSub, Int.reduceMul, Int.reduceMod, Int.reduceDiv, Int.reduceNeg, Nat.zero_le, Nat.le_refl, List.length_cons, List.length_nil, ite_true, ite_false, if_true, if_false, decide_true, decide_false, Bool.not_true, Bool.not_false, Bool.and_true, Bool.true_and, Bool.and_false, Bool.false_and, Bool.or_true, Bool.or_false, Bool.true_or, Bool.false_or, List.cons.injEq, and_true, true_and, and_false, false_and, and_self, ne_eq, not_true_eq_false, not_false_eq_true, reduceCtorEq, List.nil_append, List.cons_append, List.append_nil, List.append_assoc, e_joinW, e_joinWT, k1, k2, k3, k4, f1, f2, t0, p1, q1, p2, p3]
    · rcases ht with rfl | ht
      · skip
        refine ⟨jn L8 [L75, L13, [c], L12, cw], ?_, ?_⟩
        · unfold m_in_words d_in_words
          simp only [e_rdDat, e_rdOwn, e_at0, e_atS, e_pu0, e_puS, e_var, e_c, e_op2, e_op2R, e_op2S, e_op1, e_op1S, e_opA, e_opAS, e_ofS, e_ofN, e_dB, e_toBS, e_and, e_andT, e_andF, e_or, e_orT, e_orF, e_not, e_notT, e_notF, e_notB, e_andV, e_andVT, e_andVF, e_orV, e_orVT, e_orVF, e_notV, e_notVB, e_ifE, e_ifET, e_ifEF, e_nil, e_cons, e_consR, e_consS, e_cleanN, e_cleanC, e_oN, e_oB, e_oI, e_oS, e_oT, e_oL, e_oSL, e_oOb, e_nf, e_tt, e_tup, e_tupR, e_tupB, e_items, e_itemsR, e_itemsB, e_fix, e_fixR, e_cat, e_catR, e_appN, e_appC, e_catB, e_catLL, e_catOL, e_catLO, e_catOO, e_call, e_callR, e_callB0, e_callB1, e_callB2, e_callB3, e_callB4, e_callB5, e_seq, e_seqN, e_seqR, e_seqB, e_seqC, e_seqX, e_skip, e_break, e_cont, e_set, e_setR, e_setX, e_setB, e_own, e_ownR, e_asg, e_asgR, e_nxO, e_tgT, e_putN, e_putC, e_tgN, e_tgB, e_drop, e_dropR, e_ret, e_retR, e_retX, e_retB, e_retN, e_if, e_ifT, e_ifF, e_app, e_appR, e_appB, e_frz, e_frzO, e_frzD, e_frzU, e_for, e_forR, e_forN, e_forC, e_turnB, e_turnN, e_turnC, e_turnK, e_turnR, e_turnX, e_it, e_itR, e_itA, e_itAR, e_asLst, e_asSlst, e_asTup, e_asStr, e_raise, e_run, e_endN, e_endR, e_endX, e_stC, e_st0, e_stS, e_addI, e_addS, e_addB, e_addLL, e_addOL, e_addLO, e_addOO, e_sub, e_mul, e_mod, e_div, e_neg, e_cmp, e_eqI, e_eqS, e_eqB, e_id, e_n1, e_isN, e_isI, e_isS, e_isT, e_isL, e_isB, e_isnN, e_isnI, e_isnS, e_isnT, e_isnL, e_isnB, e_ixS, e_ixT, e_ixL, e_ixSL, e_ixO, e_at_0, e_at_1, e_at_2, e_sg, e_lenS, e_lenT, e_lenL, e_lenSL, e_lenO, e_int, e_intT, e_intF, e_str, e_min, e_max, e_abs, e_m1, e_m1R, e_m1S, e_joinL, e_joinO, e_joinT, e_txN, e_txC, e_txS, e_isiS, e_isiL, e_isiTu, e_rep, e_replS, e_tabG, e_mpS, e_tabI, e_inS, e_sl, e_slR, e_slS, e_slT, e_oNone, e_oSome, e_oRI, e_slStr, e_slL, e_slSL, e_slO, e_lc, e_ca0, e_ca1, e_ca2, e_ca3, e_ca4, e_ca5, e_ca6, e_ca7, e_ca8, e_ca9, e_ca10, e_ca11, e_ca12, e_scS, e_scI, e_scB, e_scN, e_allN, e_allC, e_eqFS, e_eqFI, e_inST, e_inIT, e_index, e_spR, e_mg, e_mgS, e_smN, e_smC, eq_self, Nat.reduceLT, Nat.reduceGT, Nat.reduceAdd, Nat.reduceMul, Nat.reduceSub, Nat.reduceLeDiff, Nat.reduceEqDiff, Int.reduceLT, Int.reduceLE, Int.reduceEq, Int.reduceAdd, Int.reduceSub, Int.reduceMul, Int.reduceMod, Int.reduceDiv, Int.reduceNeg, Nat.zero_le, Nat.le_refl, List.length_cons, List.length_nil, ite_true, ite_false, if_true, if_false, decide_true, decide_false, Bool.not_true, Bool.not_false, Bool.and_true, Bool.true_and, Bool.and_false, Bool.false_and, Bool.or_true, Bool.or_false, Bool.true_or, Bool.false_or, List.cons.injEq, and_true, true_and, and_false, false_and, and_self, ne_eq, not_true_eq_false, not_false_eq_true, reduceCtorEq, List.nil_append, List.cons_append, List.append_nil, List.append_assoc, e_joinW, e_joinWT, k1, k2, k3, k4, f1, f2]
        · unfold m__law_words d__law_words
          simp only [e_rdDat, e_rdOwn, e_at0, e_atS, e_pu0, e_puS, e_var, e_c, e_op2, e_op2R, e_op2S, e_op1, e_op1S, e_opA, e_opAS, e_ofS, e_ofN, e_dB, e_toBS, e_and, e_andT, e_andF, e_or, e_orT, e_orF, e_not, e_notT, e_notF, e_notB, e_andV, e_andVT, e_andVF, e_orV, e_orVT, e_orVF, e_notV, e_notVB, e_ifE, e_ifET, e_ifEF, e_nil, e_cons, e_consR, e_consS, e_cleanN, e_cleanC, e_oN, e_oB, e_oI, e_oS, e_oT, e_oL, e_oSL, e_oOb, e_nf, e_tt, e_tup, e_tupR, e_tupB, e_items, e_itemsR, e_itemsB, e_fix, e_fixR, e_cat, e_catR, e_appN, e_appC, e_catB, e_catLL, e_catOL, e_catLO, e_catOO, e_call, e_callR, e_callB0, e_callB1, e_callB2, e_callB3, e_callB4, e_callB5, e_seq, e_seqN, e_seqR, e_seqB, e_seqC, e_seqX, e_skip, e_break, e_cont, e_set, e_setR, e_setX, e_setB, e_own, e_ownR, e_asg, e_asgR, e_nxO, e_tgT, e_putN, e_putC, e_tgN, e_tgB, e_drop, e_dropR, e_ret, e_retR, e_retX, e_retB, e_retN, e_if, e_ifT, e_ifF, e_app, e_appR, e_appB, e_frz, e_frzO, e_frzD, e_frzU, e_for, e_forR, e_forN, e_forC, e_turnB, e_turnN, e_turnC, e_turnK, e_turnR, e_turnX, e_it, e_itR, e_itA, e_itAR, e_asLst, e_asSlst, e_asTup, e_asStr, e_raise, e_run, e_endN, e_endR, e_endX, e_stC, e_st0, e_stS, e_addI, e_addS, e_addB, e_addLL, e_addOL, e_addLO, e_addOO, e_sub, e_mul, e_mod, e_div, e_neg, e_cmp, e_eqI, e_eqS, e_eqB, e_id, e_n1, e_isN, e_isI, e_isS, e_isT, e_isL, e_isB, e_isnN, e_isnI, e_isnS, e_isnT, e_isnL, e_isnB, e_ixS, e_ixT, e_ixL, e_ixSL, e_ixO, e_at_0, e_at_1, e_at_2, e_sg, e_lenS, e_lenT, e_lenL, e_lenSL, e_lenO, e_int, e_intT, e_intF, e_str, e_min, e_max, e_abs, e_m1, e_m1R, e_m1S, e_joinL, e_joinO, e_joinT, e_txN, e_txC, e_txS, e_isiS, e_isiL, e_isiTu, e_rep, e_replS, e_tabG, e_mpS, e_tabI, e_inS, e_sl, e_slR, e_slS, e_slT, e_oNone, e_oSome, e_oRI, e_slStr, e_slL, e_slSL, e_slO, e_lc, e_ca0, e_ca1, e_ca2, e_ca3, e_ca4, e_ca5, e_ca6, e_ca7, e_ca8, e_ca9, e_ca10, e_ca11, e_ca12, e_scS, e_scI, e_scB, e_scN, e_allN, e_allC, e_eqFS, e_eqFI, e_inST, e_inIT, e_index, e_spR, e_mg, e_mgS, e_smN, e_smC, eq_self, Nat.reduceLT, Nat.reduceGT, Nat.reduceAdd, Nat.reduceMul, Nat.reduceSub, Nat.reduceLeDiff, Nat.reduceEqDiff, Int.reduceLT, Int.reduceLE, Int.reduceEq, Int.reduceAdd, Int.reduceSub, Int.reduceMul, Int.reduceMod, Int.reduceDiv, Int.reduceNeg, Nat.zero_le, Nat.le_refl, List.length_cons, List.length_nil, ite_true, ite_false, if_true, if_false, decide_true, decide_false, Bool.not_true, Bool.not_false, Bool.and_true, Bool.true_and, Bool.and_false, Bool.false_and, Bool.or_true, Bool.or_false, Bool.true_or, Bool.false_or, List.cons.injEq, and_true, true_and, and_false, false_and, and_self, ne_eq, not_true_eq_false, not_false_eq_true, reduceCtorEq, List.nil_append, List.cons_append, List.append_nil, List.append_assoc, e_joinW, e_joinWT, k1, k2, k3, k4, f1, f2]
      · obtain ⟨t0, tt⟩ := t_words ht
        have t0 : (t = []) = False := eq_false t0
        rcases tt with ⟨p, p1, p2, p3⟩ | ⟨p, q, p1, q1, p2, p3⟩
        · have p1 : (p.length ≤ 1000) = True := eq_true (by omega)
          refine ⟨jn L8 [L75, L13, [c], L12, cw, p], ?_, ?_⟩
          · unfold m_in_words d_in_words
            simp only [e_rdDat, e_rdOwn, e_at0, e_atS, e_pu0, e_puS, e_var, e_c, e_op2, e_op2R, e_op2S, e_op1, e_op1S, e_opA, e_opAS, e_ofS, e_ofN, e_dB, e_toBS, e_and, e_andT, e_andF, e_or, e_orT, e_orF, e_not, e_notT, e_notF, e_notB, e_andV, e_andVT, e_andVF, e_orV, e_orVT, e_orVF, e_notV, e_notVB, e_ifE, e_ifET, e_ifEF, e_nil, e_cons, e_consR, e_consS, e_cleanN, e_cleanC, e_oN, e_oB, e_oI, e_oS, e_oT, e_oL, e_oSL, e_oOb, e_nf, e_tt, e_tup, e_tupR, e_tupB, e_items, e_itemsR, e_itemsB, e_fix, e_fixR, e_cat, e_catR, e_appN, e_appC, e_catB, e_catLL, e_catOL, e_catLO, e_catOO, e_call, e_callR, e_callB0, e_callB1, e_callB2, e_callB3, e_callB4, e_callB5, e_seq, e_seqN, e_seqR, e_seqB, e_seqC, e_seqX, e_skip, e_break, e_cont, e_set, e_setR, e_setX, e_setB, e_own, e_ownR, e_asg, e_asgR, e_nxO, e_tgT, e_putN, e_putC, e_tgN, e_tgB, e_drop, e_dropR, e_ret, e_retR, e_retX, e_retB, e_retN, e_if, e_ifT, e_ifF, e_app, e_appR, e_appB, e_frz, e_frzO, e_frzD, e_frzU, e_for, e_forR, e_forN, e_forC, e_turnB, e_turnN, e_turnC, e_turnK, e_turnR, e_turnX, e_it, e_itR, e_itA, e_itAR, e_asLst, e_asSlst, e_asTup, e_asStr, e_raise, e_run, e_endN, e_endR, e_endX, e_stC, e_st0, e_stS, e_addI, e_addS, e_addB, e_addLL, e_addOL, e_addLO, e_addOO, e_sub, e_mul, e_mod, e_div, e_neg, e_cmp, e_eqI, e_eqS, e_eqB, e_id, e_n1, e_isN, e_isI, e_isS, e_isT, e_isL, e_isB, e_isnN, e_isnI, e_isnS, e_isnT, e_isnL, e_isnB, e_ixS, e_ixT, e_ixL, e_ixSL, e_ixO, e_at_0, e_at_1, e_at_2, e_sg, e_lenS, e_lenT, e_lenL, e_lenSL, e_lenO, e_int, e_intT, e_intF, e_str, e_min, e_max, e_abs, e_m1, e_m1R, e_m1S, e_joinL, e_joinO, e_joinT, e_txN, e_txC, e_txS, e_isiS, e_isiL, e_isiTu, e_rep, e_replS, e_tabG, e_mpS, e_tabI, e_inS, e_sl, e_slR, e_slS, e_slT, e_oNone, e_oSome, e_oRI, e_slStr, e_slL, e_slSL, e_slO, e_lc, e_ca0, e_ca1, e_ca2, e_ca3, e_ca4, e_ca5, e_ca6, e_ca7, e_ca8, e_ca9, e_ca10, e_ca11, e_ca12, e_scS, e_scI, e_scB, e_scN, e_allN, e_allC, e_eqFS, e_eqFI, e_inST, e_inIT, e_index, e_spR, e_mg, e_mgS, e_smN, e_smC, eq_self, Nat.reduceLT, Nat.reduceGT, Nat.reduceAdd, Nat.reduceMul, Nat.reduceSub, Nat.reduceLeDiff, Nat.reduceEqDiff, Int.reduceLT, Int.reduceLE, Int.reduceEq, Int.reduceAdd, Int.reduceSub, Int.reduceMul, Int.reduceMod, Int.reduceDiv, Int.reduceNeg, Nat.zero_le, Nat.le_refl, List.length_cons, List.length_nil, ite_true, ite_false, if_true, if_false, decide_true, decide_false, Bool.not_true, Bool.not_false, Bool.and_true, Bool.true_and, Bool.and_false, Bool.false_and, Bool.or_true, Bool.or_false, Bool.true_or, Bool.false_or, List.cons.injEq, and_true, true_and, and_false, false_and, and_self, ne_eq, not_true_eq_false, not_false_eq_true, reduceCtorEq, List.nil_append, List.cons_append, List.append_nil, List.append_assoc, e_joinW, e_joinWT, k1, k2, k3, k4, f1, f2, t0, p1, p2, p3]
          · unfold m__law_words d__law_words
            simp only [e_rdDat, e_rdOwn, e_at0, e_atS, e_pu0, e_puS, e_var, e_c, e_op2, e_op2R, e_op2S, e_op1, e_op1S, e_opA, e_opAS, e_ofS, e_ofN, e_dB, e_toBS, e_and, e_andT, e_andF, e_or, e_orT, e_orF, e_not, e_notT, e_notF, e_notB, e_andV, e_andVT, e_andVF, e_orV, e_orVT, e_orVF, e_notV, e_notVB, e_ifE, e_ifET, e_ifEF, e_nil, e_cons, e_consR, e_consS, e_cleanN, e_cleanC, e_oN, e_oB, e_oI, e_oS, e_oT, e_oL, e_oSL, e_oOb, e_nf, e_tt, e_tup, e_tupR, e_tupB, e_items, e_itemsR, e_itemsB, e_fix, e_fixR, e_cat, e_catR, e_appN, e_appC, e_catB, e_catLL, e_catOL, e_catLO, e_catOO, e_call, e_callR, e_callB0, e_callB1, e_callB2, e_callB3, e_callB4, e_callB5, e_seq, e_seqN, e_seqR, e_seqB, e_seqC, e_seqX, e_skip, e_break, e_cont, e_set, e_setR, e_setX, e_setB, e_own, e_ownR, e_asg, e_asgR, e_nxO, e_tgT, e_putN, e_putC, e_tgN, e_tgB, e_drop, e_dropR, e_ret, e_retR, e_retX, e_retB, e_retN, e_if, e_ifT, e_ifF, e_app, e_appR, e_appB, e_frz, e_frzO, e_frzD, e_frzU, e_for, e_forR, e_forN, e_forC, e_turnB, e_turnN, e_turnC, e_turnK, e_turnR, e_turnX, e_it, e_itR, e_itA, e_itAR, e_asLst, e_asSlst, e_asTup, e_asStr, e_raise, e_run, e_endN, e_endR, e_endX, e_stC, e_st0, e_stS, e_addI, e_addS, e_addB, e_addLL, e_addOL, e_addLO, e_addOO, e_sub, e_mul, e_mod, e_div, e_neg, e_cmp, e_eqI, e_eqS, e_eqB, e_id, e_n1, e_isN, e_isI, e_isS, e_isT, e_isL, e_isB, e_isnN, e_isnI, e_isnS, e_isnT, e_isnL, e_isnB, e_ixS, e_ixT, e_ixL, e_ixSL, e_ixO, e_at_0, e_at_1, e_at_2, e_sg, e_lenS, e_lenT, e_lenL, e_lenSL, e_lenO, e_int, e_intT, e_intF, e_str, e_min, e_max, e_abs, e_m1, e_m1R, e_m1S, e_joinL, e_joinO, e_joinT, e_txN, e_txC, e_txS, e_isiS, e_isiL, e_isiTu, e_rep, e_replS, e_tabG, e_mpS, e_tabI, e_inS, e_sl, e_slR, e_slS, e_slT, e_oNone, e_oSome, e_oRI, e_slStr, e_slL, e_slSL, e_slO, e_lc, e_ca0, e_ca1, e_ca2, e_ca3, e_ca4, e_ca5, e_ca6, e_ca7, e_ca8, e_ca9, e_ca10, e_ca11, e_ca12, e_scS, e_scI, e_scB, e_scN, e_allN, e_allC, e_eqFS, e_eqFI, e_inST, e_inIT, e_index, e_spR, e_mg, e_mgS, e_smN, e_smC, eq_self, Nat.reduceLT, Nat.reduceGT, Nat.reduceAdd, Nat.reduceMul, Nat.reduceSub, Nat.reduceLeDiff, Nat.reduceEqDiff, Int.reduceLT, Int.reduceLE, Int.reduceEq, Int.reduceAdd, Int.reduceSub, Int.reduceMul, Int.reduceMod, Int.reduceDiv, Int.reduceNeg, Nat.zero_le, Nat.le_refl, List.length_cons, List.length_nil, ite_true, ite_false, if_true, if_false, decide_true, decide_false, Bool.not_true, Bool.not_false, Bool.and_true, Bool.true_and, Bool.and_false, Bool.false_and, Bool.or_true, Bool.or_false, Bool.true_or, Bool.false_or, List.cons.injEq, and_true, true_and, and_false, false_and, and_self, ne_eq, not_true_eq_false, not_false_eq_true, reduceCtorEq, List.nil_append, List.cons_append, List.append_nil, List.append_assoc, e_joinW, e_joinWT, k1, k2, k3, k4, f1, f2, t0, p1, p2, p3]
        · have p1 : (p.length ≤ 1000) = True := eq_true (by omega)
          have q1 : (q.length ≤ 1000) = True := eq_true (by omega)
          refine ⟨jn L8 [L75, L13, [c], L12, cw, p, q], ?_, ?_⟩
          · unfold m_in_words d_in_words
            simp only [e_rdDat, e_rdOwn, e_at0, e_atS, e_pu0, e_puS, e_var, e_c, e_op2, e_op2R, e_op2S, e_op1, e_op1S, e_opA, e_opAS, e_ofS, e_ofN, e_dB, e_toBS, e_and, e_andT, e_andF, e_or, e_orT, e_orF, e_not, e_notT, e_notF, e_notB, e_andV, e_andVT, e_andVF, e_orV, e_orVT, e_orVF, e_notV, e_notVB, e_ifE, e_ifET, e_ifEF, e_nil, e_cons, e_consR, e_consS, e_cleanN, e_cleanC, e_oN, e_oB, e_oI, e_oS, e_oT, e_oL, e_oSL, e_oOb, e_nf, e_tt, e_tup, e_tupR, e_tupB, e_items, e_itemsR, e_itemsB, e_fix, e_fixR, e_cat, e_catR, e_appN, e_appC, e_catB, e_catLL, e_catOL, e_catLO, e_catOO, e_call, e_callR, e_callB0, e_callB1, e_callB2, e_callB3, e_callB4, e_callB5, e_seq, e_seqN, e_seqR, e_seqB, e_seqC, e_seqX, e_skip, e_break, e_cont, e_set, e_setR, e_setX, e_setB, e_own, e_ownR, e_asg, e_asgR, e_nxO, e_tgT, e_putN, e_putC, e_tgN, e_tgB, e_drop, e_dropR, e_ret, e_retR, e_retX, e_retB, e_retN, e_if, e_ifT, e_ifF, e_app, e_appR, e_appB, e_frz, e_frzO, e_frzD, e_frzU, e_for, e_forR, e_forN, e_forC, e_turnB, e_turnN, e_turnC, e_turnK, e_turnR, e_turnX, e_it, e_itR, e_itA, e_itAR, e_asLst, e_asSlst, e_asTup, e_asStr, e_raise, e_run, e_endN, e_endR, e_endX, e_stC, e_st0, e_stS, e_addI, e_addS, e_addB, e_addLL, e_addOL, e_addLO, e_addOO, e_sub, e_mul, e_mod, e_div, e_neg, e_cmp, e_eqI, e_eqS, e_eqB, e_id, e_n1, e_isN, e_isI, e_isS, e_isT, e_isL, e_isB, e_isnN, e_isnI, e_isnS, e_isnT, e_isnL, e_isnB, e_ixS, e_ixT, e_ixL, e_ixSL, e_ixO, e_at_0, e_at_1, e_at_2, e_sg, e_lenS, e_lenT, e_lenL, e_lenSL, e_lenO, e_int, e_intT, e_intF, e_str, e_min, e_max, e_abs, e_m1, e_m1R, e_m1S, e_joinL, e_joinO, e_joinT, e_txN, e_txC, e_txS, e_isiS, e_isiL, e_isiTu, e_rep, e_replS, e_tabG, e_mpS, e_tabI, e_inS, e_sl, e_slR, e_slS, e_slT, e_oNone, e_oSome, e_oRI, e_slStr, e_slL, e_slSL, e_slO, e_lc, e_ca0, e_ca1, e_ca2, e_ca3, e_ca4, e_ca5, e_ca6, e_ca7, e_ca8, e_ca9, e_ca10, e_ca11, e_ca12, e_scS, e_scI, e_scB, e_scN, e_allN, e_allC, e_eqFS, e_eqFI, e_inST, e_inIT, e_index, e_spR, e_mg, e_mgS, e_smN, e_smC, eq_self, Nat.reduceLT, Nat.reduceGT, Nat.reduceAdd, Nat.reduceMul, Nat.reduceSub, Nat.reduceLeDiff, Nat.reduceEqDiff, Int.reduceLT, Int.reduceLE, Int.reduceEq, Int.reduceAdd, Int.reduceSub, Int.reduceMul, Int.reduceMod, Int.reduceDiv, Int.reduceNeg, Nat.zero_le, Nat.le_refl, List.length_cons, List.length_nil, ite_true, ite_false, if_true, if_false, decide_true, decide_false, Bool.not_true, Bool.not_false, Bool.and_true, Bool.true_and, Bool.and_false, Bool.false_and, Bool.or_true, Bool.or_false, Bool.true_or, Bool.false_or, List.cons.injEq, and_true, true_and, and_false, false_and, and_self, ne_eq, not_true_eq_false, not_false_eq_true, reduceCtorEq, List.nil_append, List.cons_append, List.append_nil, List.append_assoc, e_joinW, e_joinWT, k1, k2, k3, k4, f1, f2, t0, p1, q1, p2, p3]
          · unfold m__law_words d__law_words
            simp only [e_rdDat, e_rdOwn, e_at0, e_atS, e_pu0, e_puS, e_var, e_c, e_op2, e_op2R, e_op2S, e_op1, e_op1S, e_opA, e_opAS, e_ofS, e_ofN, e_dB, e_toBS, e_and, e_andT, e_andF, e_or, e_orT, e_orF, e_not, e_notT, e_notF, e_notB, e_andV, e_andVT, e_andVF, e_orV, e_orVT, e_orVF, e_notV, e_notVB, e_ifE, e_ifET, e_ifEF, e_nil, e_cons, e_consR, e_consS, e_cleanN, e_cleanC, e_oN, e_oB, e_oI, e_oS, e_oT, e_oL, e_oSL, e_oOb, e_nf, e_tt, e_tup, e_tupR, e_tupB, e_items, e_itemsR, e_itemsB, e_fix, e_fixR, e_cat, e_catR, e_appN, e_appC, e_catB, e_catLL, e_catOL, e_catLO, e_catOO, e_call, e_callR, e_callB0, e_callB1, e_callB2, e_callB3, e_callB4, e_callB5, e_seq, e_seqN, e_seqR, e_seqB, e_seqC, e_seqX, e_skip, e_break, e_cont, e_set, e_setR, e_setX, e_setB, e_own, e_ownR, e_asg, e_asgR, e_nxO, e_tgT, e_putN, e_putC, e_tgN, e_tgB, e_drop, e_dropR, e_ret, e_retR, e_retX, e_retB, e_retN, e_if, e_ifT, e_ifF, e_app, e_appR, e_appB, e_frz, e_frzO, e_frzD, e_frzU, e_for, e_forR, e_forN, e_forC, e_turnB, e_turnN, e_turnC, e_turnK, e_turnR, e_turnX, e_it, e_itR, e_itA, e_itAR, e_asLst, e_asSlst, e_asTup, e_asStr, e_raise, e_run, e_endN, e_endR, e_endX, e_stC, e_st0, e_stS, e_addI, e_addS, e_addB, e_addLL, e_addOL, e_addLO, e_addOO, e_sub, e_mul, e_mod, e_div, e_neg, e_cmp, e_eqI, e_eqS, e_eqB, e_id, e_n1, e_isN, e_isI, e_isS, e_isT, e_isL, e_isB, e_isnN, e_isnI, e_isnS, e_isnT, e_isnL, e_isnB, e_ixS, e_ixT, e_ixL, e_ixSL, e_ixO, e_at_0, e_at_1, e_at_2, e_sg, e_lenS, e_lenT, e_lenL, e_lenSL, e_lenO, e_int, e_intT, e_intF, e_str, e_min, e_max, e_abs, e_m1, e_m1R, e_m1S, e_joinL, e_joinO, e_joinT, e_txN, e_txC, e_txS, e_isiS, e_isiL, e_isiTu, e_rep, e_replS, e_tabG, e_mpS, e_tabI, e_inS, e_sl, e_slR, e_slS, e_slT, e_oNone, e_oSome, e_oRI, e_slStr, e_slL, e_slSL, e_slO, e_lc, e_ca0, e_ca1, e_ca2, e_ca3, e_ca4, e_ca5, e_ca6, e_ca7, e_ca8, e_ca9, e_ca10, e_ca11, e_ca12, e_scS, e_scI, e_scB, e_scN, e_allN, e_allC, e_eqFS, e_eqFI, e_inST, e_inIT, e_index, e_spR, e_mg, e_mgS, e_smN, e_smC, eq_self, Nat.reduceLT, Nat.reduceGT, Nat.reduceAdd, Nat.reduceMul, Nat.reduceSub, Nat.reduceLeDiff, Nat.reduceEqDiff, Int.reduceLT, Int.reduceLE, Int.reduceEq, Int.reduceAdd, Int.reduceSub, Int.reduceMul, Int.reduceMod, Int.reduceDiv, Int.reduceNeg, Nat.zero_le, Nat.le_refl, List.length_cons, List.length_nil, ite_true, ite_false, if_true, if_false, decide_true, decide_false, Bool.not_true, Bool.not_false, Bool.and_true, Bool.true_and, Bool.and_false, Bool.false_and, Bool.or_true, Bool.or_false, Bool.true_or, Bool.false_or, List.cons.injEq, and_true, true_and, and_false, false_and, and_self, ne_eq, not_true_eq_false, not_false_eq_true, reduceCtorEq, List.nil_append, List.cons_append, List.append_nil, List.append_assoc, e_joinW, e_joinWT, k1, k2, k3, k4, f1, f2, t0, p1, q1, p2, p3]
theorem words2 {sh v t y : List Nat} {k : D} (hsh : sh = [] ∨ ∃ c, sh = [c]) (hk : k = .non ∨ ∃ i : Int, 0 ≤ i ∧ i ≤ 1000 ∧ k = .int i) (ht : t = [] ∨ GoodT t) (hv : v ∈ [L29, L28, L25, L26]) (hy : y.length ≤ 20) : ∃ x, m_in_words [.tup [.str sh, k, .str v, .str t, .str y]] = .ok (.str x) ∧ m__law_words [.tup [.str sh, k, .str v, .str t, .str y]] = .ok (.str x) := by
  obtain ⟨h0, h1, h2, h3, h4⟩ := quoted_verb hv
  obtain ⟨w, i, f1, f2, f3, f4⟩ := verb_ok h0
  have g1 := quoted_ok y (by omega)
  have g2 := lawquoted_ok y (by omega)
  have g3 : ((quo y).length ≤ 1000) = True := eq_true (by have := len_quo y; omega)
  rcases cnt_ok hk with ⟨k1, k2⟩ | ⟨cw, k1, k2, k3, k4⟩
  · rcases hsh with rfl | ⟨c, rfl⟩
    · rcases ht with rfl | ht
      · skip
        refine ⟨jn L8 [w, quo y], ?_, ?_⟩
        · unfold m_in_words d_in_words
          simp only [e_rdDat, e_rdOwn, e_at0, e_atS, e_pu0, e_puS, e_var, e_c, e_op2, e_op2R, e_op2S, e_op1, e_op1S, e_opA, e_opAS, e_ofS, e_ofN, e_dB, e_toBS, e_and, e_andT, e_andF, e_or, e_orT, e_orF, e_not, e_notT, e_notF, e_notB, e_andV, e_andVT, e_andVF, e_orV, e_orVT, e_orVF, e_notV, e_notVB, e_ifE, e_ifET, e_ifEF, e_nil, e_cons, e_consR, e_consS, e_cleanN, e_cleanC, e_oN, e_oB, e_oI, e_oS, e_oT, e_oL, e_oSL, e_oOb, e_nf, e_tt, e_tup, e_tupR, e_tupB, e_items, e_itemsR, e_itemsB, e_fix, e_fixR, e_cat, e_catR, e_appN, e_appC, e_catB, e_catLL, e_catOL, e_catLO, e_catOO, e_call, e_callR, e_callB0, e_callB1, e_callB2, e_callB3, e_callB4, e_callB5, e_seq, e_seqN, e_seqR, e_seqB, e_seqC, e_seqX, e_skip, e_break, e_cont, e_set, e_setR, e_setX, e_setB, e_own, e_ownR, e_asg, e_asgR, e_nxO, e_tgT, e_putN, e_putC, e_tgN, e_tgB, e_drop, e_dropR, e_ret, e_retR, e_retX, e_retB, e_retN, e_if, e_ifT, e_ifF, e_app, e_appR, e_appB, e_frz, e_frzO, e_frzD, e_frzU, e_for, e_forR, e_forN, e_forC, e_turnB, e_turnN, e_turnC, e_turnK, e_turnR, e_turnX, e_it, e_itR, e_itA, e_itAR, e_asLst, e_asSlst, e_asTup, e_asStr, e_raise, e_run, e_endN, e_endR, e_endX, e_stC, e_st0, e_stS, e_addI, e_addS, e_addB, e_addLL, e_addOL, e_addLO, e_addOO, e_sub, e_mul, e_mod, e_div, e_neg, e_cmp, e_eqI, e_eqS, e_eqB, e_id, e_n1, e_isN, e_isI, e_isS, e_isT, e_isL, e_isB, e_isnN, e_isnI, e_isnS, e_isnT, e_isnL, e_isnB, e_ixS, e_ixT, e_ixL, e_ixSL, e_ixO, e_at_0, e_at_1, e_at_2, e_sg, e_lenS, e_lenT, e_lenL, e_lenSL, e_lenO, e_int, e_intT, e_intF, e_str, e_min, e_max, e_abs, e_m1, e_m1R, e_m1S, e_joinL, e_joinO, e_joinT, e_txN, e_txC, e_txS, e_isiS, e_isiL, e_isiTu, e_rep, e_replS, e_tabG, e_mpS, e_tabI, e_inS, e_sl, e_slR, e_slS, e_slT, e_oNone, e_oSome, e_oRI, e_slStr, e_slL, e_slSL, e_slO, e_lc, e_ca0, e_ca1, e_ca2, e_ca3, e_ca4, e_ca5, e_ca6, e_ca7, e_ca8, e_ca9, e_ca10, e_ca11, e_ca12, e_scS, e_scI, e_scB, e_scN, e_allN, e_allC, e_eqFS, e_eqFI, e_inST, e_inIT, e_index, e_spR, e_mg, e_mgS, e_smN, e_smC, eq_self, Nat.reduceLT, Nat.reduceGT, Nat.reduceAdd, Nat.reduceMul, Nat.reduceSub, Nat.reduceLeDiff, Nat.reduceEqDiff, Int.reduceLT, Int.reduceLE, Int.reduceEq, Int.reduceAdd, Int.reduceSub, Int.reduceMul, Int.reduceMod, Int.reduceDiv, Int.reduceNeg, Nat.zero_le, Nat.le_refl, List.length_cons, List.length_nil, ite_true, ite_false, if_true, if_false, decide_true, decide_false, Bool.not_true, Bool.not_false, Bool.and_true, Bool.true_and, Bool.and_false, Bool.false_and, Bool.or_true, Bool.or_false, Bool.true_or, Bool.false_or, List.cons.injEq, and_true, true_and, and_false, false_and, and_self, ne_eq, not_true_eq_false, not_false_eq_true, reduceCtorEq, List.nil_append, List.cons_append, List.append_nil, List.append_assoc, e_joinW, e_joinWT, k1, k2, h1, h2, h3, h4, f1, f2, f3, f4, g1, g2, g3]
        · unfold m__law_words d__law_words
          simp only [e_rdDat, e_rdOwn, e_at0, e_atS, e_pu0, e_puS, e_var, e_c, e_op2, e_op2R, e_op2S, e_op1, e_op1S, e_opA, e_opAS, e_ofS, e_ofN, e_dB, e_toBS, e_and, e_andT, e_andF, e_or, e_orT, e_orF, e_not, e_notT, e_notF, e_notB, e_andV, e_andVT, e_andVF, e_orV, e_orVT, e_orVF, e_notV, e_notVB, e_ifE, e_ifET, e_ifEF, e_nil, e_cons, e_consR, e_consS, e_cleanN, e_cleanC, e_oN, e_oB, e_oI, e_oS, e_oT, e_oL, e_oSL, e_oOb, e_nf, e_tt, e_tup, e_tupR, e_tupB, e_items, e_itemsR, e_itemsB, e_fix, e_fixR, e_cat, e_catR, e_appN, e_appC, e_catB, e_catLL, e_catOL, e_catLO, e_catOO, e_call, e_callR, e_callB0, e_callB1, e_callB2, e_callB3, e_callB4, e_callB5, e_seq, e_seqN, e_seqR, e_seqB, e_seqC, e_seqX, e_skip, e_break, e_cont, e_set, e_setR, e_setX, e_setB, e_own, e_ownR, e_asg, e_asgR, e_nxO, e_tgT, e_putN, e_putC, e_tgN, e_tgB, e_drop, e_dropR, e_ret, e_retR, e_retX, e_retB, e_retN, e_if, e_ifT, e_ifF, e_app, e_appR, e_appB, e_frz, e_frzO, e_frzD, e_frzU, e_for, e_forR, e_forN, e_forC, e_turnB, e_turnN, e_turnC, e_turnK, e_turnR, e_turnX, e_it, e_itR, e_itA, e_itAR, e_asLst, e_asSlst, e_asTup, e_asStr, e_raise, e_run, e_endN, e_endR, e_endX, e_stC, e_st0, e_stS, e_addI, e_addS, e_addB, e_addLL, e_addOL, e_addLO, e_addOO, e_sub, e_mul, e_mod, e_div, e_neg, e_cmp, e_eqI, e_eqS, e_eqB, e_id, e_n1, e_isN, e_isI, e_isS, e_isT, e_isL, e_isB, e_isnN, e_isnI, e_isnS, e_isnT, e_isnL, e_isnB, e_ixS, e_ixT, e_ixL, e_ixSL, e_ixO, e_at_0, e_at_1, e_at_2, e_sg, e_lenS, e_lenT, e_lenL, e_lenSL, e_lenO, e_int, e_intT, e_intF, e_str, e_min, e_max, e_abs, e_m1, e_m1R, e_m1S, e_joinL, e_joinO, e_joinT, e_txN, e_txC, e_txS, e_isiS, e_isiL, e_isiTu, e_rep, e_replS, e_tabG, e_mpS, e_tabI, e_inS, e_sl, e_slR, e_slS, e_slT, e_oNone, e_oSome, e_oRI, e_slStr, e_slL, e_slSL, e_slO, e_lc, e_ca0, e_ca1, e_ca2, e_ca3, e_ca4, e_ca5, e_ca6, e_ca7, e_ca8, e_ca9, e_ca10, e_ca11, e_ca12, e_scS, e_scI, e_scB, e_scN, e_allN, e_allC, e_eqFS, e_eqFI, e_inST, e_inIT, e_index, e_spR, e_mg, e_mgS, e_smN, e_smC, eq_self, Nat.reduceLT, Nat.reduceGT, Nat.reduceAdd, Nat.reduceMul, Nat.reduceSub, Nat.reduceLeDiff, Nat.reduceEqDiff, Int.reduceLT, Int.reduceLE, Int.reduceEq, Int.reduceAdd, Int.reduceSub, Int.reduceMul, Int.reduceMod, Int.reduceDiv, Int.reduceNeg, Nat.zero_le, Nat.le_refl, List.length_cons, List.length_nil, ite_true, ite_false, if_true, if_false, decide_true, decide_false, Bool.not_true, Bool.not_false, Bool.and_true, Bool.true_and, Bool.and_false, Bool.false_and, Bool.or_true, Bool.or_false, Bool.true_or, Bool.false_or, List.cons.injEq, and_true, true_and, and_false, false_and, and_self, ne_eq, not_true_eq_false, not_false_eq_true, reduceCtorEq, List.nil_append, List.cons_append, List.append_nil, List.append_assoc, e_joinW, e_joinWT, k1, k2, h1, h2, h3, h4, f1, f2, f3, f4, g1, g2, g3]
      · obtain ⟨t0, tt⟩ := t_words ht
        have t0 : (t = []) = False := eq_false t0
        rcases tt with ⟨p, p1, p2, p3⟩ | ⟨p, q, p1, q1, p2, p3⟩
        · have p1 : (p.length ≤ 1000) = True := eq_true (by omega)
          refine ⟨jn L8 [w, p, quo y], ?_, ?_⟩
          · unfold m_in_words d_in_words
            simp only [e_rdDat, e_rdOwn, e_at0, e_atS, e_pu0, e_puS, e_var, e_c, e_op2, e_op2R, e_op2S, e_op1, e_op1S, e_opA, e_opAS, e_ofS, e_ofN, e_dB, e_toBS, e_and, e_andT, e_andF, e_or, e_orT, e_orF, e_not, e_notT, e_notF, e_notB, e_andV, e_andVT, e_andVF, e_orV, e_orVT, e_orVF, e_notV, e_notVB, e_ifE, e_ifET, e_ifEF, e_nil, e_cons, e_consR, e_consS, e_cleanN, e_cleanC, e_oN, e_oB, e_oI, e_oS, e_oT, e_oL, e_oSL, e_oOb, e_nf, e_tt, e_tup, e_tupR, e_tupB, e_items, e_itemsR, e_itemsB, e_fix, e_fixR, e_cat, e_catR, e_appN, e_appC, e_catB, e_catLL, e_catOL, e_catLO, e_catOO, e_call, e_callR, e_callB0, e_callB1, e_callB2, e_callB3, e_callB4, e_callB5, e_seq, e_seqN, e_seqR, e_seqB, e_seqC, e_seqX, e_skip, e_break, e_cont, e_set, e_setR, e_setX, e_setB, e_own, e_ownR, e_asg, e_asgR, e_nxO, e_tgT, e_putN, e_putC, e_tgN, e_tgB, e_drop, e_dropR, e_ret, e_retR, e_retX, e_retB, e_retN, e_if, e_ifT, e_ifF, e_app, e_appR, e_appB, e_frz, e_frzO, e_frzD, e_frzU, e_for, e_forR, e_forN, e_forC, e_turnB, e_turnN, e_turnC, e_turnK, e_turnR, e_turnX, e_it, e_itR, e_itA, e_itAR, e_asLst, e_asSlst, e_asTup, e_asStr, e_raise, e_run, e_endN, e_endR, e_endX, e_stC, e_st0, e_stS, e_addI, e_addS, e_addB, e_addLL, e_addOL, e_addLO, e_addOO, e_sub, e_mul, e_mod, e_div, e_neg, e_cmp, e_eqI, e_eqS, e_eqB, e_id, e_n1, e_isN, e_isI, e_isS, e_isT, e_isL, e_isB, e_isnN, e_isnI, e_isnS, e_isnT, e_isnL, e_isnB, e_ixS, e_ixT, e_ixL, e_ixSL, e_ixO, e_at_0, e_at_1, e_at_2, e_sg, e_lenS, e_lenT, e_lenL, e_lenSL, e_lenO, e_int, e_intT, e_intF, e_str, e_min, e_max, e_abs, e_m1, e_m1R, e_m1S, e_joinL, e_joinO, e_joinT, e_txN, e_txC, e_txS, e_isiS, e_isiL, e_isiTu, e_rep, e_replS, e_tabG, e_mpS, e_tabI, e_inS, e_sl, e_slR, e_slS, e_slT, e_oNone, e_oSome, e_oRI, e_slStr, e_slL, e_slSL, e_slO, e_lc, e_ca0, e_ca1, e_ca2, e_ca3, e_ca4, e_ca5, e_ca6, e_ca7, e_ca8, e_ca9, e_ca10, e_ca11, e_ca12, e_scS, e_scI, e_scB, e_scN, e_allN, e_allC, e_eqFS, e_eqFI, e_inST, e_inIT, e_index, e_spR, e_mg, e_mgS, e_smN, e_smC, eq_self, Nat.reduceLT, Nat.reduceGT, Nat.reduceAdd, Nat.reduceMul, Nat.reduceSub, Nat.reduceLeDiff, Nat.reduceEqDiff, Int.reduceLT, Int.reduceLE, Int.reduceEq, Int.reduceAdd, Int.reduceSub, Int.reduceMul, Int.reduceMod, Int.reduceDiv, Int.reduceNeg, Nat.zero_le, Nat.le_refl, List.length_cons, List.length_nil, ite_true, ite_false, if_true, if_false, decide_true, decide_false, Bool.not_true, Bool.not_false, Bool.and_true, Bool.true_and, Bool.and_false, Bool.false_and, Bool.or_true, Bool.or_false, Bool.true_or, Bool.false_or, List.cons.injEq, and_true, true_and, and_false, false_and, and_self, ne_eq, not_true_eq_false, not_false_eq_true, reduceCtorEq, List.nil_append, List.cons_append, List.append_nil, List.append_assoc, e_joinW, e_joinWT, k1, k2, h1, h2, h3, h4, f1, f2, f3, f4, g1, g2, g3, t0, p1, p2, p3]
          · unfold m__law_words d__law_words
            simp only [e_rdDat, e_rdOwn, e_at0, e_atS, e_pu0, e_puS, e_var, e_c, e_op2, e_op2R, e_op2S, e_op1, e_op1S, e_opA, e_opAS, e_ofS, e_ofN, e_dB, e_toBS, e_and, e_andT, e_andF, e_or, e_orT, e_orF, e_not, e_notT, e_notF, e_notB, e_andV, e_andVT, e_andVF, e_orV, e_orVT, e_orVF, e_notV, e_notVB, e_ifE, e_ifET, e_ifEF, e_nil, e_cons, e_consR, e_consS, e_cleanN, e_cleanC, e_oN, e_oB, e_oI, e_oS, e_oT, e_oL, e_oSL, e_oOb, e_nf, e_tt, e_tup, e_tupR, e_tupB, e_items, e_itemsR, e_itemsB, e_fix, e_fixR, e_cat, e_catR, e_appN, e_appC, e_catB, e_catLL, e_catOL, e_catLO, e_catOO, e_call, e_callR, e_callB0, e_callB1, e_callB2, e_callB3, e_callB4, e_callB5, e_seq, e_seqN, e_seqR, e_seqB, e_seqC, e_seqX, e_skip, e_break, e_cont, e_set, e_setR, e_setX, e_setB, e_own, e_ownR, e_asg, e_asgR, e_nxO, e_tgT, e_putN, e_putC, e_tgN, e_tgB, e_drop, e_dropR, e_ret, e_retR, e_retX, e_retB, e_retN, e_if, e_ifT, e_ifF, e_app, e_appR, e_appB, e_frz, e_frzO, e_frzD, e_frzU, e_for, e_forR, e_forN, e_forC, e_turnB, e_turnN, e_turnC, e_turnK, e_turnR, e_turnX, e_it, e_itR, e_itA, e_itAR, e_asLst, e_asSlst, e_asTup, e_asStr, e_raise, e_run, e_endN, e_endR, e_endX, e_stC, e_st0, e_stS, e_addI, e_addS, e_addB, e_addLL, e_addOL, e_addLO, e_addOO, e_sub, e_mul, e_mod, e_div, e_neg, e_cmp, e_eqI, e_eqS, e_eqB, e_id, e_n1, e_isN, e_isI, e_isS, e_isT, e_isL, e_isB, e_isnN, e_isnI, e_isnS, e_isnT, e_isnL, e_isnB, e_ixS, e_ixT, e_ixL, e_ixSL, e_ixO, e_at_0, e_at_1, e_at_2, e_sg, e_lenS, e_lenT, e_lenL, e_lenSL, e_lenO, e_int, e_intT, e_intF, e_str, e_min, e_max, e_abs, e_m1, e_m1R, e_m1S, e_joinL, e_joinO, e_joinT, e_txN, e_txC, e_txS, e_isiS, e_isiL, e_isiTu, e_rep, e_replS, e_tabG, e_mpS, e_tabI, e_inS, e_sl, e_slR, e_slS, e_slT, e_oNone, e_oSome, e_oRI, e_slStr, e_slL, e_slSL, e_slO, e_lc, e_ca0, e_ca1, e_ca2, e_ca3, e_ca4, e_ca5, e_ca6, e_ca7, e_ca8, e_ca9, e_ca10, e_ca11, e_ca12, e_scS, e_scI, e_scB, e_scN, e_allN, e_allC, e_eqFS, e_eqFI, e_inST, e_inIT, e_index, e_spR, e_mg, e_mgS, e_smN, e_smC, eq_self, Nat.reduceLT, Nat.reduceGT, Nat.reduceAdd, Nat.reduceMul, Nat.reduceSub, Nat.reduceLeDiff, Nat.reduceEqDiff, Int.reduceLT, Int.reduceLE, Int.reduceEq, Int.reduceAdd, Int.reduceSub, Int.reduceMul, Int.reduceMod, Int.reduceDiv, Int.reduceNeg, Nat.zero_le, Nat.le_refl, List.length_cons, List.length_nil, ite_true, ite_false, if_true, if_false, decide_true, decide_false, Bool.not_true, Bool.not_false, Bool.and_true, Bool.true_and, Bool.and_false, Bool.false_and, Bool.or_true, Bool.or_false, Bool.true_or, Bool.false_or, List.cons.injEq, and_true, true_and, and_false, false_and, and_self, ne_eq, not_true_eq_false, not_false_eq_true, reduceCtorEq, List.nil_append, List.cons_append, List.append_nil, List.append_assoc, e_joinW, e_joinWT, k1, k2, h1, h2, h3, h4, f1, f2, f3, f4, g1, g2, g3, t0, p1, p2, p3]
        · have p1 : (p.length ≤ 1000) = True := eq_true (by omega)
          have q1 : (q.length ≤ 1000) = True := eq_true (by omega)
          refine ⟨jn L8 [w, p, q, quo y], ?_, ?_⟩
          · unfold m_in_words d_in_words
            simp only [e_rdDat, e_rdOwn, e_at0, e_atS, e_pu0, e_puS, e_var, e_c, e_op2, e_op2R, e_op2S, e_op1, e_op1S, e_opA, e_opAS, e_ofS, e_ofN, e_dB, e_toBS, e_and, e_andT, e_andF, e_or, e_orT, e_orF, e_not, e_notT, e_notF, e_notB, e_andV, e_andVT, e_andVF, e_orV, e_orVT, e_orVF, e_notV, e_notVB, e_ifE, e_ifET, e_ifEF, e_nil, e_cons, e_consR, e_consS, e_cleanN, e_cleanC, e_oN, e_oB, e_oI, e_oS, e_oT, e_oL, e_oSL, e_oOb, e_nf, e_tt, e_tup, e_tupR, e_tupB, e_items, e_itemsR, e_itemsB, e_fix, e_fixR, e_cat, e_catR, e_appN, e_appC, e_catB, e_catLL, e_catOL, e_catLO, e_catOO, e_call, e_callR, e_callB0, e_callB1, e_callB2, e_callB3, e_callB4, e_callB5, e_seq, e_seqN, e_seqR, e_seqB, e_seqC, e_seqX, e_skip, e_break, e_cont, e_set, e_setR, e_setX, e_setB, e_own, e_ownR, e_asg, e_asgR, e_nxO, e_tgT, e_putN, e_putC, e_tgN, e_tgB, e_drop, e_dropR, e_ret, e_retR, e_retX, e_retB, e_retN, e_if, e_ifT, e_ifF, e_app, e_appR, e_appB, e_frz, e_frzO, e_frzD, e_frzU, e_for, e_forR, e_forN, e_forC, e_turnB, e_turnN, e_turnC, e_turnK, e_turnR, e_turnX, e_it, e_itR, e_itA, e_itAR, e_asLst, e_asSlst, e_asTup, e_asStr, e_raise, e_run, e_endN, e_endR, e_endX, e_stC, e_st0, e_stS, e_addI, e_addS, e_addB, e_addLL, e_addOL, e_addLO, e_addOO, e_sub, e_mul, e_mod, e_div, e_neg, e_cmp, e_eqI, e_eqS, e_eqB, e_id, e_n1, e_isN, e_isI, e_isS, e_isT, e_isL, e_isB, e_isnN, e_isnI, e_isnS, e_isnT, e_isnL, e_isnB, e_ixS, e_ixT, e_ixL, e_ixSL, e_ixO, e_at_0, e_at_1, e_at_2, e_sg, e_lenS, e_lenT, e_lenL, e_lenSL, e_lenO, e_int, e_intT, e_intF, e_str, e_min, e_max, e_abs, e_m1, e_m1R, e_m1S, e_joinL, e_joinO, e_joinT, e_txN, e_txC, e_txS, e_isiS, e_isiL, e_isiTu, e_rep, e_replS, e_tabG, e_mpS, e_tabI, e_inS, e_sl, e_slR, e_slS, e_slT, e_oNone, e_oSome, e_oRI, e_slStr, e_slL, e_slSL, e_slO, e_lc, e_ca0, e_ca1, e_ca2, e_ca3, e_ca4, e_ca5, e_ca6, e_ca7, e_ca8, e_ca9, e_ca10, e_ca11, e_ca12, e_scS, e_scI, e_scB, e_scN, e_allN, e_allC, e_eqFS, e_eqFI, e_inST, e_inIT, e_index, e_spR, e_mg, e_mgS, e_smN, e_smC, eq_self, Nat.reduceLT, Nat.reduceGT, Nat.reduceAdd, Nat.reduceMul, Nat.reduceSub, Nat.reduceLeDiff, Nat.reduceEqDiff, Int.reduceLT, Int.reduceLE, Int.reduceEq, Int.reduceAdd, Int.reduceSub, Int.reduceMul, Int.reduceMod, Int.reduceDiv, Int.reduceNeg, Nat.zero_le, Nat.le_refl, List.length_cons, List.length_nil, ite_true, ite_false, if_true, if_false, decide_true, decide_false, Bool.not_true, Bool.not_false, Bool.and_true, Bool.true_and, Bool.and_false, Bool.false_and, Bool.or_true, Bool.or_false, Bool.true_or, Bool.false_or, List.cons.injEq, and_true, true_and, and_false, false_and, and_self, ne_eq, not_true_eq_false, not_false_eq_true, reduceCtorEq, List.nil_append, List.cons_append, List.append_nil, List.append_assoc, e_joinW, e_joinWT, k1, k2, h1, h2, h3, h4, f1, f2, f3, f4, g1, g2, g3, t0, p1, q1, p2, p3]
          · unfold m__law_words d__law_words
            simp only [e_rdDat, e_rdOwn, e_at0, e_atS, e_pu0, e_puS, e_var, e_c, e_op2, e_op2R, e_op2S, e_op1, e_op1S, e_opA, e_opAS, e_ofS, e_ofN, e_dB, e_toBS, e_and, e_andT, e_andF, e_or, e_orT, e_orF, e_not, e_notT, e_notF, e_notB, e_andV, e_andVT, e_andVF, e_orV, e_orVT, e_orVF, e_notV, e_notVB, e_ifE, e_ifET, e_ifEF, e_nil, e_cons, e_consR, e_consS, e_cleanN, e_cleanC, e_oN, e_oB, e_oI, e_oS, e_oT, e_oL, e_oSL, e_oOb, e_nf, e_tt, e_tup, e_tupR, e_tupB, e_items, e_itemsR, e_itemsB, e_fix, e_fixR, e_cat, e_catR, e_appN, e_appC, e_catB, e_catLL, e_catOL, e_catLO, e_catOO, e_call, e_callR, e_callB0, e_callB1, e_callB2, e_callB3, e_callB4, e_callB5, e_seq, e_seqN, e_seqR, e_seqB, e_seqC, e_seqX, e_skip, e_break, e_cont, e_set, e_setR, e_setX, e_setB, e_own, e_ownR, e_asg, e_asgR, e_nxO, e_tgT, e_putN, e_putC, e_tgN, e_tgB, e_drop, e_dropR, e_ret, e_retR, e_retX, e_retB, e_retN, e_if, e_ifT, e_ifF, e_app, e_appR, e_appB, e_frz, e_frzO, e_frzD, e_frzU, e_for, e_forR, e_forN, e_forC, e_turnB, e_turnN, e_turnC, e_turnK, e_turnR, e_turnX, e_it, e_itR, e_itA, e_itAR, e_asLst, e_asSlst, e_asTup, e_asStr, e_raise, e_run, e_endN, e_endR, e_endX, e_stC, e_st0, e_stS, e_addI, e_addS, e_addB, e_addLL, e_addOL, e_addLO, e_addOO, e_sub, e_mul, e_mod, e_div, e_neg, e_cmp, e_eqI, e_eqS, e_eqB, e_id, e_n1, e_isN, e_isI, e_isS, e_isT, e_isL, e_isB, e_isnN, e_isnI, e_isnS, e_isnT, e_isnL, e_isnB, e_ixS, e_ixT, e_ixL, e_ixSL, e_ixO, e_at_0, e_at_1, e_at_2, e_sg, e_lenS, e_lenT, e_lenL, e_lenSL, e_lenO, e_int, e_intT, e_intF, e_str, e_min, e_max, e_abs, e_m1, e_m1R, e_m1S, e_joinL, e_joinO, e_joinT, e_txN, e_txC, e_txS, e_isiS, e_isiL, e_isiTu, e_rep, e_replS, e_tabG, e_mpS, e_tabI, e_inS, e_sl, e_slR, e_slS, e_slT, e_oNone, e_oSome, e_oRI, e_slStr, e_slL, e_slSL, e_slO, e_lc, e_ca0, e_ca1, e_ca2, e_ca3, e_ca4, e_ca5, e_ca6, e_ca7, e_ca8, e_ca9, e_ca10, e_ca11, e_ca12, e_scS, e_scI, e_scB, e_scN, e_allN, e_allC, e_eqFS, e_eqFI, e_inST, e_inIT, e_index, e_spR, e_mg, e_mgS, e_smN, e_smC, eq_self, Nat.reduceLT, Nat.reduceGT, Nat.reduceAdd, Nat.reduceMul, Nat.reduceSub, Nat.reduceLeDiff, Nat.reduceEqDiff, Int.reduceLT, Int.reduceLE, Int.reduceEq, Int.reduceAdd, Int.reduceSub, Int.reduceMul, Int.reduceMod, Int.reduceDiv, Int.reduceNeg, Nat.zero_le, Nat.le_refl, List.length_cons, List.length_nil, ite_true, ite_false, if_true, if_false, decide_true, decide_false, Bool.not_true, Bool.not_false, Bool.and_true, Bool.true_and, Bool.and_false, Bool.false_and, Bool.or_true, Bool.or_false, Bool.true_or, Bool.false_or, List.cons.injEq, and_true, true_and, and_false, false_and, and_self, ne_eq, not_true_eq_false, not_false_eq_true, reduceCtorEq, List.nil_append, List.cons_append, List.append_nil, List.append_assoc, e_joinW, e_joinWT, k1, k2, h1, h2, h3, h4, f1, f2, f3, f4, g1, g2, g3, t0, p1, q1, p2, p3]
    · rcases ht with rfl | ht
      · skip
        refine ⟨jn L8 [w, L13, [c], quo y], ?_, ?_⟩
        · unfold m_in_words d_in_words
          simp only [e_rdDat, e_rdOwn, e_at0, e_atS, e_pu0, e_puS, e_var, e_c, e_op2, e_op2R, e_op2S, e_op1, e_op1S, e_opA, e_opAS, e_ofS, e_ofN, e_dB, e_toBS, e_and, e_andT, e_andF, e_or, e_orT, e_orF, e_not, e_notT, e_notF, e_notB, e_andV, e_andVT, e_andVF, e_orV, e_orVT, e_orVF, e_notV, e_notVB, e_ifE, e_ifET, e_ifEF, e_nil, e_cons, e_consR, e_consS, e_cleanN, e_cleanC, e_oN, e_oB, e_oI, e_oS, e_oT, e_oL, e_oSL, e_oOb, e_nf, e_tt, e_tup, e_tupR, e_tupB, e_items, e_itemsR, e_itemsB, e_fix, e_fixR, e_cat, e_catR, e_appN, e_appC, e_catB, e_catLL, e_catOL, e_catLO, e_catOO, e_call, e_callR, e_callB0, e_callB1, e_callB2, e_callB3, e_callB4, e_callB5, e_seq, e_seqN, e_seqR, e_seqB, e_seqC, e_seqX, e_skip, e_break, e_cont, e_set, e_setR, e_setX, e_setB, e_own, e_ownR, e_asg, e_asgR, e_nxO, e_tgT, e_putN, e_putC, e_tgN, e_tgB, e_drop, e_dropR, e_ret, e_retR, e_retX, e_retB, e_retN, e_if, e_ifT, e_ifF, e_app, e_appR, e_appB, e_frz, e_frzO, e_frzD, e_frzU, e_for, e_forR, e_forN, e_forC, e_turnB, e_turnN, e_turnC, e_turnK, e_turnR, e_turnX, e_it, e_itR, e_itA, e_itAR, e_asLst, e_asSlst, e_asTup, e_asStr, e_raise, e_run, e_endN, e_endR, e_endX, e_stC, e_st0, e_stS, e_addI, e_addS, e_addB, e_addLL, e_addOL, e_addLO, e_addOO, e_sub, e_mul, e_mod, e_div, e_neg, e_cmp, e_eqI, e_eqS, e_eqB, e_id, e_n1, e_isN, e_isI, e_isS, e_isT, e_isL, e_isB, e_isnN, e_isnI, e_isnS, e_isnT, e_isnL, e_isnB, e_ixS, e_ixT, e_ixL, e_ixSL, e_ixO, e_at_0, e_at_1, e_at_2, e_sg, e_lenS, e_lenT, e_lenL, e_lenSL, e_lenO, e_int, e_intT, e_intF, e_str, e_min, e_max, e_abs, e_m1, e_m1R, e_m1S, e_joinL, e_joinO, e_joinT, e_txN, e_txC, e_txS, e_isiS, e_isiL, e_isiTu, e_rep, e_replS, e_tabG, e_mpS, e_tabI, e_inS, e_sl, e_slR, e_slS, e_slT, e_oNone, e_oSome, e_oRI, e_slStr, e_slL, e_slSL, e_slO, e_lc, e_ca0, e_ca1, e_ca2, e_ca3, e_ca4, e_ca5, e_ca6, e_ca7, e_ca8, e_ca9, e_ca10, e_ca11, e_ca12, e_scS, e_scI, e_scB, e_scN, e_allN, e_allC, e_eqFS, e_eqFI, e_inST, e_inIT, e_index, e_spR, e_mg, e_mgS, e_smN, e_smC, eq_self, Nat.reduceLT, Nat.reduceGT, Nat.reduceAdd, Nat.reduceMul, Nat.reduceSub, Nat.reduceLeDiff, Nat.reduceEqDiff, Int.reduceLT, Int.reduceLE, Int.reduceEq, Int.reduceAdd, Int.reduceSub, Int.reduceMul, Int.reduceMod, Int.reduceDiv, Int.reduceNeg, Nat.zero_le, Nat.le_refl, List.length_cons, List.length_nil, ite_true, ite_false, if_true, if_false, decide_true, decide_false, Bool.not_true, Bool.not_false, Bool.and_true, Bool.true_and, Bool.and_false, Bool.false_and, Bool.or_true, Bool.or_false, Bool.true_or, Bool.false_or, List.cons.injEq, and_true, true_and, and_false, false_and, and_self, ne_eq, not_true_eq_false, not_false_eq_true, reduceCtorEq, List.nil_append, List.cons_append, List.append_nil, List.append_assoc, e_joinW, e_joinWT, k1, k2, h1, h2, h3, h4, f1, f2, f3, f4, g1, g2, g3]
        · unfold m__law_words d__law_words
          simp only [e_rdDat, e_rdOwn, e_at0, e_atS, e_pu0, e_puS, e_var, e_c, e_op2, e_op2R, e_op2S, e_op1, e_op1S, e_opA, e_opAS, e_ofS, e_ofN, e_dB, e_toBS, e_and, e_andT, e_andF, e_or, e_orT, e_orF, e_not, e_notT, e_notF, e_notB, e_andV, e_andVT, e_andVF, e_orV, e_orVT, e_orVF, e_notV, e_notVB, e_ifE, e_ifET, e_ifEF, e_nil, e_cons, e_consR, e_consS, e_cleanN, e_cleanC, e_oN, e_oB, e_oI, e_oS, e_oT, e_oL, e_oSL, e_oOb, e_nf, e_tt, e_tup, e_tupR, e_tupB, e_items, e_itemsR, e_itemsB, e_fix, e_fixR, e_cat, e_catR, e_appN, e_appC, e_catB, e_catLL, e_catOL, e_catLO, e_catOO, e_call, e_callR, e_callB0, e_callB1, e_callB2, e_callB3, e_callB4, e_callB5, e_seq, e_seqN, e_seqR, e_seqB, e_seqC, e_seqX, e_skip, e_break, e_cont, e_set, e_setR, e_setX, e_setB, e_own, e_ownR, e_asg, e_asgR, e_nxO, e_tgT, e_putN, e_putC, e_tgN, e_tgB, e_drop, e_dropR, e_ret, e_retR, e_retX, e_retB, e_retN, e_if, e_ifT, e_ifF, e_app, e_appR, e_appB, e_frz, e_frzO, e_frzD, e_frzU, e_for, e_forR, e_forN, e_forC, e_turnB, e_turnN, e_turnC, e_turnK, e_turnR, e_turnX, e_it, e_itR, e_itA, e_itAR, e_asLst, e_asSlst, e_asTup, e_asStr, e_raise, e_run, e_endN, e_endR, e_endX, e_stC, e_st0, e_stS, e_addI, e_addS, e_addB, e_addLL, e_addOL, e_addLO, e_addOO, e_sub, e_mul, e_mod, e_div, e_neg, e_cmp, e_eqI, e_eqS, e_eqB, e_id, e_n1, e_isN, e_isI, e_isS, e_isT, e_isL, e_isB, e_isnN, e_isnI, e_isnS, e_isnT, e_isnL, e_isnB, e_ixS, e_ixT, e_ixL, e_ixSL, e_ixO, e_at_0, e_at_1, e_at_2, e_sg, e_lenS, e_lenT, e_lenL, e_lenSL, e_lenO, e_int, e_intT, e_intF, e_str, e_min, e_max, e_abs, e_m1, e_m1R, e_m1S, e_joinL, e_joinO, e_joinT, e_txN, e_txC, e_txS, e_isiS, e_isiL, e_isiTu, e_rep, e_replS, e_tabG, e_mpS, e_tabI, e_inS, e_sl, e_slR, e_slS, e_slT, e_oNone, e_oSome, e_oRI, e_slStr, e_slL, e_slSL, e_slO, e_lc, e_ca0, e_ca1, e_ca2, e_ca3, e_ca4, e_ca5, e_ca6, e_ca7, e_ca8, e_ca9, e_ca10, e_ca11, e_ca12, e_scS, e_scI, e_scB, e_scN, e_allN, e_allC, e_eqFS, e_eqFI, e_inST, e_inIT, e_index, e_spR, e_mg, e_mgS, e_smN, e_smC, eq_self, Nat.reduceLT, Nat.reduceGT, Nat.reduceAdd, Nat.reduceMul, Nat.reduceSub, Nat.reduceLeDiff, Nat.reduceEqDiff, Int.reduceLT, Int.reduceLE, Int.reduceEq, Int.reduceAdd, Int.reduceSub, Int.reduceMul, Int.reduceMod, Int.reduceDiv, Int.reduceNeg, Nat.zero_le, Nat.le_refl, List.length_cons, List.length_nil, ite_true, ite_false, if_true, if_false, decide_true, decide_false, Bool.not_true, Bool.not_false, Bool.and_true, Bool.true_and, Bool.and_false, Bool.false_and, Bool.or_true, Bool.or_false, Bool.true_or, Bool.false_or, List.cons.injEq, and_true, true_and, and_false, false_and, and_self, ne_eq, not_true_eq_false, not_false_eq_true, reduceCtorEq, List.nil_append, List.cons_append, List.append_nil, List.append_assoc, e_joinW, e_joinWT, k1, k2, h1, h2, h3, h4, f1, f2, f3, f4, g1, g2, g3]
      · obtain ⟨t0, tt⟩ := t_words ht
        have t0 : (t = []) = False := eq_false t0
        rcases tt with ⟨p, p1, p2, p3⟩ | ⟨p, q, p1, q1, p2, p3⟩
        · have p1 : (p.length ≤ 1000) = True := eq_true (by omega)
          refine ⟨jn L8 [w, L13, [c], p, quo y], ?_, ?_⟩
          · unfold m_in_words d_in_words
            simp only [e_rdDat, e_rdOwn, e_at0, e_atS, e_pu0, e_puS, e_var, e_c, e_op2, e_op2R, e_op2S, e_op1, e_op1S, e_opA, e_opAS, e_ofS, e_ofN, e_dB, e_toBS, e_and, e_andT, e_andF, e_or, e_orT, e_orF, e_not, e_notT, e_notF, e_notB, e_andV, e_andVT, e_andVF, e_orV, e_orVT, e_orVF, e_notV, e_notVB, e_ifE, e_ifET, e_ifEF, e_nil, e_cons, e_consR, e_consS, e_cleanN, e_cleanC, e_oN, e_oB, e_oI, e_oS, e_oT, e_oL, e_oSL, e_oOb, e_nf, e_tt, e_tup, e_tupR, e_tupB, e_items, e_itemsR, e_itemsB, e_fix, e_fixR, e_cat, e_catR, e_appN, e_appC, e_catB, e_catLL, e_catOL, e_catLO, e_catOO, e_call, e_callR, e_callB0, e_callB1, e_callB2, e_callB3, e_callB4, e_callB5, e_seq, e_seqN, e_seqR, e_seqB, e_seqC, e_seqX, e_skip, e_break, e_cont, e_set, e_setR, e_setX, e_setB, e_own, e_ownR, e_asg, e_asgR, e_nxO, e_tgT, e_putN, e_putC, e_tgN, e_tgB, e_drop, e_dropR, e_ret, e_retR, e_retX, e_retB, e_retN, e_if, e_ifT, e_ifF, e_app, e_appR, e_appB, e_frz, e_frzO, e_frzD, e_frzU, e_for, e_forR, e_forN, e_forC, e_turnB, e_turnN, e_turnC, e_turnK, e_turnR, e_turnX, e_it, e_itR, e_itA, e_itAR, e_asLst, e_asSlst, e_asTup, e_asStr, e_raise, e_run, e_endN, e_endR, e_endX, e_stC, e_st0, e_stS, e_addI, e_addS, e_addB, e_addLL, e_addOL, e_addLO, e_addOO, e_sub, e_mul, e_mod, e_div, e_neg, e_cmp, e_eqI, e_eqS, e_eqB, e_id, e_n1, e_isN, e_isI, e_isS, e_isT, e_isL, e_isB, e_isnN, e_isnI, e_isnS, e_isnT, e_isnL, e_isnB, e_ixS, e_ixT, e_ixL, e_ixSL, e_ixO, e_at_0, e_at_1, e_at_2, e_sg, e_lenS, e_lenT, e_lenL, e_lenSL, e_lenO, e_int, e_intT, e_intF, e_str, e_min, e_max, e_abs, e_m1, e_m1R, e_m1S, e_joinL, e_joinO, e_joinT, e_txN, e_txC, e_txS, e_isiS, e_isiL, e_isiTu, e_rep, e_replS, e_tabG, e_mpS, e_tabI, e_inS, e_sl, e_slR, e_slS, e_slT, e_oNone, e_oSome, e_oRI, e_slStr, e_slL, e_slSL, e_slO, e_lc, e_ca0, e_ca1, e_ca2, e_ca3, e_ca4, e_ca5, e_ca6, e_ca7, e_ca8, e_ca9, e_ca10, e_ca11, e_ca12, e_scS, e_scI, e_scB, e_scN, e_allN, e_allC, e_eqFS, e_eqFI, e_inST, e_inIT, e_index, e_spR, e_mg, e_mgS, e_smN, e_smC, eq_self, Nat.reduceLT, Nat.reduceGT, Nat.reduceAdd, Nat.reduceMul, Nat.reduceSub, Nat.reduceLeDiff, Nat.reduceEqDiff, Int.reduceLT, Int.reduceLE, Int.reduceEq, Int.reduceAdd, Int.reduceSub, Int.reduceMul, Int.reduceMod, Int.reduceDiv, Int.reduceNeg, Nat.zero_le, Nat.le_refl, List.length_cons, List.length_nil, ite_true, ite_false, if_true, if_false, decide_true, decide_false, Bool.not_true, Bool.not_false, Bool.and_true, Bool.true_and, Bool.and_false, Bool.false_and, Bool.or_true, Bool.or_false, Bool.true_or, Bool.false_or, List.cons.injEq, and_true, true_and, and_false, false_and, and_self, ne_eq, not_true_eq_false, not_false_eq_true, reduceCtorEq, List.nil_append, List.cons_append, List.append_nil, List.append_assoc, e_joinW, e_joinWT, k1, k2, h1, h2, h3, h4, f1, f2, f3, f4, g1, g2, g3, t0, p1, p2, p3]
          · unfold m__law_words d__law_words
            simp only [e_rdDat, e_rdOwn, e_at0, e_atS, e_pu0, e_puS, e_var, e_c, e_op2, e_op2R, e_op2S, e_op1, e_op1S, e_opA, e_opAS, e_ofS, e_ofN, e_dB, e_toBS, e_and, e_andT, e_andF, e_or, e_orT, e_orF, e_not, e_notT, e_notF, e_notB, e_andV, e_andVT, e_andVF, e_orV, e_orVT, e_orVF, e_notV, e_notVB, e_ifE, e_ifET, e_ifEF, e_nil, e_cons, e_consR, e_consS, e_cleanN, e_cleanC, e_oN, e_oB, e_oI, e_oS, e_oT, e_oL, e_oSL, e_oOb, e_nf, e_tt, e_tup, e_tupR, e_tupB, e_items, e_itemsR, e_itemsB, e_fix, e_fixR, e_cat, e_catR, e_appN, e_appC, e_catB, e_catLL, e_catOL, e_catLO, e_catOO, e_call, e_callR, e_callB0, e_callB1, e_callB2, e_callB3, e_callB4, e_callB5, e_seq, e_seqN, e_seqR, e_seqB, e_seqC, e_seqX, e_skip, e_break, e_cont, e_set, e_setR, e_setX, e_setB, e_own, e_ownR, e_asg, e_asgR, e_nxO, e_tgT, e_putN, e_putC, e_tgN, e_tgB, e_drop, e_dropR, e_ret, e_retR, e_retX, e_retB, e_retN, e_if, e_ifT, e_ifF, e_app, e_appR, e_appB, e_frz, e_frzO, e_frzD, e_frzU, e_for, e_forR, e_forN, e_forC, e_turnB, e_turnN, e_turnC, e_turnK, e_turnR, e_turnX, e_it, e_itR, e_itA, e_itAR, e_asLst, e_asSlst, e_asTup, e_asStr, e_raise, e_run, e_endN, e_endR, e_endX, e_stC, e_st0, e_stS, e_addI, e_addS, e_addB, e_addLL, e_addOL, e_addLO, e_addOO, e_sub, e_mul, e_mod, e_div, e_neg, e_cmp, e_eqI, e_eqS, e_eqB, e_id, e_n1, e_isN, e_isI, e_isS, e_isT, e_isL, e_isB, e_isnN, e_isnI, e_isnS, e_isnT, e_isnL, e_isnB, e_ixS, e_ixT, e_ixL, e_ixSL, e_ixO, e_at_0, e_at_1, e_at_2, e_sg, e_lenS, e_lenT, e_lenL, e_lenSL, e_lenO, e_int, e_intT, e_intF, e_str, e_min, e_max, e_abs, e_m1, e_m1R, e_m1S, e_joinL, e_joinO, e_joinT, e_txN, e_txC, e_txS, e_isiS, e_isiL, e_isiTu, e_rep, e_replS, e_tabG, e_mpS, e_tabI, e_inS, e_sl, e_slR, e_slS, e_slT, e_oNone, e_oSome, e_oRI, e_slStr, e_slL, e_slSL, e_slO, e_lc, e_ca0, e_ca1, e_ca2, e_ca3, e_ca4, e_ca5, e_ca6, e_ca7, e_ca8, e_ca9, e_ca10, e_ca11, e_ca12, e_scS, e_scI, e_scB, e_scN, e_allN, e_allC, e_eqFS, e_eqFI, e_inST, e_inIT, e_index, e_spR, e_mg, e_mgS, e_smN, e_smC, eq_self, Nat.reduceLT, Nat.reduceGT, Nat.reduceAdd, Nat.reduceMul, Nat.reduceSub, Nat.reduceLeDiff, Nat.reduceEqDiff, Int.reduceLT, Int.reduceLE, Int.reduceEq, Int.reduceAdd, Int.reduceSub, Int.reduceMul, Int.reduceMod, Int.reduceDiv, Int.reduceNeg, Nat.zero_le, Nat.le_refl, List.length_cons, List.length_nil, ite_true, ite_false, if_true, if_false, decide_true, decide_false, Bool.not_true, Bool.not_false, Bool.and_true, Bool.true_and, Bool.and_false, Bool.false_and, Bool.or_true, Bool.or_false, Bool.true_or, Bool.false_or, List.cons.injEq, and_true, true_and, and_false, false_and, and_self, ne_eq, not_true_eq_false, not_false_eq_true, reduceCtorEq, List.nil_append, List.cons_append, List.append_nil, List.append_assoc, e_joinW, e_joinWT, k1, k2, h1, h2, h3, h4, f1, f2, f3, f4, g1, g2, g3, t0, p1, p2, p3]
        · have p1 : (p.length ≤ 1000) = True := eq_true (by omega)
          have q1 : (q.length ≤ 1000) = True := eq_true (by omega)
          refine ⟨jn L8 [w, L13, [c], p, q, quo y], ?_, ?_⟩
          · unfold m_in_words d_in_words
            simp only [e_rdDat, e_rdOwn, e_at0, e_atS, e_pu0, e_puS, e_var, e_c, e_op2, e_op2R, e_op2S, e_op1, e_op1S, e_opA, e_opAS, e_ofS, e_ofN, e_dB, e_toBS, e_and, e_andT, e_andF, e_or, e_orT, e_orF, e_not, e_notT, e_notF, e_notB, e_andV, e_andVT, e_andVF, e_orV, e_orVT, e_orVF, e_notV, e_notVB, e_ifE, e_ifET, e_ifEF, e_nil, e_cons, e_consR, e_consS, e_cleanN, e_cleanC, e_oN, e_oB, e_oI, e_oS, e_oT, e_oL, e_oSL, e_oOb, e_nf, e_tt, e_tup, e_tupR, e_tupB, e_items, e_itemsR, e_itemsB, e_fix, e_fixR, e_cat, e_catR, e_appN, e_appC, e_catB, e_catLL, e_catOL, e_catLO, e_catOO, e_call, e_callR, e_callB0, e_callB1, e_callB2, e_callB3, e_callB4, e_callB5, e_seq, e_seqN, e_seqR, e_seqB, e_seqC, e_seqX, e_skip, e_break, e_cont, e_set, e_setR, e_setX, e_setB, e_own, e_ownR, e_asg, e_asgR, e_nxO, e_tgT, e_putN, e_putC, e_tgN, e_tgB, e_drop, e_dropR, e_ret, e_retR, e_retX, e_retB, e_retN, e_if, e_ifT, e_ifF, e_app, e_appR, e_appB, e_frz, e_frzO, e_frzD, e_frzU, e_for, e_forR, e_forN, e_forC, e_turnB, e_turnN, e_turnC, e_turnK, e_turnR, e_turnX, e_it, e_itR, e_itA, e_itAR, e_asLst, e_asSlst, e_asTup, e_asStr, e_raise, e_run, e_endN, e_endR, e_endX, e_stC, e_st0, e_stS, e_addI, e_addS, e_addB, e_addLL, e_addOL, e_addLO, e_addOO, e_sub, e_mul, e_mod, e_div, e_neg, e_cmp, e_eqI, e_eqS, e_eqB, e_id, e_n1, e_isN, e_isI, e_isS, e_isT, e_isL, e_isB, e_isnN, e_isnI, e_isnS, e_isnT, e_isnL, e_isnB, e_ixS, e_ixT, e_ixL, e_ixSL, e_ixO, e_at_0, e_at_1, e_at_2, e_sg, e_lenS, e_lenT, e_lenL, e_lenSL, e_lenO, e_int, e_intT, e_intF, e_str, e_min, e_max, e_abs, e_m1, e_m1R, e_m1S, e_joinL, e_joinO, e_joinT, e_txN, e_txC, e_txS, e_isiS, e_isiL, e_isiTu, e_rep, e_replS, e_tabG, e_mpS, e_tabI, e_inS, e_sl, e_slR, e_slS, e_slT, e_oNone, e_oSome, e_oRI, e_slStr, e_slL, e_slSL, e_slO, e_lc, e_ca0, e_ca1, e_ca2, e_ca3, e_ca4, e_ca5, e_ca6, e_ca7, e_ca8, e_ca9, e_ca10, e_ca11, e_ca12, e_scS, e_scI, e_scB, e_scN, e_allN, e_allC, e_eqFS, e_eqFI, e_inST, e_inIT, e_index, e_spR, e_mg, e_mgS, e_smN, e_smC, eq_self, Nat.reduceLT, Nat.reduceGT, Nat.reduceAdd, Nat.reduceMul, Nat.reduceSub, Nat.reduceLeDiff, Nat.reduceEqDiff, Int.reduceLT, Int.reduceLE, Int.reduceEq, Int.reduceAdd, Int.reduceSub, Int.reduceMul, Int.reduceMod, Int.reduceDiv, Int.reduceNeg, Nat.zero_le, Nat.le_refl, List.length_cons, List.length_nil, ite_true, ite_false, if_true, if_false, decide_true, decide_false, Bool.not_true, Bool.not_false, Bool.and_true, Bool.true_and, Bool.and_false, Bool.false_and, Bool.or_true, Bool.or_false, Bool.true_or, Bool.false_or, List.cons.injEq, and_true, true_and, and_false, false_and, and_self, ne_eq, not_true_eq_false, not_false_eq_true, reduceCtorEq, List.nil_append, List.cons_append, List.append_nil, List.append_assoc, e_joinW, e_joinWT, k1, k2, h1, h2, h3, h4, f1, f2, f3, f4, g1, g2, g3, t0, p1, q1, p2, p3]
          · unfold m__law_words d__law_words
            simp only [e_rdDat, e_rdOwn, e_at0, e_atS, e_pu0, e_puS, e_var, e_c, e_op2, e_op2R, e_op2S, e_op1, e_op1S, e_opA, e_opAS, e_ofS, e_ofN, e_dB, e_toBS, e_and, e_andT, e_andF, e_or, e_orT, e_orF, e_not, e_notT, e_notF, e_notB, e_andV, e_andVT, e_andVF, e_orV, e_orVT, e_orVF, e_notV, e_notVB, e_ifE, e_ifET, e_ifEF, e_nil, e_cons, e_consR, e_consS, e_cleanN, e_cleanC, e_oN, e_oB, e_oI, e_oS, e_oT, e_oL, e_oSL, e_oOb, e_nf, e_tt, e_tup, e_tupR, e_tupB, e_items, e_itemsR, e_itemsB, e_fix, e_fixR, e_cat, e_catR, e_appN, e_appC, e_catB, e_catLL, e_catOL, e_catLO, e_catOO, e_call, e_callR, e_callB0, e_callB1, e_callB2, e_callB3, e_callB4, e_callB5, e_seq, e_seqN, e_seqR, e_seqB, e_seqC, e_seqX, e_skip, e_break, e_cont, e_set, e_setR, e_setX, e_setB, e_own, e_ownR, e_asg, e_asgR, e_nxO, e_tgT, e_putN, e_putC, e_tgN, e_tgB, e_drop, e_dropR, e_ret, e_retR, e_retX, e_retB, e_retN, e_if, e_ifT, e_ifF, e_app, e_appR, e_appB, e_frz, e_frzO, e_frzD, e_frzU, e_for, e_forR, e_forN, e_forC, e_turnB, e_turnN, e_turnC, e_turnK, e_turnR, e_turnX, e_it, e_itR, e_itA, e_itAR, e_asLst, e_asSlst, e_asTup, e_asStr, e_raise, e_run, e_endN, e_endR, e_endX, e_stC, e_st0, e_stS, e_addI, e_addS, e_addB, e_addLL, e_addOL, e_addLO, e_addOO, e_sub, e_mul, e_mod, e_div, e_neg, e_cmp, e_eqI, e_eqS, e_eqB, e_id, e_n1, e_isN, e_isI, e_isS, e_isT, e_isL, e_isB, e_isnN, e_isnI, e_isnS, e_isnT, e_isnL, e_isnB, e_ixS, e_ixT, e_ixL, e_ixSL, e_ixO, e_at_0, e_at_1, e_at_2, e_sg, e_lenS, e_lenT, e_lenL, e_lenSL, e_lenO, e_int, e_intT, e_intF, e_str, e_min, e_max, e_abs, e_m1, e_m1R, e_m1S, e_joinL, e_joinO, e_joinT, e_txN, e_txC, e_txS, e_isiS, e_isiL, e_isiTu, e_rep, e_replS, e_tabG, e_mpS, e_tabI, e_inS, e_sl, e_slR, e_slS, e_slT, e_oNone, e_oSome, e_oRI, e_slStr, e_slL, e_slSL, e_slO, e_lc, e_ca0, e_ca1, e_ca2, e_ca3, e_ca4, e_ca5, e_ca6, e_ca7, e_ca8, e_ca9, e_ca10, e_ca11, e_ca12, e_scS, e_scI, e_scB, e_scN, e_allN, e_allC, e_eqFS, e_eqFI, e_inST, e_inIT, e_index, e_spR, e_mg, e_mgS, e_smN, e_smC, eq_self, Nat.reduceLT, Nat.reduceGT, Nat.reduceAdd, Nat.reduceMul, Nat.reduceSub, Nat.reduceLeDiff, Nat.reduceEqDiff, Int.reduceLT, Int.reduceLE, Int.reduceEq, Int.reduceAdd, Int.reduceSub, Int.reduceMul, Int.reduceMod, Int.reduceDiv, Int.reduceNeg, Nat.zero_le, Nat.le_refl, List.length_cons, List.length_nil, ite_true, ite_false, if_true, if_false, decide_true, decide_false, Bool.not_true, Bool.not_false, Bool.and_true, Bool.true_and, Bool.and_false, Bool.false_and, Bool.or_true, Bool.or_false, Bool.true_or, Bool.false_or, List.cons.injEq, and_true, true_and, and_false, false_and, and_self, ne_eq, not_true_eq_false, not_false_eq_true, reduceCtorEq, List.nil_append, List.cons_append, List.append_nil, List.append_assoc, e_joinW, e_joinWT, k1, k2, h1, h2, h3, h4, f1, f2, f3, f4, g1, g2, g3, t0, p1, q1, p2, p3]
  · rcases hsh with rfl | ⟨c, rfl⟩
    · rcases ht with rfl | ht
      · skip
        refine ⟨jn L8 [w, L12, cw, quo y], ?_, ?_⟩
        · unfold m_in_words d_in_words
          simp only [e_rdDat, e_rdOwn, e_at0, e_atS, e_pu0, e_puS, e_var, e_c, e_op2, e_op2R, e_op2S, e_op1, e_op1S, e_opA, e_opAS, e_ofS, e_ofN, e_dB, e_toBS, e_and, e_andT, e_andF, e_or, e_orT, e_orF, e_not, e_notT, e_notF, e_notB, e_andV, e_andVT, e_andVF, e_orV, e_orVT, e_orVF, e_notV, e_notVB, e_ifE, e_ifET, e_ifEF, e_nil, e_cons, e_consR, e_consS, e_cleanN, e_cleanC, e_oN, e_oB, e_oI, e_oS, e_oT, e_oL, e_oSL, e_oOb, e_nf, e_tt, e_tup, e_tupR, e_tupB, e_items, e_itemsR, e_itemsB, e_fix, e_fixR, e_cat, e_catR, e_appN, e_appC, e_catB, e_catLL, e_catOL, e_catLO, e_catOO, e_call, e_callR, e_callB0, e_callB1, e_callB2, e_callB3, e_callB4, e_callB5, e_seq, e_seqN, e_seqR, e_seqB, e_seqC, e_seqX, e_skip, e_break, e_cont, e_set, e_setR, e_setX, e_setB, e_own, e_ownR, e_asg, e_asgR, e_nxO, e_tgT, e_putN, e_putC, e_tgN, e_tgB, e_drop, e_dropR, e_ret, e_retR, e_retX, e_retB, e_retN, e_if, e_ifT, e_ifF, e_app, e_appR, e_appB, e_frz, e_frzO, e_frzD, e_frzU, e_for, e_forR, e_forN, e_forC, e_turnB, e_turnN, e_turnC, e_turnK, e_turnR, e_turnX, e_it, e_itR, e_itA, e_itAR, e_asLst, e_asSlst, e_asTup, e_asStr, e_raise, e_run, e_endN, e_endR, e_endX, e_stC, e_st0, e_stS, e_addI, e_addS, e_addB, e_addLL, e_addOL, e_addLO, e_addOO, e_sub, e_mul, e_mod, e_div, e_neg, e_cmp, e_eqI, e_eqS, e_eqB, e_id, e_n1, e_isN, e_isI, e_isS, e_isT, e_isL, e_isB, e_isnN, e_isnI, e_isnS, e_isnT, e_isnL, e_isnB, e_ixS, e_ixT, e_ixL, e_ixSL, e_ixO, e_at_0, e_at_1, e_at_2, e_sg, e_lenS, e_lenT, e_lenL, e_lenSL, e_lenO, e_int, e_intT, e_intF, e_str, e_min, e_max, e_abs, e_m1, e_m1R, e_m1S, e_joinL, e_joinO, e_joinT, e_txN, e_txC, e_txS, e_isiS, e_isiL, e_isiTu, e_rep, e_replS, e_tabG, e_mpS, e_tabI, e_inS, e_sl, e_slR, e_slS, e_slT, e_oNone, e_oSome, e_oRI, e_slStr, e_slL, e_slSL, e_slO, e_lc, e_ca0, e_ca1, e_ca2, e_ca3, e_ca4, e_ca5, e_ca6, e_ca7, e_ca8, e_ca9, e_ca10, e_ca11, e_ca12, e_scS, e_scI, e_scB, e_scN, e_allN, e_allC, e_eqFS, e_eqFI, e_inST, e_inIT, e_index, e_spR, e_mg, e_mgS, e_smN, e_smC, eq_self, Nat.reduceLT, Nat.reduceGT, Nat.reduceAdd, Nat.reduceMul, Nat.reduceSub, Nat.reduceLeDiff, Nat.reduceEqDiff, Int.reduceLT, Int.reduceLE, Int.reduceEq, Int.reduceAdd, Int.reduceSub, Int.reduceMul, Int.reduceMod, Int.reduceDiv, Int.reduceNeg, Nat.zero_le, Nat.le_refl, List.length_cons, List.length_nil, ite_true, ite_false, if_true, if_false, decide_true, decide_false, Bool.not_true, Bool.not_false, Bool.and_true, Bool.true_and, Bool.and_false, Bool.false_and, Bool.or_true, Bool.or_false, Bool.true_or, Bool.false_or, List.cons.injEq, and_true, true_and, and_false, false_and, and_self, ne_eq, not_true_eq_false, not_false_eq_true, reduceCtorEq, List.nil_append, List.cons_append, List.append_nil, List.append_assoc, e_joinW, e_joinWT, k1, k2, k3, k4, h1, h2, h3, h4, f1, f2, f3, f4, g1, g2, g3]
        · unfold m__law_words d__law_words
          simp only [e_rdDat, e_rdOwn, e_at0, e_atS, e_pu0, e_puS, e_var, e_c, e_op2, e_op2R, e_op2S, e_op1, e_op1S, e_opA, e_opAS, e_ofS, e_ofN, e_dB, e_toBS, e_and, e_andT, e_andF, e_or, e_orT, e_orF, e_not, e_notT, e_notF, e_notB, e_andV, e_andVT, e_andVF, e_orV, e_orVT, e_orVF, e_notV, e_notVB, e_ifE, e_ifET, e_ifEF, e_nil, e_cons, e_consR, e_consS, e_cleanN, e_cleanC, e_oN, e_oB, e_oI, e_oS, e_oT, e_oL, e_oSL, e_oOb, e_nf, e_tt, e_tup, e_tupR, e_tupB, e_items, e_itemsR, e_itemsB, e_fix, e_fixR, e_cat, e_catR, e_appN, e_appC, e_catB, e_catLL, e_catOL, e_catLO, e_catOO, e_call, e_callR, e_callB0, e_callB1, e_callB2, e_callB3, e_callB4, e_callB5, e_seq, e_seqN, e_seqR, e_seqB, e_seqC, e_seqX, e_skip, e_break, e_cont, e_set, e_setR, e_setX, e_setB, e_own, e_ownR, e_asg, e_asgR, e_nxO, e_tgT, e_putN, e_putC, e_tgN, e_tgB, e_drop, e_dropR, e_ret, e_retR, e_retX, e_retB, e_retN, e_if, e_ifT, e_ifF, e_app, e_appR, e_appB, e_frz, e_frzO, e_frzD, e_frzU, e_for, e_forR, e_forN, e_forC, e_turnB, e_turnN, e_turnC, e_turnK, e_turnR, e_turnX, e_it, e_itR, e_itA, e_itAR, e_asLst, e_asSlst, e_asTup, e_asStr, e_raise, e_run, e_endN, e_endR, e_endX, e_stC, e_st0, e_stS, e_addI, e_addS, e_addB, e_addLL, e_addOL, e_addLO, e_addOO, e_sub, e_mul, e_mod, e_div, e_neg, e_cmp, e_eqI, e_eqS, e_eqB, e_id, e_n1, e_isN, e_isI, e_isS, e_isT, e_isL, e_isB, e_isnN, e_isnI, e_isnS, e_isnT, e_isnL, e_isnB, e_ixS, e_ixT, e_ixL, e_ixSL, e_ixO, e_at_0, e_at_1, e_at_2, e_sg, e_lenS, e_lenT, e_lenL, e_lenSL, e_lenO, e_int, e_intT, e_intF, e_str, e_min, e_max, e_abs, e_m1, e_m1R, e_m1S, e_joinL, e_joinO, e_joinT, e_txN, e_txC, e_txS, e_isiS, e_isiL, e_isiTu, e_rep, e_replS, e_tabG, e_mpS, e_tabI, e_inS, e_sl, e_slR, e_slS, e_slT, e_oNone, e_oSome, e_oRI, e_slStr, e_slL, e_slSL, e_slO, e_lc, e_ca0, e_ca1, e_ca2, e_ca3, e_ca4, e_ca5, e_ca6, e_ca7, e_ca8, e_ca9, e_ca10, e_ca11, e_ca12, e_scS, e_scI, e_scB, e_scN, e_allN, e_allC, e_eqFS, e_eqFI, e_inST, e_inIT, e_index, e_spR, e_mg, e_mgS, e_smN, e_smC, eq_self, Nat.reduceLT, Nat.reduceGT, Nat.reduceAdd, Nat.reduceMul, Nat.reduceSub, Nat.reduceLeDiff, Nat.reduceEqDiff, Int.reduceLT, Int.reduceLE, Int.reduceEq, Int.reduceAdd, Int.reduceSub, Int.reduceMul, Int.reduceMod, Int.reduceDiv, Int.reduceNeg, Nat.zero_le, Nat.le_refl, List.length_cons, List.length_nil, ite_true, ite_false, if_true, if_false, decide_true, decide_false, Bool.not_true, Bool.not_false, Bool.and_true, Bool.true_and, Bool.and_false, Bool.false_and, Bool.or_true, Bool.or_false, Bool.true_or, Bool.false_or, List.cons.injEq, and_true, true_and, and_false, false_and, and_self, ne_eq, not_true_eq_false, not_false_eq_true, reduceCtorEq, List.nil_append, List.cons_append, List.append_nil, List.append_assoc, e_joinW, e_joinWT, k1, k2, k3, k4, h1, h2, h3, h4, f1, f2, f3, f4, g1, g2, g3]
      · obtain ⟨t0, tt⟩ := t_words ht
        have t0 : (t = []) = False := eq_false t0
        rcases tt with ⟨p, p1, p2, p3⟩ | ⟨p, q, p1, q1, p2, p3⟩
        · have p1 : (p.length ≤ 1000) = True := eq_true (by omega)
          refine ⟨jn L8 [w, L12, cw, p, quo y], ?_, ?_⟩
          · unfold m_in_words d_in_words
            simp only [e_rdDat, e_rdOwn, e_at0, e_atS, e_pu0, e_puS, e_var, e_c, e_op2, e_op2R, e_op2S, e_op1, e_op1S, e_opA, e_opAS, e_ofS, e_ofN, e_dB, e_toBS, e_and, e_andT, e_andF, e_or, e_orT, e_orF, e_not, e_notT, e_notF, e_notB, e_andV, e_andVT, e_andVF, e_orV, e_orVT, e_orVF, e_notV, e_notVB, e_ifE, e_ifET, e_ifEF, e_nil, e_cons, e_consR, e_consS, e_cleanN, e_cleanC, e_oN, e_oB, e_oI, e_oS, e_oT, e_oL, e_oSL, e_oOb, e_nf, e_tt, e_tup, e_tupR, e_tupB, e_items, e_itemsR, e_itemsB, e_fix, e_fixR, e_cat, e_catR, e_appN, e_appC, e_catB, e_catLL, e_catOL, e_catLO, e_catOO, e_call, e_callR, e_callB0, e_callB1, e_callB2, e_callB3, e_callB4, e_callB5, e_seq, e_seqN, e_seqR, e_seqB, e_seqC, e_seqX, e_skip, e_break, e_cont, e_set, e_setR, e_setX, e_setB, e_own, e_ownR, e_asg, e_asgR, e_nxO, e_tgT, e_putN, e_putC, e_tgN, e_tgB, e_drop, e_dropR, e_ret, e_retR, e_retX, e_retB, e_retN, e_if, e_ifT, e_ifF, e_app, e_appR, e_appB, e_frz, e_frzO, e_frzD, e_frzU, e_for, e_forR, e_forN, e_forC, e_turnB, e_turnN, e_turnC, e_turnK, e_turnR, e_turnX, e_it, e_itR, e_itA, e_itAR, e_asLst, e_asSlst, e_asTup, e_asStr, e_raise, e_run, e_endN, e_endR, e_endX, e_stC, e_st0, e_stS, e_addI, e_addS, e_addB, e_addLL, e_addOL, e_addLO, e_addOO, e_sub, e_mul, e_mod, e_div, e_neg, e_cmp, e_eqI, e_eqS, e_eqB, e_id, e_n1, e_isN, e_isI, e_isS, e_isT, e_isL, e_isB, e_isnN, e_isnI, e_isnS, e_isnT, e_isnL, e_isnB, e_ixS, e_ixT, e_ixL, e_ixSL, e_ixO, e_at_0, e_at_1, e_at_2, e_sg, e_lenS, e_lenT, e_lenL, e_lenSL, e_lenO, e_int, e_intT, e_intF, e_str, e_min, e_max, e_abs, e_m1, e_m1R, e_m1S, e_joinL, e_joinO, e_joinT, e_txN, e_txC, e_txS, e_isiS, e_isiL, e_isiTu, e_rep, e_replS, e_tabG, e_mpS, e_tabI, e_inS, e_sl, e_slR, e_slS, e_slT, e_oNone, e_oSome, e_oRI, e_slStr, e_slL, e_slSL, e_slO, e_lc, e_ca0, e_ca1, e_ca2, e_ca3, e_ca4, e_ca5, e_ca6, e_ca7, e_ca8, e_ca9, e_ca10, e_ca11, e_ca12, e_scS, e_scI, e_scB, e_scN, e_allN, e_allC, e_eqFS, e_eqFI, e_inST, e_inIT, e_index, e_spR, e_mg, e_mgS, e_smN, e_smC, eq_self, Nat.reduceLT, Nat.reduceGT, Nat.reduceAdd, Nat.reduceMul, Nat.reduceSub, Nat.reduceLeDiff, Nat.reduceEqDiff, Int.reduceLT, Int.reduceLE, Int.reduceEq, Int.reduceAdd, Int.reduceSub, Int.reduceMul, Int.reduceMod, Int.reduceDiv, Int.reduceNeg, Nat.zero_le, Nat.le_refl, List.length_cons, List.length_nil, ite_true, ite_false, if_true, if_false, decide_true, decide_false, Bool.not_true, Bool.not_false, Bool.and_true, Bool.true_and, Bool.and_false, Bool.false_and, Bool.or_true, Bool.or_false, Bool.true_or, Bool.false_or, List.cons.injEq, and_true, true_and, and_false, false_and, and_self, ne_eq, not_true_eq_false, not_false_eq_true, reduceCtorEq, List.nil_append, List.cons_append, List.append_nil, List.append_assoc, e_joinW, e_joinWT, k1, k2, k3, k4, h1, h2, h3, h4, f1, f2, f3, f4, g1, g2, g3, t0, p1, p2, p3]
          · unfold m__law_words d__law_words
            simp only [e_rdDat, e_rdOwn, e_at0, e_atS, e_pu0, e_puS, e_var, e_c, e_op2, e_op2R, e_op2S, e_op1, e_op1S, e_opA, e_opAS, e_ofS, e_ofN, e_dB, e_toBS, e_and, e_andT, e_andF, e_or, e_orT, e_orF, e_not, e_notT, e_notF, e_notB, e_andV, e_andVT, e_andVF, e_orV, e_orVT, e_orVF, e_notV, e_notVB, e_ifE, e_ifET, e_ifEF, e_nil, e_cons, e_consR, e_consS, e_cleanN, e_cleanC, e_oN, e_oB, e_oI, e_oS, e_oT, e_oL, e_oSL, e_oOb, e_nf, e_tt, e_tup, e_tupR, e_tupB, e_items, e_itemsR, e_itemsB, e_fix, e_fixR, e_cat, e_catR, e_appN, e_appC, e_catB, e_catLL, e_catOL, e_catLO, e_catOO, e_call, e_callR, e_callB0, e_callB1, e_callB2, e_callB3, e_callB4, e_callB5, e_seq, e_seqN, e_seqR, e_seqB, e_seqC, e_seqX, e_skip, e_break, e_cont, e_set, e_setR, e_setX, e_setB, e_own, e_ownR, e_asg, e_asgR, e_nxO, e_tgT, e_putN, e_putC, e_tgN, e_tgB, e_drop, e_dropR, e_ret, e_retR, e_retX, e_retB, e_retN, e_if, e_ifT, e_ifF, e_app, e_appR, e_appB, e_frz, e_frzO, e_frzD, e_frzU, e_for, e_forR, e_forN, e_forC, e_turnB, e_turnN, e_turnC, e_turnK, e_turnR, e_turnX, e_it, e_itR, e_itA, e_itAR, e_asLst, e_asSlst, e_asTup, e_asStr, e_raise, e_run, e_endN, e_endR, e_endX, e_stC, e_st0, e_stS, e_addI, e_addS, e_addB, e_addLL, e_addOL, e_addLO, e_addOO, e_sub, e_mul, e_mod, e_div, e_neg, e_cmp, e_eqI, e_eqS, e_eqB, e_id, e_n1, e_isN, e_isI, e_isS, e_isT, e_isL, e_isB, e_isnN, e_isnI, e_isnS, e_isnT, e_isnL, e_isnB, e_ixS, e_ixT, e_ixL, e_ixSL, e_ixO, e_at_0, e_at_1, e_at_2, e_sg, e_lenS, e_lenT, e_lenL, e_lenSL, e_lenO, e_int, e_intT, e_intF, e_str, e_min, e_max, e_abs, e_m1, e_m1R, e_m1S, e_joinL, e_joinO, e_joinT, e_txN, e_txC, e_txS, e_isiS, e_isiL, e_isiTu, e_rep, e_replS, e_tabG, e_mpS, e_tabI, e_inS, e_sl, e_slR, e_slS, e_slT, e_oNone, e_oSome, e_oRI, e_slStr, e_slL, e_slSL, e_slO, e_lc, e_ca0, e_ca1, e_ca2, e_ca3, e_ca4, e_ca5, e_ca6, e_ca7, e_ca8, e_ca9, e_ca10, e_ca11, e_ca12, e_scS, e_scI, e_scB, e_scN, e_allN, e_allC, e_eqFS, e_eqFI, e_inST, e_inIT, e_index, e_spR, e_mg, e_mgS, e_smN, e_smC, eq_self, Nat.reduceLT, Nat.reduceGT, Nat.reduceAdd, Nat.reduceMul, Nat.reduceSub, Nat.reduceLeDiff, Nat.reduceEqDiff, Int.reduceLT, Int.reduceLE, Int.reduceEq, Int.reduceAdd, Int.reduceSub, Int.reduceMul, Int.reduceMod, Int.reduceDiv, Int.reduceNeg, Nat.zero_le, Nat.le_refl, List.length_cons, List.length_nil, ite_true, ite_false, if_true, if_false, decide_true, decide_false, Bool.not_true, Bool.not_false, Bool.and_true, Bool.true_and, Bool.and_false, Bool.false_and, Bool.or_true, Bool.or_false, Bool.true_or, Bool.false_or, List.cons.injEq, and_true, true_and, and_false, false_and, and_self, ne_eq, not_true_eq_false, not_false_eq_true, reduceCtorEq, List.nil_append, List.cons_append, List.append_nil, List.append_assoc, e_joinW, e_joinWT, k1, k2, k3, k4, h1, h2, h3, h4, f1, f2, f3, f4, g1, g2, g3, t0, p1, p2, p3]
        · have p1 : (p.length ≤ 1000) = True := eq_true (by omega)
          have q1 : (q.length ≤ 1000) = True := eq_true (by omega)
          refine ⟨jn L8 [w, L12, cw, p, q, quo y], ?_, ?_⟩
          · unfold m_in_words d_in_words
            simp only [e_rdDat, e_rdOwn, e_at0, e_atS, e_pu0, e_puS, e_var, e_c, e_op2, e_op2R, e_op2S, e_op1, e_op1S, e_opA, e_opAS, e_ofS, e_ofN, e_dB, e_toBS, e_and, e_andT, e_andF, e_or, e_orT, e_orF, e_not, e_notT, e_notF, e_notB, e_andV, e_andVT, e_andVF, e_orV, e_orVT, e_orVF, e_notV, e_notVB, e_ifE, e_ifET, e_ifEF, e_nil, e_cons, e_consR, e_consS, e_cleanN, e_cleanC, e_oN, e_oB, e_oI, e_oS, e_oT, e_oL, e_oSL, e_oOb, e_nf, e_tt, e_tup, e_tupR, e_tupB, e_items, e_itemsR, e_itemsB, e_fix, e_fixR, e_cat, e_catR, e_appN, e_appC, e_catB, e_catLL, e_catOL, e_catLO, e_catOO, e_call, e_callR, e_callB0, e_callB1, e_callB2, e_callB3, e_callB4, e_callB5, e_seq, e_seqN, e_seqR, e_seqB, e_seqC, e_seqX, e_skip, e_break, e_cont, e_set, e_setR, e_setX, e_setB, e_own, e_ownR, e_asg, e_asgR, e_nxO, e_tgT, e_putN, e_putC, e_tgN, e_tgB, e_drop, e_dropR, e_ret, e_retR, e_retX, e_retB, e_retN, e_if, e_ifT, e_ifF, e_app, e_appR, e_appB, e_frz, e_frzO, e_frzD, e_frzU, e_for, e_forR, e_forN, e_forC, e_turnB, e_turnN, e_turnC, e_turnK, e_turnR, e_turnX, e_it, e_itR, e_itA, e_itAR, e_asLst, e_asSlst, e_asTup, e_asStr, e_raise, e_run, e_endN, e_endR, e_endX, e_stC, e_st0, e_stS, e_addI, e_addS, e_addB, e_addLL, e_addOL, e_addLO, e_addOO, e_sub, e_mul, e_mod, e_div, e_neg, e_cmp, e_eqI, e_eqS, e_eqB, e_id, e_n1, e_isN, e_isI, e_isS, e_isT, e_isL, e_isB, e_isnN, e_isnI, e_isnS, e_isnT, e_isnL, e_isnB, e_ixS, e_ixT, e_ixL, e_ixSL, e_ixO, e_at_0, e_at_1, e_at_2, e_sg, e_lenS, e_lenT, e_lenL, e_lenSL, e_lenO, e_int, e_intT, e_intF, e_str, e_min, e_max, e_abs, e_m1, e_m1R, e_m1S, e_joinL, e_joinO, e_joinT, e_txN, e_txC, e_txS, e_isiS, e_isiL, e_isiTu, e_rep, e_replS, e_tabG, e_mpS, e_tabI, e_inS, e_sl, e_slR, e_slS, e_slT, e_oNone, e_oSome, e_oRI, e_slStr, e_slL, e_slSL, e_slO, e_lc, e_ca0, e_ca1, e_ca2, e_ca3, e_ca4, e_ca5, e_ca6, e_ca7, e_ca8, e_ca9, e_ca10, e_ca11, e_ca12, e_scS, e_scI, e_scB, e_scN, e_allN, e_allC, e_eqFS, e_eqFI, e_inST, e_inIT, e_index, e_spR, e_mg, e_mgS, e_smN, e_smC, eq_self, Nat.reduceLT, Nat.reduceGT, Nat.reduceAdd, Nat.reduceMul, Nat.reduceSub, Nat.reduceLeDiff, Nat.reduceEqDiff, Int.reduceLT, Int.reduceLE, Int.reduceEq, Int.reduceAdd, Int.reduceSub, Int.reduceMul, Int.reduceMod, Int.reduceDiv, Int.reduceNeg, Nat.zero_le, Nat.le_refl, List.length_cons, List.length_nil, ite_true, ite_false, if_true, if_false, decide_true, decide_false, Bool.not_true, Bool.not_false, Bool.and_true, Bool.true_and, Bool.and_false, Bool.false_and, Bool.or_true, Bool.or_false, Bool.true_or, Bool.false_or, List.cons.injEq, and_true, true_and, and_false, false_and, and_self, ne_eq, not_true_eq_false, not_false_eq_true, reduceCtorEq, List.nil_append, List.cons_append, List.append_nil, List.append_assoc, e_joinW, e_joinWT, k1, k2, k3, k4, h1, h2, h3, h4, f1, f2, f3, f4, g1, g2, g3, t0, p1, q1, p2, p3]
          · unfold m__law_words d__law_words
            simp only [e_rdDat, e_rdOwn, e_at0, e_atS, e_pu0, e_puS, e_var, e_c, e_op2, e_op2R, e_op2S, e_op1, e_op1S, e_opA, e_opAS, e_ofS, e_ofN, e_dB, e_toBS, e_and, e_andT, e_andF, e_or, e_orT, e_orF, e_not, e_notT, e_notF, e_notB, e_andV, e_andVT, e_andVF, e_orV, e_orVT, e_orVF, e_notV, e_notVB, e_ifE, e_ifET, e_ifEF, e_nil, e_cons, e_consR, e_consS, e_cleanN, e_cleanC, e_oN, e_oB, e_oI, e_oS, e_oT, e_oL, e_oSL, e_oOb, e_nf, e_tt, e_tup, e_tupR, e_tupB, e_items, e_itemsR, e_itemsB, e_fix, e_fixR, e_cat, e_catR, e_appN, e_appC, e_catB, e_catLL, e_catOL, e_catLO, e_catOO, e_call, e_callR, e_callB0, e_callB1, e_callB2, e_callB3, e_callB4, e_callB5, e_seq, e_seqN, e_seqR, e_seqB, e_seqC, e_seqX, e_skip, e_break, e_cont, e_set, e_setR, e_setX, e_setB, e_own, e_ownR, e_asg, e_asgR, e_nxO, e_tgT, e_putN, e_putC, e_tgN, e_tgB, e_drop, e_dropR, e_ret, e_retR, e_retX, e_retB, e_retN, e_if, e_ifT, e_ifF, e_app, e_appR, e_appB, e_frz, e_frzO, e_frzD, e_frzU, e_for, e_forR, e_forN, e_forC, e_turnB, e_turnN, e_turnC, e_turnK, e_turnR, e_turnX, e_it, e_itR, e_itA, e_itAR, e_asLst, e_asSlst, e_asTup, e_asStr, e_raise, e_run, e_endN, e_endR, e_endX, e_stC, e_st0, e_stS, e_addI, e_addS, e_addB, e_addLL, e_addOL, e_addLO, e_addOO, e_sub, e_mul, e_mod, e_div, e_neg, e_cmp, e_eqI, e_eqS, e_eqB, e_id, e_n1, e_isN, e_isI, e_isS, e_isT, e_isL, e_isB, e_isnN, e_isnI, e_isnS, e_isnT, e_isnL, e_isnB, e_ixS, e_ixT, e_ixL, e_ixSL, e_ixO, e_at_0, e_at_1, e_at_2, e_sg, e_lenS, e_lenT, e_lenL, e_lenSL, e_lenO, e_int, e_intT, e_intF, e_str, e_min, e_max, e_abs, e_m1, e_m1R, e_m1S, e_joinL, e_joinO, e_joinT, e_txN, e_txC, e_txS, e_isiS, e_isiL, e_isiTu, e_rep, e_replS, e_tabG, e_mpS, e_tabI, e_inS, e_sl, e_slR, e_slS, e_slT, e_oNone, e_oSome, e_oRI, e_slStr, e_slL, e_slSL, e_slO, e_lc, e_ca0, e_ca1, e_ca2, e_ca3, e_ca4, e_ca5, e_ca6, e_ca7, e_ca8, e_ca9, e_ca10, e_ca11, e_ca12, e_scS, e_scI, e_scB, e_scN, e_allN, e_allC, e_eqFS, e_eqFI, e_inST, e_inIT, e_index, e_spR, e_mg, e_mgS, e_smN, e_smC, eq_self, Nat.reduceLT, Nat.reduceGT, Nat.reduceAdd, Nat.reduceMul, Nat.reduceSub, Nat.reduceLeDiff, Nat.reduceEqDiff, Int.reduceLT, Int.reduceLE, Int.reduceEq, Int.reduceAdd, Int.reduceSub, Int.reduceMul, Int.reduceMod, Int.reduceDiv, Int.reduceNeg, Nat.zero_le, Nat.le_refl, List.length_cons, List.length_nil, ite_true, ite_false, if_true, if_false, decide_true, decide_false, Bool.not_true, Bool.not_false, Bool.and_true, Bool.true_and, Bool.and_false, Bool.false_and, Bool.or_true, Bool.or_false, Bool.true_or, Bool.false_or, List.cons.injEq, and_true, true_and, and_false, false_and, and_self, ne_eq, not_true_eq_false, not_false_eq_true, reduceCtorEq, List.nil_append, List.cons_append, List.append_nil, List.append_assoc, e_joinW, e_joinWT, k1, k2, k3, k4, h1, h2, h3, h4, f1, f2, f3, f4, g1, g2, g3, t0, p1, q1, p2, p3]
    · rcases ht with rfl | ht
      · skip
        refine ⟨jn L8 [w, L13, [c], L12, cw, quo y], ?_, ?_⟩
        · unfold m_in_words d_in_words
          simp only [e_rdDat, e_rdOwn, e_at0, e_atS, e_pu0, e_puS, e_var, e_c, e_op2, e_op2R, e_op2S, e_op1, e_op1S, e_opA, e_opAS, e_ofS, e_ofN, e_dB, e_toBS, e_and, e_andT, e_andF, e_or, e_orT, e_orF, e_not, e_notT, e_notF, e_notB, e_andV, e_andVT, e_andVF, e_orV, e_orVT, e_orVF, e_notV, e_notVB, e_ifE, e_ifET, e_ifEF, e_nil, e_cons, e_consR, e_consS, e_cleanN, e_cleanC, e_oN, e_oB, e_oI, e_oS, e_oT, e_oL, e_oSL, e_oOb, e_nf, e_tt, e_tup, e_tupR, e_tupB, e_items, e_itemsR, e_itemsB, e_fix, e_fixR, e_cat, e_catR, e_appN, e_appC, e_catB, e_catLL, e_catOL, e_catLO, e_catOO, e_call, e_callR, e_callB0, e_callB1, e_callB2, e_callB3, e_callB4, e_callB5, e_seq, e_seqN, e_seqR, e_seqB, e_seqC, e_seqX, e_skip, e_break, e_cont, e_set, e_setR, e_setX, e_setB, e_own, e_ownR, e_asg, e_asgR, e_nxO, e_tgT, e_putN, e_putC, e_tgN, e_tgB, e_drop, e_dropR, e_ret, e_retR, e_retX, e_retB, e_retN, e_if, e_ifT, e_ifF, e_app, e_appR, e_appB, e_frz, e_frzO, e_frzD, e_frzU, e_for, e_forR, e_forN, e_forC, e_turnB, e_turnN, e_turnC, e_turnK, e_turnR, e_turnX, e_it, e_itR, e_itA, e_itAR, e_asLst, e_asSlst, e_asTup, e_asStr, e_raise, e_run, e_endN, e_endR, e_endX, e_stC, e_st0, e_stS, e_addI, e_addS, e_addB, e_addLL, e_addOL, e_addLO, e_addOO, e_sub, e_mul, e_mod, e_div, e_neg, e_cmp, e_eqI, e_eqS, e_eqB, e_id, e_n1, e_isN, e_isI, e_isS, e_isT, e_isL, e_isB, e_isnN, e_isnI, e_isnS, e_isnT, e_isnL, e_isnB, e_ixS, e_ixT, e_ixL, e_ixSL, e_ixO, e_at_0, e_at_1, e_at_2, e_sg, e_lenS, e_lenT, e_lenL, e_lenSL, e_lenO, e_int, e_intT, e_intF, e_str, e_min, e_max, e_abs, e_m1, e_m1R, e_m1S, e_joinL, e_joinO, e_joinT, e_txN, e_txC, e_txS, e_isiS, e_isiL, e_isiTu, e_rep, e_replS, e_tabG, e_mpS, e_tabI, e_inS, e_sl, e_slR, e_slS, e_slT, e_oNone, e_oSome, e_oRI, e_slStr, e_slL, e_slSL, e_slO, e_lc, e_ca0, e_ca1, e_ca2, e_ca3, e_ca4, e_ca5, e_ca6, e_ca7, e_ca8, e_ca9, e_ca10, e_ca11, e_ca12, e_scS, e_scI, e_scB, e_scN, e_allN, e_allC, e_eqFS, e_eqFI, e_inST, e_inIT, e_index, e_spR, e_mg, e_mgS, e_smN, e_smC, eq_self, Nat.reduceLT, Nat.reduceGT, Nat.reduceAdd, Nat.reduceMul, Nat.reduceSub, Nat.reduceLeDiff, Nat.reduceEqDiff, Int.reduceLT, Int.reduceLE, Int.reduceEq, Int.reduceAdd, Int.reduceSub, Int.reduceMul, Int.reduceMod, Int.reduceDiv, Int.reduceNeg, Nat.zero_le, Nat.le_refl, List.length_cons, List.length_nil, ite_true, ite_false, if_true, if_false, decide_true, decide_false, Bool.not_true, Bool.not_false, Bool.and_true, Bool.true_and, Bool.and_false, Bool.false_and, Bool.or_true, Bool.or_false, Bool.true_or, Bool.false_or, List.cons.injEq, and_true, true_and, and_false, false_and, and_self, ne_eq, not_true_eq_false, not_false_eq_true, reduceCtorEq, List.nil_append, List.cons_append, List.append_nil, List.append_assoc, e_joinW, e_joinWT, k1, k2, k3, k4, h1, h2, h3, h4, f1, f2, f3, f4, g1, g2, g3]
        · unfold m__law_words d__law_words
          simp only [e_rdDat, e_rdOwn, e_at0, e_atS, e_pu0, e_puS, e_var, e_c, e_op2, e_op2R, e_op2S, e_op1, e_op1S, e_opA, e_opAS, e_ofS, e_ofN, e_dB, e_toBS, e_and, e_andT, e_andF, e_or, e_orT, e_orF, e_not, e_notT, e_notF, e_notB, e_andV, e_andVT, e_andVF, e_orV, e_orVT, e_orVF, e_notV, e_notVB, e_ifE, e_ifET, e_ifEF, e_nil, e_cons, e_consR, e_consS, e_cleanN, e_cleanC, e_oN, e_oB, e_oI, e_oS, e_oT, e_oL, e_oSL, e_oOb, e_nf, e_tt, e_tup, e_tupR, e_tupB, e_items, e_itemsR, e_itemsB, e_fix, e_fixR, e_cat, e_catR, e_appN, e_appC, e_catB, e_catLL, e_catOL, e_catLO, e_catOO, e_call, e_callR, e_callB0, e_callB1, e_callB2, e_callB3, e_callB4, e_callB5, e_seq, e_seqN, e_seqR, e_seqB, e_seqC, e_seqX, e_skip, e_break, e_cont, e_set, e_setR, e_setX, e_setB, e_own, e_ownR, e_asg, e_asgR, e_nxO, e_tgT, e_putN, e_putC, e_tgN, e_tgB, e_drop, e_dropR, e_ret, e_retR, e_retX, e_retB, e_retN, e_if, e_ifT, e_ifF, e_app, e_appR, e_appB, e_frz, e_frzO, e_frzD, e_frzU, e_for, e_forR, e_forN, e_forC, e_turnB, e_turnN, e_turnC, e_turnK, e_turnR, e_turnX, e_it, e_itR, e_itA, e_itAR, e_asLst, e_asSlst, e_asTup, e_asStr, e_raise, e_run, e_endN, e_endR, e_endX, e_stC, e_st0, e_stS, e_addI, e_addS, e_addB, e_addLL, e_addOL, e_addLO, e_addOO, e_sub, e_mul, e_mod, e_div, e_neg, e_cmp, e_eqI, e_eqS, e_eqB, e_id, e_n1, e_isN, e_isI, e_isS, e_isT, e_isL, e_isB, e_isnN, e_isnI, e_isnS, e_isnT, e_isnL, e_isnB, e_ixS, e_ixT, e_ixL, e_ixSL, e_ixO, e_at_0, e_at_1, e_at_2, e_sg, e_lenS, e_lenT, e_lenL, e_lenSL, e_lenO, e_int, e_intT, e_intF, e_str, e_min, e_max, e_abs, e_m1, e_m1R, e_m1S, e_joinL, e_joinO, e_joinT, e_txN, e_txC, e_txS, e_isiS, e_isiL, e_isiTu, e_rep, e_replS, e_tabG, e_mpS, e_tabI, e_inS, e_sl, e_slR, e_slS, e_slT, e_oNone, e_oSome, e_oRI, e_slStr, e_slL, e_slSL, e_slO, e_lc, e_ca0, e_ca1, e_ca2, e_ca3, e_ca4, e_ca5, e_ca6, e_ca7, e_ca8, e_ca9, e_ca10, e_ca11, e_ca12, e_scS, e_scI, e_scB, e_scN, e_allN, e_allC, e_eqFS, e_eqFI, e_inST, e_inIT, e_index, e_spR, e_mg, e_mgS, e_smN, e_smC, eq_self, Nat.reduceLT, Nat.reduceGT, Nat.reduceAdd, Nat.reduceMul, Nat.reduceSub, Nat.reduceLeDiff, Nat.reduceEqDiff, Int.reduceLT, Int.reduceLE, Int.reduceEq, Int.reduceAdd, Int.reduceSub, Int.reduceMul, Int.reduceMod, Int.reduceDiv, Int.reduceNeg, Nat.zero_le, Nat.le_refl, List.length_cons, List.length_nil, ite_true, ite_false, if_true, if_false, decide_true, decide_false, Bool.not_true, Bool.not_false, Bool.and_true, Bool.true_and, Bool.and_false, Bool.false_and, Bool.or_true, Bool.or_false, Bool.true_or, Bool.false_or, List.cons.injEq, and_true, true_and, and_false, false_and, and_self, ne_eq, not_true_eq_false, not_false_eq_true, reduceCtorEq, List.nil_append, List.cons_append, List.append_nil, List.append_assoc, e_joinW, e_joinWT, k1, k2, k3, k4, h1, h2, h3, h4, f1, f2, f3, f4, g1, g2, g3]
      · obtain ⟨t0, tt⟩ := t_words ht
        have t0 : (t = []) = False := eq_false t0
        rcases tt with ⟨p, p1, p2, p3⟩ | ⟨p, q, p1, q1, p2, p3⟩
        · have p1 : (p.length ≤ 1000) = True := eq_true (by omega)
          refine ⟨jn L8 [w, L13, [c], L12, cw, p, quo y], ?_, ?_⟩
          · unfold m_in_words d_in_words
            simp only [e_rdDat, e_rdOwn, e_at0, e_atS, e_pu0, e_puS, e_var, e_c, e_op2, e_op2R, e_op2S, e_op1, e_op1S, e_opA, e_opAS, e_ofS, e_ofN, e_dB, e_toBS, e_and, e_andT, e_andF, e_or, e_orT, e_orF, e_not, e_notT, e_notF, e_notB, e_andV, e_andVT, e_andVF, e_orV, e_orVT, e_orVF, e_notV, e_notVB, e_ifE, e_ifET, e_ifEF, e_nil, e_cons, e_consR, e_consS, e_cleanN, e_cleanC, e_oN, e_oB, e_oI, e_oS, e_oT, e_oL, e_oSL, e_oOb, e_nf, e_tt, e_tup, e_tupR, e_tupB, e_items, e_itemsR, e_itemsB, e_fix, e_fixR, e_cat, e_catR, e_appN, e_appC, e_catB, e_catLL, e_catOL, e_catLO, e_catOO, e_call, e_callR, e_callB0, e_callB1, e_callB2, e_callB3, e_callB4, e_callB5, e_seq, e_seqN, e_seqR, e_seqB, e_seqC, e_seqX, e_skip, e_break, e_cont, e_set, e_setR, e_setX, e_setB, e_own, e_ownR, e_asg, e_asgR, e_nxO, e_tgT, e_putN, e_putC, e_tgN, e_tgB, e_drop, e_dropR, e_ret, e_retR, e_retX, e_retB, e_retN, e_if, e_ifT, e_ifF, e_app, e_appR, e_appB, e_frz, e_frzO, e_frzD, e_frzU, e_for, e_forR, e_forN, e_forC, e_turnB, e_turnN, e_turnC, e_turnK, e_turnR, e_turnX, e_it, e_itR, e_itA, e_itAR, e_asLst, e_asSlst, e_asTup, e_asStr, e_raise, e_run, e_endN, e_endR, e_endX, e_stC, e_st0, e_stS, e_addI, e_addS, e_addB, e_addLL, e_addOL, e_addLO, e_addOO, e_sub, e_mul, e_mod, e_div, e_neg, e_cmp, e_eqI, e_eqS, e_eqB, e_id, e_n1, e_isN, e_isI, e_isS, e_isT, e_isL, e_isB, e_isnN, e_isnI, e_isnS, e_isnT, e_isnL, e_isnB, e_ixS, e_ixT, e_ixL, e_ixSL, e_ixO, e_at_0, e_at_1, e_at_2, e_sg, e_lenS, e_lenT, e_lenL, e_lenSL, e_lenO, e_int, e_intT, e_intF, e_str, e_min, e_max, e_abs, e_m1, e_m1R, e_m1S, e_joinL, e_joinO, e_joinT, e_txN, e_txC, e_txS, e_isiS, e_isiL, e_isiTu, e_rep, e_replS, e_tabG, e_mpS, e_tabI, e_inS, e_sl, e_slR, e_slS, e_slT, e_oNone, e_oSome, e_oRI, e_slStr, e_slL, e_slSL, e_slO, e_lc, e_ca0, e_ca1, e_ca2, e_ca3, e_ca4, e_ca5, e_ca6, e_ca7, e_ca8, e_ca9, e_ca10, e_ca11, e_ca12, e_scS, e_scI, e_scB, e_scN, e_allN, e_allC, e_eqFS, e_eqFI, e_inST, e_inIT, e_index, e_spR, e_mg, e_mgS, e_smN, e_smC, eq_self, Nat.reduceLT, Nat.reduceGT, Nat.reduceAdd, Nat.reduceMul, Nat.reduceSub, Nat.reduceLeDiff, Nat.reduceEqDiff, Int.reduceLT, Int.reduceLE, Int.reduceEq, Int.reduceAdd, Int.reduceSub, Int.reduceMul, Int.reduceMod, Int.reduceDiv, Int.reduceNeg, Nat.zero_le, Nat.le_refl, List.length_cons, List.length_nil, ite_true, ite_false, if_true, if_false, decide_true, decide_false, Bool.not_true, Bool.not_false, Bool.and_true, Bool.true_and, Bool.and_false, Bool.false_and, Bool.or_true, Bool.or_false, Bool.true_or, Bool.false_or, List.cons.injEq, and_true, true_and, and_false, false_and, and_self, ne_eq, not_true_eq_false, not_false_eq_true, reduceCtorEq, List.nil_append, List.cons_append, List.append_nil, List.append_assoc, e_joinW, e_joinWT, k1, k2, k3, k4, h1, h2, h3, h4, f1, f2, f3, f4, g1, g2, g3, t0, p1, p2, p3]
          · unfold m__law_words d__law_words
            simp only [e_rdDat, e_rdOwn, e_at0, e_atS, e_pu0, e_puS, e_var, e_c, e_op2, e_op2R, e_op2S, e_op1, e_op1S, e_opA, e_opAS, e_ofS, e_ofN, e_dB, e_toBS, e_and, e_andT, e_andF, e_or, e_orT, e_orF, e_not, e_notT, e_notF, e_notB, e_andV, e_andVT, e_andVF, e_orV, e_orVT, e_orVF, e_notV, e_notVB, e_ifE, e_ifET, e_ifEF, e_nil, e_cons, e_consR, e_consS, e_cleanN, e_cleanC, e_oN, e_oB, e_oI, e_oS, e_oT, e_oL, e_oSL, e_oOb, e_nf, e_tt, e_tup, e_tupR, e_tupB, e_items, e_itemsR, e_itemsB, e_fix, e_fixR, e_cat, e_catR, e_appN, e_appC, e_catB, e_catLL, e_catOL, e_catLO, e_catOO, e_call, e_callR, e_callB0, e_callB1, e_callB2, e_callB3, e_callB4, e_callB5, e_seq, e_seqN, e_seqR, e_seqB, e_seqC, e_seqX, e_skip, e_break, e_cont, e_set, e_setR, e_setX, e_setB, e_own, e_ownR, e_asg, e_asgR, e_nxO, e_tgT, e_putN, e_putC, e_tgN, e_tgB, e_drop, e_dropR, e_ret, e_retR, e_retX, e_retB, e_retN, e_if, e_ifT, e_ifF, e_app, e_appR, e_appB, e_frz, e_frzO, e_frzD, e_frzU, e_for, e_forR, e_forN, e_forC, e_turnB, e_turnN, e_turnC, e_turnK, e_turnR, e_turnX, e_it, e_itR, e_itA, e_itAR, e_asLst, e_asSlst, e_asTup, e_asStr, e_raise, e_run, e_endN, e_endR, e_endX, e_stC, e_st0, e_stS, e_addI, e_addS, e_addB, e_addLL, e_addOL, e_addLO, e_addOO, e_sub, e_mul, e_mod, e_div, e_neg, e_cmp, e_eqI, e_eqS, e_eqB, e_id, e_n1, e_isN, e_isI, e_isS, e_isT, e_isL, e_isB, e_isnN, e_isnI, e_isnS, e_isnT, e_isnL, e_isnB, e_ixS, e_ixT, e_ixL, e_ixSL, e_ixO, e_at_0, e_at_1, e_at_2, e_sg, e_lenS, e_lenT, e_lenL, e_lenSL, e_lenO, e_int, e_intT, e_intF, e_str, e_min, e_max, e_abs, e_m1, e_m1R, e_m1S, e_joinL, e_joinO, e_joinT, e_txN, e_txC, e_txS, e_isiS, e_isiL, e_isiTu, e_rep, e_replS, e_tabG, e_mpS, e_tabI, e_inS, e_sl, e_slR, e_slS, e_slT, e_oNone, e_oSome, e_oRI, e_slStr, e_slL, e_slSL, e_slO, e_lc, e_ca0, e_ca1, e_ca2, e_ca3, e_ca4, e_ca5, e_ca6, e_ca7, e_ca8, e_ca9, e_ca10, e_ca11, e_ca12, e_scS, e_scI, e_scB, e_scN, e_allN, e_allC, e_eqFS, e_eqFI, e_inST, e_inIT, e_index, e_spR, e_mg, e_mgS, e_smN, e_smC, eq_self, Nat.reduceLT, Nat.reduceGT, Nat.reduceAdd, Nat.reduceMul, Nat.reduceSub, Nat.reduceLeDiff, Nat.reduceEqDiff, Int.reduceLT, Int.reduceLE, Int.reduceEq, Int.reduceAdd, Int.reduceSub, Int.reduceMul, Int.reduceMod, Int.reduceDiv, Int.reduceNeg, Nat.zero_le, Nat.le_refl, List.length_cons, List.length_nil, ite_true, ite_false, if_true, if_false, decide_true, decide_false, Bool.not_true, Bool.not_false, Bool.and_true, Bool.true_and, Bool.and_false, Bool.false_and, Bool.or_true, Bool.or_false, Bool.true_or, Bool.false_or, List.cons.injEq, and_true, true_and, and_false, false_and, and_self, ne_eq, not_true_eq_false, not_false_eq_true, reduceCtorEq, List.nil_append, List.cons_append, List.append_nil, List.append_assoc, e_joinW, e_joinWT, k1, k2, k3, k4, h1, h2, h3, h4, f1, f2, f3, f4, g1, g2, g3, t0, p1, p2, p3]
        · have p1 : (p.length ≤ 1000) = True := eq_true (by omega)
          have q1 : (q.length ≤ 1000) = True := eq_true (by omega)
          refine ⟨jn L8 [w, L13, [c], L12, cw, p, q, quo y], ?_, ?_⟩
          · unfold m_in_words d_in_words
            simp only [e_rdDat, e_rdOwn, e_at0, e_atS, e_pu0, e_puS, e_var, e_c, e_op2, e_op2R, e_op2S, e_op1, e_op1S, e_opA, e_opAS, e_ofS, e_ofN, e_dB, e_toBS, e_and, e_andT, e_andF, e_or, e_orT, e_orF, e_not, e_notT, e_notF, e_notB, e_andV, e_andVT, e_andVF, e_orV, e_orVT, e_orVF, e_notV, e_notVB, e_ifE, e_ifET, e_ifEF, e_nil, e_cons, e_consR, e_consS, e_cleanN, e_cleanC, e_oN, e_oB, e_oI, e_oS, e_oT, e_oL, e_oSL, e_oOb, e_nf, e_tt, e_tup, e_tupR, e_tupB, e_items, e_itemsR, e_itemsB, e_fix, e_fixR, e_cat, e_catR, e_appN, e_appC, e_catB, e_catLL, e_catOL, e_catLO, e_catOO, e_call, e_callR, e_callB0, e_callB1, e_callB2, e_callB3, e_callB4, e_callB5, e_seq, e_seqN, e_seqR, e_seqB, e_seqC, e_seqX, e_skip, e_break, e_cont, e_set, e_setR, e_setX, e_setB, e_own, e_ownR, e_asg, e_asgR, e_nxO, e_tgT, e_putN, e_putC, e_tgN, e_tgB, e_drop, e_dropR, e_ret, e_retR, e_retX, e_retB, e_retN, e_if, e_ifT, e_ifF, e_app, e_appR, e_appB, e_frz, e_frzO, e_frzD, e_frzU, e_for, e_forR, e_forN, e_forC, e_turnB, e_turnN, e_turnC, e_turnK, e_turnR, e_turnX, e_it, e_itR, e_itA, e_itAR, e_asLst, e_asSlst, e_asTup, e_asStr, e_raise, e_run, e_endN, e_endR, e_endX, e_stC, e_st0, e_stS, e_addI, e_addS, e_addB, e_addLL, e_addOL, e_addLO, e_addOO, e_sub, e_mul, e_mod, e_div, e_neg, e_cmp, e_eqI, e_eqS, e_eqB, e_id, e_n1, e_isN, e_isI, e_isS, e_isT, e_isL, e_isB, e_isnN, e_isnI, e_isnS, e_isnT, e_isnL, e_isnB, e_ixS, e_ixT, e_ixL, e_ixSL, e_ixO, e_at_0, e_at_1, e_at_2, e_sg, e_lenS, e_lenT, e_lenL, e_lenSL, e_lenO, e_int, e_intT, e_intF, e_str, e_min, e_max, e_abs, e_m1, e_m1R, e_m1S, e_joinL, e_joinO, e_joinT, e_txN, e_txC, e_txS, e_isiS, e_isiL, e_isiTu, e_rep, e_replS, e_tabG, e_mpS, e_tabI, e_inS, e_sl, e_slR, e_slS, e_slT, e_oNone, e_oSome, e_oRI, e_slStr, e_slL, e_slSL, e_slO, e_lc, e_ca0, e_ca1, e_ca2, e_ca3, e_ca4, e_ca5, e_ca6, e_ca7, e_ca8, e_ca9, e_ca10, e_ca11, e_ca12, e_scS, e_scI, e_scB, e_scN, e_allN, e_allC, e_eqFS, e_eqFI, e_inST, e_inIT, e_index, e_spR, e_mg, e_mgS, e_smN, e_smC, eq_self, Nat.reduceLT, Nat.reduceGT, Nat.reduceAdd, Nat.reduceMul, Nat.reduceSub, Nat.reduceLeDiff, Nat.reduceEqDiff, Int.reduceLT, Int.reduceLE, Int.reduceEq, Int.reduceAdd, Int.reduceSub, Int.reduceMul, Int.reduceMod, Int.reduceDiv, Int.reduceNeg, Nat.zero_le, Nat.le_refl, List.length_cons, List.length_nil, ite_true, ite_false, if_true, if_false, decide_true, decide_false, Bool.not_true, Bool.not_false, Bool.and_true, Bool.true_and, Bool.and_false, Bool.false_and, Bool.or_true, Bool.or_false, Bool.true_or, Bool.false_or, List.cons.injEq, and_true, true_and, and_false, false_and, and_self, ne_eq, not_true_eq_false, not_false_eq_true, reduceCtorEq, List.nil_append, List.cons_append, List.append_nil, List.append_assoc, e_joinW, e_joinWT, k1, k2, k3, k4, h1, h2, h3, h4, f1, f2, f3, f4, g1, g2, g3, t0, p1, q1, p2, p3]
          · unfold m__law_words d__law_words
            simp only [e_rdDat, e_rdOwn, e_at0, e_atS, e_pu0, e_puS, e_var, e_c, e_op2, e_op2R, e_op2S, e_op1, e_op1S, e_opA, e_opAS, e_ofS, e_ofN, e_dB, e_toBS, e_and, e_andT, e_andF, e_or, e_orT, e_orF, e_not, e_notT, e_notF, e_notB, e_andV, e_andVT, e_andVF, e_orV, e_orVT, e_orVF, e_notV, e_notVB, e_ifE, e_ifET, e_ifEF, e_nil, e_cons, e_consR, e_consS, e_cleanN, e_cleanC, e_oN, e_oB, e_oI, e_oS, e_oT, e_oL, e_oSL, e_oOb, e_nf, e_tt, e_tup, e_tupR, e_tupB, e_items, e_itemsR, e_itemsB, e_fix, e_fixR, e_cat, e_catR, e_appN, e_appC, e_catB, e_catLL, e_catOL, e_catLO, e_catOO, e_call, e_callR, e_callB0, e_callB1, e_callB2, e_callB3, e_callB4, e_callB5, e_seq, e_seqN, e_seqR, e_seqB, e_seqC, e_seqX, e_skip, e_break, e_cont, e_set, e_setR, e_setX, e_setB, e_own, e_ownR, e_asg, e_asgR, e_nxO, e_tgT, e_putN, e_putC, e_tgN, e_tgB, e_drop, e_dropR, e_ret, e_retR, e_retX, e_retB, e_retN, e_if, e_ifT, e_ifF, e_app, e_appR, e_appB, e_frz, e_frzO, e_frzD, e_frzU, e_for, e_forR, e_forN, e_forC, e_turnB, e_turnN, e_turnC, e_turnK, e_turnR, e_turnX, e_it, e_itR, e_itA, e_itAR, e_asLst, e_asSlst, e_asTup, e_asStr, e_raise, e_run, e_endN, e_endR, e_endX, e_stC, e_st0, e_stS, e_addI, e_addS, e_addB, e_addLL, e_addOL, e_addLO, e_addOO, e_sub, e_mul, e_mod, e_div, e_neg, e_cmp, e_eqI, e_eqS, e_eqB, e_id, e_n1, e_isN, e_isI, e_isS, e_isT, e_isL, e_isB, e_isnN, e_isnI, e_isnS, e_isnT, e_isnL, e_isnB, e_ixS, e_ixT, e_ixL, e_ixSL, e_ixO, e_at_0, e_at_1, e_at_2, e_sg, e_lenS, e_lenT, e_lenL, e_lenSL, e_lenO, e_int, e_intT, e_intF, e_str, e_min, e_max, e_abs, e_m1, e_m1R, e_m1S, e_joinL, e_joinO, e_joinT, e_txN, e_txC, e_txS, e_isiS, e_isiL, e_isiTu, e_rep, e_replS, e_tabG, e_mpS, e_tabI, e_inS, e_sl, e_slR, e_slS, e_slT, e_oNone, e_oSome, e_oRI, e_slStr, e_slL, e_slSL, e_slO, e_lc, e_ca0, e_ca1, e_ca2, e_ca3, e_ca4, e_ca5, e_ca6, e_ca7, e_ca8, e_ca9, e_ca10, e_ca11, e_ca12, e_scS, e_scI, e_scB, e_scN, e_allN, e_allC, e_eqFS, e_eqFI, e_inST, e_inIT, e_index, e_spR, e_mg, e_mgS, e_smN, e_smC, eq_self, Nat.reduceLT, Nat.reduceGT, Nat.reduceAdd, Nat.reduceMul, Nat.reduceSub, Nat.reduceLeDiff, Nat.reduceEqDiff, Int.reduceLT, Int.reduceLE, Int.reduceEq, Int.reduceAdd, Int.reduceSub, Int.reduceMul, Int.reduceMod, Int.reduceDiv, Int.reduceNeg, Nat.zero_le, Nat.le_refl, List.length_cons, List.length_nil, ite_true, ite_false, if_true, if_false, decide_true, decide_false, Bool.not_true, Bool.not_false, Bool.and_true, Bool.true_and, Bool.and_false, Bool.false_and, Bool.or_true, Bool.or_false, Bool.true_or, Bool.false_or, List.cons.injEq, and_true, true_and, and_false, false_and, and_self, ne_eq, not_true_eq_false, not_false_eq_true, reduceCtorEq, List.nil_append, List.cons_append, List.append_nil, List.append_assoc, e_joinW, e_joinWT, k1, k2, k3, k4, h1, h2, h3, h4, f1, f2, f3, f4, g1, g2, g3, t0, p1, q1, p2, p3]
theorem words3 {sh v t y : List Nat} {k : D} (hsh : sh = [] ∨ ∃ c, sh = [c]) (hk : k = .non ∨ ∃ i : Int, 0 ≤ i ∧ i ≤ 1000 ∧ k = .int i) (ht : t = [] ∨ GoodT t) (hv : v = L9) (hy : y ∈ [[115], [114], [98]]) : ∃ x, m_in_words [.tup [.str sh, k, .str v, .str t, .str y]] = .ok (.str x) ∧ m__law_words [.tup [.str sh, k, .str v, .str t, .str y]] = .ok (.str x) := by
  subst hv
  obtain ⟨w, i, f1, f2, f3, f4⟩ := verb_ok (v := L9) (by decide)
  obtain ⟨u, j, g1, g2, g3, g4⟩ := seen_ok hy
  have h4 : inF (.str L9) [.str L29, .str L28, .str L25, .str L26] = false := by decide
  rcases cnt_ok hk with ⟨k1, k2⟩ | ⟨cw, k1, k2, k3, k4⟩
  · rcases hsh with rfl | ⟨c, rfl⟩
    · rcases ht with rfl | ht
      · skip
        refine ⟨jn L8 [w, u], ?_, ?_⟩
        · unfold m_in_words d_in_words
          simp only [e_rdDat, e_rdOwn, e_at0, e_atS, e_pu0, e_puS, e_var, e_c, e_op2, e_op2R, e_op2S, e_op1, e_op1S, e_opA, e_opAS, e_ofS, e_ofN, e_dB, e_toBS, e_and, e_andT, e_andF, e_or, e_orT, e_orF, e_not, e_notT, e_notF, e_notB, e_andV, e_andVT, e_andVF, e_orV, e_orVT, e_orVF, e_notV, e_notVB, e_ifE, e_ifET, e_ifEF, e_nil, e_cons, e_consR, e_consS, e_cleanN, e_cleanC, e_oN, e_oB, e_oI, e_oS, e_oT, e_oL, e_oSL, e_oOb, e_nf, e_tt, e_tup, e_tupR, e_tupB, e_items, e_itemsR, e_itemsB, e_fix, e_fixR, e_cat, e_catR, e_appN, e_appC, e_catB, e_catLL, e_catOL, e_catLO, e_catOO, e_call, e_callR, e_callB0, e_callB1, e_callB2, e_callB3, e_callB4, e_callB5, e_seq, e_seqN, e_seqR, e_seqB, e_seqC, e_seqX, e_skip, e_break, e_cont, e_set, e_setR, e_setX, e_setB, e_own, e_ownR, e_asg, e_asgR, e_nxO, e_tgT, e_putN, e_putC, e_tgN, e_tgB, e_drop, e_dropR, e_ret, e_retR, e_retX, e_retB, e_retN, e_if, e_ifT, e_ifF, e_app, e_appR, e_appB, e_frz, e_frzO, e_frzD, e_frzU, e_for, e_forR, e_forN, e_forC, e_turnB, e_turnN, e_turnC, e_turnK, e_turnR, e_turnX, e_it, e_itR, e_itA, e_itAR, e_asLst, e_asSlst, e_asTup, e_asStr, e_raise, e_run, e_endN, e_endR, e_endX, e_stC, e_st0, e_stS, e_addI, e_addS, e_addB, e_addLL, e_addOL, e_addLO, e_addOO, e_sub, e_mul, e_mod, e_div, e_neg, e_cmp, e_eqI, e_eqS, e_eqB, e_id, e_n1, e_isN, e_isI, e_isS, e_isT, e_isL, e_isB, e_isnN, e_isnI, e_isnS, e_isnT, e_isnL, e_isnB, e_ixS, e_ixT, e_ixL, e_ixSL, e_ixO, e_at_0, e_at_1, e_at_2, e_sg, e_lenS, e_lenT, e_lenL, e_lenSL, e_lenO, e_int, e_intT, e_intF, e_str, e_min, e_max, e_abs, e_m1, e_m1R, e_m1S, e_joinL, e_joinO, e_joinT, e_txN, e_txC, e_txS, e_isiS, e_isiL, e_isiTu, e_rep, e_replS, e_tabG, e_mpS, e_tabI, e_inS, e_sl, e_slR, e_slS, e_slT, e_oNone, e_oSome, e_oRI, e_slStr, e_slL, e_slSL, e_slO, e_lc, e_ca0, e_ca1, e_ca2, e_ca3, e_ca4, e_ca5, e_ca6, e_ca7, e_ca8, e_ca9, e_ca10, e_ca11, e_ca12, e_scS, e_scI, e_scB, e_scN, e_allN, e_allC, e_eqFS, e_eqFI, e_inST, e_inIT, e_index, e_spR, e_mg, e_mgS, e_smN, e_smC, eq_self, Nat.reduceLT, Nat.reduceGT, Nat.reduceAdd, Nat.reduceMul, Nat.reduceSub, Nat.reduceLeDiff, Nat.reduceEqDiff, Int.reduceLT, Int.reduceLE, Int.reduceEq, Int.reduceAdd, Int.reduceSub, Int.reduceMul, Int.reduceMod, Int.reduceDiv, Int.reduceNeg, Nat.zero_le, Nat.le_refl, List.length_cons, List.length_nil, ite_true, ite_false, if_true, if_false, decide_true, decide_false, Bool.not_true, Bool.not_false, Bool.and_true, Bool.true_and, Bool.and_false, Bool.false_and, Bool.or_true, Bool.or_false, Bool.true_or, Bool.false_or, List.cons.injEq, and_true, true_and, and_false, false_and, and_self, ne_eq, not_true_eq_false, not_false_eq_true, reduceCtorEq, List.nil_append, List.cons_append, List.append_nil, List.append_assoc, e_joinW, e_joinWT, k1, k2, f1, f2, f3, f4, g1, g2, g3, g4, h4]
        · unfold m__law_words d__law_words
          simp only [e_rdDat, e_rdOwn, e_at0, e_atS, e_pu0, e_puS, e_var, e_c, e_op2, e_op2R, e_op2S, e_op1, e_op1S, e_opA, e_opAS, e_ofS, e_ofN, e_dB, e_toBS, e_and, e_andT, e_andF, e_or, e_orT, e_orF, e_not, e_notT, e_notF, e_notB, e_andV, e_andVT, e_andVF, e_orV, e_orVT, e_orVF, e_notV, e_notVB, e_ifE, e_ifET, e_ifEF, e_nil, e_cons, e_consR, e_consS, e_cleanN, e_cleanC, e_oN, e_oB, e_oI, e_oS, e_oT, e_oL, e_oSL, e_oOb, e_nf, e_tt, e_tup, e_tupR, e_tupB, e_items, e_itemsR, e_itemsB, e_fix, e_fixR, e_cat, e_catR, e_appN, e_appC, e_catB, e_catLL, e_catOL, e_catLO, e_catOO, e_call, e_callR, e_callB0, e_callB1, e_callB2, e_callB3, e_callB4, e_callB5, e_seq, e_seqN, e_seqR, e_seqB, e_seqC, e_seqX, e_skip, e_break, e_cont, e_set, e_setR, e_setX, e_setB, e_own, e_ownR, e_asg, e_asgR, e_nxO, e_tgT, e_putN, e_putC, e_tgN, e_tgB, e_drop, e_dropR, e_ret, e_retR, e_retX, e_retB, e_retN, e_if, e_ifT, e_ifF, e_app, e_appR, e_appB, e_frz, e_frzO, e_frzD, e_frzU, e_for, e_forR, e_forN, e_forC, e_turnB, e_turnN, e_turnC, e_turnK, e_turnR, e_turnX, e_it, e_itR, e_itA, e_itAR, e_asLst, e_asSlst, e_asTup, e_asStr, e_raise, e_run, e_endN, e_endR, e_endX, e_stC, e_st0, e_stS, e_addI, e_addS, e_addB, e_addLL, e_addOL, e_addLO, e_addOO, e_sub, e_mul, e_mod, e_div, e_neg, e_cmp, e_eqI, e_eqS, e_eqB, e_id, e_n1, e_isN, e_isI, e_isS, e_isT, e_isL, e_isB, e_isnN, e_isnI, e_isnS, e_isnT, e_isnL, e_isnB, e_ixS, e_ixT, e_ixL, e_ixSL, e_ixO, e_at_0, e_at_1, e_at_2, e_sg, e_lenS, e_lenT, e_lenL, e_lenSL, e_lenO, e_int, e_intT, e_intF, e_str, e_min, e_max, e_abs, e_m1, e_m1R, e_m1S, e_joinL, e_joinO, e_joinT, e_txN, e_txC, e_txS, e_isiS, e_isiL, e_isiTu, e_rep, e_replS, e_tabG, e_mpS, e_tabI, e_inS, e_sl, e_slR, e_slS, e_slT, e_oNone, e_oSome, e_oRI, e_slStr, e_slL, e_slSL, e_slO, e_lc, e_ca0, e_ca1, e_ca2, e_ca3, e_ca4, e_ca5, e_ca6, e_ca7, e_ca8, e_ca9, e_ca10, e_ca11, e_ca12, e_scS, e_scI, e_scB, e_scN, e_allN, e_allC, e_eqFS, e_eqFI, e_inST, e_inIT, e_index, e_spR, e_mg, e_mgS, e_smN, e_smC, eq_self, Nat.reduceLT, Nat.reduceGT, Nat.reduceAdd, Nat.reduceMul, Nat.reduceSub, Nat.reduceLeDiff, Nat.reduceEqDiff, Int.reduceLT, Int.reduceLE, Int.reduceEq, Int.reduceAdd, Int.reduceSub, Int.reduceMul, Int.reduceMod, Int.reduceDiv, Int.reduceNeg, Nat.zero_le, Nat.le_refl, List.length_cons, List.length_nil, ite_true, ite_false, if_true, if_false, decide_true, decide_false, Bool.not_true, Bool.not_false, Bool.and_true, Bool.true_and, Bool.and_false, Bool.false_and, Bool.or_true, Bool.or_false, Bool.true_or, Bool.false_or, List.cons.injEq, and_true, true_and, and_false, false_and, and_self, ne_eq, not_true_eq_false, not_false_eq_true, reduceCtorEq, List.nil_append, List.cons_append, List.append_nil, List.append_assoc, e_joinW, e_joinWT, k1, k2, f1, f2, f3, f4, g1, g2, g3, g4, h4]
      · obtain ⟨t0, tt⟩ := t_words ht
        have t0 : (t = []) = False := eq_false t0
        rcases tt with ⟨p, p1, p2, p3⟩ | ⟨p, q, p1, q1, p2, p3⟩
        · have p1 : (p.length ≤ 1000) = True := eq_true (by omega)
          refine ⟨jn L8 [w, p, u], ?_, ?_⟩
          · unfold m_in_words d_in_words
            simp only [e_rdDat, e_rdOwn, e_at0, e_atS, e_pu0, e_puS, e_var, e_c, e_op2, e_op2R, e_op2S, e_op1, e_op1S, e_opA, e_opAS, e_ofS, e_ofN, e_dB, e_toBS, e_and, e_andT, e_andF, e_or, e_orT, e_orF, e_not, e_notT, e_notF, e_notB, e_andV, e_andVT, e_andVF, e_orV, e_orVT, e_orVF, e_notV, e_notVB, e_ifE, e_ifET, e_ifEF, e_nil, e_cons, e_consR, e_consS, e_cleanN, e_cleanC, e_oN, e_oB, e_oI, e_oS, e_oT, e_oL, e_oSL, e_oOb, e_nf, e_tt, e_tup, e_tupR, e_tupB, e_items, e_itemsR, e_itemsB, e_fix, e_fixR, e_cat, e_catR, e_appN, e_appC, e_catB, e_catLL, e_catOL, e_catLO, e_catOO, e_call, e_callR, e_callB0, e_callB1, e_callB2, e_callB3, e_callB4, e_callB5, e_seq, e_seqN, e_seqR, e_seqB, e_seqC, e_seqX, e_skip, e_break, e_cont, e_set, e_setR, e_setX, e_setB, e_own, e_ownR, e_asg, e_asgR, e_nxO, e_tgT, e_putN, e_putC, e_tgN, e_tgB, e_drop, e_dropR, e_ret, e_retR, e_retX, e_retB, e_retN, e_if, e_ifT, e_ifF, e_app, e_appR, e_appB, e_frz, e_frzO, e_frzD, e_frzU, e_for, e_forR, e_forN, e_forC, e_turnB, e_turnN, e_turnC, e_turnK, e_turnR, e_turnX, e_it, e_itR, e_itA, e_itAR, e_asLst, e_asSlst, e_asTup, e_asStr, e_raise, e_run, e_endN, e_endR, e_endX, e_stC, e_st0, e_stS, e_addI, e_addS, e_addB, e_addLL, e_addOL, e_addLO, e_addOO, e_sub, e_mul, e_mod, e_div, e_neg, e_cmp, e_eqI, e_eqS, e_eqB, e_id, e_n1, e_isN, e_isI, e_isS, e_isT, e_isL, e_isB, e_isnN, e_isnI, e_isnS, e_isnT, e_isnL, e_isnB, e_ixS, e_ixT, e_ixL, e_ixSL, e_ixO, e_at_0, e_at_1, e_at_2, e_sg, e_lenS, e_lenT, e_lenL, e_lenSL, e_lenO, e_int, e_intT, e_intF, e_str, e_min, e_max, e_abs, e_m1, e_m1R, e_m1S, e_joinL, e_joinO, e_joinT, e_txN, e_txC, e_txS, e_isiS, e_isiL, e_isiTu, e_rep, e_replS, e_tabG, e_mpS, e_tabI, e_inS, e_sl, e_slR, e_slS, e_slT, e_oNone, e_oSome, e_oRI, e_slStr, e_slL, e_slSL, e_slO, e_lc, e_ca0, e_ca1, e_ca2, e_ca3, e_ca4, e_ca5, e_ca6, e_ca7, e_ca8, e_ca9, e_ca10, e_ca11, e_ca12, e_scS, e_scI, e_scB, e_scN, e_allN, e_allC, e_eqFS, e_eqFI, e_inST, e_inIT, e_index, e_spR, e_mg, e_mgS, e_smN, e_smC, eq_self, Nat.reduceLT, Nat.reduceGT, Nat.reduceAdd, Nat.reduceMul, Nat.reduceSub, Nat.reduceLeDiff, Nat.reduceEqDiff, Int.reduceLT, Int.reduceLE, Int.reduceEq, Int.reduceAdd, Int.reduceSub, Int.reduceMul, Int.reduceMod, Int.reduceDiv, Int.reduceNeg, Nat.zero_le, Nat.le_refl, List.length_cons, List.length_nil, ite_true, ite_false, if_true, if_false, decide_true, decide_false, Bool.not_true, Bool.not_false, Bool.and_true, Bool.true_and, Bool.and_false, Bool.false_and, Bool.or_true, Bool.or_false, Bool.true_or, Bool.false_or, List.cons.injEq, and_true, true_and, and_false, false_and, and_self, ne_eq, not_true_eq_false, not_false_eq_true, reduceCtorEq, List.nil_append, List.cons_append, List.append_nil, List.append_assoc, e_joinW, e_joinWT, k1, k2, f1, f2, f3, f4, g1, g2, g3, g4, h4, t0, p1, p2, p3]
          · unfold m__law_words d__law_words
            simp only [e_rdDat, e_rdOwn, e_at0, e_atS, e_pu0, e_puS, e_var, e_c, e_op2, e_op2R, e_op2S, e_op1, e_op1S, e_opA, e_opAS, e_ofS, e_ofN, e_dB, e_toBS, e_and, e_andT, e_andF, e_or, e_orT, e_orF, e_not, e_notT, e_notF, e_notB, e_andV, e_andVT, e_andVF, e_orV, e_orVT, e_orVF, e_notV, e_notVB, e_ifE, e_ifET, e_ifEF, e_nil, e_cons, e_consR, e_consS, e_cleanN, e_cleanC, e_oN, e_oB, e_oI, e_oS, e_oT, e_oL, e_oSL, e_oOb, e_nf, e_tt, e_tup, e_tupR, e_tupB, e_items, e_itemsR, e_itemsB, e_fix, e_fixR, e_cat, e_catR, e_appN, e_appC, e_catB, e_catLL, e_catOL, e_catLO, e_catOO, e_call, e_callR, e_callB0, e_callB1, e_callB2, e_callB3, e_callB4, e_callB5, e_seq, e_seqN, e_seqR, e_seqB, e_seqC, e_seqX, e_skip, e_break, e_cont, e_set, e_setR, e_setX, e_setB, e_own, e_ownR, e_asg, e_asgR, e_nxO, e_tgT, e_putN, e_putC, e_tgN, e_tgB, e_drop, e_dropR, e_ret, e_retR, e_retX, e_retB, e_retN, e_if, e_ifT, e_ifF, e_app, e_appR, e_appB, e_frz, e_frzO, e_frzD, e_frzU, e_for, e_forR, e_forN, e_forC, e_turnB, e_turnN, e_turnC, e_turnK, e_turnR, e_turnX, e_it, e_itR, e_itA, e_itAR, e_asLst, e_asSlst, e_asTup, e_asStr, e_raise, e_run, e_endN, e_endR, e_endX, e_stC, e_st0, e_stS, e_addI, e_addS, e_addB, e_addLL, e_addOL, e_addLO, e_addOO, e_sub, e_mul, e_mod, e_div, e_neg, e_cmp, e_eqI, e_eqS, e_eqB, e_id, e_n1, e_isN, e_isI, e_isS, e_isT, e_isL, e_isB, e_isnN, e_isnI, e_isnS, e_isnT, e_isnL, e_isnB, e_ixS, e_ixT, e_ixL, e_ixSL, e_ixO, e_at_0, e_at_1, e_at_2, e_sg, e_lenS, e_lenT, e_lenL, e_lenSL, e_lenO, e_int, e_intT, e_intF, e_str, e_min, e_max, e_abs, e_m1, e_m1R, e_m1S, e_joinL, e_joinO, e_joinT, e_txN, e_txC, e_txS, e_isiS, e_isiL, e_isiTu, e_rep, e_replS, e_tabG, e_mpS, e_tabI, e_inS, e_sl, e_slR, e_slS, e_slT, e_oNone, e_oSome, e_oRI, e_slStr, e_slL, e_slSL, e_slO, e_lc, e_ca0, e_ca1, e_ca2, e_ca3, e_ca4, e_ca5, e_ca6, e_ca7, e_ca8, e_ca9, e_ca10, e_ca11, e_ca12, e_scS, e_scI, e_scB, e_scN, e_allN, e_allC, e_eqFS, e_eqFI, e_inST, e_inIT, e_index, e_spR, e_mg, e_mgS, e_smN, e_smC, eq_self, Nat.reduceLT, Nat.reduceGT, Nat.reduceAdd, Nat.reduceMul, Nat.reduceSub, Nat.reduceLeDiff, Nat.reduceEqDiff, Int.reduceLT, Int.reduceLE, Int.reduceEq, Int.reduceAdd, Int.reduceSub, Int.reduceMul, Int.reduceMod, Int.reduceDiv, Int.reduceNeg, Nat.zero_le, Nat.le_refl, List.length_cons, List.length_nil, ite_true, ite_false, if_true, if_false, decide_true, decide_false, Bool.not_true, Bool.not_false, Bool.and_true, Bool.true_and, Bool.and_false, Bool.false_and, Bool.or_true, Bool.or_false, Bool.true_or, Bool.false_or, List.cons.injEq, and_true, true_and, and_false, false_and, and_self, ne_eq, not_true_eq_false, not_false_eq_true, reduceCtorEq, List.nil_append, List.cons_append, List.append_nil, List.append_assoc, e_joinW, e_joinWT, k1, k2, f1, f2, f3, f4, g1, g2, g3, g4, h4, t0, p1, p2, p3]
        · have p1 : (p.length ≤ 1000) = True := eq_true (by omega)
          have q1 : (q.length ≤ 1000) = True := eq_true (by omega)
          refine ⟨jn L8 [w, p, q, u], ?_, ?_⟩
          · unfold m_in_words d_in_words
            simp only [e_rdDat, e_rdOwn, e_at0, e_atS, e_pu0, e_puS, e_var, e_c, e_op2, e_op2R, e_op2S, e_op1, e_op1S, e_opA, e_opAS, e_ofS, e_ofN, e_dB, e_toBS, e_and, e_andT, e_andF, e_or, e_orT, e_orF, e_not, e_notT, e_notF, e_notB, e_andV, e_andVT, e_andVF, e_orV, e_orVT, e_orVF, e_notV, e_notVB, e_ifE, e_ifET, e_ifEF, e_nil, e_cons, e_consR, e_consS, e_cleanN, e_cleanC, e_oN, e_oB, e_oI, e_oS, e_oT, e_oL, e_oSL, e_oOb, e_nf, e_tt, e_tup, e_tupR, e_tupB, e_items, e_itemsR, e_itemsB, e_fix, e_fixR, e_cat, e_catR, e_appN, e_appC, e_catB, e_catLL, e_catOL, e_catLO, e_catOO, e_call, e_callR, e_callB0, e_callB1, e_callB2, e_callB3, e_callB4, e_callB5, e_seq, e_seqN, e_seqR, e_seqB, e_seqC, e_seqX, e_skip, e_break, e_cont, e_set, e_setR, e_setX, e_setB, e_own, e_ownR, e_asg, e_asgR, e_nxO, e_tgT, e_putN, e_putC, e_tgN, e_tgB, e_drop, e_dropR, e_ret, e_retR, e_retX, e_retB, e_retN, e_if, e_ifT, e_ifF, e_app, e_appR, e_appB, e_frz, e_frzO, e_frzD, e_frzU, e_for, e_forR, e_forN, e_forC, e_turnB, e_turnN, e_turnC, e_turnK, e_turnR, e_turnX, e_it, e_itR, e_itA, e_itAR, e_asLst, e_asSlst, e_asTup, e_asStr, e_raise, e_run, e_endN, e_endR, e_endX, e_stC, e_st0, e_stS, e_addI, e_addS, e_addB, e_addLL, e_addOL, e_addLO, e_addOO, e_sub, e_mul, e_mod, e_div, e_neg, e_cmp, e_eqI, e_eqS, e_eqB, e_id, e_n1, e_isN, e_isI, e_isS, e_isT, e_isL, e_isB, e_isnN, e_isnI, e_isnS, e_isnT, e_isnL, e_isnB, e_ixS, e_ixT, e_ixL, e_ixSL, e_ixO, e_at_0, e_at_1, e_at_2, e_sg, e_lenS, e_lenT, e_lenL, e_lenSL, e_lenO, e_int, e_intT, e_intF, e_str, e_min, e_max, e_abs, e_m1, e_m1R, e_m1S, e_joinL, e_joinO, e_joinT, e_txN, e_txC, e_txS, e_isiS, e_isiL, e_isiTu, e_rep, e_replS, e_tabG, e_mpS, e_tabI, e_inS, e_sl, e_slR, e_slS, e_slT, e_oNone, e_oSome, e_oRI, e_slStr, e_slL, e_slSL, e_slO, e_lc, e_ca0, e_ca1, e_ca2, e_ca3, e_ca4, e_ca5, e_ca6, e_ca7, e_ca8, e_ca9, e_ca10, e_ca11, e_ca12, e_scS, e_scI, e_scB, e_scN, e_allN, e_allC, e_eqFS, e_eqFI, e_inST, e_inIT, e_index, e_spR, e_mg, e_mgS, e_smN, e_smC, eq_self, Nat.reduceLT, Nat.reduceGT, Nat.reduceAdd, Nat.reduceMul, Nat.reduceSub, Nat.reduceLeDiff, Nat.reduceEqDiff, Int.reduceLT, Int.reduceLE, Int.reduceEq, Int.reduceAdd, Int.reduceSub, Int.reduceMul, Int.reduceMod, Int.reduceDiv, Int.reduceNeg, Nat.zero_le, Nat.le_refl, List.length_cons, List.length_nil, ite_true, ite_false, if_true, if_false, decide_true, decide_false, Bool.not_true, Bool.not_false, Bool.and_true, Bool.true_and, Bool.and_false, Bool.false_and, Bool.or_true, Bool.or_false, Bool.true_or, Bool.false_or, List.cons.injEq, and_true, true_and, and_false, false_and, and_self, ne_eq, not_true_eq_false, not_false_eq_true, reduceCtorEq, List.nil_append, List.cons_append, List.append_nil, List.append_assoc, e_joinW, e_joinWT, k1, k2, f1, f2, f3, f4, g1, g2, g3, g4, h4, t0, p1, q1, p2, p3]
          · unfold m__law_words d__law_words
            simp only [e_rdDat, e_rdOwn, e_at0, e_atS, e_pu0, e_puS, e_var, e_c, e_op2, e_op2R, e_op2S, e_op1, e_op1S, e_opA, e_opAS, e_ofS, e_ofN, e_dB, e_toBS, e_and, e_andT, e_andF, e_or, e_orT, e_orF, e_not, e_notT, e_notF, e_notB, e_andV, e_andVT, e_andVF, e_orV, e_orVT, e_orVF, e_notV, e_notVB, e_ifE, e_ifET, e_ifEF, e_nil, e_cons, e_consR, e_consS, e_cleanN, e_cleanC, e_oN, e_oB, e_oI, e_oS, e_oT, e_oL, e_oSL, e_oOb, e_nf, e_tt, e_tup, e_tupR, e_tupB, e_items, e_itemsR, e_itemsB, e_fix, e_fixR, e_cat, e_catR, e_appN, e_appC, e_catB, e_catLL, e_catOL, e_catLO, e_catOO, e_call, e_callR, e_callB0, e_callB1, e_callB2, e_callB3, e_callB4, e_callB5, e_seq, e_seqN, e_seqR, e_seqB, e_seqC, e_seqX, e_skip, e_break, e_cont, e_set, e_setR, e_setX, e_setB, e_own, e_ownR, e_asg, e_asgR, e_nxO, e_tgT, e_putN, e_putC, e_tgN, e_tgB, e_drop, e_dropR, e_ret, e_retR, e_retX, e_retB, e_retN, e_if, e_ifT, e_ifF, e_app, e_appR, e_appB, e_frz, e_frzO, e_frzD, e_frzU, e_for, e_forR, e_forN, e_forC, e_turnB, e_turnN, e_turnC, e_turnK, e_turnR, e_turnX, e_it, e_itR, e_itA, e_itAR, e_asLst, e_asSlst, e_asTup, e_asStr, e_raise, e_run, e_endN, e_endR, e_endX, e_stC, e_st0, e_stS, e_addI, e_addS, e_addB, e_addLL, e_addOL, e_addLO, e_addOO, e_sub, e_mul, e_mod, e_div, e_neg, e_cmp, e_eqI, e_eqS, e_eqB, e_id, e_n1, e_isN, e_isI, e_isS, e_isT, e_isL, e_isB, e_isnN, e_isnI, e_isnS, e_isnT, e_isnL, e_isnB, e_ixS, e_ixT, e_ixL, e_ixSL, e_ixO, e_at_0, e_at_1, e_at_2, e_sg, e_lenS, e_lenT, e_lenL, e_lenSL, e_lenO, e_int, e_intT, e_intF, e_str, e_min, e_max, e_abs, e_m1, e_m1R, e_m1S, e_joinL, e_joinO, e_joinT, e_txN, e_txC, e_txS, e_isiS, e_isiL, e_isiTu, e_rep, e_replS, e_tabG, e_mpS, e_tabI, e_inS, e_sl, e_slR, e_slS, e_slT, e_oNone, e_oSome, e_oRI, e_slStr, e_slL, e_slSL, e_slO, e_lc, e_ca0, e_ca1, e_ca2, e_ca3, e_ca4, e_ca5, e_ca6, e_ca7, e_ca8, e_ca9, e_ca10, e_ca11, e_ca12, e_scS, e_scI, e_scB, e_scN, e_allN, e_allC, e_eqFS, e_eqFI, e_inST, e_inIT, e_index, e_spR, e_mg, e_mgS, e_smN, e_smC, eq_self, Nat.reduceLT, Nat.reduceGT, Nat.reduceAdd, Nat.reduceMul, Nat.reduceSub, Nat.reduceLeDiff, Nat.reduceEqDiff, Int.reduceLT, Int.reduceLE, Int.reduceEq, Int.reduceAdd, Int.reduceSub, Int.reduceMul, Int.reduceMod, Int.reduceDiv, Int.reduceNeg, Nat.zero_le, Nat.le_refl, List.length_cons, List.length_nil, ite_true, ite_false, if_true, if_false, decide_true, decide_false, Bool.not_true, Bool.not_false, Bool.and_true, Bool.true_and, Bool.and_false, Bool.false_and, Bool.or_true, Bool.or_false, Bool.true_or, Bool.false_or, List.cons.injEq, and_true, true_and, and_false, false_and, and_self, ne_eq, not_true_eq_false, not_false_eq_true, reduceCtorEq, List.nil_append, List.cons_append, List.append_nil, List.append_assoc, e_joinW, e_joinWT, k1, k2, f1, f2, f3, f4, g1, g2, g3, g4, h4, t0, p1, q1, p2, p3]
    · rcases ht with rfl | ht
      · skip
        refine ⟨jn L8 [w, L13, [c], u], ?_, ?_⟩
        · unfold m_in_words d_in_words
          simp only [e_rdDat, e_rdOwn, e_at0, e_atS, e_pu0, e_puS, e_var, e_c, e_op2, e_op2R, e_op2S, e_op1, e_op1S, e_opA, e_opAS, e_ofS, e_ofN, e_dB, e_toBS, e_and, e_andT, e_andF, e_or, e_orT, e_orF, e_not, e_notT, e_notF, e_notB, e_andV, e_andVT, e_andVF, e_orV, e_orVT, e_orVF, e_notV, e_notVB, e_ifE, e_ifET, e_ifEF, e_nil, e_cons, e_consR, e_consS, e_cleanN, e_cleanC, e_oN, e_oB, e_oI, e_oS, e_oT, e_oL, e_oSL, e_oOb, e_nf, e_tt, e_tup, e_tupR, e_tupB, e_items, e_itemsR, e_itemsB, e_fix, e_fixR, e_cat, e_catR, e_appN, e_appC, e_catB, e_catLL, e_catOL, e_catLO, e_catOO, e_call, e_callR, e_callB0, e_callB1, e_callB2, e_callB3, e_callB4, e_callB5, e_seq, e_seqN, e_seqR, e_seqB, e_seqC, e_seqX, e_skip, e_break, e_cont, e_set, e_setR, e_setX, e_setB, e_own, e_ownR, e_asg, e_asgR, e_nxO, e_tgT, e_putN, e_putC, e_tgN, e_tgB, e_drop, e_dropR, e_ret, e_retR, e_retX, e_retB, e_retN, e_if, e_ifT, e_ifF, e_app, e_appR, e_appB, e_frz, e_frzO, e_frzD, e_frzU, e_for, e_forR, e_forN, e_forC, e_turnB, e_turnN, e_turnC, e_turnK, e_turnR, e_turnX, e_it, e_itR, e_itA, e_itAR, e_asLst, e_asSlst, e_asTup, e_asStr, e_raise, e_run, e_endN, e_endR, e_endX, e_stC, e_st0, e_stS, e_addI, e_addS, e_addB, e_addLL, e_addOL, e_addLO, e_addOO, e_sub, e_mul, e_mod, e_div, e_neg, e_cmp, e_eqI, e_eqS, e_eqB, e_id, e_n1, e_isN, e_isI, e_isS, e_isT, e_isL, e_isB, e_isnN, e_isnI, e_isnS, e_isnT, e_isnL, e_isnB, e_ixS, e_ixT, e_ixL, e_ixSL, e_ixO, e_at_0, e_at_1, e_at_2, e_sg, e_lenS, e_lenT, e_lenL, e_lenSL, e_lenO, e_int, e_intT, e_intF, e_str, e_min, e_max, e_abs, e_m1, e_m1R, e_m1S, e_joinL, e_joinO, e_joinT, e_txN, e_txC, e_txS, e_isiS, e_isiL, e_isiTu, e_rep, e_replS, e_tabG, e_mpS, e_tabI, e_inS, e_sl, e_slR, e_slS, e_slT, e_oNone, e_oSome, e_oRI, e_slStr, e_slL, e_slSL, e_slO, e_lc, e_ca0, e_ca1, e_ca2, e_ca3, e_ca4, e_ca5, e_ca6, e_ca7, e_ca8, e_ca9, e_ca10, e_ca11, e_ca12, e_scS, e_scI, e_scB, e_scN, e_allN, e_allC, e_eqFS, e_eqFI, e_inST, e_inIT, e_index, e_spR, e_mg, e_mgS, e_smN, e_smC, eq_self, Nat.reduceLT, Nat.reduceGT, Nat.reduceAdd, Nat.reduceMul, Nat.reduceSub, Nat.reduceLeDiff, Nat.reduceEqDiff, Int.reduceLT, Int.reduceLE, Int.reduceEq, Int.reduceAdd, Int.reduceSub, Int.reduceMul, Int.reduceMod, Int.reduceDiv, Int.reduceNeg, Nat.zero_le, Nat.le_refl, List.length_cons, List.length_nil, ite_true, ite_false, if_true, if_false, decide_true, decide_false, Bool.not_true, Bool.not_false, Bool.and_true, Bool.true_and, Bool.and_false, Bool.false_and, Bool.or_true, Bool.or_false, Bool.true_or, Bool.false_or, List.cons.injEq, and_true, true_and, and_false, false_and, and_self, ne_eq, not_true_eq_false, not_false_eq_true, reduceCtorEq, List.nil_append, List.cons_append, List.append_nil, List.append_assoc, e_joinW, e_joinWT, k1, k2, f1, f2, f3, f4, g1, g2, g3, g4, h4]
        · unfold m__law_words d__law_words
          simp only [e_rdDat, e_rdOwn, e_at0, e_atS, e_pu0, e_puS, e_var, e_c, e_op2, e_op2R, e_op2S, e_op1, e_op1S, e_opA, e_opAS, e_ofS, e_ofN, e_dB, e_toBS, e_and, e_andT, e_andF, e_or, e_orT, e_orF, e_not, e_notT, e_notF, e_notB, e_andV, e_andVT, e_andVF, e_orV, e_orVT, e_orVF, e_notV, e_notVB, e_ifE, e_ifET, e_ifEF, e_nil, e_cons, e_consR, e_consS, e_cleanN, e_cleanC, e_oN, e_oB, e_oI, e_oS, e_oT, e_oL, e_oSL, e_oOb, e_nf, e_tt, e_tup, e_tupR, e_tupB, e_items, e_itemsR, e_itemsB, e_fix, e_fixR, e_cat, e_catR, e_appN, e_appC, e_catB, e_catLL, e_catOL, e_catLO, e_catOO, e_call, e_callR, e_callB0, e_callB1, e_callB2, e_callB3, e_callB4, e_callB5, e_seq, e_seqN, e_seqR, e_seqB, e_seqC, e_seqX, e_skip, e_break, e_cont, e_set, e_setR, e_setX, e_setB, e_own, e_ownR, e_asg, e_asgR, e_nxO, e_tgT, e_putN, e_putC, e_tgN, e_tgB, e_drop, e_dropR, e_ret, e_retR, e_retX, e_retB, e_retN, e_if, e_ifT, e_ifF, e_app, e_appR, e_appB, e_frz, e_frzO, e_frzD, e_frzU, e_for, e_forR, e_forN, e_forC, e_turnB, e_turnN, e_turnC, e_turnK, e_turnR, e_turnX, e_it, e_itR, e_itA, e_itAR, e_asLst, e_asSlst, e_asTup, e_asStr, e_raise, e_run, e_endN, e_endR, e_endX, e_stC, e_st0, e_stS, e_addI, e_addS, e_addB, e_addLL, e_addOL, e_addLO, e_addOO, e_sub, e_mul, e_mod, e_div, e_neg, e_cmp, e_eqI, e_eqS, e_eqB, e_id, e_n1, e_isN, e_isI, e_isS, e_isT, e_isL, e_isB, e_isnN, e_isnI, e_isnS, e_isnT, e_isnL, e_isnB, e_ixS, e_ixT, e_ixL, e_ixSL, e_ixO, e_at_0, e_at_1, e_at_2, e_sg, e_lenS, e_lenT, e_lenL, e_lenSL, e_lenO, e_int, e_intT, e_intF, e_str, e_min, e_max, e_abs, e_m1, e_m1R, e_m1S, e_joinL, e_joinO, e_joinT, e_txN, e_txC, e_txS, e_isiS, e_isiL, e_isiTu, e_rep, e_replS, e_tabG, e_mpS, e_tabI, e_inS, e_sl, e_slR, e_slS, e_slT, e_oNone, e_oSome, e_oRI, e_slStr, e_slL, e_slSL, e_slO, e_lc, e_ca0, e_ca1, e_ca2, e_ca3, e_ca4, e_ca5, e_ca6, e_ca7, e_ca8, e_ca9, e_ca10, e_ca11, e_ca12, e_scS, e_scI, e_scB, e_scN, e_allN, e_allC, e_eqFS, e_eqFI, e_inST, e_inIT, e_index, e_spR, e_mg, e_mgS, e_smN, e_smC, eq_self, Nat.reduceLT, Nat.reduceGT, Nat.reduceAdd, Nat.reduceMul, Nat.reduceSub, Nat.reduceLeDiff, Nat.reduceEqDiff, Int.reduceLT, Int.reduceLE, Int.reduceEq, Int.reduceAdd, Int.reduceSub, Int.reduceMul, Int.reduceMod, Int.reduceDiv, Int.reduceNeg, Nat.zero_le, Nat.le_refl, List.length_cons, List.length_nil, ite_true, ite_false, if_true, if_false, decide_true, decide_false, Bool.not_true, Bool.not_false, Bool.and_true, Bool.true_and, Bool.and_false, Bool.false_and, Bool.or_true, Bool.or_false, Bool.true_or, Bool.false_or, List.cons.injEq, and_true, true_and, and_false, false_and, and_self, ne_eq, not_true_eq_false, not_false_eq_true, reduceCtorEq, List.nil_append, List.cons_append, List.append_nil, List.append_assoc, e_joinW, e_joinWT, k1, k2, f1, f2, f3, f4, g1, g2, g3, g4, h4]
      · obtain ⟨t0, tt⟩ := t_words ht
        have t0 : (t = []) = False := eq_false t0
        rcases tt with ⟨p, p1, p2, p3⟩ | ⟨p, q, p1, q1, p2, p3⟩
        · have p1 : (p.length ≤ 1000) = True := eq_true (by omega)
          refine ⟨jn L8 [w, L13, [c], p, u], ?_, ?_⟩
          · unfold m_in_words d_in_words
            simp only [e_rdDat, e_rdOwn, e_at0, e_atS, e_pu0, e_puS, e_var, e_c, e_op2, e_op2R, e_op2S, e_op1, e_op1S, e_opA, e_opAS, e_ofS, e_ofN, e_dB, e_toBS, e_and, e_andT, e_andF, e_or, e_orT, e_orF, e_not, e_notT, e_notF, e_notB, e_andV, e_andVT, e_andVF, e_orV, e_orVT, e_orVF, e_notV, e_notVB, e_ifE, e_ifET, e_ifEF, e_nil, e_cons, e_consR, e_consS, e_cleanN, e_cleanC, e_oN, e_oB, e_oI, e_oS, e_oT, e_oL, e_oSL, e_oOb, e_nf, e_tt, e_tup, e_tupR, e_tupB, e_items, e_itemsR, e_itemsB, e_fix, e_fixR, e_cat, e_catR, e_appN, e_appC, e_catB, e_catLL, e_catOL, e_catLO, e_catOO, e_call, e_callR, e_callB0, e_callB1, e_callB2, e_callB3, e_callB4, e_callB5, e_seq, e_seqN, e_seqR, e_seqB, e_seqC, e_seqX, e_skip, e_break, e_cont, e_set, e_setR, e_setX, e_setB, e_own, e_ownR, e_asg, e_asgR, e_nxO, e_tgT, e_putN, e_putC, e_tgN, e_tgB, e_drop, e_dropR, e_ret, e_retR, e_retX, e_retB, e_retN, e_if, e_ifT, e_ifF, e_app, e_appR, e_appB, e_frz, e_frzO, e_frzD, e_frzU, e_for, e_forR, e_forN, e_forC, e_turnB, e_turnN, e_turnC, e_turnK, e_turnR, e_turnX, e_it, e_itR, e_itA, e_itAR, e_asLst, e_asSlst, e_asTup, e_asStr, e_raise, e_run, e_endN, e_endR, e_endX, e_stC, e_st0, e_stS, e_addI, e_addS, e_addB, e_addLL, e_addOL, e_addLO, e_addOO, e_sub, e_mul, e_mod, e_div, e_neg, e_cmp, e_eqI, e_eqS, e_eqB, e_id, e_n1, e_isN, e_isI, e_isS, e_isT, e_isL, e_isB, e_isnN, e_isnI, e_isnS, e_isnT, e_isnL, e_isnB, e_ixS, e_ixT, e_ixL, e_ixSL, e_ixO, e_at_0, e_at_1, e_at_2, e_sg, e_lenS, e_lenT, e_lenL, e_lenSL, e_lenO, e_int, e_intT, e_intF, e_str, e_min, e_max, e_abs, e_m1, e_m1R, e_m1S, e_joinL, e_joinO, e_joinT, e_txN, e_txC, e_txS, e_isiS, e_isiL, e_isiTu, e_rep, e_replS, e_tabG, e_mpS, e_tabI, e_inS, e_sl, e_slR, e_slS, e_slT, e_oNone, e_oSome, e_oRI, e_slStr, e_slL, e_slSL, e_slO, e_lc, e_ca0, e_ca1, e_ca2, e_ca3, e_ca4, e_ca5, e_ca6, e_ca7, e_ca8, e_ca9, e_ca10, e_ca11, e_ca12, e_scS, e_scI, e_scB, e_scN, e_allN, e_allC, e_eqFS, e_eqFI, e_inST, e_inIT, e_index, e_spR, e_mg, e_mgS, e_smN, e_smC, eq_self, Nat.reduceLT, Nat.reduceGT, Nat.reduceAdd, Nat.reduceMul, Nat.reduceSub, Nat.reduceLeDiff, Nat.reduceEqDiff, Int.reduceLT, Int.reduceLE, Int.reduceEq, Int.reduceAdd, Int.reduceSub, Int.reduceMul, Int.reduceMod, Int.reduceDiv, Int.reduceNeg, Nat.zero_le, Nat.le_refl, List.length_cons, List.length_nil, ite_true, ite_false, if_true, if_false, decide_true, decide_false, Bool.not_true, Bool.not_false, Bool.and_true, Bool.true_and, Bool.and_false, Bool.false_and, Bool.or_true, Bool.or_false, Bool.true_or, Bool.false_or, List.cons.injEq, and_true, true_and, and_false, false_and, and_self, ne_eq, not_true_eq_false, not_false_eq_true, reduceCtorEq, List.nil_append, List.cons_append, List.append_nil, List.append_assoc, e_joinW, e_joinWT, k1, k2, f1, f2, f3, f4, g1, g2, g3, g4, h4, t0, p1, p2, p3]
          · unfold m__law_words d__law_words
            simp only [e_rdDat, e_rdOwn, e_at0, e_atS, e_pu0, e_puS, e_var, e_c, e_op2, e_op2R, e_op2S, e_op1, e_op1S, e_opA, e_opAS, e_ofS, e_ofN, e_dB, e_toBS, e_and, e_andT, e_andF, e_or, e_orT, e_orF, e_not, e_notT, e_notF, e_notB, e_andV, e_andVT, e_andVF, e_orV, e_orVT, e_orVF, e_notV, e_notVB, e_ifE, e_ifET, e_ifEF, e_nil, e_cons, e_consR, e_consS, e_cleanN, e_cleanC, e_oN, e_oB, e_oI, e_oS, e_oT, e_oL, e_oSL, e_oOb, e_nf, e_tt, e_tup, e_tupR, e_tupB, e_items, e_itemsR, e_itemsB, e_fix, e_fixR, e_cat, e_catR, e_appN, e_appC, e_catB, e_catLL, e_catOL, e_catLO, e_catOO, e_call, e_callR, e_callB0, e_callB1, e_callB2, e_callB3, e_callB4, e_callB5, e_seq, e_seqN, e_seqR, e_seqB, e_seqC, e_seqX, e_skip, e_break, e_cont, e_set, e_setR, e_setX, e_setB, e_own, e_ownR, e_asg, e_asgR, e_nxO, e_tgT, e_putN, e_putC, e_tgN, e_tgB, e_drop, e_dropR, e_ret, e_retR, e_retX, e_retB, e_retN, e_if, e_ifT, e_ifF, e_app, e_appR, e_appB, e_frz, e_frzO, e_frzD, e_frzU, e_for, e_forR, e_forN, e_forC, e_turnB, e_turnN, e_turnC, e_turnK, e_turnR, e_turnX, e_it, e_itR, e_itA, e_itAR, e_asLst, e_asSlst, e_asTup, e_asStr, e_raise, e_run, e_endN, e_endR, e_endX, e_stC, e_st0, e_stS, e_addI, e_addS, e_addB, e_addLL, e_addOL, e_addLO, e_addOO, e_sub, e_mul, e_mod, e_div, e_neg, e_cmp, e_eqI, e_eqS, e_eqB, e_id, e_n1, e_isN, e_isI, e_isS, e_isT, e_isL, e_isB, e_isnN, e_isnI, e_isnS, e_isnT, e_isnL, e_isnB, e_ixS, e_ixT, e_ixL, e_ixSL, e_ixO, e_at_0, e_at_1, e_at_2, e_sg, e_lenS, e_lenT, e_lenL, e_lenSL, e_lenO, e_int, e_intT, e_intF, e_str, e_min, e_max, e_abs, e_m1, e_m1R, e_m1S, e_joinL, e_joinO, e_joinT, e_txN, e_txC, e_txS, e_isiS, e_isiL, e_isiTu, e_rep, e_replS, e_tabG, e_mpS, e_tabI, e_inS, e_sl, e_slR, e_slS, e_slT, e_oNone, e_oSome, e_oRI, e_slStr, e_slL, e_slSL, e_slO, e_lc, e_ca0, e_ca1, e_ca2, e_ca3, e_ca4, e_ca5, e_ca6, e_ca7, e_ca8, e_ca9, e_ca10, e_ca11, e_ca12, e_scS, e_scI, e_scB, e_scN, e_allN, e_allC, e_eqFS, e_eqFI, e_inST, e_inIT, e_index, e_spR, e_mg, e_mgS, e_smN, e_smC, eq_self, Nat.reduceLT, Nat.reduceGT, Nat.reduceAdd, Nat.reduceMul, Nat.reduceSub, Nat.reduceLeDiff, Nat.reduceEqDiff, Int.reduceLT, Int.reduceLE, Int.reduceEq, Int.reduceAdd, Int.reduceSub, Int.reduceMul, Int.reduceMod, Int.reduceDiv, Int.reduceNeg, Nat.zero_le, Nat.le_refl, List.length_cons, List.length_nil, ite_true, ite_false, if_true, if_false, decide_true, decide_false, Bool.not_true, Bool.not_false, Bool.and_true, Bool.true_and, Bool.and_false, Bool.false_and, Bool.or_true, Bool.or_false, Bool.true_or, Bool.false_or, List.cons.injEq, and_true, true_and, and_false, false_and, and_self, ne_eq, not_true_eq_false, not_false_eq_true, reduceCtorEq, List.nil_append, List.cons_append, List.append_nil, List.append_assoc, e_joinW, e_joinWT, k1, k2, f1, f2, f3, f4, g1, g2, g3, g4, h4, t0, p1, p2, p3]
        · have p1 : (p.length ≤ 1000) = True := eq_true (by omega)
          have q1 : (q.length ≤ 1000) = True := eq_true (by omega)
          refine ⟨jn L8 [w, L13, [c], p, q, u], ?_, ?_⟩
          · unfold m_in_words d_in_words
            simp only [e_rdDat, e_rdOwn, e_at0, e_atS, e_pu0, e_puS, e_var, e_c, e_op2, e_op2R, e_op2S, e_op1, e_op1S, e_opA, e_opAS, e_ofS, e_ofN, e_dB, e_toBS, e_and, e_andT, e_andF, e_or, e_orT, e_orF, e_not, e_notT, e_notF, e_notB, e_andV, e_andVT, e_andVF, e_orV, e_orVT, e_orVF, e_notV, e_notVB, e_ifE, e_ifET, e_ifEF, e_nil, e_cons, e_consR, e_consS, e_cleanN, e_cleanC, e_oN, e_oB, e_oI, e_oS, e_oT, e_oL, e_oSL, e_oOb, e_nf, e_tt, e_tup, e_tupR, e_tupB, e_items, e_itemsR, e_itemsB, e_fix, e_fixR, e_cat, e_catR, e_appN, e_appC, e_catB, e_catLL, e_catOL, e_catLO, e_catOO, e_call, e_callR, e_callB0, e_callB1, e_callB2, e_callB3, e_callB4, e_callB5, e_seq, e_seqN, e_seqR, e_seqB, e_seqC, e_seqX, e_skip, e_break, e_cont, e_set, e_setR, e_setX, e_setB, e_own, e_ownR, e_asg, e_asgR, e_nxO, e_tgT, e_putN, e_putC, e_tgN, e_tgB, e_drop, e_dropR, e_ret, e_retR, e_retX, e_retB, e_retN, e_if, e_ifT, e_ifF, e_app, e_appR, e_appB, e_frz, e_frzO, e_frzD, e_frzU, e_for, e_forR, e_forN, e_forC, e_turnB, e_turnN, e_turnC, e_turnK, e_turnR, e_turnX, e_it, e_itR, e_itA, e_itAR, e_asLst, e_asSlst, e_asTup, e_asStr, e_raise, e_run, e_endN, e_endR, e_endX, e_stC, e_st0, e_stS, e_addI, e_addS, e_addB, e_addLL, e_addOL, e_addLO, e_addOO, e_sub, e_mul, e_mod, e_div, e_neg, e_cmp, e_eqI, e_eqS, e_eqB, e_id, e_n1, e_isN, e_isI, e_isS, e_isT, e_isL, e_isB, e_isnN, e_isnI, e_isnS, e_isnT, e_isnL, e_isnB, e_ixS, e_ixT, e_ixL, e_ixSL, e_ixO, e_at_0, e_at_1, e_at_2, e_sg, e_lenS, e_lenT, e_lenL, e_lenSL, e_lenO, e_int, e_intT, e_intF, e_str, e_min, e_max, e_abs, e_m1, e_m1R, e_m1S, e_joinL, e_joinO, e_joinT, e_txN, e_txC, e_txS, e_isiS, e_isiL, e_isiTu, e_rep, e_replS, e_tabG, e_mpS, e_tabI, e_inS, e_sl, e_slR, e_slS, e_slT, e_oNone, e_oSome, e_oRI, e_slStr, e_slL, e_slSL, e_slO, e_lc, e_ca0, e_ca1, e_ca2, e_ca3, e_ca4, e_ca5, e_ca6, e_ca7, e_ca8, e_ca9, e_ca10, e_ca11, e_ca12, e_scS, e_scI, e_scB, e_scN, e_allN, e_allC, e_eqFS, e_eqFI, e_inST, e_inIT, e_index, e_spR, e_mg, e_mgS, e_smN, e_smC, eq_self, Nat.reduceLT, Nat.reduceGT, Nat.reduceAdd, Nat.reduceMul, Nat.reduceSub, Nat.reduceLeDiff, Nat.reduceEqDiff, Int.reduceLT, Int.reduceLE, Int.reduceEq, Int.reduceAdd, Int.reduceSub, Int.reduceMul, Int.reduceMod, Int.reduceDiv, Int.reduceNeg, Nat.zero_le, Nat.le_refl, List.length_cons, List.length_nil, ite_true, ite_false, if_true, if_false, decide_true, decide_false, Bool.not_true, Bool.not_false, Bool.and_true, Bool.true_and, Bool.and_false, Bool.false_and, Bool.or_true, Bool.or_false, Bool.true_or, Bool.false_or, List.cons.injEq, and_true, true_and, and_false, false_and, and_self, ne_eq, not_true_eq_false, not_false_eq_true, reduceCtorEq, List.nil_append, List.cons_append, List.append_nil, List.append_assoc, e_joinW, e_joinWT, k1, k2, f1, f2, f3, f4, g1, g2, g3, g4, h4, t0, p1, q1, p2, p3]
          · unfold m__law_words d__law_words
            simp only [e_rdDat, e_rdOwn, e_at0, e_atS, e_pu0, e_puS, e_var, e_c, e_op2, e_op2R, e_op2S, e_op1, e_op1S, e_opA, e_opAS, e_ofS, e_ofN, e_dB, e_toBS, e_and, e_andT, e_andF, e_or, e_orT, e_orF, e_not, e_notT, e_notF, e_notB, e_andV, e_andVT, e_andVF, e_orV, e_orVT, e_orVF, e_notV, e_notVB, e_ifE, e_ifET, e_ifEF, e_nil, e_cons, e_consR, e_consS, e_cleanN, e_cleanC, e_oN, e_oB, e_oI, e_oS, e_oT, e_oL, e_oSL, e_oOb, e_nf, e_tt, e_tup, e_tupR, e_tupB, e_items, e_itemsR, e_itemsB, e_fix, e_fixR, e_cat, e_catR, e_appN, e_appC, e_catB, e_catLL, e_catOL, e_catLO, e_catOO, e_call, e_callR, e_callB0, e_callB1, e_callB2, e_callB3, e_callB4, e_callB5, e_seq, e_seqN, e_seqR, e_seqB, e_seqC, e_seqX, e_skip, e_break, e_cont, e_set, e_setR, e_setX, e_setB, e_own, e_ownR, e_asg, e_asgR, e_nxO, e_tgT, e_putN, e_putC, e_tgN, e_tgB, e_drop, e_dropR, e_ret, e_retR, e_retX, e_retB, e_retN, e_if, e_ifT, e_ifF, e_app, e_appR, e_appB, e_frz, e_frzO, e_frzD, e_frzU, e_for, e_forR, e_forN, e_forC, e_turnB, e_turnN, e_turnC, e_turnK, e_turnR, e_turnX, e_it, e_itR, e_itA, e_itAR, e_asLst, e_asSlst, e_asTup, e_asStr, e_raise, e_run, e_endN, e_endR, e_endX, e_stC, e_st0, e_stS, e_addI, e_addS, e_addB, e_addLL, e_addOL, e_addLO, e_addOO, e_sub, e_mul, e_mod, e_div, e_neg, e_cmp, e_eqI, e_eqS, e_eqB, e_id, e_n1, e_isN, e_isI, e_isS, e_isT, e_isL, e_isB, e_isnN, e_isnI, e_isnS, e_isnT, e_isnL, e_isnB, e_ixS, e_ixT, e_ixL, e_ixSL, e_ixO, e_at_0, e_at_1, e_at_2, e_sg, e_lenS, e_lenT, e_lenL, e_lenSL, e_lenO, e_int, e_intT, e_intF, e_str, e_min, e_max, e_abs, e_m1, e_m1R, e_m1S, e_joinL, e_joinO, e_joinT, e_txN, e_txC, e_txS, e_isiS, e_isiL, e_isiTu, e_rep, e_replS, e_tabG, e_mpS, e_tabI, e_inS, e_sl, e_slR, e_slS, e_slT, e_oNone, e_oSome, e_oRI, e_slStr, e_slL, e_slSL, e_slO, e_lc, e_ca0, e_ca1, e_ca2, e_ca3, e_ca4, e_ca5, e_ca6, e_ca7, e_ca8, e_ca9, e_ca10, e_ca11, e_ca12, e_scS, e_scI, e_scB, e_scN, e_allN, e_allC, e_eqFS, e_eqFI, e_inST, e_inIT, e_index, e_spR, e_mg, e_mgS, e_smN, e_smC, eq_self, Nat.reduceLT, Nat.reduceGT, Nat.reduceAdd, Nat.reduceMul, Nat.reduceSub, Nat.reduceLeDiff, Nat.reduceEqDiff, Int.reduceLT, Int.reduceLE, Int.reduceEq, Int.reduceAdd, Int.reduceSub, Int.reduceMul, Int.reduceMod, Int.reduceDiv, Int.reduceNeg, Nat.zero_le, Nat.le_refl, List.length_cons, List.length_nil, ite_true, ite_false, if_true, if_false, decide_true, decide_false, Bool.not_true, Bool.not_false, Bool.and_true, Bool.true_and, Bool.and_false, Bool.false_and, Bool.or_true, Bool.or_false, Bool.true_or, Bool.false_or, List.cons.injEq, and_true, true_and, and_false, false_and, and_self, ne_eq, not_true_eq_false, not_false_eq_true, reduceCtorEq, List.nil_append, List.cons_append, List.append_nil, List.append_assoc, e_joinW, e_joinWT, k1, k2, f1, f2, f3, f4, g1, g2, g3, g4, h4, t0, p1, q1, p2, p3]
  · rcases hsh with rfl | ⟨c, rfl⟩
    · rcases ht with rfl | ht
      · skip
        refine ⟨jn L8 [w, L12, cw, u], ?_, ?_⟩
        · unfold m_in_words d_in_words
          simp only [e_rdDat, e_rdOwn, e_at0, e_atS, e_pu0, e_puS, e_var, e_c, e_op2, e_op2R, e_op2S, e_op1, e_op1S, e_opA, e_opAS, e_ofS, e_ofN, e_dB, e_toBS, e_and, e_andT, e_andF, e_or, e_orT, e_orF, e_not, e_notT, e_notF, e_notB, e_andV, e_andVT, e_andVF, e_orV, e_orVT, e_orVF, e_notV, e_notVB, e_ifE, e_ifET, e_ifEF, e_nil, e_cons, e_consR, e_consS, e_cleanN, e_cleanC, e_oN, e_oB, e_oI, e_oS, e_oT, e_oL, e_oSL, e_oOb, e_nf, e_tt, e_tup, e_tupR, e_tupB, e_items, e_itemsR, e_itemsB, e_fix, e_fixR, e_cat, e_catR, e_appN, e_appC, e_catB, e_catLL, e_catOL, e_catLO, e_catOO, e_call, e_callR, e_callB0, e_callB1, e_callB2, e_callB3, e_callB4, e_callB5, e_seq, e_seqN, e_seqR, e_seqB, e_seqC, e_seqX, e_skip, e_break, e_cont, e_set, e_setR, e_setX, e_setB, e_own, e_ownR, e_asg, e_asgR, e_nxO, e_tgT, e_putN, e_putC, e_tgN, e_tgB, e_drop, e_dropR, e_ret, e_retR, e_retX, e_retB, e_retN, e_if, e_ifT, e_ifF, e_app, e_appR, e_appB, e_frz, e_frzO, e_frzD, e_frzU, e_for, e_forR, e_forN, e_forC, e_turnB, e_turnN, e_turnC, e_turnK, e_turnR, e_turnX, e_it, e_itR, e_itA, e_itAR, e_asLst, e_asSlst, e_asTup, e_asStr, e_raise, e_run, e_endN, e_endR, e_endX, e_stC, e_st0, e_stS, e_addI, e_addS, e_addB, e_addLL, e_addOL, e_addLO, e_addOO, e_sub, e_mul, e_mod, e_div, e_neg, e_cmp, e_eqI, e_eqS, e_eqB, e_id, e_n1, e_isN, e_isI, e_isS, e_isT, e_isL, e_isB, e_isnN, e_isnI, e_isnS, e_isnT, e_isnL, e_isnB, e_ixS, e_ixT, e_ixL, e_ixSL, e_ixO, e_at_0, e_at_1, e_at_2, e_sg, e_lenS, e_lenT, e_lenL, e_lenSL, e_lenO, e_int, e_intT, e_intF, e_str, e_min, e_max, e_abs, e_m1, e_m1R, e_m1S, e_joinL, e_joinO, e_joinT, e_txN, e_txC, e_txS, e_isiS, e_isiL, e_isiTu, e_rep, e_replS, e_tabG, e_mpS, e_tabI, e_inS, e_sl, e_slR, e_slS, e_slT, e_oNone, e_oSome, e_oRI, e_slStr, e_slL, e_slSL, e_slO, e_lc, e_ca0, e_ca1, e_ca2, e_ca3, e_ca4, e_ca5, e_ca6, e_ca7, e_ca8, e_ca9, e_ca10, e_ca11, e_ca12, e_scS, e_scI, e_scB, e_scN, e_allN, e_allC, e_eqFS, e_eqFI, e_inST, e_inIT, e_index, e_spR, e_mg, e_mgS, e_smN, e_smC, eq_self, Nat.reduceLT, Nat.reduceGT, Nat.reduceAdd, Nat.reduceMul, Nat.reduceSub, Nat.reduceLeDiff, Nat.reduceEqDiff, Int.reduceLT, Int.reduceLE, Int.reduceEq, Int.reduceAdd, Int.reduceSub, Int.reduceMul, Int.reduceMod, Int.reduceDiv, Int.reduceNeg, Nat.zero_le, Nat.le_refl, List.length_cons, List.length_nil, ite_true, ite_false, if_true, if_false, decide_true, decide_false, Bool.not_true, Bool.not_false, Bool.and_true, Bool.true_and, Bool.and_false, Bool.false_and, Bool.or_true, Bool.or_false, Bool.true_or, Bool.false_or, List.cons.injEq, and_true, true_and, and_false, false_and, and_self, ne_eq, not_true_eq_false, not_false_eq_true, reduceCtorEq, List.nil_append, List.cons_append, List.append_nil, List.append_assoc, e_joinW, e_joinWT, k1, k2, k3, k4, f1, f2, f3, f4, g1, g2, g3, g4, h4]
        · unfold m__law_words d__law_words
          simp only [e_rdDat, e_rdOwn, e_at0, e_atS, e_pu0, e_puS, e_var, e_c, e_op2, e_op2R, e_op2S, e_op1, e_op1S, e_opA, e_opAS, e_ofS, e_ofN, e_dB, e_toBS, e_and, e_andT, e_andF, e_or, e_orT, e_orF, e_not, e_notT, e_notF, e_notB, e_andV, e_andVT, e_andVF, e_orV, e_orVT, e_orVF, e_notV, e_notVB, e_ifE, e_ifET, e_ifEF, e_nil, e_cons, e_consR, e_consS, e_cleanN, e_cleanC, e_oN, e_oB, e_oI, e_oS, e_oT, e_oL, e_oSL, e_oOb, e_nf, e_tt, e_tup, e_tupR, e_tupB, e_items, e_itemsR, e_itemsB, e_fix, e_fixR, e_cat, e_catR, e_appN, e_appC, e_catB, e_catLL, e_catOL, e_catLO, e_catOO, e_call, e_callR, e_callB0, e_callB1, e_callB2, e_callB3, e_callB4, e_callB5, e_seq, e_seqN, e_seqR, e_seqB, e_seqC, e_seqX, e_skip, e_break, e_cont, e_set, e_setR, e_setX, e_setB, e_own, e_ownR, e_asg, e_asgR, e_nxO, e_tgT, e_putN, e_putC, e_tgN, e_tgB, e_drop, e_dropR, e_ret, e_retR, e_retX, e_retB, e_retN, e_if, e_ifT, e_ifF, e_app, e_appR, e_appB, e_frz, e_frzO, e_frzD, e_frzU, e_for, e_forR, e_forN, e_forC, e_turnB, e_turnN, e_turnC, e_turnK, e_turnR, e_turnX, e_it, e_itR, e_itA, e_itAR, e_asLst, e_asSlst, e_asTup, e_asStr, e_raise, e_run, e_endN, e_endR, e_endX, e_stC, e_st0, e_stS, e_addI, e_addS, e_addB, e_addLL, e_addOL, e_addLO, e_addOO, e_sub, e_mul, e_mod, e_div, e_neg, e_cmp, e_eqI, e_eqS, e_eqB, e_id, e_n1, e_isN, e_isI, e_isS, e_isT, e_isL, e_isB, e_isnN, e_isnI, e_isnS, e_isnT, e_isnL, e_isnB, e_ixS, e_ixT, e_ixL, e_ixSL, e_ixO, e_at_0, e_at_1, e_at_2, e_sg, e_lenS, e_lenT, e_lenL, e_lenSL, e_lenO, e_int, e_intT, e_intF, e_str, e_min, e_max, e_abs, e_m1, e_m1R, e_m1S, e_joinL, e_joinO, e_joinT, e_txN, e_txC, e_txS, e_isiS, e_isiL, e_isiTu, e_rep, e_replS, e_tabG, e_mpS, e_tabI, e_inS, e_sl, e_slR, e_slS, e_slT, e_oNone, e_oSome, e_oRI, e_slStr, e_slL, e_slSL, e_slO, e_lc, e_ca0, e_ca1, e_ca2, e_ca3, e_ca4, e_ca5, e_ca6, e_ca7, e_ca8, e_ca9, e_ca10, e_ca11, e_ca12, e_scS, e_scI, e_scB, e_scN, e_allN, e_allC, e_eqFS, e_eqFI, e_inST, e_inIT, e_index, e_spR, e_mg, e_mgS, e_smN, e_smC, eq_self, Nat.reduceLT, Nat.reduceGT, Nat.reduceAdd, Nat.reduceMul, Nat.reduceSub, Nat.reduceLeDiff, Nat.reduceEqDiff, Int.reduceLT, Int.reduceLE, Int.reduceEq, Int.reduceAdd, Int.reduceSub, Int.reduceMul, Int.reduceMod, Int.reduceDiv, Int.reduceNeg, Nat.zero_le, Nat.le_refl, List.length_cons, List.length_nil, ite_true, ite_false, if_true, if_false, decide_true, decide_false, Bool.not_true, Bool.not_false, Bool.and_true, Bool.true_and, Bool.and_false, Bool.false_and, Bool.or_true, Bool.or_false, Bool.true_or, Bool.false_or, List.cons.injEq, and_true, true_and, and_false, false_and, and_self, ne_eq, not_true_eq_false, not_false_eq_true, reduceCtorEq, List.nil_append, List.cons_append, List.append_nil, List.append_assoc, e_joinW, e_joinWT, k1, k2, k3, k4, f1, f2, f3, f4, g1, g2, g3, g4, h4]
      · obtain ⟨t0, tt⟩ := t_words ht
        have t0 : (t = []) = False := eq_false t0
        rcases tt with ⟨p, p1, p2, p3⟩ | ⟨p, q, p1, q1, p2, p3⟩
        · have p1 : (p.length ≤ 1000) = True := eq_true (by omega)
          refine ⟨jn L8 [w, L12, cw, p, u], ?_, ?_⟩
          · unfold m_in_words d_in_words
            simp only [e_rdDat, e_rdOwn, e_at0, e_atS, e_pu0, e_puS, e_var, e_c, e_op2, e_op2R, e_op2S, e_op1, e_op1S, e_opA, e_opAS, e_ofS, e_ofN, e_dB, e_toBS, e_and, e_andT, e_andF, e_or, e_orT, e_orF, e_not, e_notT, e_notF, e_notB, e_andV, e_andVT, e_andVF, e_orV, e_orVT, e_orVF, e_notV, e_notVB, e_ifE, e_ifET, e_ifEF, e_nil, e_cons, e_consR, e_consS, e_cleanN, e_cleanC, e_oN, e_oB, e_oI, e_oS, e_oT, e_oL, e_oSL, e_oOb, e_nf, e_tt, e_tup, e_tupR, e_tupB, e_items, e_itemsR, e_itemsB, e_fix, e_fixR, e_cat, e_catR, e_appN, e_appC, e_catB, e_catLL, e_catOL, e_catLO, e_catOO, e_call, e_callR, e_callB0, e_callB1, e_callB2, e_callB3, e_callB4, e_callB5, e_seq, e_seqN, e_seqR, e_seqB, e_seqC, e_seqX, e_skip, e_break, e_cont, e_set, e_setR, e_setX, e_setB, e_own, e_ownR, e_asg, e_asgR, e_nxO, e_tgT, e_putN, e_putC, e_tgN, e_tgB, e_drop, e_dropR, e_ret, e_retR, e_retX, e_retB, e_retN, e_if, e_ifT, e_ifF, e_app, e_appR, e_appB, e_frz, e_frzO, e_frzD, e_frzU, e_for, e_forR, e_forN, e_forC, e_turnB, e_turnN, e_turnC, e_turnK, e_turnR, e_turnX, e_it, e_itR, e_itA, e_itAR, e_asLst, e_asSlst, e_asTup, e_asStr, e_raise, e_run, e_endN, e_endR, e_endX, e_stC, e_st0, e_stS, e_addI, e_addS, e_addB, e_addLL, e_addOL, e_addLO, e_addOO, e_sub, e_mul, e_mod, e_div, e_neg, e_cmp, e_eqI, e_eqS, e_eqB, e_id, e_n1, e_isN, e_isI, e_isS, e_isT, e_isL, e_isB, e_isnN, e_isnI, e_isnS, e_isnT, e_isnL, e_isnB, e_ixS, e_ixT, e_ixL, e_ixSL, e_ixO, e_at_0, e_at_1, e_at_2, e_sg, e_lenS, e_lenT, e_lenL, e_lenSL, e_lenO, e_int, e_intT, e_intF, e_str, e_min, e_max, e_abs, e_m1, e_m1R, e_m1S, e_joinL, e_joinO, e_joinT, e_txN, e_txC, e_txS, e_isiS, e_isiL, e_isiTu, e_rep, e_replS, e_tabG, e_mpS, e_tabI, e_inS, e_sl, e_slR, e_slS, e_slT, e_oNone, e_oSome, e_oRI, e_slStr, e_slL, e_slSL, e_slO, e_lc, e_ca0, e_ca1, e_ca2, e_ca3, e_ca4, e_ca5, e_ca6, e_ca7, e_ca8, e_ca9, e_ca10, e_ca11, e_ca12, e_scS, e_scI, e_scB, e_scN, e_allN, e_allC, e_eqFS, e_eqFI, e_inST, e_inIT, e_index, e_spR, e_mg, e_mgS, e_smN, e_smC, eq_self, Nat.reduceLT, Nat.reduceGT, Nat.reduceAdd, Nat.reduceMul, Nat.reduceSub, Nat.reduceLeDiff, Nat.reduceEqDiff, Int.reduceLT, Int.reduceLE, Int.reduceEq, Int.reduceAdd, Int.reduceSub, Int.reduceMul, Int.reduceMod, Int.reduceDiv, Int.reduceNeg, Nat.zero_le, Nat.le_refl, List.length_cons, List.length_nil, ite_true, ite_false, if_true, if_false, decide_true, decide_false, Bool.not_true, Bool.not_false, Bool.and_true, Bool.true_and, Bool.and_false, Bool.false_and, Bool.or_true, Bool.or_false, Bool.true_or, Bool.false_or, List.cons.injEq, and_true, true_and, and_false, false_and, and_self, ne_eq, not_true_eq_false, not_false_eq_true, reduceCtorEq, List.nil_append, List.cons_append, List.append_nil, List.append_assoc, e_joinW, e_joinWT, k1, k2, k3, k4, f1, f2, f3, f4, g1, g2, g3, g4, h4, t0, p1, p2, p3]
          · unfold m__law_words d__law_words
            simp only [e_rdDat, e_rdOwn, e_at0, e_atS, e_pu0, e_puS, e_var, e_c, e_op2, e_op2R, e_op2S, e_op1, e_op1S, e_opA, e_opAS, e_ofS, e_ofN, e_dB, e_toBS, e_and, e_andT, e_andF, e_or, e_orT, e_orF, e_not, e_notT, e_notF, e_notB, e_andV, e_andVT, e_andVF, e_orV, e_orVT, e_orVF, e_notV, e_notVB, e_ifE, e_ifET, e_ifEF, e_nil, e_cons, e_consR, e_consS, e_cleanN, e_cleanC, e_oN, e_oB, e_oI, e_oS, e_oT, e_oL, e_oSL, e_oOb, e_nf, e_tt, e_tup, e_tupR, e_tupB, e_items, e_itemsR, e_itemsB, e_fix, e_fixR, e_cat, e_catR, e_appN, e_appC, e_catB, e_catLL, e_catOL, e_catLO, e_catOO, e_call, e_callR, e_callB0, e_callB1, e_callB2, e_callB3, e_callB4, e_callB5, e_seq, e_seqN, e_seqR, e_seqB, e_seqC, e_seqX, e_skip, e_break, e_cont, e_set, e_setR, e_setX, e_setB, e_own, e_ownR, e_asg, e_asgR, e_nxO, e_tgT, e_putN, e_putC, e_tgN, e_tgB, e_drop, e_dropR, e_ret, e_retR, e_retX, e_retB, e_retN, e_if, e_ifT, e_ifF, e_app, e_appR, e_appB, e_frz, e_frzO, e_frzD, e_frzU, e_for, e_forR, e_forN, e_forC, e_turnB, e_turnN, e_turnC, e_turnK, e_turnR, e_turnX, e_it, e_itR, e_itA, e_itAR, e_asLst, e_asSlst, e_asTup, e_asStr, e_raise, e_run, e_endN, e_endR, e_endX, e_stC, e_st0, e_stS, e_addI, e_addS, e_addB, e_addLL, e_addOL, e_addLO, e_addOO, e_sub, e_mul, e_mod, e_div, e_neg, e_cmp, e_eqI, e_eqS, e_eqB, e_id, e_n1, e_isN, e_isI, e_isS, e_isT, e_isL, e_isB, e_isnN, e_isnI, e_isnS, e_isnT, e_isnL, e_isnB, e_ixS, e_ixT, e_ixL, e_ixSL, e_ixO, e_at_0, e_at_1, e_at_2, e_sg, e_lenS, e_lenT, e_lenL, e_lenSL, e_lenO, e_int, e_intT, e_intF, e_str, e_min, e_max, e_abs, e_m1, e_m1R, e_m1S, e_joinL, e_joinO, e_joinT, e_txN, e_txC, e_txS, e_isiS, e_isiL, e_isiTu, e_rep, e_replS, e_tabG, e_mpS, e_tabI, e_inS, e_sl, e_slR, e_slS, e_slT, e_oNone, e_oSome, e_oRI, e_slStr, e_slL, e_slSL, e_slO, e_lc, e_ca0, e_ca1, e_ca2, e_ca3, e_ca4, e_ca5, e_ca6, e_ca7, e_ca8, e_ca9, e_ca10, e_ca11, e_ca12, e_scS, e_scI, e_scB, e_scN, e_allN, e_allC, e_eqFS, e_eqFI, e_inST, e_inIT, e_index, e_spR, e_mg, e_mgS, e_smN, e_smC, eq_self, Nat.reduceLT, Nat.reduceGT, Nat.reduceAdd, Nat.reduceMul, Nat.reduceSub, Nat.reduceLeDiff, Nat.reduceEqDiff, Int.reduceLT, Int.reduceLE, Int.reduceEq, Int.reduceAdd, Int.reduceSub, Int.reduceMul, Int.reduceMod, Int.reduceDiv, Int.reduceNeg, Nat.zero_le, Nat.le_refl, List.length_cons, List.length_nil, ite_true, ite_false, if_true, if_false, decide_true, decide_false, Bool.not_true, Bool.not_false, Bool.and_true, Bool.true_and, Bool.and_false, Bool.false_and, Bool.or_true, Bool.or_false, Bool.true_or, Bool.false_or, List.cons.injEq, and_true, true_and, and_false, false_and, and_self, ne_eq, not_true_eq_false, not_false_eq_true, reduceCtorEq, List.nil_append, List.cons_append, List.append_nil, List.append_assoc, e_joinW, e_joinWT, k1, k2, k3, k4, f1, f2, f3, f4, g1, g2, g3, g4, h4, t0, p1, p2, p3]
        · have p1 : (p.length ≤ 1000) = True := eq_true (by omega)
          have q1 : (q.length ≤ 1000) = True := eq_true (by omega)
          refine ⟨jn L8 [w, L12, cw, p, q, u], ?_, ?_⟩
          · unfold m_in_words d_in_words
            simp only [e_rdDat, e_rdOwn, e_at0, e_atS, e_pu0, e_puS, e_var, e_c, e_op2, e_op2R, e_op2S, e_op1, e_op1S, e_opA, e_opAS, e_ofS, e_ofN, e_dB, e_toBS, e_and, e_andT, e_andF, e_or, e_orT, e_orF, e_not, e_notT, e_notF, e_notB, e_andV, e_andVT, e_andVF, e_orV, e_orVT, e_orVF, e_notV, e_notVB, e_ifE, e_ifET, e_ifEF, e_nil, e_cons, e_consR, e_consS, e_cleanN, e_cleanC, e_oN, e_oB, e_oI, e_oS, e_oT, e_oL, e_oSL, e_oOb, e_nf, e_tt, e_tup, e_tupR, e_tupB, e_items, e_itemsR, e_itemsB, e_fix, e_fixR, e_cat, e_catR, e_appN, e_appC, e_catB, e_catLL, e_catOL, e_catLO, e_catOO, e_call, e_callR, e_callB0, e_callB1, e_callB2, e_callB3, e_callB4, e_callB5, e_seq, e_seqN, e_seqR, e_seqB, e_seqC, e_seqX, e_skip, e_break, e_cont, e_set, e_setR, e_setX, e_setB, e_own, e_ownR, e_asg, e_asgR, e_nxO, e_tgT, e_putN, e_putC, e_tgN, e_tgB, e_drop, e_dropR, e_ret, e_retR, e_retX, e_retB, e_retN, e_if, e_ifT, e_ifF, e_app, e_appR, e_appB, e_frz, e_frzO, e_frzD, e_frzU, e_for, e_forR, e_forN, e_forC, e_turnB, e_turnN, e_turnC, e_turnK, e_turnR, e_turnX, e_it, e_itR, e_itA, e_itAR, e_asLst, e_asSlst, e_asTup, e_asStr, e_raise, e_run, e_endN, e_endR, e_endX, e_stC, e_st0, e_stS, e_addI, e_addS, e_addB, e_addLL, e_addOL, e_addLO, e_addOO, e_sub, e_mul, e_mod, e_div, e_neg, e_cmp, e_eqI, e_eqS, e_eqB, e_id, e_n1, e_isN, e_isI, e_isS, e_isT, e_isL, e_isB, e_isnN, e_isnI, e_isnS, e_isnT, e_isnL, e_isnB, e_ixS, e_ixT, e_ixL, e_ixSL, e_ixO, e_at_0, e_at_1, e_at_2, e_sg, e_lenS, e_lenT, e_lenL, e_lenSL, e_lenO, e_int, e_intT, e_intF, e_str, e_min, e_max, e_abs, e_m1, e_m1R, e_m1S, e_joinL, e_joinO, e_joinT, e_txN, e_txC, e_txS, e_isiS, e_isiL, e_isiTu, e_rep, e_replS, e_tabG, e_mpS, e_tabI, e_inS, e_sl, e_slR, e_slS, e_slT, e_oNone, e_oSome, e_oRI, e_slStr, e_slL, e_slSL, e_slO, e_lc, e_ca0, e_ca1, e_ca2, e_ca3, e_ca4, e_ca5, e_ca6, e_ca7, e_ca8, e_ca9, e_ca10, e_ca11, e_ca12, e_scS, e_scI, e_scB, e_scN, e_allN, e_allC, e_eqFS, e_eqFI, e_inST, e_inIT, e_index, e_spR, e_mg, e_mgS, e_smN, e_smC, eq_self, Nat.reduceLT, Nat.reduceGT, Nat.reduceAdd, Nat.reduceMul, Nat.reduceSub, Nat.reduceLeDiff, Nat.reduceEqDiff, Int.reduceLT, Int.reduceLE, Int.reduceEq, Int.reduceAdd, Int.reduceSub, Int.reduceMul, Int.reduceMod, Int.reduceDiv, Int.reduceNeg, Nat.zero_le, Nat.le_refl, List.length_cons, List.length_nil, ite_true, ite_false, if_true, if_false, decide_true, decide_false, Bool.not_true, Bool.not_false, Bool.and_true, Bool.true_and, Bool.and_false, Bool.false_and, Bool.or_true, Bool.or_false, Bool.true_or, Bool.false_or, List.cons.injEq, and_true, true_and, and_false, false_and, and_self, ne_eq, not_true_eq_false, not_false_eq_true, reduceCtorEq, List.nil_append, List.cons_append, List.append_nil, List.append_assoc, e_joinW, e_joinWT, k1, k2, k3, k4, f1, f2, f3, f4, g1, g2, g3, g4, h4, t0, p1, q1, p2, p3]
          · unfold m__law_words d__law_words
            simp only [e_rdDat, e_rdOwn, e_at0, e_atS, e_pu0, e_puS, e_var, e_c, e_op2, e_op2R, e_op2S, e_op1, e_op1S, e_opA, e_opAS, e_ofS, e_ofN, e_dB, e_toBS, e_and, e_andT, e_andF, e_or, e_orT, e_orF, e_not, e_notT, e_notF, e_notB, e_andV, e_andVT, e_andVF, e_orV, e_orVT, e_orVF, e_notV, e_notVB, e_ifE, e_ifET, e_ifEF, e_nil, e_cons, e_consR, e_consS, e_cleanN, e_cleanC, e_oN, e_oB, e_oI, e_oS, e_oT, e_oL, e_oSL, e_oOb, e_nf, e_tt, e_tup, e_tupR, e_tupB, e_items, e_itemsR, e_itemsB, e_fix, e_fixR, e_cat, e_catR, e_appN, e_appC, e_catB, e_catLL, e_catOL, e_catLO, e_catOO, e_call, e_callR, e_callB0, e_callB1, e_callB2, e_callB3, e_callB4, e_callB5, e_seq, e_seqN, e_seqR, e_seqB, e_seqC, e_seqX, e_skip, e_break, e_cont, e_set, e_setR, e_setX, e_setB, e_own, e_ownR, e_asg, e_asgR, e_nxO, e_tgT, e_putN, e_putC, e_tgN, e_tgB, e_drop, e_dropR, e_ret, e_retR, e_retX, e_retB, e_retN, e_if, e_ifT, e_ifF, e_app, e_appR, e_appB, e_frz, e_frzO, e_frzD, e_frzU, e_for, e_forR, e_forN, e_forC, e_turnB, e_turnN, e_turnC, e_turnK, e_turnR, e_turnX, e_it, e_itR, e_itA, e_itAR, e_asLst, e_asSlst, e_asTup, e_asStr, e_raise, e_run, e_endN, e_endR, e_endX, e_stC, e_st0, e_stS, e_addI, e_addS, e_addB, e_addLL, e_addOL, e_addLO, e_addOO, e_sub, e_mul, e_mod, e_div, e_neg, e_cmp, e_eqI, e_eqS, e_eqB, e_id, e_n1, e_isN, e_isI, e_isS, e_isT, e_isL, e_isB, e_isnN, e_isnI, e_isnS, e_isnT, e_isnL, e_isnB, e_ixS, e_ixT, e_ixL, e_ixSL, e_ixO, e_at_0, e_at_1, e_at_2, e_sg, e_lenS, e_lenT, e_lenL, e_lenSL, e_lenO, e_int, e_intT, e_intF, e_str, e_min, e_max, e_abs, e_m1, e_m1R, e_m1S, e_joinL, e_joinO, e_joinT, e_txN, e_txC, e_txS, e_isiS, e_isiL, e_isiTu, e_rep, e_replS, e_tabG, e_mpS, e_tabI, e_inS, e_sl, e_slR, e_slS, e_slT, e_oNone, e_oSome, e_oRI, e_slStr, e_slL, e_slSL, e_slO, e_lc, e_ca0, e_ca1, e_ca2, e_ca3, e_ca4, e_ca5, e_ca6, e_ca7, e_ca8, e_ca9, e_ca10, e_ca11, e_ca12, e_scS, e_scI, e_scB, e_scN, e_allN, e_allC, e_eqFS, e_eqFI, e_inST, e_inIT, e_index, e_spR, e_mg, e_mgS, e_smN, e_smC, eq_self, Nat.reduceLT, Nat.reduceGT, Nat.reduceAdd, Nat.reduceMul, Nat.reduceSub, Nat.reduceLeDiff, Nat.reduceEqDiff, Int.reduceLT, Int.reduceLE, Int.reduceEq, Int.reduceAdd, Int.reduceSub, Int.reduceMul, Int.reduceMod, Int.reduceDiv, Int.reduceNeg, Nat.zero_le, Nat.le_refl, List.length_cons, List.length_nil, ite_true, ite_false, if_true, if_false, decide_true, decide_false, Bool.not_true, Bool.not_false, Bool.and_true, Bool.true_and, Bool.and_false, Bool.false_and, Bool.or_true, Bool.or_false, Bool.true_or, Bool.false_or, List.cons.injEq, and_true, true_and, and_false, false_and, and_self, ne_eq, not_true_eq_false, not_false_eq_true, reduceCtorEq, List.nil_append, List.cons_append, List.append_nil, List.append_assoc, e_joinW, e_joinWT, k1, k2, k3, k4, f1, f2, f3, f4, g1, g2, g3, g4, h4, t0, p1, q1, p2, p3]
    · rcases ht with rfl | ht
      · skip
        refine ⟨jn L8 [w, L13, [c], L12, cw, u], ?_, ?_⟩
        · unfold m_in_words d_in_words
          simp only [e_rdDat, e_rdOwn, e_at0, e_atS, e_pu0, e_puS, e_var, e_c, e_op2, e_op2R, e_op2S, e_op1, e_op1S, e_opA, e_opAS, e_ofS, e_ofN, e_dB, e_toBS, e_and, e_andT, e_andF, e_or, e_orT, e_orF, e_not, e_notT, e_notF, e_notB, e_andV, e_andVT, e_andVF, e_orV, e_orVT, e_orVF, e_notV, e_notVB, e_ifE, e_ifET, e_ifEF, e_nil, e_cons, e_consR, e_consS, e_cleanN, e_cleanC, e_oN, e_oB, e_oI, e_oS, e_oT, e_oL, e_oSL, e_oOb, e_nf, e_tt, e_tup, e_tupR, e_tupB, e_items, e_itemsR, e_itemsB, e_fix, e_fixR, e_cat, e_catR, e_appN, e_appC, e_catB, e_catLL, e_catOL, e_catLO, e_catOO, e_call, e_callR, e_callB0, e_callB1, e_callB2, e_callB3, e_callB4, e_callB5, e_seq, e_seqN, e_seqR, e_seqB, e_seqC, e_seqX, e_skip, e_break, e_cont, e_set, e_setR, e_setX, e_setB, e_own, e_ownR, e_asg, e_asgR, e_nxO, e_tgT, e_putN, e_putC, e_tgN, e_tgB, e_drop, e_dropR, e_ret, e_retR, e_retX, e_retB, e_retN, e_if, e_ifT, e_ifF, e_app, e_appR, e_appB, e_frz, e_frzO, e_frzD, e_frzU, e_for, e_forR, e_forN, e_forC, e_turnB, e_turnN, e_turnC, e_turnK, e_turnR, e_turnX, e_it, e_itR, e_itA, e_itAR, e_asLst, e_asSlst, e_asTup, e_asStr, e_raise, e_run, e_endN, e_endR, e_endX, e_stC, e_st0, e_stS, e_addI, e_addS, e_addB, e_addLL, e_addOL, e_addLO, e_addOO, e_sub, e_mul, e_mod, e_div, e_neg, e_cmp, e_eqI, e_eqS, e_eqB, e_id, e_n1, e_isN, e_isI, e_isS, e_isT, e_isL, e_isB, e_isnN, e_isnI, e_isnS, e_isnT, e_isnL, e_isnB, e_ixS, e_ixT, e_ixL, e_ixSL, e_ixO, e_at_0, e_at_1, e_at_2, e_sg, e_lenS, e_lenT, e_lenL, e_lenSL, e_lenO, e_int, e_intT, e_intF, e_str, e_min, e_max, e_abs, e_m1, e_m1R, e_m1S, e_joinL, e_joinO, e_joinT, e_txN, e_txC, e_txS, e_isiS, e_isiL, e_isiTu, e_rep, e_replS, e_tabG, e_mpS, e_tabI, e_inS, e_sl, e_slR, e_slS, e_slT, e_oNone, e_oSome, e_oRI, e_slStr, e_slL, e_slSL, e_slO, e_lc, e_ca0, e_ca1, e_ca2, e_ca3, e_ca4, e_ca5, e_ca6, e_ca7, e_ca8, e_ca9, e_ca10, e_ca11, e_ca12, e_scS, e_scI, e_scB, e_scN, e_allN, e_allC, e_eqFS, e_eqFI, e_inST, e_inIT, e_index, e_spR, e_mg, e_mgS, e_smN, e_smC, eq_self, Nat.reduceLT, Nat.reduceGT, Nat.reduceAdd, Nat.reduceMul, Nat.reduceSub, Nat.reduceLeDiff, Nat.reduceEqDiff, Int.reduceLT, Int.reduceLE, Int.reduceEq, Int.reduceAdd, Int.reduceSub, Int.reduceMul, Int.reduceMod, Int.reduceDiv, Int.reduceNeg, Nat.zero_le, Nat.le_refl, List.length_cons, List.length_nil, ite_true, ite_false, if_true, if_false, decide_true, decide_false, Bool.not_true, Bool.not_false, Bool.and_true, Bool.true_and, Bool.and_false, Bool.false_and, Bool.or_true, Bool.or_false, Bool.true_or, Bool.false_or, List.cons.injEq, and_true, true_and, and_false, false_and, and_self, ne_eq, not_true_eq_false, not_false_eq_true, reduceCtorEq, List.nil_append, List.cons_append, List.append_nil, List.append_assoc, e_joinW, e_joinWT, k1, k2, k3, k4, f1, f2, f3, f4, g1, g2, g3, g4, h4]
        · unfold m__law_words d__law_words
          simp only [e_rdDat, e_rdOwn, e_at0, e_atS, e_pu0, e_puS, e_var, e_c, e_op2, e_op2R, e_op2S, e_op1, e_op1S, e_opA, e_opAS, e_ofS, e_ofN, e_dB, e_toBS, e_and, e_andT, e_andF, e_or, e_orT, e_orF, e_not, e_notT, e_notF, e_notB, e_andV, e_andVT, e_andVF, e_orV, e_orVT, e_orVF, e_notV, e_notVB, e_ifE, e_ifET, e_ifEF, e_nil, e_cons, e_consR, e_consS, e_cleanN, e_cleanC, e_oN, e_oB, e_oI, e_oS, e_oT, e_oL, e_oSL, e_oOb, e_nf, e_tt, e_tup, e_tupR, e_tupB, e_items, e_itemsR, e_itemsB, e_fix, e_fixR, e_cat, e_catR, e_appN, e_appC, e_catB, e_catLL, e_catOL, e_catLO, e_catOO, e_call, e_callR, e_callB0, e_callB1, e_callB2, e_callB3, e_callB4, e_callB5, e_seq, e_seqN, e_seqR, e_seqB, e_seqC, e_seqX, e_skip, e_break, e_cont, e_set, e_setR, e_setX, e_setB, e_own, e_ownR, e_asg, e_asgR, e_nxO, e_tgT, e_putN, e_putC, e_tgN, e_tgB, e_drop, e_dropR, e_ret, e_retR, e_retX, e_retB, e_retN, e_if, e_ifT, e_ifF, e_app, e_appR, e_appB, e_frz, e_frzO, e_frzD, e_frzU, e_for, e_forR, e_forN, e_forC, e_turnB, e_turnN, e_turnC, e_turnK, e_turnR, e_turnX, e_it, e_itR, e_itA, e_itAR, e_asLst, e_asSlst, e_asTup, e_asStr, e_raise, e_run, e_endN, e_endR, e_endX, e_stC, e_st0, e_stS, e_addI, e_addS, e_addB, e_addLL, e_addOL, e_addLO, e_addOO, e_sub, e_mul, e_mod, e_div, e_neg, e_cmp, e_eqI, e_eqS, e_eqB, e_id, e_n1, e_isN, e_isI, e_isS, e_isT, e_isL, e_isB, e_isnN, e_isnI, e_isnS, e_isnT, e_isnL, e_isnB, e_ixS, e_ixT, e_ixL, e_ixSL, e_ixO, e_at_0, e_at_1, e_at_2, e_sg, e_lenS, e_lenT, e_lenL, e_lenSL, e_lenO, e_int, e_intT, e_intF, e_str, e_min, e_max, e_abs, e_m1, e_m1R, e_m1S, e_joinL, e_joinO, e_joinT, e_txN, e_txC, e_txS, e_isiS, e_isiL, e_isiTu, e_rep, e_replS, e_tabG, e_mpS, e_tabI, e_inS, e_sl, e_slR, e_slS, e_slT, e_oNone, e_oSome, e_oRI, e_slStr, e_slL, e_slSL, e_slO, e_lc, e_ca0, e_ca1, e_ca2, e_ca3, e_ca4, e_ca5, e_ca6, e_ca7, e_ca8, e_ca9, e_ca10, e_ca11, e_ca12, e_scS, e_scI, e_scB, e_scN, e_allN, e_allC, e_eqFS, e_eqFI, e_inST, e_inIT, e_index, e_spR, e_mg, e_mgS, e_smN, e_smC, eq_self, Nat.reduceLT, Nat.reduceGT, Nat.reduceAdd, Nat.reduceMul, Nat.reduceSub, Nat.reduceLeDiff, Nat.reduceEqDiff, Int.reduceLT, Int.reduceLE, Int.reduceEq, Int.reduceAdd, Int.reduceSub, Int.reduceMul, Int.reduceMod, Int.reduceDiv, Int.reduceNeg, Nat.zero_le, Nat.le_refl, List.length_cons, List.length_nil, ite_true, ite_false, if_true, if_false, decide_true, decide_false, Bool.not_true, Bool.not_false, Bool.and_true, Bool.true_and, Bool.and_false, Bool.false_and, Bool.or_true, Bool.or_false, Bool.true_or, Bool.false_or, List.cons.injEq, and_true, true_and, and_false, false_and, and_self, ne_eq, not_true_eq_false, not_false_eq_true, reduceCtorEq, List.nil_append, List.cons_append, List.append_nil, List.append_assoc, e_joinW, e_joinWT, k1, k2, k3, k4, f1, f2, f3, f4, g1, g2, g3, g4, h4]
      · obtain ⟨t0, tt⟩ := t_words ht
        have t0 : (t = []) = False := eq_false t0
        rcases tt with ⟨p, p1, p2, p3⟩ | ⟨p, q, p1, q1, p2, p3⟩
        · have p1 : (p.length ≤ 1000) = True := eq_true (by omega)
          refine ⟨jn L8 [w, L13, [c], L12, cw, p, u], ?_, ?_⟩
          · unfold m_in_words d_in_words
            simp only [e_rdDat, e_rdOwn, e_at0, e_atS, e_pu0, e_puS, e_var, e_c, e_op2, e_op2R, e_op2S, e_op1, e_op1S, e_opA, e_opAS, e_ofS, e_ofN, e_dB, e_toBS, e_and, e_andT, e_andF, e_or, e_orT, e_orF, e_not, e_notT, e_notF, e_notB, e_andV, e_andVT, e_andVF, e_orV, e_orVT, e_orVF, e_notV, e_notVB, e_ifE, e_ifET, e_ifEF, e_nil, e_cons, e_consR, e_consS, e_cleanN, e_cleanC, e_oN, e_oB, e_oI, e_oS, e_oT, e_oL, e_oSL, e_oOb, e_nf, e_tt, e_tup, e_tupR, e_tupB, e_items, e_itemsR, e_itemsB, e_fix, e_fixR, e_cat, e_catR, e_appN, e_appC, e_catB, e_catLL, e_catOL, e_catLO, e_catOO, e_call, e_callR, e_callB0, e_callB1, e_callB2, e_callB3, e_callB4, e_callB5, e_seq, e_seqN, e_seqR, e_seqB, e_seqC, e_seqX, e_skip, e_break, e_cont, e_set, e_setR, e_setX, e_setB, e_own, e_ownR, e_asg, e_asgR, e_nxO, e_tgT, e_putN, e_putC, e_tgN, e_tgB, e_drop, e_dropR, e_ret, e_retR, e_retX, e_retB, e_retN, e_if, e_ifT, e_ifF, e_app, e_appR, e_appB, e_frz, e_frzO, e_frzD, e_frzU, e_for, e_forR, e_forN, e_forC, e_turnB, e_turnN, e_turnC, e_turnK, e_turnR, e_turnX, e_it, e_itR, e_itA, e_itAR, e_asLst, e_asSlst, e_asTup, e_asStr, e_raise, e_run, e_endN, e_endR, e_endX, e_stC, e_st0, e_stS, e_addI, e_addS, e_addB, e_addLL, e_addOL, e_addLO, e_addOO, e_sub, e_mul, e_mod, e_div, e_neg, e_cmp, e_eqI, e_eqS, e_eqB, e_id, e_n1, e_isN, e_isI, e_isS, e_isT, e_isL, e_isB, e_isnN, e_isnI, e_isnS, e_isnT, e_isnL, e_isnB, e_ixS, e_ixT, e_ixL, e_ixSL, e_ixO, e_at_0, e_at_1, e_at_2, e_sg, e_lenS, e_lenT, e_lenL, e_lenSL, e_lenO, e_int, e_intT, e_intF, e_str, e_min, e_max, e_abs, e_m1, e_m1R, e_m1S, e_joinL, e_joinO, e_joinT, e_txN, e_txC, e_txS, e_isiS, e_isiL, e_isiTu, e_rep, e_replS, e_tabG, e_mpS, e_tabI, e_inS, e_sl, e_slR, e_slS, e_slT, e_oNone, e_oSome, e_oRI, e_slStr, e_slL, e_slSL, e_slO, e_lc, e_ca0, e_ca1, e_ca2, e_ca3, e_ca4, e_ca5, e_ca6, e_ca7, e_ca8, e_ca9, e_ca10, e_ca11, e_ca12, e_scS, e_scI, e_scB, e_scN, e_allN, e_allC, e_eqFS, e_eqFI, e_inST, e_inIT, e_index, e_spR, e_mg, e_mgS, e_smN, e_smC, eq_self, Nat.reduceLT, Nat.reduceGT, Nat.reduceAdd, Nat.reduceMul, Nat.reduceSub, Nat.reduceLeDiff, Nat.reduceEqDiff, Int.reduceLT, Int.reduceLE, Int.reduceEq, Int.reduceAdd, Int.reduceSub, Int.reduceMul, Int.reduceMod, Int.reduceDiv, Int.reduceNeg, Nat.zero_le, Nat.le_refl, List.length_cons, List.length_nil, ite_true, ite_false, if_true, if_false, decide_true, decide_false, Bool.not_true, Bool.not_false, Bool.and_true, Bool.true_and, Bool.and_false, Bool.false_and, Bool.or_true, Bool.or_false, Bool.true_or, Bool.false_or, List.cons.injEq, and_true, true_and, and_false, false_and, and_self, ne_eq, not_true_eq_false, not_false_eq_true, reduceCtorEq, List.nil_append, List.cons_append, List.append_nil, List.append_assoc, e_joinW, e_joinWT, k1, k2, k3, k4, f1, f2, f3, f4, g1, g2, g3, g4, h4, t0, p1, p2, p3]
          · unfold m__law_words d__law_words
            simp only [e_rdDat, e_rdOwn, e_at0, e_atS, e_pu0, e_puS, e_var, e_c, e_op2, e_op2R, e_op2S, e_op1, e_op1S, e_opA, e_opAS, e_ofS, e_ofN, e_dB, e_toBS, e_and, e_andT, e_andF, e_or, e_orT, e_orF, e_not, e_notT, e_notF, e_notB, e_andV, e_andVT, e_andVF, e_orV, e_orVT, e_orVF, e_notV, e_notVB, e_ifE, e_ifET, e_ifEF, e_nil, e_cons, e_consR, e_consS, e_cleanN, e_cleanC, e_oN, e_oB, e_oI, e_oS, e_oT, e_oL, e_oSL, e_oOb, e_nf, e_tt, e_tup, e_tupR, e_tupB, e_items, e_itemsR, e_itemsB, e_fix, e_fixR, e_cat, e_catR, e_appN, e_appC, e_catB, e_catLL, e_catOL, e_catLO, e_catOO, e_call, e_callR, e_callB0, e_callB1, e_callB2, e_callB3, e_callB4, e_callB5, e_seq, e_seqN, e_seqR, e_seqB, e_seqC, e_seqX, e_skip, e_break, e_cont, e_set, e_setR, e_setX, e_setB, e_own, e_ownR, e_asg, e_asgR, e_nxO, e_tgT, e_putN, e_putC, e_tgN, e_tgB, e_drop, e_dropR, e_ret, e_retR, e_retX, e_retB, e_retN, e_if, e_ifT, e_ifF, e_app, e_appR, e_appB, e_frz, e_frzO, e_frzD, e_frzU, e_for, e_forR, e_forN, e_forC, e_turnB, e_turnN, e_turnC, e_turnK, e_turnR, e_turnX, e_it, e_itR, e_itA, e_itAR, e_asLst, e_asSlst, e_asTup, e_asStr, e_raise, e_run, e_endN, e_endR, e_endX, e_stC, e_st0, e_stS, e_addI, e_addS, e_addB, e_addLL, e_addOL, e_addLO, e_addOO, e_sub, e_mul, e_mod, e_div, e_neg, e_cmp, e_eqI, e_eqS, e_eqB, e_id, e_n1, e_isN, e_isI, e_isS, e_isT, e_isL, e_isB, e_isnN, e_isnI, e_isnS, e_isnT, e_isnL, e_isnB, e_ixS, e_ixT, e_ixL, e_ixSL, e_ixO, e_at_0, e_at_1, e_at_2, e_sg, e_lenS, e_lenT, e_lenL, e_lenSL, e_lenO, e_int, e_intT, e_intF, e_str, e_min, e_max, e_abs, e_m1, e_m1R, e_m1S, e_joinL, e_joinO, e_joinT, e_txN, e_txC, e_txS, e_isiS, e_isiL, e_isiTu, e_rep, e_replS, e_tabG, e_mpS, e_tabI, e_inS, e_sl, e_slR, e_slS, e_slT, e_oNone, e_oSome, e_oRI, e_slStr, e_slL, e_slSL, e_slO, e_lc, e_ca0, e_ca1, e_ca2, e_ca3, e_ca4, e_ca5, e_ca6, e_ca7, e_ca8, e_ca9, e_ca10, e_ca11, e_ca12, e_scS, e_scI, e_scB, e_scN, e_allN, e_allC, e_eqFS, e_eqFI, e_inST, e_inIT, e_index, e_spR, e_mg, e_mgS, e_smN, e_smC, eq_self, Nat.reduceLT, Nat.reduceGT, Nat.reduceAdd, Nat.reduceMul, Nat.reduceSub, Nat.reduceLeDiff, Nat.reduceEqDiff, Int.reduceLT, Int.reduceLE, Int.reduceEq, Int.reduceAdd, Int.reduceSub, Int.reduceMul, Int.reduceMod, Int.reduceDiv, Int.reduceNeg, Nat.zero_le, Nat.le_refl, List.length_cons, List.length_nil, ite_true, ite_false, if_true, if_false, decide_true, decide_false, Bool.not_true, Bool.not_false, Bool.and_true, Bool.true_and, Bool.and_false, Bool.false_and, Bool.or_true, Bool.or_false, Bool.true_or, Bool.false_or, List.cons.injEq, and_true, true_and, and_false, false_and, and_self, ne_eq, not_true_eq_false, not_false_eq_true, reduceCtorEq, List.nil_append, List.cons_append, List.append_nil, List.append_assoc, e_joinW, e_joinWT, k1, k2, k3, k4, f1, f2, f3, f4, g1, g2, g3, g4, h4, t0, p1, p2, p3]
        · have p1 : (p.length ≤ 1000) = True := eq_true (by omega)
          have q1 : (q.length ≤ 1000) = True := eq_true (by omega)
          refine ⟨jn L8 [w, L13, [c], L12, cw, p, q, u], ?_, ?_⟩
          · unfold m_in_words d_in_words
            simp only [e_rdDat, e_rdOwn, e_at0, e_atS, e_pu0, e_puS, e_var, e_c, e_op2, e_op2R, e_op2S, e_op1, e_op1S, e_opA, e_opAS, e_ofS, e_ofN, e_dB, e_toBS, e_and, e_andT, e_andF, e_or, e_orT, e_orF, e_not, e_notT, e_notF, e_notB, e_andV, e_andVT, e_andVF, e_orV, e_orVT, e_orVF, e_notV, e_notVB, e_ifE, e_ifET, e_ifEF, e_nil, e_cons, e_consR, e_consS, e_cleanN, e_cleanC, e_oN, e_oB, e_oI, e_oS, e_oT, e_oL, e_oSL, e_oOb, e_nf, e_tt, e_tup, e_tupR, e_tupB, e_items, e_itemsR, e_itemsB, e_fix, e_fixR, e_cat, e_catR, e_appN, e_appC, e_catB, e_catLL, e_catOL, e_catLO, e_catOO, e_call, e_callR, e_callB0, e_callB1, e_callB2, e_callB3, e_callB4, e_callB5, e_seq, e_seqN, e_seqR, e_seqB, e_seqC, e_seqX, e_skip, e_break, e_cont, e_set, e_setR, e_setX, e_setB, e_own, e_ownR, e_asg, e_asgR, e_nxO, e_tgT, e_putN, e_putC, e_tgN, e_tgB, e_drop, e_dropR, e_ret, e_retR, e_retX, e_retB, e_retN, e_if, e_ifT, e_ifF, e_app, e_appR, e_appB, e_frz, e_frzO, e_frzD, e_frzU, e_for, e_forR, e_forN, e_forC, e_turnB, e_turnN, e_turnC, e_turnK, e_turnR, e_turnX, e_it, e_itR, e_itA, e_itAR, e_asLst, e_asSlst, e_asTup, e_asStr, e_raise, e_run, e_endN, e_endR, e_endX, e_stC, e_st0, e_stS, e_addI, e_addS, e_addB, e_addLL, e_addOL, e_addLO, e_addOO, e_sub, e_mul, e_mod, e_div, e_neg, e_cmp, e_eqI, e_eqS, e_eqB, e_id, e_n1, e_isN, e_isI, e_isS, e_isT, e_isL, e_isB, e_isnN, e_isnI, e_isnS, e_isnT, e_isnL, e_isnB, e_ixS, e_ixT, e_ixL, e_ixSL, e_ixO, e_at_0, e_at_1, e_at_2, e_sg, e_lenS, e_lenT, e_lenL, e_lenSL, e_lenO, e_int, e_intT, e_intF, e_str, e_min, e_max, e_abs, e_m1, e_m1R, e_m1S, e_joinL, e_joinO, e_joinT, e_txN, e_txC, e_txS, e_isiS, e_isiL, e_isiTu, e_rep, e_replS, e_tabG, e_mpS, e_tabI, e_inS, e_sl, e_slR, e_slS, e_slT, e_oNone, e_oSome, e_oRI, e_slStr, e_slL, e_slSL, e_slO, e_lc, e_ca0, e_ca1, e_ca2, e_ca3, e_ca4, e_ca5, e_ca6, e_ca7, e_ca8, e_ca9, e_ca10, e_ca11, e_ca12, e_scS, e_scI, e_scB, e_scN, e_allN, e_allC, e_eqFS, e_eqFI, e_inST, e_inIT, e_index, e_spR, e_mg, e_mgS, e_smN, e_smC, eq_self, Nat.reduceLT, Nat.reduceGT, Nat.reduceAdd, Nat.reduceMul, Nat.reduceSub, Nat.reduceLeDiff, Nat.reduceEqDiff, Int.reduceLT, Int.reduceLE, Int.reduceEq, Int.reduceAdd, Int.reduceSub, Int.reduceMul, Int.reduceMod, Int.reduceDiv, Int.reduceNeg, Nat.zero_le, Nat.le_refl, List.length_cons, List.length_nil, ite_true, ite_false, if_true, if_false, decide_true, decide_false, Bool.not_true, Bool.not_false, Bool.and_true, Bool.true_and, Bool.and_false, Bool.false_and, Bool.or_true, Bool.or_false, Bool.true_or, Bool.false_or, List.cons.injEq, and_true, true_and, and_false, false_and, and_self, ne_eq, not_true_eq_false, not_false_eq_true, reduceCtorEq, List.nil_append, List.cons_append, List.append_nil, List.append_assoc, e_joinW, e_joinWT, k1, k2, k3, k4, f1, f2, f3, f4, g1, g2, g3, g4, h4, t0, p1, q1, p2, p3]
          · unfold m__law_words d__law_words
            simp only [e_rdDat, e_rdOwn, e_at0, e_atS, e_pu0, e_puS, e_var, e_c, e_op2, e_op2R, e_op2S, e_op1, e_op1S, e_opA, e_opAS, e_ofS, e_ofN, e_dB, e_toBS, e_and, e_andT, e_andF, e_or, e_orT, e_orF, e_not, e_notT, e_notF, e_notB, e_andV, e_andVT, e_andVF, e_orV, e_orVT, e_orVF, e_notV, e_notVB, e_ifE, e_ifET, e_ifEF, e_nil, e_cons, e_consR, e_consS, e_cleanN, e_cleanC, e_oN, e_oB, e_oI, e_oS, e_oT, e_oL, e_oSL, e_oOb, e_nf, e_tt, e_tup, e_tupR, e_tupB, e_items, e_itemsR, e_itemsB, e_fix, e_fixR, e_cat, e_catR, e_appN, e_appC, e_catB, e_catLL, e_catOL, e_catLO, e_catOO, e_call, e_callR, e_callB0, e_callB1, e_callB2, e_callB3, e_callB4, e_callB5, e_seq, e_seqN, e_seqR, e_seqB, e_seqC, e_seqX, e_skip, e_break, e_cont, e_set, e_setR, e_setX, e_setB, e_own, e_ownR, e_asg, e_asgR, e_nxO, e_tgT, e_putN, e_putC, e_tgN, e_tgB, e_drop, e_dropR, e_ret, e_retR, e_retX, e_retB, e_retN, e_if, e_ifT, e_ifF, e_app, e_appR, e_appB, e_frz, e_frzO, e_frzD, e_frzU, e_for, e_forR, e_forN, e_forC, e_turnB, e_turnN, e_turnC, e_turnK, e_turnR, e_turnX, e_it, e_itR, e_itA, e_itAR, e_asLst, e_asSlst, e_asTup, e_asStr, e_raise, e_run, e_endN, e_endR, e_endX, e_stC, e_st0, e_stS, e_addI, e_addS, e_addB, e_addLL, e_addOL, e_addLO, e_addOO, e_sub, e_mul, e_mod, e_div, e_neg, e_cmp, e_eqI, e_eqS, e_eqB, e_id, e_n1, e_isN, e_isI, e_isS, e_isT, e_isL, e_isB, e_isnN, e_isnI, e_isnS, e_isnT, e_isnL, e_isnB, e_ixS, e_ixT, e_ixL, e_ixSL, e_ixO, e_at_0, e_at_1, e_at_2, e_sg, e_lenS, e_lenT, e_lenL, e_lenSL, e_lenO, e_int, e_intT, e_intF, e_str, e_min, e_max, e_abs, e_m1, e_m1R, e_m1S, e_joinL, e_joinO, e_joinT, e_txN, e_txC, e_txS, e_isiS, e_isiL, e_isiTu, e_rep, e_replS, e_tabG, e_mpS, e_tabI, e_inS, e_sl, e_slR, e_slS, e_slT, e_oNone, e_oSome, e_oRI, e_slStr, e_slL, e_slSL, e_slO, e_lc, e_ca0, e_ca1, e_ca2, e_ca3, e_ca4, e_ca5, e_ca6, e_ca7, e_ca8, e_ca9, e_ca10, e_ca11, e_ca12, e_scS, e_scI, e_scB, e_scN, e_allN, e_allC, e_eqFS, e_eqFI, e_inST, e_inIT, e_index, e_spR, e_mg, e_mgS, e_smN, e_smC, eq_self, Nat.reduceLT, Nat.reduceGT, Nat.reduceAdd, Nat.reduceMul, Nat.reduceSub, Nat.reduceLeDiff, Nat.reduceEqDiff, Int.reduceLT, Int.reduceLE, Int.reduceEq, Int.reduceAdd, Int.reduceSub, Int.reduceMul, Int.reduceMod, Int.reduceDiv, Int.reduceNeg, Nat.zero_le, Nat.le_refl, List.length_cons, List.length_nil, ite_true, ite_false, if_true, if_false, decide_true, decide_false, Bool.not_true, Bool.not_false, Bool.and_true, Bool.true_and, Bool.and_false, Bool.false_and, Bool.or_true, Bool.or_false, Bool.true_or, Bool.false_or, List.cons.injEq, and_true, true_and, and_false, false_and, and_self, ne_eq, not_true_eq_false, not_false_eq_true, reduceCtorEq, List.nil_append, List.cons_append, List.append_nil, List.append_assoc, e_joinW, e_joinWT, k1, k2, k3, k4, f1, f2, f3, f4, g1, g2, g3, g4, h4, t0, p1, q1, p2, p3]
theorem words4 {sh v t y : List Nat} {k : D} (hsh : sh = [] ∨ ∃ c, sh = [c]) (hk : k = .non ∨ ∃ i : Int, 0 ≤ i ∧ i ≤ 1000 ∧ k = .int i) (ht : t = [] ∨ GoodT t) (hv : v ∈ [L36, L35, L34, L33, L32, L31, L30, L37, L24, L23, L43, L42, L41, L40, L39, L38, L22]) (hy : y = []) : ∃ x, m_in_words [.tup [.str sh, k, .str v, .str t, .str y]] = .ok (.str x) ∧ m__law_words [.tup [.str sh, k, .str v, .str t, .str y]] = .ok (.str x) := by
  subst hy
  obtain ⟨h0, h1, h2, h3, h4⟩ := other_verb hv
  obtain ⟨w, i, f1, f2, f3, f4⟩ := verb_ok h0
  rcases cnt_ok hk with ⟨k1, k2⟩ | ⟨cw, k1, k2, k3, k4⟩
  · rcases hsh with rfl | ⟨c, rfl⟩
    · rcases ht with rfl | ht
      · skip
        refine ⟨jn L8 [w], ?_, ?_⟩
        · unfold m_in_words d_in_words
          simp only [e_rdDat, e_rdOwn, e_at0, e_atS, e_pu0, e_puS, e_var, e_c, e_op2, e_op2R, e_op2S, e_op1, e_op1S, e_opA, e_opAS, e_ofS, e_ofN, e_dB, e_toBS, e_and, e_andT, e_andF, e_or, e_orT, e_orF, e_not, e_notT, e_notF, e_notB, e_andV, e_andVT, e_andVF, e_orV, e_orVT, e_orVF, e_notV, e_notVB, e_ifE, e_ifET, e_ifEF, e_nil, e_cons, e_consR, e_consS, e_cleanN, e_cleanC, e_oN, e_oB, e_oI, e_oS, e_oT, e_oL, e_oSL, e_oOb, e_nf, e_tt, e_tup, e_tupR, e_tupB, e_items, e_itemsR, e_itemsB, e_fix, e_fixR, e_cat, e_catR, e_appN, e_appC, e_catB, e_catLL, e_catOL, e_catLO, e_catOO, e_call, e_callR, e_callB0, e_callB1, e_callB2, e_callB3, e_callB4, e_callB5, e_seq, e_seqN, e_seqR, e_seqB, e_seqC, e_seqX, e_skip, e_break, e_cont, e_set, e_setR, e_setX, e_setB, e_own, e_ownR, e_asg, e_asgR, e_nxO, e_tgT, e_putN, e_putC, e_tgN, e_tgB, e_drop, e_dropR, e_ret, e_retR, e_retX, e_retB, e_retN, e_if, e_ifT, e_ifF, e_app, e_appR, e_appB, e_frz, e_frzO, e_frzD, e_frzU, e_for, e_forR, e_forN, e_forC, e_turnB, e_turnN, e_turnC, e_turnK, e_turnR, e_turnX, e_it, e_itR, e_itA, e_itAR, e_asLst, e_asSlst, e_asTup, e_asStr, e_raise, e_run, e_endN, e_endR, e_endX, e_stC, e_st0, e_stS, e_addI, e_addS, e_addB, e_addLL, e_addOL, e_addLO, e_addOO, e_sub, e_mul, e_mod, e_div, e_neg, e_cmp, e_eqI, e_eqS, e_eqB, e_id, e_n1, e_isN, e_isI, e_isS, e_isT, e_isL, e_isB, e_isnN, e_isnI, e_isnS, e_isnT, e_isnL, e_isnB, e_ixS, e_ixT, e_ixL, e_ixSL, e_ixO, e_at_0, e_at_1, e_at_2, e_sg, e_lenS, e_lenT, e_lenL, e_lenSL, e_lenO, e_int, e_intT, e_intF, e_str, e_min, e_max, e_abs, e_m1, e_m1R, e_m1S, e_joinL, e_joinO, e_joinT, e_txN, e_txC, e_txS, e_isiS, e_isiL, e_isiTu, e_rep, e_replS, e_tabG, e_mpS, e_tabI, e_inS, e_sl, e_slR, e_slS, e_slT, e_oNone, e_oSome, e_oRI, e_slStr, e_slL, e_slSL, e_slO, e_lc, e_ca0, e_ca1, e_ca2, e_ca3, e_ca4, e_ca5, e_ca6, e_ca7, e_ca8, e_ca9, e_ca10, e_ca11, e_ca12, e_scS, e_scI, e_scB, e_scN, e_allN, e_allC, e_eqFS, e_eqFI, e_inST, e_inIT, e_index, e_spR, e_mg, e_mgS, e_smN, e_smC, eq_self, Nat.reduceLT, Nat.reduceGT, Nat.reduceAdd, Nat.reduceMul, Nat.reduceSub, Nat.reduceLeDiff, Nat.reduceEqDiff, Int.reduceLT, Int.reduceLE, Int.reduceEq, Int.reduceAdd, Int.reduceSub, Int.reduceMul, Int.reduceMod, Int.reduceDiv, Int.reduceNeg, Nat.zero_le, Nat.le_refl, List.length_cons, List.length_nil, ite_true, ite_false, if_true, if_false, decide_true, decide_false, Bool.not_true, Bool.not_false, Bool.and_true, Bool.true_and, Bool.and_false, Bool.false_and, Bool.or_true, Bool.or_false, Bool.true_or, Bool.false_or, List.cons.injEq, and_true, true_and, and_false, false_and, and_self, ne_eq, not_true_eq_false, not_false_eq_true, reduceCtorEq, List.nil_append, List.cons_append, List.append_nil, List.append_assoc, e_joinW, e_joinWT, k1, k2, h1, h2, h3, h4, f1, f2, f3, f4]
        · unfold m__law_words d__law_words
          simp only [e_rdDat, e_rdOwn, e_at0, e_atS, e_pu0, e_puS, e_var, e_c, e_op2, e_op2R, e_op2S, e_op1, e_op1S, e_opA, e_opAS, e_ofS, e_ofN, e_dB, e_toBS, e_and, e_andT, e_andF, e_or, e_orT, e_orF, e_not, e_notT, e_notF, e_notB, e_andV, e_andVT, e_andVF, e_orV, e_orVT, e_orVF, e_notV, e_notVB, e_ifE, e_ifET, e_ifEF, e_nil, e_cons, e_consR, e_consS, e_cleanN, e_cleanC, e_oN, e_oB, e_oI, e_oS, e_oT, e_oL, e_oSL, e_oOb, e_nf, e_tt, e_tup, e_tupR, e_tupB, e_items, e_itemsR, e_itemsB, e_fix, e_fixR, e_cat, e_catR, e_appN, e_appC, e_catB, e_catLL, e_catOL, e_catLO, e_catOO, e_call, e_callR, e_callB0, e_callB1, e_callB2, e_callB3, e_callB4, e_callB5, e_seq, e_seqN, e_seqR, e_seqB, e_seqC, e_seqX, e_skip, e_break, e_cont, e_set, e_setR, e_setX, e_setB, e_own, e_ownR, e_asg, e_asgR, e_nxO, e_tgT, e_putN, e_putC, e_tgN, e_tgB, e_drop, e_dropR, e_ret, e_retR, e_retX, e_retB, e_retN, e_if, e_ifT, e_ifF, e_app, e_appR, e_appB, e_frz, e_frzO, e_frzD, e_frzU, e_for, e_forR, e_forN, e_forC, e_turnB, e_turnN, e_turnC, e_turnK, e_turnR, e_turnX, e_it, e_itR, e_itA, e_itAR, e_asLst, e_asSlst, e_asTup, e_asStr, e_raise, e_run, e_endN, e_endR, e_endX, e_stC, e_st0, e_stS, e_addI, e_addS, e_addB, e_addLL, e_addOL, e_addLO, e_addOO, e_sub, e_mul, e_mod, e_div, e_neg, e_cmp, e_eqI, e_eqS, e_eqB, e_id, e_n1, e_isN, e_isI, e_isS, e_isT, e_isL, e_isB, e_isnN, e_isnI, e_isnS, e_isnT, e_isnL, e_isnB, e_ixS, e_ixT, e_ixL, e_ixSL, e_ixO, e_at_0, e_at_1, e_at_2, e_sg, e_lenS, e_lenT, e_lenL, e_lenSL, e_lenO, e_int, e_intT, e_intF, e_str, e_min, e_max, e_abs, e_m1, e_m1R, e_m1S, e_joinL, e_joinO, e_joinT, e_txN, e_txC, e_txS, e_isiS, e_isiL, e_isiTu, e_rep, e_replS, e_tabG, e_mpS, e_tabI, e_inS, e_sl, e_slR, e_slS, e_slT, e_oNone, e_oSome, e_oRI, e_slStr, e_slL, e_slSL, e_slO, e_lc, e_ca0, e_ca1, e_ca2, e_ca3, e_ca4, e_ca5, e_ca6, e_ca7, e_ca8, e_ca9, e_ca10, e_ca11, e_ca12, e_scS, e_scI, e_scB, e_scN, e_allN, e_allC, e_eqFS, e_eqFI, e_inST, e_inIT, e_index, e_spR, e_mg, e_mgS, e_smN, e_smC, eq_self, Nat.reduceLT, Nat.reduceGT, Nat.reduceAdd, Nat.reduceMul, Nat.reduceSub, Nat.reduceLeDiff, Nat.reduceEqDiff, Int.reduceLT, Int.reduceLE, Int.reduceEq, Int.reduceAdd, Int.reduceSub, Int.reduceMul, Int.reduceMod, Int.reduceDiv, Int.reduceNeg, Nat.zero_le, Nat.le_refl, List.length_cons, List.length_nil, ite_true, ite_false, if_true, if_false, decide_true, decide_false, Bool.not_true, Bool.not_false, Bool.and_true, Bool.true_and, Bool.and_false, Bool.false_and, Bool.or_true, Bool.or_false, Bool.true_or, Bool.false_or, List.cons.injEq, and_true, true_and, and_false, false_and, and_self, ne_eq, not_true_eq_false, not_false_eq_true, reduceCtorEq, List.nil_append, List.cons_append, List.append_nil, List.append_assoc, e_joinW, e_joinWT, k1, k2, h1, h2, h3, h4, f1, f2, f3, f4]
      · obtain ⟨t0, tt⟩ := t_words ht
        have t0 : (t = []) = False := eq_false t0
        rcases tt with ⟨p, p1, p2, p3⟩ | ⟨p, q, p1, q1, p2, p3⟩
        · have p1 : (p.length ≤ 1000) = True := eq_true (by omega)
          refine ⟨jn L8 [w, p], ?_, ?_⟩
          · unfold m_in_words d_in_words
            simp only [e_rdDat, e_rdOwn, e_at0, e_atS, e_pu0, e_puS, e_var, e_c, e_op2, e_op2R, e_op2S, e_op1, e_op1S, e_opA, e_opAS, e_ofS, e_ofN, e_dB, e_toBS, e_and, e_andT, e_andF, e_or, e_orT, e_orF, e_not, e_notT, e_notF, e_notB, e_andV, e_andVT, e_andVF, e_orV, e_orVT, e_orVF, e_notV, e_notVB, e_ifE, e_ifET, e_ifEF, e_nil, e_cons, e_consR, e_consS, e_cleanN, e_cleanC, e_oN, e_oB, e_oI, e_oS, e_oT, e_oL, e_oSL, e_oOb, e_nf, e_tt, e_tup, e_tupR, e_tupB, e_items, e_itemsR, e_itemsB, e_fix, e_fixR, e_cat, e_catR, e_appN, e_appC, e_catB, e_catLL, e_catOL, e_catLO, e_catOO, e_call, e_callR, e_callB0, e_callB1, e_callB2, e_callB3, e_callB4, e_callB5, e_seq, e_seqN, e_seqR, e_seqB, e_seqC, e_seqX, e_skip, e_break, e_cont, e_set, e_setR, e_setX, e_setB, e_own, e_ownR, e_asg, e_asgR, e_nxO, e_tgT, e_putN, e_putC, e_tgN, e_tgB, e_drop, e_dropR, e_ret, e_retR, e_retX, e_retB, e_retN, e_if, e_ifT, e_ifF, e_app, e_appR, e_appB, e_frz, e_frzO, e_frzD, e_frzU, e_for, e_forR, e_forN, e_forC, e_turnB, e_turnN, e_turnC, e_turnK, e_turnR, e_turnX, e_it, e_itR, e_itA, e_itAR, e_asLst, e_asSlst, e_asTup, e_asStr, e_raise, e_run, e_endN, e_endR, e_endX, e_stC, e_st0, e_stS, e_addI, e_addS, e_addB, e_addLL, e_addOL, e_addLO, e_addOO, e_sub, e_mul, e_mod, e_div, e_neg, e_cmp, e_eqI, e_eqS, e_eqB, e_id, e_n1, e_isN, e_isI, e_isS, e_isT, e_isL, e_isB, e_isnN, e_isnI, e_isnS, e_isnT, e_isnL, e_isnB, e_ixS, e_ixT, e_ixL, e_ixSL, e_ixO, e_at_0, e_at_1, e_at_2, e_sg, e_lenS, e_lenT, e_lenL, e_lenSL, e_lenO, e_int, e_intT, e_intF, e_str, e_min, e_max, e_abs, e_m1, e_m1R, e_m1S, e_joinL, e_joinO, e_joinT, e_txN, e_txC, e_txS, e_isiS, e_isiL, e_isiTu, e_rep, e_replS, e_tabG, e_mpS, e_tabI, e_inS, e_sl, e_slR, e_slS, e_slT, e_oNone, e_oSome, e_oRI, e_slStr, e_slL, e_slSL, e_slO, e_lc, e_ca0, e_ca1, e_ca2, e_ca3, e_ca4, e_ca5, e_ca6, e_ca7, e_ca8, e_ca9, e_ca10, e_ca11, e_ca12, e_scS, e_scI, e_scB, e_scN, e_allN, e_allC, e_eqFS, e_eqFI, e_inST, e_inIT, e_index, e_spR, e_mg, e_mgS, e_smN, e_smC, eq_self, Nat.reduceLT, Nat.reduceGT, Nat.reduceAdd, Nat.reduceMul, Nat.reduceSub, Nat.reduceLeDiff, Nat.reduceEqDiff, Int.reduceLT, Int.reduceLE, Int.reduceEq, Int.reduceAdd, Int.reduceSub, Int.reduceMul, Int.reduceMod, Int.reduceDiv, Int.reduceNeg, Nat.zero_le, Nat.le_refl, List.length_cons, List.length_nil, ite_true, ite_false, if_true, if_false, decide_true, decide_false, Bool.not_true, Bool.not_false, Bool.and_true, Bool.true_and, Bool.and_false, Bool.false_and, Bool.or_true, Bool.or_false, Bool.true_or, Bool.false_or, List.cons.injEq, and_true, true_and, and_false, false_and, and_self, ne_eq, not_true_eq_false, not_false_eq_true, reduceCtorEq, List.nil_append, List.cons_append, List.append_nil, List.append_assoc, e_joinW, e_joinWT, k1, k2, h1, h2, h3, h4, f1, f2, f3, f4, t0, p1, p2, p3]
          · unfold m__law_words d__law_words
            simp only [e_rdDat, e_rdOwn, e_at0, e_atS, e_pu0, e_puS, e_var, e_c, e_op2, e_op2R, e_op2S, e_op1, e_op1S, e_opA, e_opAS, e_ofS, e_ofN, e_dB, e_toBS, e_and, e_andT, e_andF, e_or, e_orT, e_orF, e_not, e_notT, e_notF, e_notB, e_andV, e_andVT, e_andVF, e_orV, e_orVT, e_orVF, e_notV, e_notVB, e_ifE, e_ifET, e_ifEF, e_nil, e_cons, e_consR, e_consS, e_cleanN, e_cleanC, e_oN, e_oB, e_oI, e_oS, e_oT, e_oL, e_oSL, e_oOb, e_nf, e_tt, e_tup, e_tupR, e_tupB, e_items, e_itemsR, e_itemsB, e_fix, e_fixR, e_cat, e_catR, e_appN, e_appC, e_catB, e_catLL, e_catOL, e_catLO, e_catOO, e_call, e_callR, e_callB0, e_callB1, e_callB2, e_callB3, e_callB4, e_callB5, e_seq, e_seqN, e_seqR, e_seqB, e_seqC, e_seqX, e_skip, e_break, e_cont, e_set, e_setR, e_setX, e_setB, e_own, e_ownR, e_asg, e_asgR, e_nxO, e_tgT, e_putN, e_putC, e_tgN, e_tgB, e_drop, e_dropR, e_ret, e_retR, e_retX, e_retB, e_retN, e_if, e_ifT, e_ifF, e_app, e_appR, e_appB, e_frz, e_frzO, e_frzD, e_frzU, e_for, e_forR, e_forN, e_forC, e_turnB, e_turnN, e_turnC, e_turnK, e_turnR, e_turnX, e_it, e_itR, e_itA, e_itAR, e_asLst, e_asSlst, e_asTup, e_asStr, e_raise, e_run, e_endN, e_endR, e_endX, e_stC, e_st0, e_stS, e_addI, e_addS, e_addB, e_addLL, e_addOL, e_addLO, e_addOO, e_sub, e_mul, e_mod, e_div, e_neg, e_cmp, e_eqI, e_eqS, e_eqB, e_id, e_n1, e_isN, e_isI, e_isS, e_isT, e_isL, e_isB, e_isnN, e_isnI, e_isnS, e_isnT, e_isnL, e_isnB, e_ixS, e_ixT, e_ixL, e_ixSL, e_ixO, e_at_0, e_at_1, e_at_2, e_sg, e_lenS, e_lenT, e_lenL, e_lenSL, e_lenO, e_int, e_intT, e_intF, e_str, e_min, e_max, e_abs, e_m1, e_m1R, e_m1S, e_joinL, e_joinO, e_joinT, e_txN, e_txC, e_txS, e_isiS, e_isiL, e_isiTu, e_rep, e_replS, e_tabG, e_mpS, e_tabI, e_inS, e_sl, e_slR, e_slS, e_slT, e_oNone, e_oSome, e_oRI, e_slStr, e_slL, e_slSL, e_slO, e_lc, e_ca0, e_ca1, e_ca2, e_ca3, e_ca4, e_ca5, e_ca6, e_ca7, e_ca8, e_ca9, e_ca10, e_ca11, e_ca12, e_scS, e_scI, e_scB, e_scN, e_allN, e_allC, e_eqFS, e_eqFI, e_inST, e_inIT, e_index, e_spR, e_mg, e_mgS, e_smN, e_smC, eq_self, Nat.reduceLT, Nat.reduceGT, Nat.reduceAdd, Nat.reduceMul, Nat.reduceSub, Nat.reduceLeDiff, Nat.reduceEqDiff, Int.reduceLT, Int.reduceLE, Int.reduceEq, Int.reduceAdd, Int.reduceSub, Int.reduceMul, Int.reduceMod, Int.reduceDiv, Int.reduceNeg, Nat.zero_le, Nat.le_refl, List.length_cons, List.length_nil, ite_true, ite_false, if_true, if_false, decide_true, decide_false, Bool.not_true, Bool.not_false, Bool.and_true, Bool.true_and, Bool.and_false, Bool.false_and, Bool.or_true, Bool.or_false, Bool.true_or, Bool.false_or, List.cons.injEq, and_true, true_and, and_false, false_and, and_self, ne_eq, not_true_eq_false, not_false_eq_true, reduceCtorEq, List.nil_append, List.cons_append, List.append_nil, List.append_assoc, e_joinW, e_joinWT, k1, k2, h1, h2, h3, h4, f1, f2, f3, f4, t0, p1, p2, p3]
        · have p1 : (p.length ≤ 1000) = True := eq_true (by omega)
          have q1 : (q.length ≤ 1000) = True := eq_true (by omega)
          refine ⟨jn L8 [w, p, q], ?_, ?_⟩
          · unfold m_in_words d_in_words
            simp only [e_rdDat, e_rdOwn, e_at0, e_atS, e_pu0, e_puS, e_var, e_c, e_op2, e_op2R, e_op2S, e_op1, e_op1S, e_opA, e_opAS, e_ofS, e_ofN, e_dB, e_toBS, e_and, e_andT, e_andF, e_or, e_orT, e_orF, e_not, e_notT, e_notF, e_notB, e_andV, e_andVT, e_andVF, e_orV, e_orVT, e_orVF, e_notV, e_notVB, e_ifE, e_ifET, e_ifEF, e_nil, e_cons, e_consR, e_consS, e_cleanN, e_cleanC, e_oN, e_oB, e_oI, e_oS, e_oT, e_oL, e_oSL, e_oOb, e_nf, e_tt, e_tup, e_tupR, e_tupB, e_items, e_itemsR, e_itemsB, e_fix, e_fixR, e_cat, e_catR, e_appN, e_appC, e_catB, e_catLL, e_catOL, e_catLO, e_catOO, e_call, e_callR, e_callB0, e_callB1, e_callB2, e_callB3, e_callB4, e_callB5, e_seq, e_seqN, e_seqR, e_seqB, e_seqC, e_seqX, e_skip, e_break, e_cont, e_set, e_setR, e_setX, e_setB, e_own, e_ownR, e_asg, e_asgR, e_nxO, e_tgT, e_putN, e_putC, e_tgN, e_tgB, e_drop, e_dropR, e_ret, e_retR, e_retX, e_retB, e_retN, e_if, e_ifT, e_ifF, e_app, e_appR, e_appB, e_frz, e_frzO, e_frzD, e_frzU, e_for, e_forR, e_forN, e_forC, e_turnB, e_turnN, e_turnC, e_turnK, e_turnR, e_turnX, e_it, e_itR, e_itA, e_itAR, e_asLst, e_asSlst, e_asTup, e_asStr, e_raise, e_run, e_endN, e_endR, e_endX, e_stC, e_st0, e_stS, e_addI, e_addS, e_addB, e_addLL, e_addOL, e_addLO, e_addOO, e_sub, e_mul, e_mod, e_div, e_neg, e_cmp, e_eqI, e_eqS, e_eqB, e_id, e_n1, e_isN, e_isI, e_isS, e_isT, e_isL, e_isB, e_isnN, e_isnI, e_isnS, e_isnT, e_isnL, e_isnB, e_ixS, e_ixT, e_ixL, e_ixSL, e_ixO, e_at_0, e_at_1, e_at_2, e_sg, e_lenS, e_lenT, e_lenL, e_lenSL, e_lenO, e_int, e_intT, e_intF, e_str, e_min, e_max, e_abs, e_m1, e_m1R, e_m1S, e_joinL, e_joinO, e_joinT, e_txN, e_txC, e_txS, e_isiS, e_isiL, e_isiTu, e_rep, e_replS, e_tabG, e_mpS, e_tabI, e_inS, e_sl, e_slR, e_slS, e_slT, e_oNone, e_oSome, e_oRI, e_slStr, e_slL, e_slSL, e_slO, e_lc, e_ca0, e_ca1, e_ca2, e_ca3, e_ca4, e_ca5, e_ca6, e_ca7, e_ca8, e_ca9, e_ca10, e_ca11, e_ca12, e_scS, e_scI, e_scB, e_scN, e_allN, e_allC, e_eqFS, e_eqFI, e_inST, e_inIT, e_index, e_spR, e_mg, e_mgS, e_smN, e_smC, eq_self, Nat.reduceLT, Nat.reduceGT, Nat.reduceAdd, Nat.reduceMul, Nat.reduceSub, Nat.reduceLeDiff, Nat.reduceEqDiff, Int.reduceLT, Int.reduceLE, Int.reduceEq, Int.reduceAdd, Int.reduceSub, Int.reduceMul, Int.reduceMod, Int.reduceDiv, Int.reduceNeg, Nat.zero_le, Nat.le_refl, List.length_cons, List.length_nil, ite_true, ite_false, if_true, if_false, decide_true, decide_false, Bool.not_true, Bool.not_false, Bool.and_true, Bool.true_and, Bool.and_false, Bool.false_and, Bool.or_true, Bool.or_false, Bool.true_or, Bool.false_or, List.cons.injEq, and_true, true_and, and_false, false_and, and_self, ne_eq, not_true_eq_false, not_false_eq_true, reduceCtorEq, List.nil_append, List.cons_append, List.append_nil, List.append_assoc, e_joinW, e_joinWT, k1, k2, h1, h2, h3, h4, f1, f2, f3, f4, t0, p1, q1, p2, p3]
          · unfold m__law_words d__law_words
            simp only [e_rdDat, e_rdOwn, e_at0, e_atS, e_pu0, e_puS, e_var, e_c, e_op2, e_op2R, e_op2S, e_op1, e_op1S, e_opA, e_opAS, e_ofS, e_ofN, e_dB, e_toBS, e_and, e_andT, e_andF, e_or, e_orT, e_orF, e_not, e_notT, e_notF, e_notB, e_andV, e_andVT, e_andVF, e_orV, e_orVT, e_orVF, e_notV, e_notVB, e_ifE, e_ifET, e_ifEF, e_nil, e_cons, e_consR, e_consS, e_cleanN, e_cleanC, e_oN, e_oB, e_oI, e_oS, e_oT, e_oL, e_oSL, e_oOb, e_nf, e_tt, e_tup, e_tupR, e_tupB, e_items, e_itemsR, e_itemsB, e_fix, e_fixR, e_cat, e_catR, e_appN, e_appC, e_catB, e_catLL, e_catOL, e_catLO, e_catOO, e_call, e_callR, e_callB0, e_callB1, e_callB2, e_callB3, e_callB4, e_callB5, e_seq, e_seqN, e_seqR, e_seqB, e_seqC, e_seqX, e_skip, e_break, e_cont, e_set, e_setR, e_setX, e_setB, e_own, e_ownR, e_asg, e_asgR, e_nxO, e_tgT, e_putN, e_putC, e_tgN, e_tgB, e_drop, e_dropR, e_ret, e_retR, e_retX, e_retB, e_retN, e_if, e_ifT, e_ifF, e_app, e_appR, e_appB, e_frz, e_frzO, e_frzD, e_frzU, e_for, e_forR, e_forN, e_forC, e_turnB, e_turnN, e_turnC, e_turnK, e_turnR, e_turnX, e_it, e_itR, e_itA, e_itAR, e_asLst, e_asSlst, e_asTup, e_asStr, e_raise, e_run, e_endN, e_endR, e_endX, e_stC, e_st0, e_stS, e_addI, e_addS, e_addB, e_addLL, e_addOL, e_addLO, e_addOO, e_sub, e_mul, e_mod, e_div, e_neg, e_cmp, e_eqI, e_eqS, e_eqB, e_id, e_n1, e_isN, e_isI, e_isS, e_isT, e_isL, e_isB, e_isnN, e_isnI, e_isnS, e_isnT, e_isnL, e_isnB, e_ixS, e_ixT, e_ixL, e_ixSL, e_ixO, e_at_0, e_at_1, e_at_2, e_sg, e_lenS, e_lenT, e_lenL, e_lenSL, e_lenO, e_int, e_intT, e_intF, e_str, e_min, e_max, e_abs, e_m1, e_m1R, e_m1S, e_joinL, e_joinO, e_joinT, e_txN, e_txC, e_txS, e_isiS, e_isiL, e_isiTu, e_rep, e_replS, e_tabG, e_mpS, e_tabI, e_inS, e_sl, e_slR, e_slS, e_slT, e_oNone, e_oSome, e_oRI, e_slStr, e_slL, e_slSL, e_slO, e_lc, e_ca0, e_ca1, e_ca2, e_ca3, e_ca4, e_ca5, e_ca6, e_ca7, e_ca8, e_ca9, e_ca10, e_ca11, e_ca12, e_scS, e_scI, e_scB, e_scN, e_allN, e_allC, e_eqFS, e_eqFI, e_inST, e_inIT, e_index, e_spR, e_mg, e_mgS, e_smN, e_smC, eq_self, Nat.reduceLT, Nat.reduceGT, Nat.reduceAdd, Nat.reduceMul, Nat.reduceSub, Nat.reduceLeDiff, Nat.reduceEqDiff, Int.reduceLT, Int.reduceLE, Int.reduceEq, Int.reduceAdd, Int.reduceSub, Int.reduceMul, Int.reduceMod, Int.reduceDiv, Int.reduceNeg, Nat.zero_le, Nat.le_refl, List.length_cons, List.length_nil, ite_true, ite_false, if_true, if_false, decide_true, decide_false, Bool.not_true, Bool.not_false, Bool.and_true, Bool.true_and, Bool.and_false, Bool.false_and, Bool.or_true, Bool.or_false, Bool.true_or, Bool.false_or, List.cons.injEq, and_true, true_and, and_false, false_and, and_self, ne_eq, not_true_eq_false, not_false_eq_true, reduceCtorEq, List.nil_append, List.cons_append, List.append_nil, List.append_assoc, e_joinW, e_joinWT, k1, k2, h1, h2, h3, h4, f1, f2, f3, f4, t0, p1, q1, p2, p3]
    · rcases ht with rfl | ht
      · skip
        refine ⟨jn L8 [w, L13, [c]], ?_, ?_⟩
        · unfold m_in_words d_in_words
          simp only [e_rdDat, e_rdOwn, e_at0, e_atS, e_pu0, e_puS, e_var, e_c, e_op2, e_op2R, e_op2S, e_op1, e_op1S, e_opA, e_opAS, e_ofS, e_ofN, e_dB, e_toBS, e_and, e_andT, e_andF, e_or, e_orT, e_orF, e_not, e_notT, e_notF, e_notB, e_andV, e_andVT, e_andVF, e_orV, e_orVT, e_orVF, e_notV, e_notVB, e_ifE, e_ifET, e_ifEF, e_nil, e_cons, e_consR, e_consS, e_cleanN, e_cleanC, e_oN, e_oB, e_oI, e_oS, e_oT, e_oL, e_oSL, e_oOb, e_nf, e_tt, e_tup, e_tupR, e_tupB, e_items, e_itemsR, e_itemsB, e_fix, e_fixR, e_cat, e_catR, e_appN, e_appC, e_catB, e_catLL, e_catOL, e_catLO, e_catOO, e_call, e_callR, e_callB0, e_callB1, e_callB2, e_callB3, e_callB4, e_callB5, e_seq, e_seqN, e_seqR, e_seqB, e_seqC, e_seqX, e_skip, e_break, e_cont, e_set, e_setR, e_setX, e_setB, e_own, e_ownR, e_asg, e_asgR, e_nxO, e_tgT, e_putN, e_putC, e_tgN, e_tgB, e_drop, e_dropR, e_ret, e_retR, e_retX, e_retB, e_retN, e_if, e_ifT, e_ifF, e_app, e_appR, e_appB, e_frz, e_frzO, e_frzD, e_frzU, e_for, e_forR, e_forN, e_forC, e_turnB, e_turnN, e_turnC, e_turnK, e_turnR, e_turnX, e_it, e_itR, e_itA, e_itAR, e_asLst, e_asSlst, e_asTup, e_asStr, e_raise, e_run, e_endN, e_endR, e_endX, e_stC, e_st0, e_stS, e_addI, e_addS, e_addB, e_addLL, e_addOL, e_addLO, e_addOO, e_sub, e_mul, e_mod, e_div, e_neg, e_cmp, e_eqI, e_eqS, e_eqB, e_id, e_n1, e_isN, e_isI, e_isS, e_isT, e_isL, e_isB, e_isnN, e_isnI, e_isnS, e_isnT, e_isnL, e_isnB, e_ixS, e_ixT, e_ixL, e_ixSL, e_ixO, e_at_0, e_at_1, e_at_2, e_sg, e_lenS, e_lenT, e_lenL, e_lenSL, e_lenO, e_int, e_intT, e_intF, e_str, e_min, e_max, e_abs, e_m1, e_m1R, e_m1S, e_joinL, e_joinO, e_joinT, e_txN, e_txC, e_txS, e_isiS, e_isiL, e_isiTu, e_rep, e_replS, e_tabG, e_mpS, e_tabI, e_inS, e_sl, e_slR, e_slS, e_slT, e_oNone, e_oSome, e_oRI, e_slStr, e_slL, e_slSL, e_slO, e_lc, e_ca0, e_ca1, e_ca2, e_ca3, e_ca4, e_ca5, e_ca6, e_ca7, e_ca8, e_ca9, e_ca10, e_ca11, e_ca12, e_scS, e_scI, e_scB, e_scN, e_allN, e_allC, e_eqFS, e_eqFI, e_inST, e_inIT, e_index, e_spR, e_mg, e_mgS, e_smN, e_smC, eq_self, Nat.reduceLT, Nat.reduceGT, Nat.reduceAdd, Nat.reduceMul, Nat.reduceSub, Nat.reduceLeDiff, Nat.reduceEqDiff, Int.reduceLT, Int.reduceLE, Int.reduceEq, Int.reduceAdd, Int.reduceSub, Int.reduceMul, Int.reduceMod, Int.reduceDiv, Int.reduceNeg, Nat.zero_le, Nat.le_refl, List.length_cons, List.length_nil, ite_true, ite_false, if_true, if_false, decide_true, decide_false, Bool.not_true, Bool.not_false, Bool.and_true, Bool.true_and, Bool.and_false, Bool.false_and, Bool.or_true, Bool.or_false, Bool.true_or, Bool.false_or, List.cons.injEq, and_true, true_and, and_false, false_and, and_self, ne_eq, not_true_eq_false, not_false_eq_true, reduceCtorEq, List.nil_append, List.cons_append, List.append_nil, List.append_assoc, e_joinW, e_joinWT, k1, k2, h1, h2, h3, h4, f1, f2, f3, f4]
        · unfold m__law_words d__law_words
          simp only [e_rdDat, e_rdOwn, e_at0, e_atS, e_pu0, e_puS, e_var, e_c, e_op2, e_op2R, e_op2S, e_op1, e_op1S, e_opA, e_opAS, e_ofS, e_ofN, e_dB, e_toBS, e_and, e_andT, e_andF, e_or, e_orT, e_orF, e_not, e_notT, e_notF, e_notB, e_andV, e_andVT, e_andVF, e_orV, e_orVT, e_orVF, e_notV, e_notVB, e_ifE, e_ifET, e_ifEF, e_nil, e_cons, e_consR, e_consS, e_cleanN, e_cleanC, e_oN, e_oB, e_oI, e_oS, e_oT, e_oL, e_oSL, e_oOb, e_nf, e_tt, e_tup, e_tupR, e_tupB, e_items, e_itemsR, e_itemsB, e_fix, e_fixR, e_cat, e_catR, e_appN, e_appC, e_catB, e_catLL, e_catOL, e_catLO, e_catOO, e_call, e_callR, e_callB0, e_callB1, e_callB2, e_callB3, e_callB4, e_callB5, e_seq, e_seqN, e_seqR, e_seqB, e_seqC, e_seqX, e_skip, e_break, e_cont, e_set, e_setR, e_setX, e_setB, e_own, e_ownR, e_asg, e_asgR, e_nxO, e_tgT, e_putN, e_putC, e_tgN, e_tgB, e_drop, e_dropR, e_ret, e_retR, e_retX, e_retB, e_retN, e_if, e_ifT, e_ifF, e_app, e_appR, e_appB, e_frz, e_frzO, e_frzD, e_frzU, e_for, e_forR, e_forN, e_forC, e_turnB, e_turnN, e_turnC, e_turnK, e_turnR, e_turnX, e_it, e_itR, e_itA, e_itAR, e_asLst, e_asSlst, e_asTup, e_asStr, e_raise, e_run, e_endN, e_endR, e_endX, e_stC, e_st0, e_stS, e_addI, e_addS, e_addB, e_addLL, e_addOL, e_addLO, e_addOO, e_sub, e_mul, e_mod, e_div, e_neg, e_cmp, e_eqI, e_eqS, e_eqB, e_id, e_n1, e_isN, e_isI, e_isS, e_isT, e_isL, e_isB, e_isnN, e_isnI, e_isnS, e_isnT, e_isnL, e_isnB, e_ixS, e_ixT, e_ixL, e_ixSL, e_ixO, e_at_0, e_at_1, e_at_2, e_sg, e_lenS, e_lenT, e_lenL, e_lenSL, e_lenO, e_int, e_intT, e_intF, e_str, e_min, e_max, e_abs, e_m1, e_m1R, e_m1S, e_joinL, e_joinO, e_joinT, e_txN, e_txC, e_txS, e_isiS, e_isiL, e_isiTu, e_rep, e_replS, e_tabG, e_mpS, e_tabI, e_inS, e_sl, e_slR, e_slS, e_slT, e_oNone, e_oSome, e_oRI, e_slStr, e_slL, e_slSL, e_slO, e_lc, e_ca0, e_ca1, e_ca2, e_ca3, e_ca4, e_ca5, e_ca6, e_ca7, e_ca8, e_ca9, e_ca10, e_ca11, e_ca12, e_scS, e_scI, e_scB, e_scN, e_allN, e_allC, e_eqFS, e_eqFI, e_inST, e_inIT, e_index, e_spR, e_mg, e_mgS, e_smN, e_smC, eq_self, Nat.reduceLT, Nat.reduceGT, Nat.reduceAdd, Nat.reduceMul, Nat.reduceSub, Nat.reduceLeDiff, Nat.reduceEqDiff, Int.reduceLT, Int.reduceLE, Int.reduceEq, Int.reduceAdd, Int.reduceSub, Int.reduceMul, Int.reduceMod, Int.reduceDiv, Int.reduceNeg, Nat.zero_le, Nat.le_refl, List.length_cons, List.length_nil, ite_true, ite_false, if_true, if_false, decide_true, decide_false, Bool.not_true, Bool.not_false, Bool.and_true, Bool.true_and, Bool.and_false, Bool.false_and, Bool.or_true, Bool.or_false, Bool.true_or, Bool.false_or, List.cons.injEq, and_true, true_and, and_false, false_and, and_self, ne_eq, not_true_eq_false, not_false_eq_true, reduceCtorEq, List.nil_append, List.cons_append, List.append_nil, List.append_assoc, e_joinW, e_joinWT, k1, k2, h1, h2, h3, h4, f1, f2, f3, f4]
      · obtain ⟨t0, tt⟩ := t_words ht
        have t0 : (t = []) = False := eq_false t0
        rcases tt with ⟨p, p1, p2, p3⟩ | ⟨p, q, p1, q1, p2, p3⟩
        · have p1 : (p.length ≤ 1000) = True := eq_true (by omega)
          refine ⟨jn L8 [w, L13, [c], p], ?_, ?_⟩
          · unfold m_in_words d_in_words
            simp only [e_rdDat, e_rdOwn, e_at0, e_atS, e_pu0, e_puS, e_var, e_c, e_op2, e_op2R, e_op2S, e_op1, e_op1S, e_opA, e_opAS, e_ofS, e_ofN, e_dB, e_toBS, e_and, e_andT, e_andF, e_or, e_orT, e_orF, e_not, e_notT, e_notF, e_notB, e_andV, e_andVT, e_andVF, e_orV, e_orVT, e_orVF, e_notV, e_notVB, e_ifE, e_ifET, e_ifEF, e_nil, e_cons, e_consR, e_consS, e_cleanN, e_cleanC, e_oN, e_oB, e_oI, e_oS, e_oT, e_oL, e_oSL, e_oOb, e_nf, e_tt, e_tup, e_tupR, e_tupB, e_items, e_itemsR, e_itemsB, e_fix, e_fixR, e_cat, e_catR, e_appN, e_appC, e_catB, e_catLL, e_catOL, e_catLO, e_catOO, e_call, e_callR, e_callB0, e_callB1, e_callB2, e_callB3, e_callB4, e_callB5, e_seq, e_seqN, e_seqR, e_seqB, e_seqC, e_seqX, e_skip, e_break, e_cont, e_set, e_setR, e_setX, e_setB, e_own, e_ownR, e_asg, e_asgR, e_nxO, e_tgT, e_putN, e_putC, e_tgN, e_tgB, e_drop, e_dropR, e_ret, e_retR, e_retX, e_retB, e_retN, e_if, e_ifT, e_ifF, e_app, e_appR, e_appB, e_frz, e_frzO, e_frzD, e_frzU, e_for, e_forR, e_forN, e_forC, e_turnB, e_turnN, e_turnC, e_turnK, e_turnR, e_turnX, e_it, e_itR, e_itA, e_itAR, e_asLst, e_asSlst, e_asTup, e_asStr, e_raise, e_run, e_endN, e_endR, e_endX, e_stC, e_st0, e_stS, e_addI, e_addS, e_addB, e_addLL, e_addOL, e_addLO, e_addOO, e_sub, e_mul, e_mod, e_div, e_neg, e_cmp, e_eqI, e_eqS, e_eqB, e_id, e_n1, e_isN, e_isI, e_isS, e_isT, e_isL, e_isB, e_isnN, e_isnI, e_isnS, e_isnT, e_isnL, e_isnB, e_ixS, e_ixT, e_ixL, e_ixSL, e_ixO, e_at_0, e_at_1, e_at_2, e_sg, e_lenS, e_lenT, e_lenL, e_lenSL, e_lenO, e_int, e_intT, e_intF, e_str, e_min, e_max, e_abs, e_m1, e_m1R, e_m1S, e_joinL, e_joinO, e_joinT, e_txN, e_txC, e_txS, e_isiS, e_isiL, e_isiTu, e_rep, e_replS, e_tabG, e_mpS, e_tabI, e_inS, e_sl, e_slR, e_slS, e_slT, e_oNone, e_oSome, e_oRI, e_slStr, e_slL, e_slSL, e_slO, e_lc, e_ca0, e_ca1, e_ca2, e_ca3, e_ca4, e_ca5, e_ca6, e_ca7, e_ca8, e_ca9, e_ca10, e_ca11, e_ca12, e_scS, e_scI, e_scB, e_scN, e_allN, e_allC, e_eqFS, e_eqFI, e_inST, e_inIT, e_index, e_spR, e_mg, e_mgS, e_smN, e_smC, eq_self, Nat.reduceLT, Nat.reduceGT, Nat.reduceAdd, Nat.reduceMul, Nat.reduceSub, Nat.reduceLeDiff, Nat.reduceEqDiff, Int.reduceLT, Int.reduceLE, Int.reduceEq, Int.reduceAdd, Int.reduceSub, Int.reduceMul, Int.reduceMod, Int.reduceDiv, Int.reduceNeg, Nat.zero_le, Nat.le_refl, List.length_cons, List.length_nil, ite_true, ite_false, if_true, if_false, decide_true, decide_false, Bool.not_true, Bool.not_false, Bool.and_true, Bool.true_and, Bool.and_false, Bool.false_and, Bool.or_true, Bool.or_false, Bool.true_or, Bool.false_or, List.cons.injEq, and_true, true_and, and_false, false_and, and_self, ne_eq, not_true_eq_false, not_false_eq_true, reduceCtorEq, List.nil_append, List.cons_append, List.append_nil, List.append_assoc, e_joinW, e_joinWT, k1, k2, h1, h2, h3, h4, f1, f2, f3, f4, t0, p1, p2, p3]
          · unfold m__law_words d__law_words
            simp only [e_rdDat, e_rdOwn, e_at0, e_atS, e_pu0, e_puS, e_var, e_c, e_op2, e_op2R, e_op2S, e_op1, e_op1S, e_opA, e_opAS, e_ofS, e_ofN, e_dB, e_toBS, e_and, e_andT, e_andF, e_or, e_orT, e_orF, e_not, e_notT, e_notF, e_notB, e_andV, e_andVT, e_andVF, e_orV, e_orVT, e_orVF, e_notV, e_notVB, e_ifE, e_ifET, e_ifEF, e_nil, e_cons, e_consR, e_consS, e_cleanN, e_cleanC, e_oN, e_oB, e_oI, e_oS, e_oT, e_oL, e_oSL, e_oOb, e_nf, e_tt, e_tup, e_tupR, e_tupB, e_items, e_itemsR, e_itemsB, e_fix, e_fixR, e_cat, e_catR, e_appN, e_appC, e_catB, e_catLL, e_catOL, e_catLO, e_catOO, e_call, e_callR, e_callB0, e_callB1, e_callB2, e_callB3, e_callB4, e_callB5, e_seq, e_seqN, e_seqR, e_seqB, e_seqC, e_seqX, e_skip, e_break, e_cont, e_set, e_setR, e_setX, e_setB, e_own, e_ownR, e_asg, e_asgR, e_nxO, e_tgT, e_putN, e_putC, e_tgN, e_tgB, e_drop, e_dropR, e_ret, e_retR, e_retX, e_retB, e_retN, e_if, e_ifT, e_ifF, e_app, e_appR, e_appB, e_frz, e_frzO, e_frzD, e_frzU, e_for, e_forR, e_forN, e_forC, e_turnB, e_turnN, e_turnC, e_turnK, e_turnR, e_turnX, e_it, e_itR, e_itA, e_itAR, e_asLst, e_asSlst, e_asTup, e_asStr, e_raise, e_run, e_endN, e_endR, e_endX, e_stC, e_st0, e_stS, e_addI, e_addS, e_addB, e_addLL, e_addOL, e_addLO, e_addOO, e_sub, e_mul, e_mod, e_div, e_neg, e_cmp, e_eqI, e_eqS, e_eqB, e_id, e_n1, e_isN, e_isI, e_isS, e_isT, e_isL, e_isB, e_isnN, e_isnI, e_isnS, e_isnT, e_isnL, e_isnB, e_ixS, e_ixT, e_ixL, e_ixSL, e_ixO, e_at_0, e_at_1, e_at_2, e_sg, e_lenS, e_lenT, e_lenL, e_lenSL, e_lenO, e_int, e_intT, e_intF, e_str, e_min, e_max, e_abs, e_m1, e_m1R, e_m1S, e_joinL, e_joinO, e_joinT, e_txN, e_txC, e_txS, e_isiS, e_isiL, e_isiTu, e_rep, e_replS, e_tabG, e_mpS, e_tabI, e_inS, e_sl, e_slR, e_slS, e_slT, e_oNone, e_oSome, e_oRI, e_slStr, e_slL, e_slSL, e_slO, e_lc, e_ca0, e_ca1, e_ca2, e_ca3, e_ca4, e_ca5, e_ca6, e_ca7, e_ca8, e_ca9, e_ca10, e_ca11, e_ca12, e_scS, e_scI, e_scB, e_scN, e_allN, e_allC, e_eqFS, e_eqFI, e_inST, e_inIT, e_index, e_spR, e_mg, e_mgS, e_smN, e_smC, eq_self, Nat.reduceLT, Nat.reduceGT, Nat.reduceAdd, Nat.reduceMul, Nat.reduceSub, Nat.reduceLeDiff, Nat.reduceEqDiff, Int.reduceLT, Int.reduceLE, Int.reduceEq, Int.reduceAdd, Int.reduceSub, Int.reduceMul, Int.reduceMod, Int.reduceDiv, Int.reduceNeg, Nat.zero_le, Nat.le_refl, List.length_cons, List.length_nil, ite_true, ite_false, if_true, if_false, decide_true, decide_false, Bool.not_true, Bool.not_false, Bool.and_true, Bool.true_and, Bool.and_false, Bool.false_and, Bool.or_true, Bool.or_false, Bool.true_or, Bool.false_or, List.cons.injEq, and_true, true_and, and_false, false_and, and_self, ne_eq, not_true_eq_false, not_false_eq_true, reduceCtorEq, List.nil_append, List.cons_append, List.append_nil, List.append_assoc, e_joinW, e_joinWT, k1, k2, h1, h2, h3, h4, f1, f2, f3, f4, t0, p1, p2, p3]
        · have p1 : (p.length ≤ 1000) = True := eq_true (by omega)
          have q1 : (q.length ≤ 1000) = True := eq_true (by omega)
          refine ⟨jn L8 [w, L13, [c], p, q], ?_, ?_⟩
          · unfold m_in_words d_in_words
            simp only [e_rdDat, e_rdOwn, e_at0, e_atS, e_pu0, e_puS, e_var, e_c, e_op2, e_op2R, e_op2S, e_op1, e_op1S, e_opA, e_opAS, e_ofS, e_ofN, e_dB, e_toBS, e_and, e_andT, e_andF, e_or, e_orT, e_orF, e_not, e_notT, e_notF, e_notB, e_andV, e_andVT, e_andVF, e_orV, e_orVT, e_orVF, e_notV, e_notVB, e_ifE, e_ifET, e_ifEF, e_nil, e_cons, e_consR, e_consS, e_cleanN, e_cleanC, e_oN, e_oB, e_oI, e_oS, e_oT, e_oL, e_oSL, e_oOb, e_nf, e_tt, e_tup, e_tupR, e_tupB, e_items, e_itemsR, e_itemsB, e_fix, e_fixR, e_cat, e_catR, e_appN, e_appC, e_catB, e_catLL, e_catOL, e_catLO, e_catOO, e_call, e_callR, e_callB0, e_callB1, e_callB2, e_callB3, e_callB4, e_callB5, e_seq, e_seqN, e_seqR, e_seqB, e_seqC, e_seqX, e_skip, e_break, e_cont, e_set, e_setR, e_setX, e_setB, e_own, e_ownR, e_asg, e_asgR, e_nxO, e_tgT, e_putN, e_putC, e_tgN, e_tgB, e_drop, e_dropR, e_ret, e_retR, e_retX, e_retB, e_retN, e_if, e_ifT, e_ifF, e_app, e_appR, e_appB, e_frz, e_frzO, e_frzD, e_frzU, e_for, e_forR, e_forN, e_forC, e_turnB, e_turnN, e_turnC, e_turnK, e_turnR, e_turnX, e_it, e_itR, e_itA, e_itAR, e_asLst, e_asSlst, e_asTup, e_asStr, e_raise, e_run, e_endN, e_endR, e_endX, e_stC, e_st0, e_stS, e_addI, e_addS, e_addB, e_addLL, e_addOL, e_addLO, e_addOO, e_sub, e_mul, e_mod, e_div, e_neg, e_cmp, e_eqI, e_eqS, e_eqB, e_id, e_n1, e_isN, e_isI, e_isS, e_isT, e_isL, e_isB, e_isnN, e_isnI, e_isnS, e_isnT, e_isnL, e_isnB, e_ixS, e_ixT, e_ixL, e_ixSL, e_ixO, e_at_0, e_at_1, e_at_2, e_sg, e_lenS, e_lenT, e_lenL, e_lenSL, e_lenO, e_int, e_intT, e_intF, e_str, e_min, e_max, e_abs, e_m1, e_m1R, e_m1S, e_joinL, e_joinO, e_joinT, e_txN, e_txC, e_txS, e_isiS, e_isiL, e_isiTu, e_rep, e_replS, e_tabG, e_mpS, e_tabI, e_inS, e_sl, e_slR, e_slS, e_slT, e_oNone, e_oSome, e_oRI, e_slStr, e_slL, e_slSL, e_slO, e_lc, e_ca0, e_ca1, e_ca2, e_ca3, e_ca4, e_ca5, e_ca6, e_ca7, e_ca8, e_ca9, e_ca10, e_ca11, e_ca12, e_scS, e_scI, e_scB, e_scN, e_allN, e_allC, e_eqFS, e_eqFI, e_inST, e_inIT, e_index, e_spR, e_mg, e_mgS, e_smN, e_smC, eq_self, Nat.reduceLT, Nat.reduceGT, Nat.reduceAdd, Nat.reduceMul, Nat.reduceSub, Nat.reduceLeDiff, Nat.reduceEqDiff, Int.reduceLT, Int.reduceLE, Int.reduceEq, Int.reduceAdd, Int.reduceSub, Int.reduceMul, Int.reduceMod, Int.reduceDiv, Int.reduceNeg, Nat.zero_le, Nat.le_refl, List.length_cons, List.length_nil, ite_true, ite_false, if_true, if_false, decide_true, decide_false, Bool.not_true, Bool.not_false, Bool.and_true, Bool.true_and, Bool.and_false, Bool.false_and, Bool.or_true, Bool.or_false, Bool.true_or, Bool.false_or, List.cons.injEq, and_true, true_and, and_false, false_and, and_self, ne_eq, not_true_eq_false, not_false_eq_true, reduceCtorEq, List.nil_append, List.cons_append, List.append_nil, List.append_assoc, e_joinW, e_joinWT, k1, k2, h1, h2, h3, h4, f1, f2, f3, f4, t0, p1, q1, p2, p3]
          · unfold m__law_words d__law_words
            simp only [e_rdDat, e_rdOwn, e_at0, e_atS, e_pu0, e_puS, e_var, e_c, e_op2, e_op2R, e_op2S, e_op1, e_op1S, e_opA, e_opAS, e_ofS, e_ofN, e_dB, e_toBS, e_and, e_andT, e_andF, e_or, e_orT, e_orF, e_not, e_notT, e_notF, e_notB, e_andV, e_andVT, e_andVF, e_orV, e_orVT, e_orVF, e_notV, e_notVB, e_ifE, e_ifET, e_ifEF, e_nil, e_cons, e_consR, e_consS, e_cleanN, e_cleanC, e_oN, e_oB, e_oI, e_oS, e_oT, e_oL, e_oSL, e_oOb, e_nf, e_tt, e_tup, e_tupR, e_tupB, e_items, e_itemsR, e_itemsB, e_fix, e_fixR, e_cat, e_catR, e_appN, e_appC, e_catB, e_catLL, e_catOL, e_catLO, e_catOO, e_call, e_callR, e_callB0, e_callB1, e_callB2, e_callB3, e_callB4, e_callB5, e_seq, e_seqN, e_seqR, e_seqB, e_seqC, e_seqX, e_skip, e_break, e_cont, e_set, e_setR, e_setX, e_setB, e_own, e_ownR, e_asg, e_asgR, e_nxO, e_tgT, e_putN, e_putC, e_tgN, e_tgB, e_drop, e_dropR, e_ret, e_retR, e_retX, e_retB, e_retN, e_if, e_ifT, e_ifF, e_app, e_appR, e_appB, e_frz, e_frzO, e_frzD, e_frzU, e_for, e_forR, e_forN, e_forC, e_turnB, e_turnN, e_turnC, e_turnK, e_turnR, e_turnX, e_it, e_itR, e_itA, e_itAR, e_asLst, e_asSlst, e_asTup, e_asStr, e_raise, e_run, e_endN, e_endR, e_endX, e_stC, e_st0, e_stS, e_addI, e_addS, e_addB, e_addLL, e_addOL, e_addLO, e_addOO, e_sub, e_mul, e_mod, e_div, e_neg, e_cmp, e_eqI, e_eqS, e_eqB, e_id, e_n1, e_isN, e_isI, e_isS, e_isT, e_isL, e_isB, e_isnN, e_isnI, e_isnS, e_isnT, e_isnL, e_isnB, e_ixS, e_ixT, e_ixL, e_ixSL, e_ixO, e_at_0, e_at_1, e_at_2, e_sg, e_lenS, e_lenT, e_lenL, e_lenSL, e_lenO, e_int, e_intT, e_intF, e_str, e_min, e_max, e_abs, e_m1, e_m1R, e_m1S, e_joinL, e_joinO, e_joinT, e_txN, e_txC, e_txS, e_isiS, e_isiL, e_isiTu, e_rep, e_replS, e_tabG, e_mpS, e_tabI, e_inS, e_sl, e_slR, e_slS, e_slT, e_oNone, e_oSome, e_oRI, e_slStr, e_slL, e_slSL, e_slO, e_lc, e_ca0, e_ca1, e_ca2, e_ca3, e_ca4, e_ca5, e_ca6, e_ca7, e_ca8, e_ca9, e_ca10, e_ca11, e_ca12, e_scS, e_scI, e_scB, e_scN, e_allN, e_allC, e_eqFS, e_eqFI, e_inST, e_inIT, e_index, e_spR, e_mg, e_mgS, e_smN, e_smC, eq_self, Nat.reduceLT, Nat.reduceGT, Nat.reduceAdd, Nat.reduceMul, Nat.reduceSub, Nat.reduceLeDiff, Nat.reduceEqDiff, Int.reduceLT, Int.reduceLE, Int.reduceEq, Int.reduceAdd, Int.reduceSub, Int.reduceMul, Int.reduceMod, Int.reduceDiv, Int.reduceNeg, Nat.zero_le, Nat.le_refl, List.length_cons, List.length_nil, ite_true, ite_false, if_true, if_false, decide_true, decide_false, Bool.not_true, Bool.not_false, Bool.and_true, Bool.true_and, Bool.and_false, Bool.false_and, Bool.or_true, Bool.or_false, Bool.true_or, Bool.false_or, List.cons.injEq, and_true, true_and, and_false, false_and, and_self, ne_eq, not_true_eq_false, not_false_eq_true, reduceCtorEq, List.nil_append, List.cons_append, List.append_nil, List.append_assoc, e_joinW, e_joinWT, k1, k2, h1, h2, h3, h4, f1, f2, f3, f4, t0, p1, q1, p2, p3]
  · rcases hsh with rfl | ⟨c, rfl⟩
    · rcases ht with rfl | ht
      · skip
        refine ⟨jn L8 [w, L12, cw], ?_, ?_⟩
        · unfold m_in_words d_in_words
          simp only [e_rdDat, e_rdOwn, e_at0, e_atS, e_pu0, e_puS, e_var, e_c, e_op2, e_op2R, e_op2S, e_op1, e_op1S, e_opA, e_opAS, e_ofS, e_ofN, e_dB, e_toBS, e_and, e_andT, e_andF, e_or, e_orT, e_orF, e_not, e_notT, e_notF, e_notB, e_andV, e_andVT, e_andVF, e_orV, e_orVT, e_orVF, e_notV, e_notVB, e_ifE, e_ifET, e_ifEF, e_nil, e_cons, e_consR, e_consS, e_cleanN, e_cleanC, e_oN, e_oB, e_oI, e_oS, e_oT, e_oL, e_oSL, e_oOb, e_nf, e_tt, e_tup, e_tupR, e_tupB, e_items, e_itemsR, e_itemsB, e_fix, e_fixR, e_cat, e_catR, e_appN, e_appC, e_catB, e_catLL, e_catOL, e_catLO, e_catOO, e_call, e_callR, e_callB0, e_callB1, e_callB2, e_callB3, e_callB4, e_callB5, e_seq, e_seqN, e_seqR, e_seqB, e_seqC, e_seqX, e_skip, e_break, e_cont, e_set, e_setR, e_setX, e_setB, e_own, e_ownR, e_asg, e_asgR, e_nxO, e_tgT, e_putN, e_putC, e_tgN, e_tgB, e_drop, e_dropR, e_ret, e_retR, e_retX, e_retB, e_retN, e_if, e_ifT, e_ifF, e_app, e_appR, e_appB, e_frz, e_frzO, e_frzD, e_frzU, e_for, e_forR, e_forN, e_forC, e_turnB, e_turnN, e_turnC, e_turnK, e_turnR, e_turnX, e_it, e_itR, e_itA, e_itAR, e_asLst, e_asSlst, e_asTup, e_asStr, e_raise, e_run, e_endN, e_endR, e_endX, e_stC, e_st0, e_stS, e_addI, e_addS, e_addB, e_addLL, e_addOL, e_addLO, e_addOO, e_sub, e_mul, e_mod, e_div, e_neg, e_cmp, e_eqI, e_eqS, e_eqB, e_id, e_n1, e_isN, e_isI, e_isS, e_isT, e_isL, e_isB, e_isnN, e_isnI, e_isnS, e_isnT, e_isnL, e_isnB, e_ixS, e_ixT, e_ixL, e_ixSL, e_ixO, e_at_0, e_at_1, e_at_2, e_sg, e_lenS, e_lenT, e_lenL, e_lenSL, e_lenO, e_int, e_intT, e_intF, e_str, e_min, e_max, e_abs, e_m1, e_m1R, e_m1S, e_joinL, e_joinO, e_joinT, e_txN, e_txC, e_txS, e_isiS, e_isiL, e_isiTu, e_rep, e_replS, e_tabG, e_mpS, e_tabI, e_inS, e_sl, e_slR, e_slS, e_slT, e_oNone, e_oSome, e_oRI, e_slStr, e_slL, e_slSL, e_slO, e_lc, e_ca0, e_ca1, e_ca2, e_ca3, e_ca4, e_ca5, e_ca6, e_ca7, e_ca8, e_ca9, e_ca10, e_ca11, e_ca12, e_scS, e_scI, e_scB, e_scN, e_allN, e_allC, e_eqFS, e_eqFI, e_inST, e_inIT, e_index, e_spR, e_mg, e_mgS, e_smN, e_smC, eq_self, Nat.reduceLT, Nat.reduceGT, Nat.reduceAdd, Nat.reduceMul, Nat.reduceSub, Nat.reduceLeDiff, Nat.reduceEqDiff, Int.reduceLT, Int.reduceLE, Int.reduceEq, Int.reduceAdd, Int.reduceSub, Int.reduceMul, Int.reduceMod, Int.reduceDiv, Int.reduceNeg, Nat.zero_le, Nat.le_refl, List.length_cons, List.length_nil, ite_true, ite_false, if_true, if_false, decide_true, decide_false, Bool.not_true, Bool.not_false, Bool.and_true, Bool.true_and, Bool.and_false, Bool.false_and, Bool.or_true, Bool.or_false, Bool.true_or, Bool.false_or, List.cons.injEq, and_true, true_and, and_false, false_and, and_self, ne_eq, not_true_eq_false, not_false_eq_true, reduceCtorEq, List.nil_append, List.cons_append, List.append_nil, List.append_assoc, e_joinW, e_joinWT, k1, k2, k3, k4, h1, h2, h3, h4, f1, f2, f3, f4]
        · unfold m__law_words d__law_words
          simp only [e_rdDat, e_rdOwn, e_at0, e_atS, e_pu0, e_puS, e_var, e_c, e_op2, e_op2R, e_op2S, e_op1, e_op1S, e_opA, e_opAS, e_ofS, e_ofN, e_dB, e_toBS, e_and, e_andT, e_andF, e_or, e_orT, e_orF, e_not, e_notT, e_notF, e_notB, e_andV, e_andVT, e_andVF, e_orV, e_orVT, e_orVF, e_notV, e_notVB, e_ifE, e_ifET, e_ifEF, e_nil, e_cons, e_consR, e_consS, e_cleanN, e_cleanC, e_oN, e_oB, e_oI, e_oS, e_oT, e_oL, e_oSL, e_oOb, e_nf, e_tt, e_tup, e_tupR, e_tupB, e_items, e_itemsR, e_itemsB, e_fix, e_fixR, e_cat, e_catR, e_appN, e_appC, e_catB, e_catLL, e_catOL, e_catLO, e_catOO, e_call, e_callR, e_callB0, e_callB1, e_callB2, e_callB3, e_callB4, e_callB5, e_seq, e_seqN, e_seqR, e_seqB, e_seqC, e_seqX, e_skip, e_break, e_cont, e_set, e_setR, e_setX, e_setB, e_own, e_ownR, e_asg, e_asgR, e_nxO, e_tgT, e_putN, e_putC, e_tgN, e_tgB, e_drop, e_dropR, e_ret, e_retR, e_retX, e_retB, e_retN, e_if, e_ifT, e_ifF, e_app, e_appR, e_appB, e_frz, e_frzO, e_frzD, e_frzU, e_for, e_forR, e_forN, e_forC, e_turnB, e_turnN, e_turnC, e_turnK, e_turnR, e_turnX, e_it, e_itR, e_itA, e_itAR, e_asLst, e_asSlst, e_asTup, e_asStr, e_raise, e_run, e_endN, e_endR, e_endX, e_stC, e_st0, e_stS, e_addI, e_addS, e_addB, e_addLL, e_addOL, e_addLO, e_addOO, e_sub, e_mul, e_mod, e_div, e_neg, e_cmp, e_eqI, e_eqS, e_eqB, e_id, e_n1, e_isN, e_isI, e_isS, e_isT, e_isL, e_isB, e_isnN, e_isnI, e_isnS, e_isnT, e_isnL, e_isnB, e_ixS, e_ixT, e_ixL, e_ixSL, e_ixO, e_at_0, e_at_1, e_at_2, e_sg, e_lenS, e_lenT, e_lenL, e_lenSL, e_lenO, e_int, e_intT, e_intF, e_str, e_min, e_max, e_abs, e_m1, e_m1R, e_m1S, e_joinL, e_joinO, e_joinT, e_txN, e_txC, e_txS, e_isiS, e_isiL, e_isiTu, e_rep, e_replS, e_tabG, e_mpS, e_tabI, e_inS, e_sl, e_slR, e_slS, e_slT, e_oNone, e_oSome, e_oRI, e_slStr, e_slL, e_slSL, e_slO, e_lc, e_ca0, e_ca1, e_ca2, e_ca3, e_ca4, e_ca5, e_ca6, e_ca7, e_ca8, e_ca9, e_ca10, e_ca11, e_ca12, e_scS, e_scI, e_scB, e_scN, e_allN, e_allC, e_eqFS, e_eqFI, e_inST, e_inIT, e_index, e_spR, e_mg, e_mgS, e_smN, e_smC, eq_self, Nat.reduceLT, Nat.reduceGT, Nat.reduceAdd, Nat.reduceMul, Nat.reduceSub, Nat.reduceLeDiff, Nat.reduceEqDiff, Int.reduceLT, Int.reduceLE, Int.reduceEq, Int.reduceAdd, Int.reduceSub, Int.reduceMul, Int.reduceMod, Int.reduceDiv, Int.reduceNeg, Nat.zero_le, Nat.le_refl, List.length_cons, List.length_nil, ite_true, ite_false, if_true, if_false, decide_true, decide_false, Bool.not_true, Bool.not_false, Bool.and_true, Bool.true_and, Bool.and_false, Bool.false_and, Bool.or_true, Bool.or_false, Bool.true_or, Bool.false_or, List.cons.injEq, and_true, true_and, and_false, false_and, and_self, ne_eq, not_true_eq_false, not_false_eq_true, reduceCtorEq, List.nil_append, List.cons_append, List.append_nil, List.append_assoc, e_joinW, e_joinWT, k1, k2, k3, k4, h1, h2, h3, h4, f1, f2, f3, f4]
      · obtain ⟨t0, tt⟩ := t_words ht
        have t0 : (t = []) = False := eq_false t0
        rcases tt with ⟨p, p1, p2, p3⟩ | ⟨p, q, p1, q1, p2, p3⟩
        · have p1 : (p.length ≤ 1000) = True := eq_true (by omega)
          refine ⟨jn L8 [w, L12, cw, p], ?_, ?_⟩
          · unfold m_in_words d_in_words
            simp only [e_rdDat, e_rdOwn, e_at0, e_atS, e_pu0, e_puS, e_var, e_c, e_op2, e_op2R, e_op2S, e_op1, e_op1S, e_opA, e_opAS, e_ofS, e_ofN, e_dB, e_toBS, e_and, e_andT, e_andF, e_or, e_orT, e_orF, e_not, e_notT, e_notF, e_notB, e_andV, e_andVT, e_andVF, e_orV, e_orVT, e_orVF, e_notV, e_notVB, e_ifE, e_ifET, e_ifEF, e_nil, e_cons, e_consR, e_consS, e_cleanN, e_cleanC, e_oN, e_oB, e_oI, e_oS, e_oT, e_oL, e_oSL, e_oOb, e_nf, e_tt, e_tup, e_tupR, e_tupB, e_items, e_itemsR, e_itemsB, e_fix, e_fixR, e_cat, e_catR, e_appN, e_appC, e_catB, e_catLL, e_catOL, e_catLO, e_catOO, e_call, e_callR, e_callB0, e_callB1, e_callB2, e_callB3, e_callB4, e_callB5, e_seq, e_seqN, e_seqR, e_seqB, e_seqC, e_seqX, e_skip, e_break, e_cont, e_set, e_setR, e_setX, e_setB, e_own, e_ownR, e_asg, e_asgR, e_nxO, e_tgT, e_putN, e_putC, e_tgN, e_tgB, e_drop, e_dropR, e_ret, e_retR, e_retX, e_retB, e_retN, e_if, e_ifT, e_ifF, e_app, e_appR, e_appB, e_frz, e_frzO, e_frzD, e_frzU, e_for, e_forR, e_forN, e_forC, e_turnB, e_turnN, e_turnC, e_turnK, e_turnR, e_turnX, e_it, e_itR, e_itA, e_itAR, e_asLst, e_asSlst, e_asTup, e_asStr, e_raise, e_run, e_endN, e_endR, e_endX, e_stC, e_st0, e_stS, e_addI, e_addS, e_addB, e_addLL, e_addOL, e_addLO, e_addOO, e_sub, e_mul, e_mod, e_div, e_neg, e_cmp, e_eqI, e_eqS, e_eqB, e_id, e_n1, e_isN, e_isI, e_isS, e_isT, e_isL, e_isB, e_isnN, e_isnI, e_isnS, e_isnT, e_isnL, e_isnB, e_ixS, e_ixT, e_ixL, e_ixSL, e_ixO, e_at_0, e_at_1, e_at_2, e_sg, e_lenS, e_lenT, e_lenL, e_lenSL, e_lenO, e_int, e_intT, e_intF, e_str, e_min, e_max, e_abs, e_m1, e_m1R, e_m1S, e_joinL, e_joinO, e_joinT, e_txN, e_txC, e_txS, e_isiS, e_isiL, e_isiTu, e_rep, e_replS, e_tabG, e_mpS, e_tabI, e_inS, e_sl, e_slR, e_slS, e_slT, e_oNone, e_oSome, e_oRI, e_slStr, e_slL, e_slSL, e_slO, e_lc, e_ca0, e_ca1, e_ca2, e_ca3, e_ca4, e_ca5, e_ca6, e_ca7, e_ca8, e_ca9, e_ca10, e_ca11, e_ca12, e_scS, e_scI, e_scB, e_scN, e_allN, e_allC, e_eqFS, e_eqFI, e_inST, e_inIT, e_index, e_spR, e_mg, e_mgS, e_smN, e_smC, eq_self, Nat.reduceLT, Nat.reduceGT, Nat.reduceAdd, Nat.reduceMul, Nat.reduceSub, Nat.reduceLeDiff, Nat.reduceEqDiff, Int.reduceLT, Int.reduceLE, Int.reduceEq, Int.reduceAdd, Int.reduceSub, Int.reduceMul, Int.reduceMod, Int.reduceDiv, Int.reduceNeg, Nat.zero_le, Nat.le_refl, List.length_cons, List.length_nil, ite_true, ite_false, if_true, if_false, decide_true, decide_false, Bool.not_true, Bool.not_false, Bool.and_true, Bool.true_and, Bool.and_false, Bool.false_and, Bool.or_true, Bool.or_false, Bool.true_or, Bool.false_or, List.cons.injEq, and_true, true_and, and_false, false_and, and_self, ne_eq, not_true_eq_false, not_false_eq_true, reduceCtorEq, List.nil_append, List.cons_append, List.append_nil, List.append_assoc, e_joinW, e_joinWT, k1, k2, k3, k4, h1, h2, h3, h4, f1, f2, f3, f4, t0, p1, p2, p3]
          · unfold m__law_words d__law_words
            simp only [e_rdDat, e_rdOwn, e_at0, e_atS, e_pu0, e_puS, e_var, e_c, e_op2, e_op2R, e_op2S, e_op1, e_op1S, e_opA, e_opAS, e_ofS, e_ofN, e_dB, e_toBS, e_and, e_andT, e_andF, e_or, e_orT, e_orF, e_not, e_notT, e_notF, e_notB, e_andV, e_andVT, e_andVF, e_orV, e_orVT, e_orVF, e_notV, e_notVB, e_ifE, e_ifET, e_ifEF, e_nil, e_cons, e_consR, e_consS, e_cleanN, e_cleanC, e_oN, e_oB, e_oI, e_oS, e_oT, e_oL, e_oSL, e_oOb, e_nf, e_tt, e_tup, e_tupR, e_tupB, e_items, e_itemsR, e_itemsB, e_fix, e_fixR, e_cat, e_catR, e_appN, e_appC, e_catB, e_catLL, e_catOL, e_catLO, e_catOO, e_call, e_callR, e_callB0, e_callB1, e_callB2, e_callB3, e_callB4, e_callB5, e_seq, e_seqN, e_seqR, e_seqB, e_seqC, e_seqX, e_skip, e_break, e_cont, e_set, e_setR, e_setX, e_setB, e_own, e_ownR, e_asg, e_asgR, e_nxO, e_tgT, e_putN, e_putC, e_tgN, e_tgB, e_drop, e_dropR, e_ret, e_retR, e_retX, e_retB, e_retN, e_if, e_ifT, e_ifF, e_app, e_appR, e_appB, e_frz, e_frzO, e_frzD, e_frzU, e_for, e_forR, e_forN, e_forC, e_turnB, e_turnN, e_turnC, e_turnK, e_turnR, e_turnX, e_it, e_itR, e_itA, e_itAR, e_asLst, e_asSlst, e_asTup, e_asStr, e_raise, e_run, e_endN, e_endR, e_endX, e_stC, e_st0, e_stS, e_addI, e_addS, e_addB, e_addLL, e_addOL, e_addLO, e_addOO, e_sub, e_mul, e_mod, e_div, e_neg, e_cmp, e_eqI, e_eqS, e_eqB, e_id, e_n1, e_isN, e_isI, e_isS, e_isT, e_isL, e_isB, e_isnN, e_isnI, e_isnS, e_isnT, e_isnL, e_isnB, e_ixS, e_ixT, e_ixL, e_ixSL, e_ixO, e_at_0, e_at_1, e_at_2, e_sg, e_lenS, e_lenT, e_lenL, e_lenSL, e_lenO, e_int, e_intT, e_intF, e_str, e_min, e_max, e_abs, e_m1, e_m1R, e_m1S, e_joinL, e_joinO, e_joinT, e_txN, e_txC, e_txS, e_isiS, e_isiL, e_isiTu, e_rep, e_replS, e_tabG, e_mpS, e_tabI, e_inS, e_sl, e_slR, e_slS, e_slT, e_oNone, e_oSome, e_oRI, e_slStr, e_slL, e_slSL, e_slO, e_lc, e_ca0, e_ca1, e_ca2, e_ca3, e_ca4, e_ca5, e_ca6, e_ca7, e_ca8, e_ca9, e_ca10, e_ca11, e_ca12, e_scS, e_scI, e_scB, e_scN, e_allN, e_allC, e_eqFS, e_eqFI, e_inST, e_inIT, e_index, e_spR, e_mg, e_mgS, e_smN, e_smC, eq_self, Nat.reduceLT, Nat.reduceGT, Nat.reduceAdd, Nat.reduceMul, Nat.reduceSub, Nat.reduceLeDiff, Nat.reduceEqDiff, Int.reduceLT, Int.reduceLE, Int.reduceEq, Int.reduceAdd, Int.reduceSub, Int.reduceMul, Int.reduceMod, Int.reduceDiv, Int.reduceNeg, Nat.zero_le, Nat.le_refl, List.length_cons, List.length_nil, ite_true, ite_false, if_true, if_false, decide_true, decide_false, Bool.not_true, Bool.not_false, Bool.and_true, Bool.true_and, Bool.and_false, Bool.false_and, Bool.or_true, Bool.or_false, Bool.true_or, Bool.false_or, List.cons.injEq, and_true, true_and, and_false, false_and, and_self, ne_eq, not_true_eq_false, not_false_eq_true, reduceCtorEq, List.nil_append, List.cons_append, List.append_nil, List.append_assoc, e_joinW, e_joinWT, k1, k2, k3, k4, h1, h2, h3, h4, f1, f2, f3, f4, t0, p1, p2, p3]
        · have p1 : (p.length ≤ 1000) = True := eq_true (by omega)
          have q1 : (q.length ≤ 1000) = True := eq_true (by omega)
          refine ⟨jn L8 [w, L12, cw, p, q], ?_, ?_⟩
          · unfold m_in_words d_in_words
            simp only [e_rdDat, e_rdOwn, e_at0, e_atS, e_pu0, e_puS, e_var, e_c, e_op2, e_op2R, e_op2S, e_op1, e_op1S, e_opA, e_opAS, e_ofS, e_ofN, e_dB, e_toBS, e_and, e_andT, e_andF, e_or, e_orT, e_orF, e_not, e_notT, e_notF, e_notB, e_andV, e_andVT, e_andVF, e_orV, e_orVT, e_orVF, e_notV, e_notVB, e_ifE, e_ifET, e_ifEF, e_nil, e_cons, e_consR, e_consS, e_cleanN, e_cleanC, e_oN, e_oB, e_oI, e_oS, e_oT, e_oL, e_oSL, e_oOb, e_nf, e_tt, e_tup, e_tupR, e_tupB, e_items, e_itemsR, e_itemsB, e_fix, e_fixR, e_cat, e_catR, e_appN, e_appC, e_catB, e_catLL, e_catOL, e_catLO, e_catOO, e_call, e_callR, e_callB0, e_callB1, e_callB2, e_callB3, e_callB4, e_callB5, e_seq, e_seqN, e_seqR, e_seqB, e_seqC, e_seqX, e_skip, e_break, e_cont, e_set, e_setR, e_setX, e_setB, e_own, e_ownR, e_asg, e_asgR, e_nxO, e_tgT, e_putN, e_putC, e_tgN, e_tgB, e_drop, e_dropR, e_ret, e_retR, e_retX, e_retB, e_retN, e_if, e_ifT, e_ifF, e_app, e_appR, e_appB, e_frz, e_frzO, e_frzD, e_frzU, e_for, e_forR, e_forN, e_forC, e_turnB, e_turnN, e_turnC, e_turnK, e_turnR, e_turnX, e_it, e_itR, e_itA, e_itAR, e_asLst, e_asSlst, e_asTup, e_asStr, e_raise, e_run, e_endN, e_endR, e_endX, e_stC, e_st0, e_stS, e_addI, e_addS, e_addB, e_addLL, e_addOL, e_addLO, e_addOO, e_sub, e_mul, e_mod, e_div, e_neg, e_cmp, e_eqI, e_eqS, e_eqB, e_id, e_n1, e_isN, e_isI, e_isS, e_isT, e_isL, e_isB, e_isnN, e_isnI, e_isnS, e_isnT, e_isnL, e_isnB, e_ixS, e_ixT, e_ixL, e_ixSL, e_ixO, e_at_0, e_at_1, e_at_2, e_sg, e_lenS, e_lenT, e_lenL, e_lenSL, e_lenO, e_int, e_intT, e_intF, e_str, e_min, e_max, e_abs, e_m1, e_m1R, e_m1S, e_joinL, e_joinO, e_joinT, e_txN, e_txC, e_txS, e_isiS, e_isiL, e_isiTu, e_rep, e_replS, e_tabG, e_mpS, e_tabI, e_inS, e_sl, e_slR, e_slS, e_slT, e_oNone, e_oSome, e_oRI, e_slStr, e_slL, e_slSL, e_slO, e_lc, e_ca0, e_ca1, e_ca2, e_ca3, e_ca4, e_ca5, e_ca6, e_ca7, e_ca8, e_ca9, e_ca10, e_ca11, e_ca12, e_scS, e_scI, e_scB, e_scN, e_allN, e_allC, e_eqFS, e_eqFI, e_inST, e_inIT, e_index, e_spR, e_mg, e_mgS, e_smN, e_smC, eq_self, Nat.reduceLT, Nat.reduceGT, Nat.reduceAdd, Nat.reduceMul, Nat.reduceSub, Nat.reduceLeDiff, Nat.reduceEqDiff, Int.reduceLT, Int.reduceLE, Int.reduceEq, Int.reduceAdd, Int.reduceSub, Int.reduceMul, Int.reduceMod, Int.reduceDiv, Int.reduceNeg, Nat.zero_le, Nat.le_refl, List.length_cons, List.length_nil, ite_true, ite_false, if_true, if_false, decide_true, decide_false, Bool.not_true, Bool.not_false, Bool.and_true, Bool.true_and, Bool.and_false, Bool.false_and, Bool.or_true, Bool.or_false, Bool.true_or, Bool.false_or, List.cons.injEq, and_true, true_and, and_false, false_and, and_self, ne_eq, not_true_eq_false, not_false_eq_true, reduceCtorEq, List.nil_append, List.cons_append, List.append_nil, List.append_assoc, e_joinW, e_joinWT, k1, k2, k3, k4, h1, h2, h3, h4, f1, f2, f3, f4, t0, p1, q1, p2, p3]
          · unfold m__law_words d__law_words
            simp only [e_rdDat, e_rdOwn, e_at0, e_atS, e_pu0, e_puS, e_var, e_c, e_op2, e_op2R, e_op2S, e_op1, e_op1S, e_opA, e_opAS, e_ofS, e_ofN, e_dB, e_toBS, e_and, e_andT, e_andF, e_or, e_orT, e_orF, e_not, e_notT, e_notF, e_notB, e_andV, e_andVT, e_andVF, e_orV, e_orVT, e_orVF, e_notV, e_notVB, e_ifE, e_ifET, e_ifEF, e_nil, e_cons, e_consR, e_consS, e_cleanN, e_cleanC, e_oN, e_oB, e_oI, e_oS, e_oT, e_oL, e_oSL, e_oOb, e_nf, e_tt, e_tup, e_tupR, e_tupB, e_items, e_itemsR, e_itemsB, e_fix, e_fixR, e_cat, e_catR, e_appN, e_appC, e_catB, e_catLL, e_catOL, e_catLO, e_catOO, e_call, e_callR, e_callB0, e_callB1, e_callB2, e_callB3, e_callB4, e_callB5, e_seq, e_seqN, e_seqR, e_seqB, e_seqC, e_seqX, e_skip, e_break, e_cont, e_set, e_setR, e_setX, e_setB, e_own, e_ownR, e_asg, e_asgR, e_nxO, e_tgT, e_putN, e_putC, e_tgN, e_tgB, e_drop, e_dropR, e_ret, e_retR, e_retX, e_retB, e_retN, e_if, e_ifT, e_ifF, e_app, e_appR, e_appB, e_frz, e_frzO, e_frzD, e_frzU, e_for, e_forR, e_forN, e_forC, e_turnB, e_turnN, e_turnC, e_turnK, e_turnR, e_turnX, e_it, e_itR, e_itA, e_itAR, e_asLst, e_asSlst, e_asTup, e_asStr, e_raise, e_run, e_endN, e_endR, e_endX, e_stC, e_st0, e_stS, e_addI, e_addS, e_addB, e_addLL, e_addOL, e_addLO, e_addOO, e_sub, e_mul, e_mod, e_div, e_neg, e_cmp, e_eqI, e_eqS, e_eqB, e_id, e_n1, e_isN, e_isI, e_isS, e_isT, e_isL, e_isB, e_isnN, e_isnI, e_isnS, e_isnT, e_isnL, e_isnB, e_ixS, e_ixT, e_ixL, e_ixSL, e_ixO, e_at_0, e_at_1, e_at_2, e_sg, e_lenS, e_lenT, e_lenL, e_lenSL, e_lenO, e_int, e_intT, e_intF, e_str, e_min, e_max, e_abs, e_m1, e_m1R, e_m1S, e_joinL, e_joinO, e_joinT, e_txN, e_txC, e_txS, e_isiS, e_isiL, e_isiTu, e_rep, e_replS, e_tabG, e_mpS, e_tabI, e_inS, e_sl, e_slR, e_slS, e_slT, e_oNone, e_oSome, e_oRI, e_slStr, e_slL, e_slSL, e_slO, e_lc, e_ca0, e_ca1, e_ca2, e_ca3, e_ca4, e_ca5, e_ca6, e_ca7, e_ca8, e_ca9, e_ca10, e_ca11, e_ca12, e_scS, e_scI, e_scB, e_scN, e_allN, e_allC, e_eqFS, e_eqFI, e_inST, e_inIT, e_index, e_spR, e_mg, e_mgS, e_smN, e_smC, eq_self, Nat.reduceLT, Nat.reduceGT, Nat.reduceAdd, Nat.reduceMul, Nat.reduceSub, Nat.reduceLeDiff, Nat.reduceEqDiff, Int.reduceLT, Int.reduceLE, Int.reduceEq, Int.reduceAdd, Int.reduceSub, Int.reduceMul, Int.reduceMod, Int.reduceDiv, Int.reduceNeg, Nat.zero_le, Nat.le_refl, List.length_cons, List.length_nil, ite_true, ite_false, if_true, if_false, decide_true, decide_false, Bool.not_true, Bool.not_false, Bool.and_true, Bool.true_and, Bool.and_false, Bool.false_and, Bool.or_true, Bool.or_false, Bool.true_or, Bool.false_or, List.cons.injEq, and_true, true_and, and_false, false_and, and_self, ne_eq, not_true_eq_false, not_false_eq_true, reduceCtorEq, List.nil_append, List.cons_append, List.append_nil, List.append_assoc, e_joinW, e_joinWT, k1, k2, k3, k4, h1, h2, h3, h4, f1, f2, f3, f4, t0, p1, q1, p2, p3]
    · rcases ht with rfl | ht
      · skip
        refine ⟨jn L8 [w, L13, [c], L12, cw], ?_, ?_⟩
        · unfold m_in_words d_in_words
          simp only [e_rdDat, e_rdOwn, e_at0, e_atS, e_pu0, e_puS, e_var, e_c, e_op2, e_op2R, e_op2S, e_op1, e_op1S, e_opA, e_opAS, e_ofS, e_ofN, e_dB, e_toBS, e_and, e_andT, e_andF, e_or, e_orT, e_orF, e_not, e_notT, e_notF, e_notB, e_andV, e_andVT, e_andVF, e_orV, e_orVT, e_orVF, e_notV, e_notVB, e_ifE, e_ifET, e_ifEF, e_nil, e_cons, e_consR, e_consS, e_cleanN, e_cleanC, e_oN, e_oB, e_oI, e_oS, e_oT, e_oL, e_oSL, e_oOb, e_nf, e_tt, e_tup, e_tupR, e_tupB, e_items, e_itemsR, e_itemsB, e_fix, e_fixR, e_cat, e_catR, e_appN, e_appC, e_catB, e_catLL, e_catOL, e_catLO, e_catOO, e_call, e_callR, e_callB0, e_callB1, e_callB2, e_callB3, e_callB4, e_callB5, e_seq, e_seqN, e_seqR, e_seqB, e_seqC, e_seqX, e_skip, e_break, e_cont, e_set, e_setR, e_setX, e_setB, e_own, e_ownR, e_asg, e_asgR, e_nxO, e_tgT, e_putN, e_putC, e_tgN, e_tgB, e_drop, e_dropR, e_ret, e_retR, e_retX, e_retB, e_retN, e_if, e_ifT, e_ifF, e_app, e_appR, e_appB, e_frz, e_frzO, e_frzD, e_frzU, e_for, e_forR, e_forN, e_forC, e_turnB, e_turnN, e_turnC, e_turnK, e_turnR, e_turnX, e_it, e_itR, e_itA, e_itAR, e_asLst, e_asSlst, e_asTup, e_asStr, e_raise, e_run, e_endN, e_endR, e_endX, e_stC, e_st0, e_stS, e_addI, e_addS, e_addB, e_addLL, e_addOL, e_addLO, e_addOO, e_sub, e_mul, e_mod, e_div, e_neg, e_cmp, e_eqI, e_eqS, e_eqB, e_id, e_n1, e_isN, e_isI, e_isS, e_isT, e_isL, e_isB, e_isnN, e_isnI, e_isnS, e_isnT, e_isnL, e_isnB, e_ixS, e_ixT, e_ixL, e_ixSL, e_ixO, e_at_0, e_at_1, e_at_2, e_sg, e_lenS, e_lenT, e_lenL, e_lenSL, e_lenO, e_int, e_intT, e_intF, e_str, e_min, e_max, e_abs, e_m1, e_m1R, e_m1S, e_joinL, e_joinO, e_joinT, e_txN, e_txC, e_txS, e_isiS, e_isiL, e_isiTu, e_rep, e_replS, e_tabG, e_mpS, e_tabI, e_inS, e_sl, e_slR, e_slS, e_slT, e_oNone, e_oSome, e_oRI, e_slStr, e_slL, e_slSL, e_slO, e_lc, e_ca0, e_ca1, e_ca2, e_ca3, e_ca4, e_ca5, e_ca6, e_ca7, e_ca8, e_ca9, e_ca10, e_ca11, e_ca12, e_scS, e_scI, e_scB, e_scN, e_allN, e_allC, e_eqFS, e_eqFI, e_inST, e_inIT, e_index, e_spR, e_mg, e_mgS, e_smN, e_smC, eq_self, Nat.reduceLT, Nat.reduceGT, Nat.reduceAdd, Nat.reduceMul, Nat.reduceSub, Nat.reduceLeDiff, Nat.reduceEqDiff, Int.reduceLT, Int.reduceLE, Int.reduceEq, Int.reduceAdd, Int.reduceSub, Int.reduceMul, Int.reduceMod, Int.reduceDiv, Int.reduceNeg, Nat.zero_le, Nat.le_refl, List.length_cons, List.length_nil, ite_true, ite_false, if_true, if_false, decide_true, decide_false, Bool.not_true, Bool.not_false, Bool.and_true, Bool.true_and, Bool.and_false, Bool.false_and, Bool.or_true, Bool.or_false, Bool.true_or, Bool.false_or, List.cons.injEq, and_true, true_and, and_false, false_and, and_self, ne_eq, not_true_eq_false, not_false_eq_true, reduceCtorEq, List.nil_append, List.cons_append, List.append_nil, List.append_assoc, e_joinW, e_joinWT, k1, k2, k3, k4, h1, h2, h3, h4, f1, f2, f3, f4]
        · unfold m__law_words d__law_words
          simp only [e_rdDat, e_rdOwn, e_at0, e_atS, e_pu0, e_puS, e_var, e_c, e_op2, e_op2R, e_op2S, e_op1, e_op1S, e_opA, e_opAS, e_ofS, e_ofN, e_dB, e_toBS, e_and, e_andT, e_andF, e_or, e_orT, e_orF, e_not, e_notT, e_notF, e_notB, e_andV, e_andVT, e_andVF, e_orV, e_orVT, e_orVF, e_notV, e_notVB, e_ifE, e_ifET, e_ifEF, e_nil, e_cons, e_consR, e_consS, e_cleanN, e_cleanC, e_oN, e_oB, e_oI, e_oS, e_oT, e_oL, e_oSL, e_oOb, e_nf, e_tt, e_tup, e_tupR, e_tupB, e_items, e_itemsR, e_itemsB, e_fix, e_fixR, e_cat, e_catR, e_appN, e_appC, e_catB, e_catLL, e_catOL, e_catLO, e_catOO, e_call, e_callR, e_callB0, e_callB1, e_callB2, e_callB3, e_callB4, e_callB5, e_seq, e_seqN, e_seqR, e_seqB, e_seqC, e_seqX, e_skip, e_break, e_cont, e_set, e_setR, e_setX, e_setB, e_own, e_ownR, e_asg, e_asgR, e_nxO, e_tgT, e_putN, e_putC, e_tgN, e_tgB, e_drop, e_dropR, e_ret, e_retR, e_retX, e_retB, e_retN, e_if, e_ifT, e_ifF, e_app, e_appR, e_appB, e_frz, e_frzO, e_frzD, e_frzU, e_for, e_forR, e_forN, e_forC, e_turnB, e_turnN, e_turnC, e_turnK, e_turnR, e_turnX, e_it, e_itR, e_itA, e_itAR, e_asLst, e_asSlst, e_asTup, e_asStr, e_raise, e_run, e_endN, e_endR, e_endX, e_stC, e_st0, e_stS, e_addI, e_addS, e_addB, e_addLL, e_addOL, e_addLO, e_addOO, e_sub, e_mul, e_mod, e_div, e_neg, e_cmp, e_eqI, e_eqS, e_eqB, e_id, e_n1, e_isN, e_isI, e_isS, e_isT, e_isL, e_isB, e_isnN, e_isnI, e_isnS, e_isnT, e_isnL, e_isnB, e_ixS, e_ixT, e_ixL, e_ixSL, e_ixO, e_at_0, e_at_1, e_at_2, e_sg, e_lenS, e_lenT, e_lenL, e_lenSL, e_lenO, e_int, e_intT, e_intF, e_str, e_min, e_max, e_abs, e_m1, e_m1R, e_m1S, e_joinL, e_joinO, e_joinT, e_txN, e_txC, e_txS, e_isiS, e_isiL, e_isiTu, e_rep, e_replS, e_tabG, e_mpS, e_tabI, e_inS, e_sl, e_slR, e_slS, e_slT, e_oNone, e_oSome, e_oRI, e_slStr, e_slL, e_slSL, e_slO, e_lc, e_ca0, e_ca1, e_ca2, e_ca3, e_ca4, e_ca5, e_ca6, e_ca7, e_ca8, e_ca9, e_ca10, e_ca11, e_ca12, e_scS, e_scI, e_scB, e_scN, e_allN, e_allC, e_eqFS, e_eqFI, e_inST, e_inIT, e_index, e_spR, e_mg, e_mgS, e_smN, e_smC, eq_self, Nat.reduceLT, Nat.reduceGT, Nat.reduceAdd, Nat.reduceMul, Nat.reduceSub, Nat.reduceLeDiff, Nat.reduceEqDiff, Int.reduceLT, Int.reduceLE, Int.reduceEq, Int.reduceAdd, Int.reduceSub, Int.reduceMul, Int.reduceMod, Int.reduceDiv, Int.reduceNeg, Nat.zero_le, Nat.le_refl, List.length_cons, List.length_nil, ite_true, ite_false, if_true, if_false, decide_true, decide_false, Bool.not_true, Bool.not_false, Bool.and_true, Bool.true_and, Bool.and_false, Bool.false_and, Bool.or_true, Bool.or_false, Bool.true_or, Bool.false_or, List.cons.injEq, and_true, true_and, and_false, false_and, and_self, ne_eq, not_true_eq_false, not_false_eq_true, reduceCtorEq, List.nil_append, List.cons_append, List.append_nil, List.append_assoc, e_joinW, e_joinWT, k1, k2, k3, k4, h1, h2, h3, h4, f1, f2, f3, f4]
      · obtain ⟨t0, tt⟩ := t_words ht
        have t0 : (t = []) = False := eq_false t0
        rcases tt with ⟨p, p1, p2, p3⟩ | ⟨p, q, p1, q1, p2, p3⟩
        · have p1 : (p.length ≤ 1000) = True := eq_true (by omega)
          refine ⟨jn L8 [w, L13, [c], L12, cw, p], ?_, ?_⟩
          · unfold m_in_words d_in_words
            simp only [e_rdDat, e_rdOwn, e_at0, e_atS, e_pu0, e_puS, e_var, e_c, e_op2, e_op2R, e_op2S, e_op1, e_op1S, e_opA, e_opAS, e_ofS, e_ofN, e_dB, e_toBS, e_and, e_andT, e_andF, e_or, e_orT, e_orF, e_not, e_notT, e_notF, e_notB, e_andV, e_andVT, e_andVF, e_orV, e_orVT, e_orVF, e_notV, e_notVB, e_ifE, e_ifET, e_ifEF, e_nil, e_cons, e_consR, e_consS, e_cleanN, e_cleanC, e_oN, e_oB, e_oI, e_oS, e_oT, e_oL, e_oSL, e_oOb, e_nf, e_tt, e_tup, e_tupR, e_tupB, e_items, e_itemsR, e_itemsB, e_fix, e_fixR, e_cat, e_catR, e_appN, e_appC, e_catB, e_catLL, e_catOL, e_catLO, e_catOO, e_call, e_callR, e_callB0, e_callB1, e_callB2, e_callB3, e_callB4, e_callB5, e_seq, e_seqN, e_seqR, e_seqB, e_seqC, e_seqX, e_skip, e_break, e_cont, e_set, e_setR, e_setX, e_setB, e_own, e_ownR, e_asg, e_asgR, e_nxO, e_tgT, e_putN, e_putC, e_tgN, e_tgB, e_drop, e_dropR, e_ret, e_retR, e_retX, e_retB, e_retN, e_if, e_ifT, e_ifF, e_app, e_appR, e_appB, e_frz, e_frzO, e_frzD, e_frzU, e_for, e_forR, e_forN, e_forC, e_turnB, e_turnN, e_turnC, e_turnK, e_turnR, e_turnX, e_it, e_itR, e_itA, e_itAR, e_asLst, e_asSlst, e_asTup, e_asStr, e_raise, e_run, e_endN, e_endR, e_endX, e_stC, e_st0, e_stS, e_addI, e_addS, e_addB, e_addLL, e_addOL, e_addLO, e_addOO, e_sub, e_mul, e_mod, e_div, e_neg, e_cmp, e_eqI, e_eqS, e_eqB, e_id, e_n1, e_isN, e_isI, e_isS, e_isT, e_isL, e_isB, e_isnN, e_isnI, e_isnS, e_isnT, e_isnL, e_isnB, e_ixS, e_ixT, e_ixL, e_ixSL, e_ixO, e_at_0, e_at_1, e_at_2, e_sg, e_lenS, e_lenT, e_lenL, e_lenSL, e_lenO, e_int, e_intT, e_intF, e_str, e_min, e_max, e_abs, e_m1, e_m1R, e_m1S, e_joinL, e_joinO, e_joinT, e_txN, e_txC, e_txS, e_isiS, e_isiL, e_isiTu, e_rep, e_replS, e_tabG, e_mpS, e_tabI, e_inS, e_sl, e_slR, e_slS, e_slT, e_oNone, e_oSome, e_oRI, e_slStr, e_slL, e_slSL, e_slO, e_lc, e_ca0, e_ca1, e_ca2, e_ca3, e_ca4, e_ca5, e_ca6, e_ca7, e_ca8, e_ca9, e_ca10, e_ca11, e_ca12, e_scS, e_scI, e_scB, e_scN, e_allN, e_allC, e_eqFS, e_eqFI, e_inST, e_inIT, e_index, e_spR, e_mg, e_mgS, e_smN, e_smC, eq_self, Nat.reduceLT, Nat.reduceGT, Nat.reduceAdd, Nat.reduceMul, Nat.reduceSub, Nat.reduceLeDiff, Nat.reduceEqDiff, Int.reduceLT, Int.reduceLE, Int.reduceEq, Int.reduceAdd, Int.reduceSub, Int.reduceMul, Int.reduceMod, Int.reduceDiv, Int.reduceNeg, Nat.zero_le, Nat.le_refl, List.length_cons, List.length_nil, ite_true, ite_false, if_true, if_false, decide_true, decide_false, Bool.not_true, Bool.not_false, Bool.and_true, Bool.true_and, Bool.and_false, Bool.false_and, Bool.or_true, Bool.or_false, Bool.true_or, Bool.false_or, List.cons.injEq, and_true, true_and, and_false, false_and, and_self, ne_eq, not_true_eq_false, not_false_eq_true, reduceCtorEq, List.nil_append, List.cons_append, List.append_nil, List.append_assoc, e_joinW, e_joinWT, k1, k2, k3, k4, h1, h2, h3, h4, f1, f2, f3, f4, t0, p1, p2, p3]
          · unfold m__law_words d__law_words
            simp only [e_rdDat, e_rdOwn, e_at0, e_atS, e_pu0, e_puS, e_var, e_c, e_op2, e_op2R, e_op2S, e_op1, e_op1S, e_opA, e_opAS, e_ofS, e_ofN, e_dB, e_toBS, e_and, e_andT, e_andF, e_or, e_orT, e_orF, e_not, e_notT, e_notF, e_notB, e_andV, e_andVT, e_andVF, e_orV, e_orVT, e_orVF, e_notV, e_notVB, e_ifE, e_ifET, e_ifEF, e_nil, e_cons, e_consR, e_consS, e_cleanN, e_cleanC, e_oN, e_oB, e_oI, e_oS, e_oT, e_oL, e_oSL, e_oOb, e_nf, e_tt, e_tup, e_tupR, e_tupB, e_items, e_itemsR, e_itemsB, e_fix, e_fixR, e_cat, e_catR, e_appN, e_appC, e_catB, e_catLL, e_catOL, e_catLO, e_catOO, e_call, e_callR, e_callB0, e_callB1, e_callB2, e_callB3, e_callB4, e_callB5, e_seq, e_seqN, e_seqR, e_seqB, e_seqC, e_seqX, e_skip, e_break, e_cont, e_set, e_setR, e_setX, e_setB, e_own, e_ownR, e_asg, e_asgR, e_nxO, e_tgT, e_putN, e_putC, e_tgN, e_tgB, e_drop, e_dropR, e_ret, e_retR, e_retX, e_retB, e_retN, e_if, e_ifT, e_ifF, e_app, e_appR, e_appB, e_frz, e_frzO, e_frzD, e_frzU, e_for, e_forR, e_forN, e_forC, e_turnB, e_turnN, e_turnC, e_turnK, e_turnR, e_turnX, e_it, e_itR, e_itA, e_itAR, e_asLst, e_asSlst, e_asTup, e_asStr, e_raise, e_run, e_endN, e_endR, e_endX, e_stC, e_st0, e_stS, e_addI, e_addS, e_addB, e_addLL, e_addOL, e_addLO, e_addOO, e_sub, e_mul, e_mod, e_div, e_neg, e_cmp, e_eqI, e_eqS, e_eqB, e_id, e_n1, e_isN, e_isI, e_isS, e_isT, e_isL, e_isB, e_isnN, e_isnI, e_isnS, e_isnT, e_isnL, e_isnB, e_ixS, e_ixT, e_ixL, e_ixSL, e_ixO, e_at_0, e_at_1, e_at_2, e_sg, e_lenS, e_lenT, e_lenL, e_lenSL, e_lenO, e_int, e_intT, e_intF, e_str, e_min, e_max, e_abs, e_m1, e_m1R, e_m1S, e_joinL, e_joinO, e_joinT, e_txN, e_txC, e_txS, e_isiS, e_isiL, e_isiTu, e_rep, e_replS, e_tabG, e_mpS, e_tabI, e_inS, e_sl, e_slR, e_slS, e_slT, e_oNone, e_oSome, e_oRI, e_slStr, e_slL, e_slSL, e_slO, e_lc, e_ca0, e_ca1, e_ca2, e_ca3, e_ca4, e_ca5, e_ca6, e_ca7, e_ca8, e_ca9, e_ca10, e_ca11, e_ca12, e_scS, e_scI, e_scB, e_scN, e_allN, e_allC, e_eqFS, e_eqFI, e_inST, e_inIT, e_index, e_spR, e_mg, e_mgS, e_smN, e_smC, eq_self, Nat.reduceLT, Nat.reduceGT, Nat.reduceAdd, Nat.reduceMul, Nat.reduceSub, Nat.reduceLeDiff, Nat.reduceEqDiff, Int.reduceLT, Int.reduceLE, Int.reduceEq, Int.reduceAdd, Int.reduceSub, Int.reduceMul, Int.reduceMod, Int.reduceDiv, Int.reduceNeg, Nat.zero_le, Nat.le_refl, List.length_cons, List.length_nil, ite_true, ite_false, if_true, if_false, decide_true, decide_false, Bool.not_true, Bool.not_false, Bool.and_true, Bool.true_and, Bool.and_false, Bool.false_and, Bool.or_true, Bool.or_false, Bool.true_or, Bool.false_or, List.cons.injEq, and_true, true_and, and_false, false_and, and_self, ne_eq, not_true_eq_false, not_false_eq_true, reduceCtorEq, List.nil_append, List.cons_append, List.append_nil, List.append_assoc, e_joinW, e_joinWT, k1, k2, k3, k4, h1, h2, h3, h4, f1, f2, f3, f4, t0, p1, p2, p3]
        · have p1 : (p.length ≤ 1000) = True := eq_true (by omega)
          have q1 : (q.length ≤ 1000) = True := eq_true (by omega)
          refine ⟨jn L8 [w, L13, [c], L12, cw, p, q], ?_, ?_⟩
          · unfold m_in_words d_in_words
            simp only [e_rdDat, e_rdOwn, e_at0, e_atS, e_pu0, e_puS, e_var, e_c, e_op2, e_op2R, e_op2S, e_op1, e_op1S, e_opA, e_opAS, e_ofS, e_ofN, e_dB, e_toBS, e_and, e_andT, e_andF, e_or, e_orT, e_orF, e_not, e_notT, e_notF, e_notB, e_andV, e_andVT, e_andVF, e_orV, e_orVT, e_orVF, e_notV, e_notVB, e_ifE, e_ifET, e_ifEF, e_nil, e_cons, e_consR, e_consS, e_cleanN, e_cleanC, e_oN, e_oB, e_oI, e_oS, e_oT, e_oL, e_oSL, e_oOb, e_nf, e_tt, e_tup, e_tupR, e_tupB, e_items, e_itemsR, e_itemsB, e_fix, e_fixR, e_cat, e_catR, e_appN, e_appC, e_catB, e_catLL, e_catOL, e_catLO, e_catOO, e_call, e_callR, e_callB0, e_callB1, e_callB2, e_callB3, e_callB4, e_callB5, e_seq, e_seqN, e_seqR, e_seqB, e_seqC, e_seqX, e_skip, e_break, e_cont, e_set, e_setR, e_setX, e_setB, e_own, e_ownR, e_asg, e_asgR, e_nxO, e_tgT, e_putN, e_putC, e_tgN, e_tgB, e_drop, e_dropR, e_ret, e_retR, e_retX, e_retB, e_retN, e_if, e_ifT, e_ifF, e_app, e_appR, e_appB, e_frz, e_frzO, e_frzD, e_frzU, e_for, e_forR, e_forN, e_forC, e_turnB, e_turnN, e_turnC, e_turnK, e_turnR, e_turnX, e_it, e_itR, e_itA, e_itAR, e_asLst, e_asSlst, e_asTup, e_asStr, e_raise, e_run, e_endN, e_endR, e_endX, e_stC, e_st0, e_stS, e_addI, e_addS, e_addB, e_addLL, e_addOL, e_addLO, e_addOO, e_sub, e_mul, e_mod, e_div, e_neg, e_cmp, e_eqI, e_eqS, e_eqB, e_id, e_n1, e_isN, e_isI, e_isS, e_isT, e_isL, e_isB, e_isnN, e_isnI, e_isnS, e_isnT, e_isnL, e_isnB, e_ixS, e_ixT, e_ixL, e_ixSL, e_ixO, e_at_0, e_at_1, e_at_2, e_sg, e_lenS, e_lenT, e_lenL, e_lenSL, e_lenO, e_int, e_intT, e_intF, e_str, e_min, e_max, e_abs, e_m1, e_m1R, e_m1S, e_joinL, e_joinO, e_joinT, e_txN, e_txC, e_txS, e_isiS, e_isiL, e_isiTu, e_rep, e_replS, e_tabG, e_mpS, e_tabI, e_inS, e_sl, e_slR, e_slS, e_slT, e_oNone, e_oSome, e_oRI, e_slStr, e_slL, e_slSL, e_slO, e_lc, e_ca0, e_ca1, e_ca2, e_ca3, e_ca4, e_ca5, e_ca6, e_ca7, e_ca8, e_ca9, e_ca10, e_ca11, e_ca12, e_scS, e_scI, e_scB, e_scN, e_allN, e_allC, e_eqFS, e_eqFI, e_inST, e_inIT, e_index, e_spR, e_mg, e_mgS, e_smN, e_smC, eq_self, Nat.reduceLT, Nat.reduceGT, Nat.reduceAdd, Nat.reduceMul, Nat.reduceSub, Nat.reduceLeDiff, Nat.reduceEqDiff, Int.reduceLT, Int.reduceLE, Int.reduceEq, Int.reduceAdd, Int.reduceSub, Int.reduceMul, Int.reduceMod, Int.reduceDiv, Int.reduceNeg, Nat.zero_le, Nat.le_refl, List.length_cons, List.length_nil, ite_true, ite_false, if_true, if_false, decide_true, decide_false, Bool.not_true, Bool.not_false, Bool.and_true, Bool.true_and, Bool.and_false, Bool.false_and, Bool.or_true, Bool.or_false, Bool.true_or, Bool.false_or, List.cons.injEq, and_true, true_and, and_false, false_and, and_self, ne_eq, not_true_eq_false, not_false_eq_true, reduceCtorEq, List.nil_append, List.cons_append, List.append_nil, List.append_assoc, e_joinW, e_joinWT, k1, k2, k3, k4, h1, h2, h3, h4, f1, f2, f3, f4, t0, p1, q1, p2, p3]
          · unfold m__law_words d__law_words
            simp only [e_rdDat, e_rdOwn, e_at0, e_atS, e_pu0, e_puS, e_var, e_c, e_op2, e_op2R, e_op2S, e_op1, e_op1S, e_opA, e_opAS, e_ofS, e_ofN, e_dB, e_toBS, e_and, e_andT, e_andF, e_or, e_orT, e_orF, e_not, e_notT, e_notF, e_notB, e_andV, e_andVT, e_andVF, e_orV, e_orVT, e_orVF, e_notV, e_notVB, e_ifE, e_ifET, e_ifEF, e_nil, e_cons, e_consR, e_consS, e_cleanN, e_cleanC, e_oN, e_oB, e_oI, e_oS, e_oT, e_oL, e_oSL, e_oOb, e_nf, e_tt, e_tup, e_tupR, e_tupB, e_items, e_itemsR, e_itemsB, e_fix, e_fixR, e_cat, e_catR, e_appN, e_appC, e_catB, e_catLL, e_catOL, e_catLO, e_catOO, e_call, e_callR, e_callB0, e_callB1, e_callB2, e_callB3, e_callB4, e_callB5, e_seq, e_seqN, e_seqR, e_seqB, e_seqC, e_seqX, e_skip, e_break, e_cont, e_set, e_setR, e_setX, e_setB, e_own, e_ownR, e_asg, e_asgR, e_nxO, e_tgT, e_putN, e_putC, e_tgN, e_tgB, e_drop, e_dropR, e_ret, e_retR, e_retX, e_retB, e_retN, e_if, e_ifT, e_ifF, e_app, e_appR, e_appB, e_frz, e_frzO, e_frzD, e_frzU, e_for, e_forR, e_forN, e_forC, e_turnB, e_turnN, e_turnC, e_turnK, e_turnR, e_turnX, e_it, e_itR, e_itA, e_itAR, e_asLst, e_asSlst, e_asTup, e_asStr, e_raise, e_run, e_endN, e_endR, e_endX, e_stC, e_st0, e_stS, e_addI, e_addS, e_addB, e_addLL, e_addOL, e_addLO, e_addOO, e_sub, e_mul, e_mod, e_div, e_neg, e_cmp, e_eqI, e_eqS, e_eqB, e_id, e_n1, e_isN, e_isI, e_isS, e_isT, e_isL, e_isB, e_isnN, e_isnI, e_isnS, e_isnT, e_isnL, e_isnB, e_ixS, e_ixT, e_ixL, e_ixSL, e_ixO, e_at_0, e_at_1, e_at_2, e_sg, e_lenS, e_lenT, e_lenL, e_lenSL, e_lenO, e_int, e_intT, e_intF, e_str, e_min, e_max, e_abs, e_m1, e_m1R, e_m1S, e_joinL, e_joinO, e_joinT, e_txN, e_txC, e_txS, e_isiS, e_isiL, e_isiTu, e_rep, e_replS, e_tabG, e_mpS, e_tabI, e_inS, e_sl, e_slR, e_slS, e_slT, e_oNone, e_oSome, e_oRI, e_slStr, e_slL, e_slSL, e_slO, e_lc, e_ca0, e_ca1, e_ca2, e_ca3, e_ca4, e_ca5, e_ca6, e_ca7, e_ca8, e_ca9, e_ca10, e_ca11, e_ca12, e_scS, e_scI, e_scB, e_scN, e_allN, e_allC, e_eqFS, e_eqFI, e_inST, e_inIT, e_index, e_spR, e_mg, e_mgS, e_smN, e_smC, eq_self, Nat.reduceLT, Nat.reduceGT, Nat.reduceAdd, Nat.reduceMul, Nat.reduceSub, Nat.reduceLeDiff, Nat.reduceEqDiff, Int.reduceLT, Int.reduceLE, Int.reduceEq, Int.reduceAdd, Int.reduceSub, Int.reduceMul, Int.reduceMod, Int.reduceDiv, Int.reduceNeg, Nat.zero_le, Nat.le_refl, List.length_cons, List.length_nil, ite_true, ite_false, if_true, if_false, decide_true, decide_false, Bool.not_true, Bool.not_false, Bool.and_true, Bool.true_and, Bool.and_false, Bool.false_and, Bool.or_true, Bool.or_false, Bool.true_or, Bool.false_or, List.cons.injEq, and_true, true_and, and_false, false_and, and_self, ne_eq, not_true_eq_false, not_false_eq_true, reduceCtorEq, List.nil_append, List.cons_append, List.append_nil, List.append_assoc, e_joinW, e_joinWT, k1, k2, k3, k4, h1, h2, h3, h4, f1, f2, f3, f4, t0, p1, q1, p2, p3]
theorem words5 {sh v t y : List Nat} {k : D} (hsh : sh = [] ∨ ∃ c, sh = [c]) (hk : k = .non ∨ ∃ i : Int, 0 ≤ i ∧ i ≤ 1000 ∧ k = .int i) (ht : t = [] ∨ GoodT t) (hv : v ∈ [L36, L35, L34, L33, L32, L31, L30, L37, L24, L23, L43, L42, L41, L40, L39, L38, L22]) (hy : ∃ c, y = [c]) : ∃ x, m_in_words [.tup [.str sh, k, .str v, .str t, .str y]] = .ok (.str x) ∧ m__law_words [.tup [.str sh, k, .str v, .str t, .str y]] = .ok (.str x) := by
  obtain ⟨e, rfl⟩ := hy
  obtain ⟨h0, h1, h2, h3, h4⟩ := other_verb hv
  obtain ⟨w, i, f1, f2, f3, f4⟩ := verb_ok h0
  rcases cnt_ok hk with ⟨k1, k2⟩ | ⟨cw, k1, k2, k3, k4⟩
  · rcases hsh with rfl | ⟨c, rfl⟩
    · rcases ht with rfl | ht
      · skip
        refine ⟨jn L8 [w, [e]], ?_, ?_⟩
        · unfold m_in_words d_in_words
          simp only [e_rdDat, e_rdOwn, e_at0, e_atS, e_pu0, e_puS, e_var, e_c, e_op2, e_op2R, e_op2S, e_op1, e_op1S, e_opA, e_opAS, e_ofS, e_ofN, e_dB, e_toBS, e_and, e_andT, e_andF, e_or, e_orT, e_orF, e_not, e_notT, e_notF, e_notB, e_andV, e_andVT, e_andVF, e_orV, e_orVT, e_orVF, e_notV, e_notVB, e_ifE, e_ifET, e_ifEF, e_nil, e_cons, e_consR, e_consS, e_cleanN, e_cleanC, e_oN, e_oB, e_oI, e_oS, e_oT, e_oL, e_oSL, e_oOb, e_nf, e_tt, e_tup, e_tupR, e_tupB, e_items, e_itemsR, e_itemsB, e_fix, e_fixR, e_cat, e_catR, e_appN, e_appC, e_catB, e_catLL, e_catOL, e_catLO, e_catOO, e_call, e_callR, e_callB0, e_callB1, e_callB2, e_callB3, e_callB4, e_callB5, e_seq, e_seqN, e_seqR, e_seqB, e_seqC, e_seqX, e_skip, e_break, e_cont, e_set, e_setR, e_setX, e_setB, e_own, e_ownR, e_asg, e_asgR, e_nxO, e_tgT, e_putN, e_putC, e_tgN, e_tgB, e_drop, e_dropR, e_ret, e_retR, e_retX, e_retB, e_retN, e_if, e_ifT, e_ifF, e_app, e_appR, e_appB, e_frz, e_frzO, e_frzD, e_frzU, e_for, e_forR, e_forN, e_forC, e_turnB, e_turnN, e_turnC, e_turnK, e_turnR, e_turnX, e_it, e_itR, e_itA, e_itAR, e_asLst, e_asSlst, e_asTup, e_asStr, e_raise, e_run, e_endN, e_endR, e_endX, e_stC, e_st0, e_stS, e_addI, e_addS, e_addB, e_addLL, e_addOL, e_addLO, e_addOO, e_sub, e_mul, e_mod, e_div, e_neg, e_cmp, e_eqI, e_eqS, e_eqB, e_id, e_n1, e_isN, e_isI, e_isS, e_isT, e_isL, e_isB, e_isnN, e_isnI, e_isnS, e_isnT, e_isnL, e_isnB, e_ixS, e_ixT, e_ixL, e_ixSL, e_ixO, e_at_0, e_at_1, e_at_2, e_sg, e_lenS, e_lenT, e_lenL, e_lenSL, e_lenO, e_int, e_intT, e_intF, e_str, e_min, e_max, e_abs, e_m1, e_m1R, e_m1S, e_joinL, e_joinO, e_joinT, e_txN, e_txC, e_txS, e_isiS, e_isiL, e_isiTu, e_rep, e_replS, e_tabG, e_mpS, e_tabI, e_inS, e_sl, e_slR, e_slS, e_slT, e_oNone, e_oSome, e_oRI, e_slStr, e_slL, e_slSL, e_slO, e_lc, e_ca0, e_ca1, e_ca2, e_ca3, e_ca4, e_ca5, e_ca6, e_ca7, e_ca8, e_ca9, e_ca10, e_ca11, e_ca12, e_scS, e_scI, e_scB, e_scN, e_allN, e_allC, e_eqFS, e_eqFI, e_inST, e_inIT, e_index, e_spR, e_mg, e_mgS, e_smN, e_smC, eq_self, Nat.reduceLT, Nat.reduceGT, Nat.reduceAdd, Nat.reduceMul, Nat.reduceSub, Nat.reduceLeDiff, Nat.reduceEqDiff, Int.reduceLT, Int.reduceLE, Int.reduceEq, Int.reduceAdd, Int.reduceSub, Int.reduceMul, Int.reduceMod, Int.reduceDiv, Int.reduceNeg, Nat.zero_le, Nat.le_refl, List.length_cons, List.length_nil, ite_true, ite_false, if_true, if_false, decide_true, decide_false, Bool.not_true, Bool.not_false, Bool.and_true, Bool.true_and, Bool.and_false, Bool.false_and, Bool.or_true, Bool.or_false, Bool.true_or, Bool.false_or, List.cons.injEq, and_true, true_and, and_false, false_and, and_self, ne_eq, not_true_eq_false, not_false_eq_true, reduceCtorEq, List.nil_append, List.cons_append, List.append_nil, List.append_assoc, e_joinW, e_joinWT, k1, k2, h1, h2, h3, h4, f1, f2, f3, f4]
        · unfold m__law_words d__law_words
          simp only [e_rdDat, e_rdOwn, e_at0, e_atS, e_pu0, e_puS, e_var, e_c, e_op2, e_op2R, e_op2S, e_op1, e_op1S, e_opA, e_opAS, e_ofS, e_ofN, e_dB, e_toBS, e_and, e_andT, e_andF, e_or, e_orT, e_orF, e_not, e_notT, e_notF, e_notB, e_andV, e_andVT, e_andVF, e_orV, e_orVT, e_orVF, e_notV, e_notVB, e_ifE, e_ifET, e_ifEF, e_nil, e_cons, e_consR, e_consS, e_cleanN, e_cleanC, e_oN, e_oB, e_oI, e_oS, e_oT, e_oL, e_oSL, e_oOb, e_nf, e_tt, e_tup, e_tupR, e_tupB, e_items, e_itemsR, e_itemsB, e_fix, e_fixR, e_cat, e_catR, e_appN, e_appC, e_catB, e_catLL, e_catOL, e_catLO, e_catOO, e_call, e_callR, e_callB0, e_callB1, e_callB2, e_callB3, e_callB4, e_callB5, e_seq, e_seqN, e_seqR, e_seqB, e_seqC, e_seqX, e_skip, e_break, e_cont, e_set, e_setR, e_setX, e_setB, e_own, e_ownR, e_asg, e_asgR, e_nxO, e_tgT, e_putN, e_putC, e_tgN, e_tgB, e_drop, e_dropR, e_ret, e_retR, e_retX, e_retB, e_retN, e_if, e_ifT, e_ifF, e_app, e_appR, e_appB, e_frz, e_frzO, e_frzD, e_frzU, e_for, e_forR, e_forN, e_forC, e_turnB, e_turnN, e_turnC, e_turnK, e_turnR, e_turnX, e_it, e_itR, e_itA, e_itAR, e_asLst, e_asSlst, e_asTup, e_asStr, e_raise, e_run, e_endN, e_endR, e_endX, e_stC, e_st0, e_stS, e_addI, e_addS, e_addB, e_addLL, e_addOL, e_addLO, e_addOO, e_sub, e_mul, e_mod, e_div, e_neg, e_cmp, e_eqI, e_eqS, e_eqB, e_id, e_n1, e_isN, e_isI, e_isS, e_isT, e_isL, e_isB, e_isnN, e_isnI, e_isnS, e_isnT, e_isnL, e_isnB, e_ixS, e_ixT, e_ixL, e_ixSL, e_ixO, e_at_0, e_at_1, e_at_2, e_sg, e_lenS, e_lenT, e_lenL, e_lenSL, e_lenO, e_int, e_intT, e_intF, e_str, e_min, e_max, e_abs, e_m1, e_m1R, e_m1S, e_joinL, e_joinO, e_joinT, e_txN, e_txC, e_txS, e_isiS, e_isiL, e_isiTu, e_rep, e_replS, e_tabG, e_mpS, e_tabI, e_inS, e_sl, e_slR, e_slS, e_slT, e_oNone, e_oSome, e_oRI, e_slStr, e_slL, e_slSL, e_slO, e_lc, e_ca0, e_ca1, e_ca2, e_ca3, e_ca4, e_ca5, e_ca6, e_ca7, e_ca8, e_ca9, e_ca10, e_ca11, e_ca12, e_scS, e_scI, e_scB, e_scN, e_allN, e_allC, e_eqFS, e_eqFI, e_inST, e_inIT, e_index, e_spR, e_mg, e_mgS, e_smN, e_smC, eq_self, Nat.reduceLT, Nat.reduceGT, Nat.reduceAdd, Nat.reduceMul, Nat.reduceSub, Nat.reduceLeDiff, Nat.reduceEqDiff, Int.reduceLT, Int.reduceLE, Int.reduceEq, Int.reduceAdd, Int.reduceSub, Int.reduceMul, Int.reduceMod, Int.reduceDiv, Int.reduceNeg, Nat.zero_le, Nat.le_refl, List.length_cons, List.length_nil, ite_true, ite_false, if_true, if_false, decide_true, decide_false, Bool.not_true, Bool.not_false, Bool.and_true, Bool.true_and, Bool.and_false, Bool.false_and, Bool.or_true, Bool.or_false, Bool.true_or, Bool.false_or, List.cons.injEq, and_true, true_and, and_false, false_and, and_self, ne_eq, not_true_eq_false, not_false_eq_true, reduceCtorEq, List.nil_append, List.cons_append, List.append_nil, List.append_assoc, e_joinW, e_joinWT, k1, k2, h1, h2, h3, h4, f1, f2, f3, f4]
      · obtain ⟨t0, tt⟩ := t_words ht
        have t0 : (t = []) = False := eq_false t0
        rcases tt with ⟨p, p1, p2, p3⟩ | ⟨p, q, p1, q1, p2, p3⟩
        · have p1 : (p.length ≤ 1000) = True := eq_true (by omega)
          refine ⟨jn L8 [w, p, [e]], ?_, ?_⟩
          · unfold m_in_words d_in_words
            simp only [e_rdDat, e_rdOwn, e_at0, e_atS, e_pu0, e_puS, e_var, e_c, e_op2, e_op2R, e_op2S, e_op1, e_op1S, e_opA, e_opAS, e_ofS, e_ofN, e_dB, e_toBS, e_and, e_andT, e_andF, e_or, e_orT, e_orF, e_not, e_notT, e_notF, e_notB, e_andV, e_andVT, e_andVF, e_orV, e_orVT, e_orVF, e_notV, e_notVB, e_ifE, e_ifET, e_ifEF, e_nil, e_cons, e_consR, e_consS, e_cleanN, e_cleanC, e_oN, e_oB, e_oI, e_oS, e_oT, e_oL, e_oSL, e_oOb, e_nf, e_tt, e_tup, e_tupR, e_tupB, e_items, e_itemsR, e_itemsB, e_fix, e_fixR, e_cat, e_catR, e_appN, e_appC, e_catB, e_catLL, e_catOL, e_catLO, e_catOO, e_call, e_callR, e_callB0, e_callB1, e_callB2, e_callB3, e_callB4, e_callB5, e_seq, e_seqN, e_seqR, e_seqB, e_seqC, e_seqX, e_skip, e_break, e_cont, e_set, e_setR, e_setX, e_setB, e_own, e_ownR, e_asg, e_asgR, e_nxO, e_tgT, e_putN, e_putC, e_tgN, e_tgB, e_drop, e_dropR, e_ret, e_retR, e_retX, e_retB, e_retN, e_if, e_ifT, e_ifF, e_app, e_appR, e_appB, e_frz, e_frzO, e_frzD, e_frzU, e_for, e_forR, e_forN, e_forC, e_turnB, e_turnN, e_turnC, e_turnK, e_turnR, e_turnX, e_it, e_itR, e_itA, e_itAR, e_asLst, e_asSlst, e_asTup, e_asStr, e_raise, e_run, e_endN, e_endR, e_endX, e_stC, e_st0, e_stS, e_addI, e_addS, e_addB, e_addLL, e_addOL, e_addLO, e_addOO, e_sub, e_mul, e_mod, e_div, e_neg, e_cmp, e_eqI, e_eqS, e_eqB, e_id, e_n1, e_isN, e_isI, e_isS, e_isT, e_isL, e_isB, e_isnN, e_isnI, e_isnS, e_isnT, e_isnL, e_isnB, e_ixS, e_ixT, e_ixL, e_ixSL, e_ixO, e_at_0, e_at_1, e_at_2, e_sg, e_lenS, e_lenT, e_lenL, e_lenSL, e_lenO, e_int, e_intT, e_intF, e_str, e_min, e_max, e_abs, e_m1, e_m1R, e_m1S, e_joinL, e_joinO, e_joinT, e_txN, e_txC, e_txS, e_isiS, e_isiL, e_isiTu, e_rep, e_replS, e_tabG, e_mpS, e_tabI, e_inS, e_sl, e_slR, e_slS, e_slT, e_oNone, e_oSome, e_oRI, e_slStr, e_slL, e_slSL, e_slO, e_lc, e_ca0, e_ca1, e_ca2, e_ca3, e_ca4, e_ca5, e_ca6, e_ca7, e_ca8, e_ca9, e_ca10, e_ca11, e_ca12, e_scS, e_scI, e_scB, e_scN, e_allN, e_allC, e_eqFS, e_eqFI, e_inST, e_inIT, e_index, e_spR, e_mg, e_mgS, e_smN, e_smC, eq_self, Nat.reduceLT, Nat.reduceGT, Nat.reduceAdd, Nat.reduceMul, Nat.reduceSub, Nat.reduceLeDiff, Nat.reduceEqDiff, Int.reduceLT, Int.reduceLE, Int.reduceEq, Int.reduceAdd, Int.reduceSub, Int.reduceMul, Int.reduceMod, Int.reduceDiv, Int.reduceNeg, Nat.zero_le, Nat.le_refl, List.length_cons, List.length_nil, ite_true, ite_false, if_true, if_false, decide_true, decide_false, Bool.not_true, Bool.not_false, Bool.and_true, Bool.true_and, Bool.and_false, Bool.false_and, Bool.or_true, Bool.or_false, Bool.true_or, Bool.false_or, List.cons.injEq, and_true, true_and, and_false, false_and, and_self, ne_eq, not_true_eq_false, not_false_eq_true, reduceCtorEq, List.nil_append, List.cons_append, List.append_nil, List.append_assoc, e_joinW, e_joinWT, k1, k2, h1, h2, h3, h4, f1, f2, f3, f4, t0, p1, p2, p3]
          · unfold m__law_words d__law_words
            simp only [e_rdDat, e_rdOwn, e_at0, e_atS, e_pu0, e_puS, e_var, e_c, e_op2, e_op2R, e_op2S, e_op1, e_op1S, e_opA, e_opAS, e_ofS, e_ofN, e_dB, e_toBS, e_and, e_andT, e_andF, e_or, e_orT, e_orF, e_not, e_notT, e_notF, e_notB, e_andV, e_andVT, e_andVF, e_orV, e_orVT, e_orVF, e_notV, e_notVB, e_ifE, e_ifET, e_ifEF, e_nil, e_cons, e_consR, e_consS, e_cleanN, e_cleanC, e_oN, e_oB, e_oI, e_oS, e_oT, e_oL, e_oSL, e_oOb, e_nf, e_tt, e_tup, e_tupR, e_tupB, e_items, e_itemsR, e_itemsB, e_fix, e_fixR, e_cat, e_catR, e_appN, e_appC, e_catB, e_catLL, e_catOL, e_catLO, e_catOO, e_call, e_callR, e_callB0, e_callB1, e_callB2, e_callB3, e_callB4, e_callB5, e_seq, e_seqN, e_seqR, e_seqB, e_seqC, e_seqX, e_skip, e_break, e_cont, e_set, e_setR, e_setX, e_setB, e_own, e_ownR, e_asg, e_asgR, e_nxO, e_tgT, e_putN, e_putC, e_tgN, e_tgB, e_drop, e_dropR, e_ret, e_retR, e_retX, e_retB, e_retN, e_if, e_ifT, e_ifF, e_app, e_appR, e_appB, e_frz, e_frzO, e_frzD, e_frzU, e_for, e_forR, e_forN, e_forC, e_turnB, e_turnN, e_turnC, e_turnK, e_turnR, e_turnX, e_it, e_itR, e_itA, e_itAR, e_asLst, e_asSlst, e_asTup, e_asStr, e_raise, e_run, e_endN, e_endR, e_endX, e_stC, e_st0, e_stS, e_addI, e_addS, e_addB, e_addLL, e_addOL, e_addLO, e_addOO, e_sub, e_mul, e_mod, e_div, e_neg, e_cmp, e_eqI, e_eqS, e_eqB, e_id, e_n1, e_isN, e_isI, e_isS, e_isT, e_isL, e_isB, e_isnN, e_isnI, e_isnS, e_isnT, e_isnL, e_isnB, e_ixS, e_ixT, e_ixL, e_ixSL, e_ixO, e_at_0, e_at_1, e_at_2, e_sg, e_lenS, e_lenT, e_lenL, e_lenSL, e_lenO, e_int, e_intT, e_intF, e_str, e_min, e_max, e_abs, e_m1, e_m1R, e_m1S, e_joinL, e_joinO, e_joinT, e_txN, e_txC, e_txS, e_isiS, e_isiL, e_isiTu, e_rep, e_replS, e_tabG, e_mpS, e_tabI, e_inS, e_sl, e_slR, e_slS, e_slT, e_oNone, e_oSome, e_oRI, e_slStr, e_slL, e_slSL, e_slO, e_lc, e_ca0, e_ca1, e_ca2, e_ca3, e_ca4, e_ca5, e_ca6, e_ca7, e_ca8, e_ca9, e_ca10, e_ca11, e_ca12, e_scS, e_scI, e_scB, e_scN, e_allN, e_allC, e_eqFS, e_eqFI, e_inST, e_inIT, e_index, e_spR, e_mg, e_mgS, e_smN, e_smC, eq_self, Nat.reduceLT, Nat.reduceGT, Nat.reduceAdd, Nat.reduceMul, Nat.reduceSub, Nat.reduceLeDiff, Nat.reduceEqDiff, Int.reduceLT, Int.reduceLE, Int.reduceEq, Int.reduceAdd, Int.reduceSub, Int.reduceMul, Int.reduceMod, Int.reduceDiv, Int.reduceNeg, Nat.zero_le, Nat.le_refl, List.length_cons, List.length_nil, ite_true, ite_false, if_true, if_false, decide_true, decide_false, Bool.not_true, Bool.not_false, Bool.and_true, Bool.true_and, Bool.and_false, Bool.false_and, Bool.or_true, Bool.or_false, Bool.true_or, Bool.false_or, List.cons.injEq, and_true, true_and, and_false, false_and, and_self, ne_eq, not_true_eq_false, not_false_eq_true, reduceCtorEq, List.nil_append, List.cons_append, List.append_nil, List.append_assoc, e_joinW, e_joinWT, k1, k2, h1, h2, h3, h4, f1, f2, f3, f4, t0, p1, p2, p3]
        · have p1 : (p.length ≤ 1000) = True := eq_true (by omega)
          have q1 : (q.length ≤ 1000) = True := eq_true (by omega)
          refine ⟨jn L8 [w, p, q, [e]], ?_, ?_⟩
          · unfold m_in_words d_in_words
            simp only [e_rdDat, e_rdOwn, e_at0, e_atS, e_pu0, e_puS, e_var, e_c, e_op2, e_op2R, e_op2S, e_op1, e_op1S, e_opA, e_opAS, e_ofS, e_ofN, e_dB, e_toBS, e_and, e_andT, e_andF, e_or, e_orT, e_orF, e_not, e_notT, e_notF, e_notB, e_andV, e_andVT, e_andVF, e_orV, e_orVT, e_orVF, e_notV, e_notVB, e_ifE, e_ifET, e_ifEF, e_nil, e_cons, e_consR, e_consS, e_cleanN, e_cleanC, e_oN, e_oB, e_oI, e_oS, e_oT, e_oL, e_oSL, e_oOb, e_nf, e_tt, e_tup, e_tupR, e_tupB, e_items, e_itemsR, e_itemsB, e_fix, e_fixR, e_cat, e_catR, e_appN, e_appC, e_catB, e_catLL, e_catOL, e_catLO, e_catOO, e_call, e_callR, e_callB0, e_callB1, e_callB2, e_callB3, e_callB4, e_callB5, e_seq, e_seqN, e_seqR, e_seqB, e_seqC, e_seqX, e_skip, e_break, e_cont, e_set, e_setR, e_setX, e_setB, e_own, e_ownR, e_asg, e_asgR, e_nxO, e_tgT, e_putN, e_putC, e_tgN, e_tgB, e_drop, e_dropR, e_ret, e_retR, e_retX, e_retB, e_retN, e_if, e_ifT, e_ifF, e_app, e_appR, e_appB, e_frz, e_frzO, e_frzD, e_frzU, e_for, e_forR, e_forN, e_forC, e_turnB, e_turnN, e_turnC, e_turnK, e_turnR, e_turnX, e_it, e_itR, e_itA, e_itAR, e_asLst, e_asSlst, e_asTup, e_asStr, e_raise, e_run, e_endN, e_endR, e_endX, e_stC, e_st0, e_stS, e_addI, e_addS, e_addB, e_addLL, e_addOL, e_addLO, e_addOO, e_sub, e_mul, e_mod, e_div, e_neg, e_cmp, e_eqI, e_eqS, e_eqB, e_id, e_n1, e_isN, e_isI, e_isS, e_isT, e_isL, e_isB, e_isnN, e_isnI, e_isnS, e_isnT, e_isnL, e_isnB, e_ixS, e_ixT, e_ixL, e_ixSL, e_ixO, e_at_0, e_at_1, e_at_2, e_sg, e_lenS, e_lenT, e_lenL, e_lenSL, e_lenO, e_int, e_intT, e_intF, e_str, e_min, e_max, e_abs, e_m1, e_m1R, e_m1S, e_joinL, e_joinO, e_joinT, e_txN, e_txC, e_txS, e_isiS, e_isiL, e_isiTu, e_rep, e_replS, e_tabG, e_mpS, e_tabI, e_inS, e_sl, e_slR, e_slS, e_slT, e_oNone, e_oSome, e_oRI, e_slStr, e_slL, e_slSL, e_slO, e_lc, e_ca0, e_ca1, e_ca2, e_ca3, e_ca4, e_ca5, e_ca6, e_ca7, e_ca8, e_ca9, e_ca10, e_ca11, e_ca12, e_scS, e_scI, e_scB, e_scN, e_allN, e_allC, e_eqFS, e_eqFI, e_inST, e_inIT, e_index, e_spR, e_mg, e_mgS, e_smN, e_smC, eq_self, Nat.reduceLT, Nat.reduceGT, Nat.reduceAdd, Nat.reduceMul, Nat.reduceSub, Nat.reduceLeDiff, Nat.reduceEqDiff, Int.reduceLT, Int.reduceLE, Int.reduceEq, Int.reduceAdd, Int.reduceSub, Int.reduceMul, Int.reduceMod, Int.reduceDiv, Int.reduceNeg, Nat.zero_le, Nat.le_refl, List.length_cons, List.length_nil, ite_true, ite_false, if_true, if_false, decide_true, decide_false, Bool.not_true, Bool.not_false, Bool.and_true, Bool.true_and, Bool.and_false, Bool.false_and, Bool.or_true, Bool.or_false, Bool.true_or, Bool.false_or, List.cons.injEq, and_true, true_and, and_false, false_and, and_self, ne_eq, not_true_eq_false, not_false_eq_true, reduceCtorEq, List.nil_append, List.cons_append, List.append_nil, List.append_assoc, e_joinW, e_joinWT, k1, k2, h1, h2, h3, h4, f1, f2, f3, f4, t0, p1, q1, p2, p3]
          · unfold m__law_words d__law_words
            simp only [e_rdDat, e_rdOwn, e_at0, e_atS, e_pu0, e_puS, e_var, e_c, e_op2, e_op2R, e_op2S, e_op1, e_op1S, e_opA, e_opAS, e_ofS, e_ofN, e_dB, e_toBS, e_and, e_andT, e_andF, e_or, e_orT, e_orF, e_not, e_notT, e_notF, e_notB, e_andV, e_andVT, e_andVF, e_orV, e_orVT, e_orVF, e_notV, e_notVB, e_ifE, e_ifET, e_ifEF, e_nil, e_cons, e_consR, e_consS, e_cleanN, e_cleanC, e_oN, e_oB, e_oI, e_oS, e_oT, e_oL, e_oSL, e_oOb, e_nf, e_tt, e_tup, e_tupR, e_tupB, e_items, e_itemsR, e_itemsB, e_fix, e_fixR, e_cat, e_catR, e_appN, e_appC, e_catB, e_catLL, e_catOL, e_catLO, e_catOO, e_call, e_callR, e_callB0, e_callB1, e_callB2, e_callB3, e_callB4, e_callB5, e_seq, e_seqN, e_seqR, e_seqB, e_seqC, e_seqX, e_skip, e_break, e_cont, e_set, e_setR, e_setX, e_setB, e_own, e_ownR, e_asg, e_asgR, e_nxO, e_tgT, e_putN, e_putC, e_tgN, e_tgB, e_drop, e_dropR, e_ret, e_retR, e_retX, e_retB, e_retN, e_if, e_ifT, e_ifF, e_app, e_appR, e_appB, e_frz, e_frzO, e_frzD, e_frzU, e_for, e_forR, e_forN, e_forC, e_turnB, e_turnN, e_turnC, e_turnK, e_turnR, e_turnX, e_it, e_itR, e_itA, e_itAR, e_asLst, e_asSlst, e_asTup, e_asStr, e_raise, e_run, e_endN, e_endR, e_endX, e_stC, e_st0, e_stS, e_addI, e_addS, e_addB, e_addLL, e_addOL, e_addLO, e_addOO, e_sub, e_mul, e_mod, e_div, e_neg, e_cmp, e_eqI, e_eqS, e_eqB, e_id, e_n1, e_isN, e_isI, e_isS, e_isT, e_isL, e_isB, e_isnN, e_isnI, e_isnS, e_isnT, e_isnL, e_isnB, e_ixS, e_ixT, e_ixL, e_ixSL, e_ixO, e_at_0, e_at_1, e_at_2, e_sg, e_lenS, e_lenT, e_lenL, e_lenSL, e_lenO, e_int, e_intT, e_intF, e_str, e_min, e_max, e_abs, e_m1, e_m1R, e_m1S, e_joinL, e_joinO, e_joinT, e_txN, e_txC, e_txS, e_isiS, e_isiL, e_isiTu, e_rep, e_replS, e_tabG, e_mpS, e_tabI, e_inS, e_sl, e_slR, e_slS, e_slT, e_oNone, e_oSome, e_oRI, e_slStr, e_slL, e_slSL, e_slO, e_lc, e_ca0, e_ca1, e_ca2, e_ca3, e_ca4, e_ca5, e_ca6, e_ca7, e_ca8, e_ca9, e_ca10, e_ca11, e_ca12, e_scS, e_scI, e_scB, e_scN, e_allN, e_allC, e_eqFS, e_eqFI, e_inST, e_inIT, e_index, e_spR, e_mg, e_mgS, e_smN, e_smC, eq_self, Nat.reduceLT, Nat.reduceGT, Nat.reduceAdd, Nat.reduceMul, Nat.reduceSub, Nat.reduceLeDiff, Nat.reduceEqDiff, Int.reduceLT, Int.reduceLE, Int.reduceEq, Int.reduceAdd, Int.reduceSub, Int.reduceMul, Int.reduceMod, Int.reduceDiv, Int.reduceNeg, Nat.zero_le, Nat.le_refl, List.length_cons, List.length_nil, ite_true, ite_false, if_true, if_false, decide_true, decide_false, Bool.not_true, Bool.not_false, Bool.and_true, Bool.true_and, Bool.and_false, Bool.false_and, Bool.or_true, Bool.or_false, Bool.true_or, Bool.false_or, List.cons.injEq, and_true, true_and, and_false, false_and, and_self, ne_eq, not_true_eq_false, not_false_eq_true, reduceCtorEq, List.nil_append, List.cons_append, List.append_nil, List.append_assoc, e_joinW, e_joinWT, k1, k2, h1, h2, h3, h4, f1, f2, f3, f4, t0, p1, q1, p2, p3]
    · rcases ht with rfl | ht
      · skip
        refine ⟨jn L8 [w, L13, [c], [e]], ?_, ?_⟩
        · unfold m_in_words d_in_words
          simp only [e_rdDat, e_rdOwn, e_at0, e_atS, e_pu0, e_puS, e_var, e_c, e_op2, e_op2R, e_op2S, e_op1, e_op1S, e_opA, e_opAS, e_ofS, e_ofN, e_dB, e_toBS, e_and, e_andT, e_andF, e_or, e_orT, e_orF, e_not, e_notT, e_notF, e_notB, e_andV, e_andVT, e_andVF, e_orV, e_orVT, e_orVF, e_notV, e_notVB, e_ifE, e_ifET, e_ifEF, e_nil, e_cons, e_consR, e_consS, e_cleanN, e_cleanC, e_oN, e_oB, e_oI, e_oS, e_oT, e_oL, e_oSL, e_oOb, e_nf, e_tt, e_tup, e_tupR, e_tupB, e_items, e_itemsR, e_itemsB, e_fix, e_fixR, e_cat, e_catR, e_appN, e_appC, e_catB, e_catLL, e_catOL, e_catLO, e_catOO, e_call, e_callR, e_callB0, e_callB1, e_callB2, e_callB3, e_callB4, e_callB5, e_seq, e_seqN, e_seqR, e_seqB, e_seqC, e_seqX, e_skip, e_break, e_cont, e_set, e_setR, e_setX, e_setB, e_own, e_ownR, e_asg, e_asgR, e_nxO, e_tgT, e_putN, e_putC, e_tgN, e_tgB, e_drop, e_dropR, e_ret, e_retR, e_retX, e_retB, e_retN, e_if, e_ifT, e_ifF, e_app, e_appR, e_appB, e_frz, e_frzO, e_frzD, e_frzU, e_for, e_forR, e_forN, e_forC, e_turnB, e_turnN, e_turnC, e_turnK, e_turnR, e_turnX, e_it, e_itR, e_itA, e_itAR, e_asLst, e_asSlst, e_asTup, e_asStr, e_raise, e_run, e_endN, e_endR, e_endX, e_stC, e_st0, e_stS, e_addI, e_addS, e_addB, e_addLL, e_addOL, e_addLO, e_addOO, e_sub, e_mul, e_mod, e_div, e_neg, e_cmp, e_eqI, e_eqS, e_eqB, e_id, e_n1, e_isN, e_isI, e_isS, e_isT, e_isL, e_isB, e_isnN, e_isnI, e_isnS, e_isnT, e_isnL, e_isnB, e_ixS, e_ixT, e_ixL, e_ixSL, e_ixO, e_at_0, e_at_1, e_at_2, e_sg, e_lenS, e_lenT, e_lenL, e_lenSL, e_lenO, e_int, e_intT, e_intF, e_str, e_min, e_max, e_abs, e_m1, e_m1R, e_m1S, e_joinL, e_joinO, e_joinT, e_txN, e_txC, e_txS, e_isiS, e_isiL, e_isiTu, e_rep, e_replS, e_tabG, e_mpS, e_tabI, e_inS, e_sl, e_slR, e_slS, e_slT, e_oNone, e_oSome, e_oRI, e_slStr, e_slL, e_slSL, e_slO, e_lc, e_ca0, e_ca1, e_ca2, e_ca3, e_ca4, e_ca5, e_ca6, e_ca7, e_ca8, e_ca9, e_ca10, e_ca11, e_ca12, e_scS, e_scI, e_scB, e_scN, e_allN, e_allC, e_eqFS, e_eqFI, e_inST, e_inIT, e_index, e_spR, e_mg, e_mgS, e_smN, e_smC, eq_self, Nat.reduceLT, Nat.reduceGT, Nat.reduceAdd, Nat.reduceMul, Nat.reduceSub, Nat.reduceLeDiff, Nat.reduceEqDiff, Int.reduceLT, Int.reduceLE, Int.reduceEq, Int.reduceAdd, Int.reduceSub, Int.reduceMul, Int.reduceMod, Int.reduceDiv, Int.reduceNeg, Nat.zero_le, Nat.le_refl, List.length_cons, List.length_nil, ite_true, ite_false, if_true, if_false, decide_true, decide_false, Bool.not_true, Bool.not_false, Bool.and_true, Bool.true_and, Bool.and_false, Bool.false_and, Bool.or_true, Bool.or_false, Bool.true_or, Bool.false_or, List.cons.injEq, and_true, true_and, and_false, false_and, and_self, ne_eq, not_true_eq_false, not_false_eq_true, reduceCtorEq, List.nil_append, List.cons_append, List.append_nil, List.append_assoc, e_joinW, e_joinWT, k1, k2, h1, h2, h3, h4, f1, f2, f3, f4]
        · unfold m__law_words d__law_words
          simp only [e_rdDat, e_rdOwn, e_at0, e_atS, e_pu0, e_puS, e_var, e_c, e_op2, e_op2R, e_op2S, e_op1, e_op1S, e_opA, e_opAS, e_ofS, e_ofN, e_dB, e_toBS, e_and, e_andT, e_andF, e_or, e_orT, e_orF, e_not, e_notT, e_notF, e_notB, e_andV, e_andVT, e_andVF, e_orV, e_orVT, e_orVF, e_notV, e_notVB, e_ifE, e_ifET, e_ifEF, e_nil, e_cons, e_consR, e_consS, e_cleanN, e_cleanC, e_oN, e_oB, e_oI, e_oS, e_oT, e_oL, e_oSL, e_oOb, e_nf, e_tt, e_tup, e_tupR, e_tupB, e_items, e_itemsR, e_itemsB, e_fix, e_fixR, e_cat, e_catR, e_appN, e_appC, e_catB, e_catLL, e_catOL, e_catLO, e_catOO, e_call, e_callR, e_callB0, e_callB1, e_callB2, e_callB3, e_callB4, e_callB5, e_seq, e_seqN, e_seqR, e_seqB, e_seqC, e_seqX, e_skip, e_break, e_cont, e_set, e_setR, e_setX, e_setB, e_own, e_ownR, e_asg, e_asgR, e_nxO, e_tgT, e_putN, e_putC, e_tgN, e_tgB, e_drop, e_dropR, e_ret, e_retR, e_retX, e_retB, e_retN, e_if, e_ifT, e_ifF, e_app, e_appR, e_appB, e_frz, e_frzO, e_frzD, e_frzU, e_for, e_forR, e_forN, e_forC, e_turnB, e_turnN, e_turnC, e_turnK, e_turnR, e_turnX, e_it, e_itR, e_itA, e_itAR, e_asLst, e_asSlst, e_asTup, e_asStr, e_raise, e_run, e_endN, e_endR, e_endX, e_stC, e_st0, e_stS, e_addI, e_addS, e_addB, e_addLL, e_addOL, e_addLO, e_addOO, e_sub, e_mul, e_mod, e_div, e_neg, e_cmp, e_eqI, e_eqS, e_eqB, e_id, e_n1, e_isN, e_isI, e_isS, e_isT, e_isL, e_isB, e_isnN, e_isnI, e_isnS, e_isnT, e_isnL, e_isnB, e_ixS, e_ixT, e_ixL, e_ixSL, e_ixO, e_at_0, e_at_1, e_at_2, e_sg, e_lenS, e_lenT, e_lenL, e_lenSL, e_lenO, e_int, e_intT, e_intF, e_str, e_min, e_max, e_abs, e_m1, e_m1R, e_m1S, e_joinL, e_joinO, e_joinT, e_txN, e_txC, e_txS, e_isiS, e_isiL, e_isiTu, e_rep, e_replS, e_tabG, e_mpS, e_tabI, e_inS, e_sl, e_slR, e_slS, e_slT, e_oNone, e_oSome, e_oRI, e_slStr, e_slL, e_slSL, e_slO, e_lc, e_ca0, e_ca1, e_ca2, e_ca3, e_ca4, e_ca5, e_ca6, e_ca7, e_ca8, e_ca9, e_ca10, e_ca11, e_ca12, e_scS, e_scI, e_scB, e_scN, e_allN, e_allC, e_eqFS, e_eqFI, e_inST, e_inIT, e_index, e_spR, e_mg, e_mgS, e_smN, e_smC, eq_self, Nat.reduceLT, Nat.reduceGT, Nat.reduceAdd, Nat.reduceMul, Nat.reduceSub, Nat.reduceLeDiff, Nat.reduceEqDiff, Int.reduceLT, Int.reduceLE, Int.reduceEq, Int.reduceAdd, Int.reduceSub, Int.reduceMul, Int.reduceMod, Int.reduceDiv, Int.reduceNeg, Nat.zero_le, Nat.le_refl, List.length_cons, List.length_nil, ite_true, ite_false, if_true, if_false, decide_true, decide_false, Bool.not_true, Bool.not_false, Bool.and_true, Bool.true_and, Bool.and_false, Bool.false_and, Bool.or_true, Bool.or_false, Bool.true_or, Bool.false_or, List.cons.injEq, and_true, true_and, and_false, false_and, and_self, ne_eq, not_true_eq_false, not_false_eq_true, reduceCtorEq, List.nil_append, List.cons_append, List.append_nil, List.append_assoc, e_joinW, e_joinWT, k1, k2, h1, h2, h3, h4, f1, f2, f3, f4]
      · obtain ⟨t0, tt⟩ := t_words ht
        have t0 : (t = []) = False := eq_false t0
        rcases tt with ⟨p, p1, p2, p3⟩ | ⟨p, q, p1, q1, p2, p3⟩
        · have p1 : (p.length ≤ 1000) = True := eq_true (by omega)
          refine ⟨jn L8 [w, L13, [c], p, [e]], ?_, ?_⟩
          · unfold m_in_words d_in_words
            simp only [e_rdDat, e_rdOwn, e_at0, e_atS, e_pu0, e_puS, e_var, e_c, e_op2, e_op2R, e_op2S, e_op1, e_op1S, e_opA, e_opAS, e_ofS, e_ofN, e_dB, e_toBS, e_and, e_andT, e_andF, e_or, e_orT, e_orF, e_not, e_notT, e_notF, e_notB, e_andV, e_andVT, e_andVF, e_orV, e_orVT, e_orVF, e_notV, e_notVB, e_ifE, e_ifET, e_ifEF, e_nil, e_cons, e_consR, e_consS, e_cleanN, e_cleanC, e_oN, e_oB, e_oI, e_oS, e_oT, e_oL, e_oSL, e_oOb, e_nf, e_tt, e_tup, e_tupR, e_tupB, e_items, e_itemsR, e_itemsB, e_fix, e_fixR, e_cat, e_catR, e_appN, e_appC, e_catB, e_catLL, e_catOL, e_catLO, e_catOO, e_call, e_callR, e_callB0, e_callB1, e_callB2, e_callB3, e_callB4, e_callB5, e_seq, e_seqN, e_seqR, e_seqB, e_seqC, e_seqX, e_skip, e_break, e_cont, e_set, e_setR, e_setX, e_setB, e_own, e_ownR, e_asg, e_asgR, e_nxO, e_tgT, e_putN, e_putC, e_tgN, e_tgB, e_drop, e_dropR, e_ret, e_retR, e_retX, e_retB, e_retN, e_if, e_ifT, e_ifF, e_app, e_appR, e_appB, e_frz, e_frzO, e_frzD, e_frzU, e_for, e_forR, e_forN, e_forC, e_turnB, e_turnN, e_turnC, e_turnK, e_turnR, e_turnX, e_it, e_itR, e_itA, e_itAR, e_asLst, e_asSlst, e_asTup, e_asStr, e_raise, e_run, e_endN, e_endR, e_endX, e_stC, e_st0, e_stS, e_addI, e_addS, e_addB, e_addLL, e_addOL, e_addLO, e_addOO, e_sub, e_mul, e_mod, e_div, e_neg, e_cmp, e_eqI, e_eqS, e_eqB, e_id, e_n1, e_isN, e_isI, e_isS, e_isT, e_isL, e_isB, e_isnN, e_isnI, e_isnS, e_isnT, e_isnL, e_isnB, e_ixS, e_ixT, e_ixL, e_ixSL, e_ixO, e_at_0, e_at_1, e_at_2, e_sg, e_lenS, e_lenT, e_lenL, e_lenSL, e_lenO, e_int, e_intT, e_intF, e_str, e_min, e_max, e_abs, e_m1, e_m1R, e_m1S, e_joinL, e_joinO, e_joinT, e_txN, e_txC, e_txS, e_isiS, e_isiL, e_isiTu, e_rep, e_replS, e_tabG, e_mpS, e_tabI, e_inS, e_sl, e_slR, e_slS, e_slT, e_oNone, e_oSome, e_oRI, e_slStr, e_slL, e_slSL, e_slO, e_lc, e_ca0, e_ca1, e_ca2, e_ca3, e_ca4, e_ca5, e_ca6, e_ca7, e_ca8, e_ca9, e_ca10, e_ca11, e_ca12, e_scS, e_scI, e_scB, e_scN, e_allN, e_allC, e_eqFS, e_eqFI, e_inST, e_inIT, e_index, e_spR, e_mg, e_mgS, e_smN, e_smC, eq_self, Nat.reduceLT, Nat.reduceGT, Nat.reduceAdd, Nat.reduceMul, Nat.reduceSub, Nat.reduceLeDiff, Nat.reduceEqDiff, Int.reduceLT, Int.reduceLE, Int.reduceEq, Int.reduceAdd, Int.reduceSub, Int.reduceMul, Int.reduceMod, Int.reduceDiv, Int.reduceNeg, Nat.zero_le, Nat.le_refl, List.length_cons, List.length_nil, ite_true, ite_false, if_true, if_false, decide_true, decide_false, Bool.not_true, Bool.not_false, Bool.and_true, Bool.true_and, Bool.and_false, Bool.false_and, Bool.or_true, Bool.or_false, Bool.true_or, Bool.false_or, List.cons.injEq, and_true, true_and, and_false, false_and, and_self, ne_eq, not_true_eq_false, not_false_eq_true, reduceCtorEq, List.nil_append, List.cons_append, List.append_nil, List.append_assoc, e_joinW, e_joinWT, k1, k2, h1, h2, h3, h4, f1, f2, f3, f4, t0, p1, p2, p3]
          · unfold m__law_words d__law_words
            simp only [e_rdDat, e_rdOwn, e_at0, e_atS, e_pu0, e_puS, e_var, e_c, e_op2, e_op2R, e_op2S, e_op1, e_op1S, e_opA, e_opAS, e_ofS, e_ofN, e_dB, e_toBS, e_and, e_andT, e_andF, e_or, e_orT, e_orF, e_not, e_notT, e_notF, e_notB, e_andV, e_andVT, e_andVF, e_orV, e_orVT, e_orVF, e_notV, e_notVB, e_ifE, e_ifET, e_ifEF, e_nil, e_cons, e_consR, e_consS, e_cleanN, e_cleanC, e_oN, e_oB, e_oI, e_oS, e_oT, e_oL, e_oSL, e_oOb, e_nf, e_tt, e_tup, e_tupR, e_tupB, e_items, e_itemsR, e_itemsB, e_fix, e_fixR, e_cat, e_catR, e_appN, e_appC, e_catB, e_catLL, e_catOL, e_catLO, e_catOO, e_call, e_callR, e_callB0, e_callB1, e_callB2, e_callB3, e_callB4, e_callB5, e_seq, e_seqN, e_seqR, e_seqB, e_seqC, e_seqX, e_skip, e_break, e_cont, e_set, e_setR, e_setX, e_setB, e_own, e_ownR, e_asg, e_asgR, e_nxO, e_tgT, e_putN, e_putC, e_tgN, e_tgB, e_drop, e_dropR, e_ret, e_retR, e_retX, e_retB, e_retN, e_if, e_ifT, e_ifF, e_app, e_appR, e_appB, e_frz, e_frzO, e_frzD, e_frzU, e_for, e_forR, e_forN, e_forC, e_turnB, e_turnN, e_turnC, e_turnK, e_turnR, e_turnX, e_it, e_itR, e_itA, e_itAR, e_asLst, e_asSlst, e_asTup, e_asStr, e_raise, e_run, e_endN, e_endR, e_endX, e_stC, e_st0, e_stS, e_addI, e_addS, e_addB, e_addLL, e_addOL, e_addLO, e_addOO, e_sub, e_mul, e_mod, e_div, e_neg, e_cmp, e_eqI, e_eqS, e_eqB, e_id, e_n1, e_isN, e_isI, e_isS, e_isT, e_isL, e_isB, e_isnN, e_isnI, e_isnS, e_isnT, e_isnL, e_isnB, e_ixS, e_ixT, e_ixL, e_ixSL, e_ixO, e_at_0, e_at_1, e_at_2, e_sg, e_lenS, e_lenT, e_lenL, e_lenSL, e_lenO, e_int, e_intT, e_intF, e_str, e_min, e_max, e_abs, e_m1, e_m1R, e_m1S, e_joinL, e_joinO, e_joinT, e_txN, e_txC, e_txS, e_isiS, e_isiL, e_isiTu, e_rep, e_replS, e_tabG, e_mpS, e_tabI, e_inS, e_sl, e_slR, e_slS, e_slT, e_oNone, e_oSome, e_oRI, e_slStr, e_slL, e_slSL, e_slO, e_lc, e_ca0, e_ca1, e_ca2, e_ca3, e_ca4, e_ca5, e_ca6, e_ca7, e_ca8, e_ca9, e_ca10, e_ca11, e_ca12, e_scS, e_scI, e_scB, e_scN, e_allN, e_allC, e_eqFS, e_eqFI, e_inST, e_inIT, e_index, e_spR, e_mg, e_mgS, e_smN, e_smC, eq_self, Nat.reduceLT, Nat.reduceGT, Nat.reduceAdd, Nat.reduceMul, Nat.reduceSub, Nat.reduceLeDiff, Nat.reduceEqDiff, Int.reduceLT, Int.reduceLE, Int.reduceEq, Int.reduceAdd, Int.reduceSub, Int.reduceMul, Int.reduceMod, Int.reduceDiv, Int.reduceNeg, Nat.zero_le, Nat.le_refl, List.length_cons, List.length_nil, ite_true, ite_false, if_true, if_false, decide_true, decide_false, Bool.not_true, Bool.not_false, Bool.and_true, Bool.true_and, Bool.and_false, Bool.false_and, Bool.or_true, Bool.or_false, Bool.true_or, Bool.false_or, List.cons.injEq, and_true, true_and, and_false, false_and, and_self, ne_eq, not_true_eq_false, not_false_eq_true, reduceCtorEq, List.nil_append, List.cons_append, List.append_nil, List.append_assoc, e_joinW, e_joinWT, k1, k2, h1, h2, h3, h4, f1, f2, f3, f4, t0, p1, p2, p3]
        · have p1 : (p.length ≤ 1000) = True := eq_true (by omega)
          have q1 : (q.length ≤ 1000) = True := eq_true (by omega)
          refine ⟨jn L8 [w, L13, [c], p, q, [e]], ?_, ?_⟩
          · unfold m_in_words d_in_words
            simp only [e_rdDat, e_rdOwn, e_at0, e_atS, e_pu0, e_puS, e_var, e_c, e_op2, e_op2R, e_op2S, e_op1, e_op1S, e_opA, e_opAS, e_ofS, e_ofN, e_dB, e_toBS, e_and, e_andT, e_andF, e_or, e_orT, e_orF, e_not, e_notT, e_notF, e_notB, e_andV, e_andVT, e_andVF, e_orV, e_orVT, e_orVF, e_notV, e_notVB, e_ifE, e_ifET, e_ifEF, e_nil, e_cons, e_consR, e_consS, e_cleanN, e_cleanC, e_oN, e_oB, e_oI, e_oS, e_oT, e_oL, e_oSL, e_oOb, e_nf, e_tt, e_tup, e_tupR, e_tupB, e_items, e_itemsR, e_itemsB, e_fix, e_fixR, e_cat, e_catR, e_appN, e_appC, e_catB, e_catLL, e_catOL, e_catLO, e_catOO, e_call, e_callR, e_callB0, e_callB1, e_callB2, e_callB3, e_callB4, e_callB5, e_seq, e_seqN, e_seqR, e_seqB, e_seqC, e_seqX, e_skip, e_break, e_cont, e_set, e_setR, e_setX, e_setB, e_own, e_ownR, e_asg, e_asgR, e_nxO, e_tgT, e_putN, e_putC, e_tgN, e_tgB, e_drop, e_dropR, e_ret, e_retR, e_retX, e_retB, e_retN, e_if, e_ifT, e_ifF, e_app, e_appR, e_appB, e_frz, e_frzO, e_frzD, e_frzU, e_for, e_forR, e_forN, e_forC, e_turnB, e_turnN, e_turnC, e_turnK, e_turnR, e_turnX, e_it, e_itR, e_itA, e_itAR, e_asLst, e_asSlst, e_asTup, e_asStr, e_raise, e_run, e_endN, e_endR, e_endX, e_stC, e_st0, e_stS, e_addI, e_addS, e_addB, e_addLL, e_addOL, e_addLO, e_addOO, e_sub, e_mul, e_mod, e_div, e_neg, e_cmp, e_eqI, e_eqS, e_eqB, e_id, e_n1, e_isN, e_isI, e_isS, e_isT, e_isL, e_isB, e_isnN, e_isnI, e_isnS, e_isnT, e_isnL, e_isnB, e_ixS, e_ixT, e_ixL, e_ixSL, e_ixO, e_at_0, e_at_1, e_at_2, e_sg, e_lenS, e_lenT, e_lenL, e_lenSL, e_lenO, e_int, e_intT, e_intF, e_str, e_min, e_max, e_abs, e_m1, e_m1R, e_m1S, e_joinL, e_joinO, e_joinT, e_txN, e_txC, e_txS, e_isiS, e_isiL, e_isiTu, e_rep, e_replS, e_tabG, e_mpS, e_tabI, e_inS, e_sl, e_slR, e_slS, e_slT, e_oNone, e_oSome, e_oRI, e_slStr, e_slL, e_slSL, e_slO, e_lc, e_ca0, e_ca1, e_ca2, e_ca3, e_ca4, e_ca5, e_ca6, e_ca7, e_ca8, e_ca9, e_ca10, e_ca11, e_ca12, e_scS, e_scI, e_scB, e_scN, e_allN, e_allC, e_eqFS, e_eqFI, e_inST, e_inIT, e_index, e_spR, e_mg, e_mgS, e_smN, e_smC, eq_self, Nat.reduceLT, Nat.reduceGT, Nat.reduceAdd, Nat.reduceMul, Nat.reduceSub, Nat.reduceLeDiff, Nat.reduceEqDiff, Int.reduceLT, Int.reduceLE, Int.reduceEq, Int.reduceAdd, Int.reduceSub, Int.reduceMul, Int.reduceMod, Int.reduceDiv, Int.reduceNeg, Nat.zero_le, Nat.le_refl, List.length_cons, List.length_nil, ite_true, ite_false, if_true, if_false, decide_true, decide_false, Bool.not_true, Bool.not_false, Bool.and_true, Bool.true_and, Bool.and_false, Bool.false_and, Bool.or_true, Bool.or_false, Bool.true_or, Bool.false_or, List.cons.injEq, and_true, true_and, and_false, false_and, and_self, ne_eq, not_true_eq_false, not_false_eq_true, reduceCtorEq, List.nil_append, List.cons_append, List.append_nil, List.append_assoc, e_joinW, e_joinWT, k1, k2, h1, h2, h3, h4, f1, f2, f3, f4, t0, p1, q1, p2, p3]
          · unfold m__law_words d__law_words
            simp only [e_rdDat, e_rdOwn, e_at0, e_atS, e_pu0, e_puS, e_var, e_c, e_op2, e_op2R, e_op2S, e_op1, e_op1S, e_opA, e_opAS, e_ofS, e_ofN, e_dB, e_toBS, e_and, e_andT, e_andF, e_or, e_orT, e_orF, e_not, e_notT, e_notF, e_notB, e_andV, e_andVT, e_andVF, e_orV, e_orVT, e_orVF, e_notV, e_notVB, e_ifE, e_ifET, e_ifEF, e_nil, e_cons, e_consR, e_consS, e_cleanN, e_cleanC, e_oN, e_oB, e_oI, e_oS, e_oT, e_oL, e_oSL, e_oOb, e_nf, e_tt, e_tup, e_tupR, e_tupB, e_items, e_itemsR, e_itemsB, e_fix, e_fixR, e_cat, e_catR, e_appN, e_appC, e_catB, e_catLL, e_catOL, e_catLO, e_catOO, e_call, e_callR, e_callB0, e_callB1, e_callB2, e_callB3, e_callB4, e_callB5, e_seq, e_seqN, e_seqR, e_seqB, e_seqC, e_seqX, e_skip, e_break, e_cont, e_set, e_setR, e_setX, e_setB, e_own, e_ownR, e_asg, e_asgR, e_nxO, e_tgT, e_putN, e_putC, e_tgN, e_tgB, e_drop, e_dropR, e_ret, e_retR, e_retX, e_retB, e_retN, e_if, e_ifT, e_ifF, e_app, e_appR, e_appB, e_frz, e_frzO, e_frzD, e_frzU, e_for, e_forR, e_forN, e_forC, e_turnB, e_turnN, e_turnC, e_turnK, e_turnR, e_turnX, e_it, e_itR, e_itA, e_itAR, e_asLst, e_asSlst, e_asTup, e_asStr, e_raise, e_run, e_endN, e_endR, e_endX, e_stC, e_st0, e_stS, e_addI, e_addS, e_addB, e_addLL, e_addOL, e_addLO, e_addOO, e_sub, e_mul, e_mod, e_div, e_neg, e_cmp, e_eqI, e_eqS, e_eqB, e_id, e_n1, e_isN, e_isI, e_isS, e_isT, e_isL, e_isB, e_isnN, e_isnI, e_isnS, e_isnT, e_isnL, e_isnB, e_ixS, e_ixT, e_ixL, e_ixSL, e_ixO, e_at_0, e_at_1, e_at_2, e_sg, e_lenS, e_lenT, e_lenL, e_lenSL, e_lenO, e_int, e_intT, e_intF, e_str, e_min, e_max, e_abs, e_m1, e_m1R, e_m1S, e_joinL, e_joinO, e_joinT, e_txN, e_txC, e_txS, e_isiS, e_isiL, e_isiTu, e_rep, e_replS, e_tabG, e_mpS, e_tabI, e_inS, e_sl, e_slR, e_slS, e_slT, e_oNone, e_oSome, e_oRI, e_slStr, e_slL, e_slSL, e_slO, e_lc, e_ca0, e_ca1, e_ca2, e_ca3, e_ca4, e_ca5, e_ca6, e_ca7, e_ca8, e_ca9, e_ca10, e_ca11, e_ca12, e_scS, e_scI, e_scB, e_scN, e_allN, e_allC, e_eqFS, e_eqFI, e_inST, e_inIT, e_index, e_spR, e_mg, e_mgS, e_smN, e_smC, eq_self, Nat.reduceLT, Nat.reduceGT, Nat.reduceAdd, Nat.reduceMul, Nat.reduceSub, Nat.reduceLeDiff, Nat.reduceEqDiff, Int.reduceLT, Int.reduceLE, Int.reduceEq, Int.reduceAdd, Int.reduceSub, Int.reduceMul, Int.reduceMod, Int.reduceDiv, Int.reduceNeg, Nat.zero_le, Nat.le_refl, List.length_cons, List.length_nil, ite_true, ite_false, if_true, if_false, decide_true, decide_false, Bool.not_true, Bool.not_false, Bool.and_true, Bool.true_and, Bool.and_false, Bool.false_and, Bool.or_true, Bool.or_false, Bool.true_or, Bool.false_or, List.cons.injEq, and_true, true_and, and_false, false_and, and_self, ne_eq, not_true_eq_false, not_false_eq_true, reduceCtorEq, List.nil_append, List.cons_append, List.append_nil, List.append_assoc, e_joinW, e_joinWT, k1, k2, h1, h2, h3, h4, f1, f2, f3, f4, t0, p1, q1, p2, p3]
  · rcases hsh with rfl | ⟨c, rfl⟩
    · rcases ht with rfl | ht
      · skip
        refine ⟨jn L8 [w, L12, cw, [e]], ?_, ?_⟩
        · unfold m_in_words d_in_words
          simp only [e_rdDat, e_rdOwn, e_at0, e_atS, e_pu0, e_puS, e_var, e_c, e_op2, e_op2R, e_op2S, e_op1, e_op1S, e_opA, e_opAS, e_ofS, e_ofN, e_dB, e_toBS, e_and, e_andT, e_andF, e_or, e_orT, e_orF, e_not, e_notT, e_notF, e_notB, e_andV, e_andVT, e_andVF, e_orV, e_orVT, e_orVF, e_notV, e_notVB, e_ifE, e_ifET, e_ifEF, e_nil, e_cons, e_consR, e_consS, e_cleanN, e_cleanC, e_oN, e_oB, e_oI, e_oS, e_oT, e_oL, e_oSL, e_oOb, e_nf, e_tt, e_tup, e_tupR, e_tupB, e_items, e_itemsR, e_itemsB, e_fix, e_fixR, e_cat, e_catR, e_appN, e_appC, e_catB, e_catLL, e_catOL, e_catLO, e_catOO, e_call, e_callR, e_callB0, e_callB1, e_callB2, e_callB3, e_callB4, e_callB5, e_seq, e_seqN, e_seqR, e_seqB, e_seqC, e_seqX, e_skip, e_break, e_cont, e_set, e_setR, e_setX, e_setB, e_own, e_ownR, e_asg, e_asgR, e_nxO, e_tgT, e_putN, e_putC, e_tgN, e_tgB, e_drop, e_dropR, e_ret, e_retR, e_retX, e_retB, e_retN, e_if, e_ifT, e_ifF, e_app, e_appR, e_appB, e_frz, e_frzO, e_frzD, e_frzU, e_for, e_forR, e_forN, e_forC, e_turnB, e_turnN, e_turnC, e_turnK, e_turnR, e_turnX, e_it, e_itR, e_itA, e_itAR, e_asLst, e_asSlst, e_asTup, e_asStr, e_raise, e_run, e_endN, e_endR, e_endX, e_stC, e_st0, e_stS, e_addI, e_addS, e_addB, e_addLL, e_addOL, e_addLO, e_addOO, e_sub, e_mul, e_mod, e_div, e_neg, e_cmp, e_eqI, e_eqS, e_eqB, e_id, e_n1, e_isN, e_isI, e_isS, e_isT, e_isL, e_isB, e_isnN, e_isnI, e_isnS, e_isnT, e_isnL, e_isnB, e_ixS, e_ixT, e_ixL, e_ixSL, e_ixO, e_at_0, e_at_1, e_at_2, e_sg, e_lenS, e_lenT, e_lenL, e_lenSL, e_lenO, e_int, e_intT, e_intF, e_str, e_min, e_max, e_abs, e_m1, e_m1R, e_m1S, e_joinL, e_joinO, e_joinT, e_txN, e_txC, e_txS, e_isiS, e_isiL, e_isiTu, e_rep, e_replS, e_tabG, e_mpS, e_tabI, e_inS, e_sl, e_slR, e_slS, e_slT, e_oNone, e_oSome, e_oRI, e_slStr, e_slL, e_slSL, e_slO, e_lc, e_ca0, e_ca1, e_ca2, e_ca3, e_ca4, e_ca5, e_ca6, e_ca7, e_ca8, e_ca9, e_ca10, e_ca11, e_ca12, e_scS, e_scI, e_scB, e_scN, e_allN, e_allC, e_eqFS, e_eqFI, e_inST, e_inIT, e_index, e_spR, e_mg, e_mgS, e_smN, e_smC, eq_self, Nat.reduceLT, Nat.reduceGT, Nat.reduceAdd, Nat.reduceMul, Nat.reduceSub, Nat.reduceLeDiff, Nat.reduceEqDiff, Int.reduceLT, Int.reduceLE, Int.reduceEq, Int.reduceAdd, Int.reduceSub, Int.reduceMul, Int.reduceMod, Int.reduceDiv, Int.reduceNeg, Nat.zero_le, Nat.le_refl, List.length_cons, List.length_nil, ite_true, ite_false, if_true, if_false, decide_true, decide_false, Bool.not_true, Bool.not_false, Bool.and_true, Bool.true_and, Bool.and_false, Bool.false_and, Bool.or_true, Bool.or_false, Bool.true_or, Bool.false_or, List.cons.injEq, and_true, true_and, and_false, false_and, and_self, ne_eq, not_true_eq_false, not_false_eq_true, reduceCtorEq, List.nil_append, List.cons_append, List.append_nil, List.append_assoc, e_joinW, e_joinWT, k1, k2, k3, k4, h1, h2, h3, h4, f1, f2, f3, f4]
        · unfold m__law_words d__law_words
          simp only [e_rdDat, e_rdOwn, e_at0, e_atS, e_pu0, e_puS, e_var, e_c, e_op2, e_op2R, e_op2S, e_op1, e_op1S, e_opA, e_opAS, e_ofS, e_ofN, e_dB, e_toBS, e_and, e_andT, e_andF, e_or, e_orT, e_orF, e_not, e_notT, e_notF, e_notB, e_andV, e_andVT, e_andVF, e_orV, e_orVT, e_orVF, e_notV, e_notVB, e_ifE, e_ifET, e_ifEF, e_nil, e_cons, e_consR, e_consS, e_cleanN, e_cleanC, e_oN, e_oB, e_oI, e_oS, e_oT, e_oL, e_oSL, e_oOb, e_nf, e_tt, e_tup, e_tupR, e_tupB, e_items, e_itemsR, e_itemsB, e_fix, e_fixR, e_cat, e_catR, e_appN, e_appC, e_catB, e_catLL, e_catOL, e_catLO, e_catOO, e_call, e_callR, e_callB0, e_callB1, e_callB2, e_callB3, e_callB4, e_callB5, e_seq, e_seqN, e_seqR, e_seqB, e_seqC, e_seqX, e_skip, e_break, e_cont, e_set, e_setR, e_setX, e_setB, e_own, e_ownR, e_asg, e_asgR, e_nxO, e_tgT, e_putN, e_putC, e_tgN, e_tgB, e_drop, e_dropR, e_ret, e_retR, e_retX, e_retB, e_retN, e_if, e_ifT, e_ifF, e_app, e_appR, e_appB, e_frz, e_frzO, e_frzD, e_frzU, e_for, e_forR, e_forN, e_forC, e_turnB, e_turnN, e_turnC, e_turnK, e_turnR, e_turnX, e_it, e_itR, e_itA, e_itAR, e_asLst, e_asSlst, e_asTup, e_asStr, e_raise, e_run, e_endN, e_endR, e_endX, e_stC, e_st0, e_stS, e_addI, e_addS, e_addB, e_addLL, e_addOL, e_addLO, e_addOO, e_sub, e_mul, e_mod, e_div, e_neg, e_cmp, e_eqI, e_eqS, e_eqB, e_id, e_n1, e_isN, e_isI, e_isS, e_isT, e_isL, e_isB, e_isnN, e_isnI, e_isnS, e_isnT, e_isnL, e_isnB, e_ixS, e_ixT, e_ixL, e_ixSL, e_ixO, e_at_0, e_at_1, e_at_2, e_sg, e_lenS, e_lenT, e_lenL, e_lenSL, e_lenO, e_int, e_intT, e_intF, e_str, e_min, e_max, e_abs, e_m1, e_m1R, e_m1S, e_joinL, e_joinO, e_joinT, e_txN, e_txC, e_txS, e_isiS, e_isiL, e_isiTu, e_rep, e_replS, e_tabG, e_mpS, e_tabI, e_inS, e_sl, e_slR, e_slS, e_slT, e_oNone, e_oSome, e_oRI, e_slStr, e_slL, e_slSL, e_slO, e_lc, e_ca0, e_ca1, e_ca2, e_ca3, e_ca4, e_ca5, e_ca6, e_ca7, e_ca8, e_ca9, e_ca10, e_ca11, e_ca12, e_scS, e_scI, e_scB, e_scN, e_allN, e_allC, e_eqFS, e_eqFI, e_inST, e_inIT, e_index, e_spR, e_mg, e_mgS, e_smN, e_smC, eq_self, Nat.reduceLT, Nat.reduceGT, Nat.reduceAdd, Nat.reduceMul, Nat.reduceSub, Nat.reduceLeDiff, Nat.reduceEqDiff, Int.reduceLT, Int.reduceLE, Int.reduceEq, Int.reduceAdd, Int.reduceSub, Int.reduceMul, Int.reduceMod, Int.reduceDiv, Int.reduceNeg, Nat.zero_le, Nat.le_refl, List.length_cons, List.length_nil, ite_true, ite_false, if_true, if_false, decide_true, decide_false, Bool.not_true, Bool.not_false, Bool.and_true, Bool.true_and, Bool.and_false, Bool.false_and, Bool.or_true, Bool.or_false, Bool.true_or, Bool.false_or, List.cons.injEq, and_true, true_and, and_false, false_and, and_self, ne_eq, not_true_eq_false, not_false_eq_true, reduceCtorEq, List.nil_append, List.cons_append, List.append_nil, List.append_assoc, e_joinW, e_joinWT, k1, k2, k3, k4, h1, h2, h3, h4, f1, f2, f3, f4]
      · obtain ⟨t0, tt⟩ := t_words ht
        have t0 : (t = []) = False := eq_false t0
        rcases tt with ⟨p, p1, p2, p3⟩ | ⟨p, q, p1, q1, p2, p3⟩
        · have p1 : (p.length ≤ 1000) = True := eq_true (by omega)
          refine ⟨jn L8 [w, L12, cw, p, [e]], ?_, ?_⟩
          · unfold m_in_words d_in_words
            simp only [e_rdDat, e_rdOwn, e_at0, e_atS, e_pu0, e_puS, e_var, e_c, e_op2, e_op2R, e_op2S, e_op1, e_op1S, e_opA, e_opAS, e_ofS, e_ofN, e_dB, e_toBS, e_and, e_andT, e_andF, e_or, e_orT, e_orF, e_not, e_notT, e_notF, e_notB, e_andV, e_andVT, e_andVF, e_orV, e_orVT, e_orVF, e_notV, e_notVB, e_ifE, e_ifET, e_ifEF, e_nil, e_cons, e_consR, e_consS, e_cleanN, e_cleanC, e_oN, e_oB, e_oI, e_oS, e_oT, e_oL, e_oSL, e_oOb, e_nf, e_tt, e_tup, e_tupR, e_tupB, e_items, e_itemsR, e_itemsB, e_fix, e_fixR, e_cat, e_catR, e_appN, e_appC, e_catB, e_catLL, e_catOL, e_catLO, e_catOO, e_call, e_callR, e_callB0, e_callB1, e_callB2, e_callB3, e_callB4, e_callB5, e_seq, e_seqN, e_seqR, e_seqB, e_seqC, e_seqX, e_skip, e_break, e_cont, e_set, e_setR, e_setX, e_setB, e_own, e_ownR, e_asg, e_asgR, e_nxO, e_tgT, e_putN, e_putC, e_tgN, e_tgB, e_drop, e_dropR, e_ret, e_retR, e_retX, e_retB, e_retN, e_if, e_ifT, e_ifF, e_app, e_appR, e_appB, e_frz, e_frzO, e_frzD, e_frzU, e_for, e_forR, e_forN, e_forC, e_turnB, e_turnN, e_turnC, e_turnK, e_turnR, e_turnX, e_it, e_itR, e_itA, e_itAR, e_asLst, e_asSlst, e_asTup, e_asStr, e_raise, e_run, e_endN, e_endR, e_endX, e_stC, e_st0, e_stS, e_addI, e_addS, e_addB, e_addLL, e_addOL, e_addLO, e_addOO, e_sub, e_mul, e_mod, e_div, e_neg, e_cmp, e_eqI, e_eqS, e_eqB, e_id, e_n1, e_isN, e_isI, e_isS, e_isT, e_isL, e_isB, e_isnN, e_isnI, e_isnS, e_isnT, e_isnL, e_isnB, e_ixS, e_ixT, e_ixL, e_ixSL, e_ixO, e_at_0, e_at_1, e_at_2, e_sg, e_lenS, e_lenT, e_lenL, e_lenSL, e_lenO, e_int, e_intT, e_intF, e_str, e_min, e_max, e_abs, e_m1, e_m1R, e_m1S, e_joinL, e_joinO, e_joinT, e_txN, e_txC, e_txS, e_isiS, e_isiL, e_isiTu, e_rep, e_replS, e_tabG, e_mpS, e_tabI, e_inS, e_sl, e_slR, e_slS, e_slT, e_oNone, e_oSome, e_oRI, e_slStr, e_slL, e_slSL, e_slO, e_lc, e_ca0, e_ca1, e_ca2, e_ca3, e_ca4, e_ca5, e_ca6, e_ca7, e_ca8, e_ca9, e_ca10, e_ca11, e_ca12, e_scS, e_scI, e_scB, e_scN, e_allN, e_allC, e_eqFS, e_eqFI, e_inST, e_inIT, e_index, e_spR, e_mg, e_mgS, e_smN, e_smC, eq_self, Nat.reduceLT, Nat.reduceGT, Nat.reduceAdd, Nat.reduceMul, Nat.reduceSub, Nat.reduceLeDiff, Nat.reduceEqDiff, Int.reduceLT, Int.reduceLE, Int.reduceEq, Int.reduceAdd, Int.reduceSub, Int.reduceMul, Int.reduceMod, Int.reduceDiv, Int.reduceNeg, Nat.zero_le, Nat.le_refl, List.length_cons, List.length_nil, ite_true, ite_false, if_true, if_false, decide_true, decide_false, Bool.not_true, Bool.not_false, Bool.and_true, Bool.true_and, Bool.and_false, Bool.false_and, Bool.or_true, Bool.or_false, Bool.true_or, Bool.false_or, List.cons.injEq, and_true, true_and, and_false, false_and, and_self, ne_eq, not_true_eq_false, not_false_eq_true, reduceCtorEq, List.nil_append, List.cons_append, List.append_nil, List.append_assoc, e_joinW, e_joinWT, k1, k2, k3, k4, h1, h2, h3, h4, f1, f2, f3, f4, t0, p1, p2, p3]
          · unfold m__law_words d__law_words
            simp only [e_rdDat, e_rdOwn, e_at0, e_atS, e_pu0, e_puS, e_var, e_c, e_op2, e_op2R, e_op2S, e_op1, e_op1S, e_opA, e_opAS, e_ofS, e_ofN, e_dB, e_toBS, e_and, e_andT, e_andF, e_or, e_orT, e_orF, e_not, e_notT, e_notF, e_notB, e_andV, e_andVT, e_andVF, e_orV, e_orVT, e_orVF, e_notV, e_notVB, e_ifE, e_ifET, e_ifEF, e_nil, e_cons, e_consR, e_consS, e_cleanN, e_cleanC, e_oN, e_oB, e_oI, e_oS, e_oT, e_oL, e_oSL, e_oOb, e_nf, e_tt, e_tup, e_tupR, e_tupB, e_items, e_itemsR, e_itemsB, e_fix, e_fixR, e_cat, e_catR, e_appN, e_appC, e_catB, e_catLL, e_catOL, e_catLO, e_catOO, e_call, e_callR, e_callB0, e_callB1, e_callB2, e_callB3, e_callB4, e_callB5, e_seq, e_seqN, e_seqR, e_seqB, e_seqC, e_seqX, e_skip, e_break, e_cont, e_set, e_setR, e_setX, e_setB, e_own, e_ownR, e_asg, e_asgR, e_nxO, e_tgT, e_putN, e_putC, e_tgN, e_tgB, e_drop, e_dropR, e_ret, e_retR, e_retX, e_retB, e_retN, e_if, e_ifT, e_ifF, e_app, e_appR, e_appB, e_frz, e_frzO, e_frzD, e_frzU, e_for, e_forR, e_forN, e_forC, e_turnB, e_turnN, e_turnC, e_turnK, e_turnR, e_turnX, e_it, e_itR, e_itA, e_itAR, e_asLst, e_asSlst, e_asTup, e_asStr, e_raise, e_run, e_endN, e_endR, e_endX, e_stC, e_st0, e_stS, e_addI, e_addS, e_addB, e_addLL, e_addOL, e_addLO, e_addOO, e_sub, e_mul, e_mod, e_div, e_neg, e_cmp, e_eqI, e_eqS, e_eqB, e_id, e_n1, e_isN, e_isI, e_isS, e_isT, e_isL, e_isB, e_isnN, e_isnI, e_isnS, e_isnT, e_isnL, e_isnB, e_ixS, e_ixT, e_ixL, e_ixSL, e_ixO, e_at_0, e_at_1, e_at_2, e_sg, e_lenS, e_lenT, e_lenL, e_lenSL, e_lenO, e_int, e_intT, e_intF, e_str, e_min, e_max, e_abs, e_m1, e_m1R, e_m1S, e_joinL, e_joinO, e_joinT, e_txN, e_txC, e_txS, e_isiS, e_isiL, e_isiTu, e_rep, e_replS, e_tabG, e_mpS, e_tabI, e_inS, e_sl, e_slR, e_slS, e_slT, e_oNone, e_oSome, e_oRI, e_slStr, e_slL, e_slSL, e_slO, e_lc, e_ca0, e_ca1, e_ca2, e_ca3, e_ca4, e_ca5, e_ca6, e_ca7, e_ca8, e_ca9, e_ca10, e_ca11, e_ca12, e_scS, e_scI, e_scB, e_scN, e_allN, e_allC, e_eqFS, e_eqFI, e_inST, e_inIT, e_index, e_spR, e_mg, e_mgS, e_smN, e_smC, eq_self, Nat.reduceLT, Nat.reduceGT, Nat.reduceAdd, Nat.reduceMul, Nat.reduceSub, Nat.reduceLeDiff, Nat.reduceEqDiff, Int.reduceLT, Int.reduceLE, Int.reduceEq, Int.reduceAdd, Int.reduceSub, Int.reduceMul, Int.reduceMod, Int.reduceDiv, Int.reduceNeg, Nat.zero_le, Nat.le_refl, List.length_cons, List.length_nil, ite_true, ite_false, if_true, if_false, decide_true, decide_false, Bool.not_true, Bool.not_false, Bool.and_true, Bool.true_and, Bool.and_false, Bool.false_and, Bool.or_true, Bool.or_false, Bool.true_or, Bool.false_or, List.cons.injEq, and_true, true_and, and_false, false_and, and_self, ne_eq, not_true_eq_false, not_false_eq_true, reduceCtorEq, List.nil_append, List.cons_append, List.append_nil, List.append_assoc, e_joinW, e_joinWT, k1, k2, k3, k4, h1, h2, h3, h4, f1, f2, f3, f4, t0, p1, p2, p3]
        · have p1 : (p.length ≤ 1000) = True := eq_true (by omega)
          have q1 : (q.length ≤ 1000) = True := eq_true (by omega)
          refine ⟨jn L8 [w, L12, cw, p, q, [e]], ?_, ?_⟩
          · unfold m_in_words d_in_words
            simp only [e_rdDat, e_rdOwn, e_at0, e_atS, e_pu0, e_puS, e_var, e_c, e_op2, e_op2R, e_op2S, e_op1, e_op1S, e_opA, e_opAS, e_ofS, e_ofN, e_dB, e_toBS, e_and, e_andT, e_andF, e_or, e_orT, e_orF, e_not, e_notT, e_notF, e_notB, e_andV, e_andVT, e_andVF, e_orV, e_orVT, e_orVF, e_notV, e_notVB, e_ifE, e_ifET, e_ifEF, e_nil, e_cons, e_consR, e_consS, e_cleanN, e_cleanC, e_oN, e_oB, e_oI, e_oS, e_oT, e_oL, e_oSL, e_oOb, e_nf, e_tt, e_tup, e_tupR, e_tupB, e_items, e_itemsR, e_itemsB, e_fix, e_fixR, e_cat, e_catR, e_appN, e_appC, e_catB, e_catLL, e_catOL, e_catLO, e_catOO, e_call, e_callR, e_callB0, e_callB1, e_callB2, e_callB3, e_callB4, e_callB5, e_seq, e_seqN, e_seqR, e_seqB, e_seqC, e_seqX, e_skip, e_break, e_cont, e_set, e_setR, e_setX, e_setB, e_own, e_ownR, e_asg, e_asgR, e_nxO, e_tgT, e_putN, e_putC, e_tgN, e_tgB, e_drop, e_dropR, e_ret, e_retR, e_retX, e_retB, e_retN, e_if, e_ifT, e_ifF, e_app, e_appR, e_appB, e_frz, e_frzO, e_frzD, e_frzU, e_for, e_forR, e_forN, e_forC, e_turnB, e_turnN, e_turnC, e_turnK, e_turnR, e_turnX, e_it, e_itR, e_itA, e_itAR, e_asLst, e_asSlst, e_asTup, e_asStr, e_raise, e_run, e_endN, e_endR, e_endX, e_stC, e_st0, e_stS, e_addI, e_addS, e_addB, e_addLL, e_addOL, e_addLO, e_addOO, e_sub, e_mul, e_mod, e_div, e_neg, e_cmp, e_eqI, e_eqS, e_eqB, e_id, e_n1, e_isN, e_isI, e_isS, e_isT, e_isL, e_isB, e_isnN, e_isnI, e_isnS, e_isnT, e_isnL, e_isnB, e_ixS, e_ixT, e_ixL, e_ixSL, e_ixO, e_at_0, e_at_1, e_at_2, e_sg, e_lenS, e_lenT, e_lenL, e_lenSL, e_lenO, e_int, e_intT, e_intF, e_str, e_min, e_max, e_abs, e_m1, e_m1R, e_m1S, e_joinL, e_joinO, e_joinT, e_txN, e_txC, e_txS, e_isiS, e_isiL, e_isiTu, e_rep, e_replS, e_tabG, e_mpS, e_tabI, e_inS, e_sl, e_slR, e_slS, e_slT, e_oNone, e_oSome, e_oRI, e_slStr, e_slL, e_slSL, e_slO, e_lc, e_ca0, e_ca1, e_ca2, e_ca3, e_ca4, e_ca5, e_ca6, e_ca7, e_ca8, e_ca9, e_ca10, e_ca11, e_ca12, e_scS, e_scI, e_scB, e_scN, e_allN, e_allC, e_eqFS, e_eqFI, e_inST, e_inIT, e_index, e_spR, e_mg, e_mgS, e_smN, e_smC, eq_self, Nat.reduceLT, Nat.reduceGT, Nat.reduceAdd, Nat.reduceMul, Nat.reduceSub, Nat.reduceLeDiff, Nat.reduceEqDiff, Int.reduceLT, Int.reduceLE, Int.reduceEq, Int.reduceAdd, Int.reduceSub, Int.reduceMul, Int.reduceMod, Int.reduceDiv, Int.reduceNeg, Nat.zero_le, Nat.le_refl, List.length_cons, List.length_nil, ite_true, ite_false, if_true, if_false, decide_true, decide_false, Bool.not_true, Bool.not_false, Bool.and_true, Bool.true_and, Bool.and_false, Bool.false_and, Bool.or_true, Bool.or_false, Bool.true_or, Bool.false_or, List.cons.injEq, and_true, true_and, and_false, false_and, and_self, ne_eq, not_true_eq_false, not_false_eq_true, reduceCtorEq, List.nil_append, List.cons_append, List.append_nil, List.append_assoc, e_joinW, e_joinWT, k1, k2, k3, k4, h1, h2, h3, h4, f1, f2, f3, f4, t0, p1, q1, p2, p3]
          · unfold m__law_words d__law_words
            simp only [e_rdDat, e_rdOwn, e_at0, e_atS, e_pu0, e_puS, e_var, e_c, e_op2, e_op2R, e_op2S, e_op1, e_op1S, e_opA, e_opAS, e_ofS, e_ofN, e_dB, e_toBS, e_and, e_andT, e_andF, e_or, e_orT, e_orF, e_not, e_notT, e_notF, e_notB, e_andV, e_andVT, e_andVF, e_orV, e_orVT, e_orVF, e_notV, e_notVB, e_ifE, e_ifET, e_ifEF, e_nil, e_cons, e_consR, e_consS, e_cleanN, e_cleanC, e_oN, e_oB, e_oI, e_oS, e_oT, e_oL, e_oSL, e_oOb, e_nf, e_tt, e_tup, e_tupR, e_tupB, e_items, e_itemsR, e_itemsB, e_fix, e_fixR, e_cat, e_catR, e_appN, e_appC, e_catB, e_catLL, e_catOL, e_catLO, e_catOO, e_call, e_callR, e_callB0, e_callB1, e_callB2, e_callB3, e_callB4, e_callB5, e_seq, e_seqN, e_seqR, e_seqB, e_seqC, e_seqX, e_skip, e_break, e_cont, e_set, e_setR, e_setX, e_setB, e_own, e_ownR, e_asg, e_asgR, e_nxO, e_tgT, e_putN, e_putC, e_tgN, e_tgB, e_drop, e_dropR, e_ret, e_retR, e_retX, e_retB, e_retN, e_if, e_ifT, e_ifF, e_app, e_appR, e_appB, e_frz, e_frzO, e_frzD, e_frzU, e_for, e_forR, e_forN, e_forC, e_turnB, e_turnN, e_turnC, e_turnK, e_turnR, e_turnX, e_it, e_itR, e_itA, e_itAR, e_asLst, e_asSlst, e_asTup, e_asStr, e_raise, e_run, e_endN, e_endR, e_endX, e_stC, e_st0, e_stS, e_addI, e_addS, e_addB, e_addLL, e_addOL, e_addLO, e_addOO, e_sub, e_mul, e_mod, e_div, e_neg, e_cmp, e_eqI, e_eqS, e_eqB, e_id, e_n1, e_isN, e_isI, e_isS, e_isT, e_isL, e_isB, e_isnN, e_isnI, e_isnS, e_isnT, e_isnL, e_isnB, e_ixS, e_ixT, e_ixL, e_ixSL, e_ixO, e_at_0, e_at_1, e_at_2, e_sg, e_lenS, e_lenT, e_lenL, e_lenSL, e_lenO, e_int, e_intT, e_intF, e_str, e_min, e_max, e_abs, e_m1, e_m1R, e_m1S, e_joinL, e_joinO, e_joinT, e_txN, e_txC, e_txS, e_isiS, e_isiL, e_isiTu, e_rep, e_replS, e_tabG, e_mpS, e_tabI, e_inS, e_sl, e_slR, e_slS, e_slT, e_oNone, e_oSome, e_oRI, e_slStr, e_slL, e_slSL, e_slO, e_lc, e_ca0, e_ca1, e_ca2, e_ca3, e_ca4, e_ca5, e_ca6, e_ca7, e_ca8, e_ca9, e_ca10, e_ca11, e_ca12, e_scS, e_scI, e_scB, e_scN, e_allN, e_allC, e_eqFS, e_eqFI, e_inST, e_inIT, e_index, e_spR, e_mg, e_mgS, e_smN, e_smC, eq_self, Nat.reduceLT, Nat.reduceGT, Nat.reduceAdd, Nat.reduceMul, Nat.reduceSub, Nat.reduceLeDiff, Nat.reduceEqDiff, Int.reduceLT, Int.reduceLE, Int.reduceEq, Int.reduceAdd, Int.reduceSub, Int.reduceMul, Int.reduceMod, Int.reduceDiv, Int.reduceNeg, Nat.zero_le, Nat.le_refl, List.length_cons, List.length_nil, ite_true, ite_false, if_true, if_false, decide_true, decide_false, Bool.not_true, Bool.not_false, Bool.and_true, Bool.true_and, Bool.and_false, Bool.false_and, Bool.or_true, Bool.or_false, Bool.true_or, Bool.false_or, List.cons.injEq, and_true, true_and, and_false, false_and, and_self, ne_eq, not_true_eq_false, not_false_eq_true, reduceCtorEq, List.nil_append, List.cons_append, List.append_nil, List.append_assoc, e_joinW, e_joinWT, k1, k2, k3, k4, h1, h2, h3, h4, f1, f2, f3, f4, t0, p1, q1, p2, p3]
    · rcases ht with rfl | ht
      · skip
        refine ⟨jn L8 [w, L13, [c], L12, cw, [e]], ?_, ?_⟩
        · unfold m_in_words d_in_words
          simp only [e_rdDat, e_rdOwn, e_at0, e_atS, e_pu0, e_puS, e_var, e_c, e_op2, e_op2R, e_op2S, e_op1, e_op1S, e_opA, e_opAS, e_ofS, e_ofN, e_dB, e_toBS, e_and, e_andT, e_andF, e_or, e_orT, e_orF, e_not, e_notT, e_notF, e_notB, e_andV, e_andVT, e_andVF, e_orV, e_orVT, e_orVF, e_notV, e_notVB, e_ifE, e_ifET, e_ifEF, e_nil, e_cons, e_consR, e_consS, e_cleanN, e_cleanC, e_oN, e_oB, e_oI, e_oS, e_oT, e_oL, e_oSL, e_oOb, e_nf, e_tt, e_tup, e_tupR, e_tupB, e_items, e_itemsR, e_itemsB, e_fix, e_fixR, e_cat, e_catR, e_appN, e_appC, e_catB, e_catLL, e_catOL, e_catLO, e_catOO, e_call, e_callR, e_callB0, e_callB1, e_callB2, e_callB3, e_callB4, e_callB5, e_seq, e_seqN, e_seqR, e_seqB, e_seqC, e_seqX, e_skip, e_break, e_cont, e_set, e_setR, e_setX, e_setB, e_own, e_ownR, e_asg, e_asgR, e_nxO, e_tgT, e_putN, e_putC, e_tgN, e_tgB, e_drop, e_dropR, e_ret, e_retR, e_retX, e_retB, e_retN, e_if, e_ifT, e_ifF, e_app, e_appR, e_appB, e_frz, e_frzO, e_frzD, e_frzU, e_for, e_forR, e_forN, e_forC, e_turnB, e_turnN, e_turnC, e_turnK, e_turnR, e_turnX, e_it, e_itR, e_itA, e_itAR, e_asLst, e_asSlst, e_asTup, e_asStr, e_raise, e_run, e_endN, e_endR, e_endX, e_stC, e_st0, e_stS, e_addI, e_addS, e_addB, e_addLL, e_addOL, e_addLO, e_addOO, e_sub, e_mul, e_mod, e_div, e_neg, e_cmp, e_eqI, e_eqS, e_eqB, e_id, e_n1, e_isN, e_isI, e_isS, e_isT, e_isL, e_isB, e_isnN, e_isnI, e_isnS, e_isnT, e_isnL, e_isnB, e_ixS, e_ixT, e_ixL, e_ixSL, e_ixO, e_at_0, e_at_1, e_at_2, e_sg, e_lenS, e_lenT, e_lenL, e_lenSL, e_lenO, e_int, e_intT, e_intF, e_str, e_min, e_max, e_abs, e_m1, e_m1R, e_m1S, e_joinL, e_joinO, e_joinT, e_txN, e_txC, e_txS, e_isiS, e_isiL, e_isiTu, e_rep, e_replS, e_tabG, e_mpS, e_tabI, e_inS, e_sl, e_slR, e_slS, e_slT, e_oNone, e_oSome, e_oRI, e_slStr, e_slL, e_slSL, e_slO, e_lc, e_ca0, e_ca1, e_ca2, e_ca3, e_ca4, e_ca5, e_ca6, e_ca7, e_ca8, e_ca9, e_ca10, e_ca11, e_ca12, e_scS, e_scI, e_scB, e_scN, e_allN, e_allC, e_eqFS, e_eqFI, e_inST, e_inIT, e_index, e_spR, e_mg, e_mgS, e_smN, e_smC, eq_self, Nat.reduceLT, Nat.reduceGT, Nat.reduceAdd, Nat.reduceMul, Nat.reduceSub, Nat.reduceLeDiff, Nat.reduceEqDiff, Int.reduceLT, Int.reduceLE, Int.reduceEq, Int.reduceAdd, Int.reduceSub, Int.reduceMul, Int.reduceMod, Int.reduceDiv, Int.reduceNeg, Nat.zero_le, Nat.le_refl, List.length_cons, List.length_nil, ite_true, ite_false, if_true, if_false, decide_true, decide_false, Bool.not_true, Bool.not_false, Bool.and_true, Bool.true_and, Bool.and_false, Bool.false_and, Bool.or_true, Bool.or_false, Bool.true_or, Bool.false_or, List.cons.injEq, and_true, true_and, and_false, false_and, and_self, ne_eq, not_true_eq_false, not_false_eq_true, reduceCtorEq, List.nil_append, List.cons_append, List.append_nil, List.append_assoc, e_joinW, e_joinWT, k1, k2, k3, k4, h1, h2, h3, h4, f1, f2, f3, f4]
        · unfold m__law_words d__law_words
          simp only [e_rdDat, e_rdOwn, e_at0, e_atS, e_pu0, e_puS, e_var, e_c, e_op2, e_op2R, e_op2S, e_op1, e_op1S, e_opA, e_opAS, e_ofS, e_ofN, e_dB, e_toBS, e_and, e_andT, e_andF, e_or, e_orT, e_orF, e_not, e_notT, e_notF, e_notB, e_andV, e_andVT, e_andVF, e_orV, e_orVT, e_orVF, e_notV, e_notVB, e_ifE, e_ifET, e_ifEF, e_nil, e_cons, e_consR, e_consS, e_cleanN, e_cleanC, e_oN, e_oB, e_oI, e_oS, e_oT, e_oL, e_oSL, e_oOb, e_nf, e_tt, e_tup, e_tupR, e_tupB, e_items, e_itemsR, e_itemsB, e_fix, e_fixR, e_cat, e_catR, e_appN, e_appC, e_catB, e_catLL, e_catOL, e_catLO, e_catOO, e_call, e_callR, e_callB0, e_callB1, e_callB2, e_callB3, e_callB4, e_callB5, e_seq, e_seqN, e_seqR, e_seqB, e_seqC, e_seqX, e_skip, e_break, e_cont, e_set, e_setR, e_setX, e_setB, e_own, e_ownR, e_asg, e_asgR, e_nxO, e_tgT, e_putN, e_putC, e_tgN, e_tgB, e_drop, e_dropR, e_ret, e_retR, e_retX, e_retB, e_retN, e_if, e_ifT, e_ifF, e_app, e_appR, e_appB, e_frz, e_frzO, e_frzD, e_frzU, e_for, e_forR, e_forN, e_forC, e_turnB, e_turnN, e_turnC, e_turnK, e_turnR, e_turnX, e_it, e_itR, e_itA, e_itAR, e_asLst, e_asSlst, e_asTup, e_asStr, e_raise, e_run, e_endN, e_endR, e_endX, e_stC, e_st0, e_stS, e_addI, e_addS, e_addB, e_addLL, e_addOL, e_addLO, e_addOO, e_sub, e_mul, e_mod, e_div, e_neg, e_cmp, e_eqI, e_eqS, e_eqB, e_id, e_n1, e_isN, e_isI, e_isS, e_isT, e_isL, e_isB, e_isnN, e_isnI, e_isnS, e_isnT, e_isnL, e_isnB, e_ixS, e_ixT, e_ixL, e_ixSL, e_ixO, e_at_0, e_at_1, e_at_2, e_sg, e_lenS, e_lenT, e_lenL, e_lenSL, e_lenO, e_int, e_intT, e_intF, e_str, e_min, e_max, e_abs, e_m1, e_m1R, e_m1S, e_joinL, e_joinO, e_joinT, e_txN, e_txC, e_txS, e_isiS, e_isiL, e_isiTu, e_rep, e_replS, e_tabG, e_mpS, e_tabI, e_inS, e_sl, e_slR, e_slS, e_slT, e_oNone, e_oSome, e_oRI, e_slStr, e_slL, e_slSL, e_slO, e_lc, e_ca0, e_ca1, e_ca2, e_ca3, e_ca4, e_ca5, e_ca6, e_ca7, e_ca8, e_ca9, e_ca10, e_ca11, e_ca12, e_scS, e_scI, e_scB, e_scN, e_allN, e_allC, e_eqFS, e_eqFI, e_inST, e_inIT, e_index, e_spR, e_mg, e_mgS, e_smN, e_smC, eq_self, Nat.reduceLT, Nat.reduceGT, Nat.reduceAdd, Nat.reduceMul, Nat.reduceSub, Nat.reduceLeDiff, Nat.reduceEqDiff, Int.reduceLT, Int.reduceLE, Int.reduceEq, Int.reduceAdd, Int.reduceSub, Int.reduceMul, Int.reduceMod, Int.reduceDiv, Int.reduceNeg, Nat.zero_le, Nat.le_refl, List.length_cons, List.length_nil, ite_true, ite_false, if_true, if_false, decide_true, decide_false, Bool.not_true, Bool.not_false, Bool.and_true, Bool.true_and, Bool.and_false, Bool.false_and, Bool.or_true, Bool.or_false, Bool.true_or, Bool.false_or, List.cons.injEq, and_true, true_and, and_false, false_and, and_self, ne_eq, not_true_eq_false, not_false_eq_true, reduceCtorEq, List.nil_append, List.cons_append, List.append_nil, List.append_assoc, e_joinW, e_joinWT, k1, k2, k3, k4, h1, h2, h3, h4, f1, f2, f3, f4]
      · obtain ⟨t0, tt⟩ := t_words ht
        have t0 : (t = []) = False := eq_false t0
        rcases tt with ⟨p, p1, p2, p3⟩ | ⟨p, q, p1, q1, p2, p3⟩
        · have p1 : (p.length ≤ 1000) = True := eq_true (by omega)
          refine ⟨jn L8 [w, L13, [c], L12, cw, p, [e]], ?_, ?_⟩
          · unfold m_in_words d_in_words
            simp only [e_rdDat, e_rdOwn, e_at0, e_atS, e_pu0, e_puS, e_var, e_c, e_op2, e_op2R, e_op2S, e_op1, e_op1S, e_opA, e_opAS, e_ofS, e_ofN, e_dB, e_toBS, e_and, e_andT, e_andF, e_or, e_orT, e_orF, e_not, e_notT, e_notF, e_notB, e_andV, e_andVT, e_andVF, e_orV, e_orVT, e_orVF, e_notV, e_notVB, e_ifE, e_ifET, e_ifEF, e_nil, e_cons, e_consR, e_consS, e_cleanN, e_cleanC, e_oN, e_oB, e_oI, e_oS, e_oT, e_oL, e_oSL, e_oOb, e_nf, e_tt, e_tup, e_tupR, e_tupB, e_items, e_itemsR, e_itemsB, e_fix, e_fixR, e_cat, e_catR, e_appN, e_appC, e_catB, e_catLL, e_catOL, e_catLO, e_catOO, e_call, e_callR, e_callB0, e_callB1, e_callB2, e_callB3, e_callB4, e_callB5, e_seq, e_seqN, e_seqR, e_seqB, e_seqC, e_seqX, e_skip, e_break, e_cont, e_set, e_setR, e_setX, e_setB, e_own, e_ownR, e_asg, e_asgR, e_nxO, e_tgT, e_putN, e_putC, e_tgN, e_tgB, e_drop, e_dropR, e_ret, e_retR, e_retX, e_retB, e_retN, e_if, e_ifT, e_ifF, e_app, e_appR, e_appB, e_frz, e_frzO, e_frzD, e_frzU, e_for, e_forR, e_forN, e_forC, e_turnB, e_turnN, e_turnC, e_turnK, e_turnR, e_turnX, e_it, e_itR, e_itA, e_itAR, e_asLst, e_asSlst, e_asTup, e_asStr, e_raise, e_run, e_endN, e_endR, e_endX, e_stC, e_st0, e_stS, e_addI, e_addS, e_addB, e_addLL, e_addOL, e_addLO, e_addOO, e_sub, e_mul, e_mod, e_div, e_neg, e_cmp, e_eqI, e_eqS, e_eqB, e_id, e_n1, e_isN, e_isI, e_isS, e_isT, e_isL, e_isB, e_isnN, e_isnI, e_isnS, e_isnT, e_isnL, e_isnB, e_ixS, e_ixT, e_ixL, e_ixSL, e_ixO, e_at_0, e_at_1, e_at_2, e_sg, e_lenS, e_lenT, e_lenL, e_lenSL, e_lenO, e_int, e_intT, e_intF, e_str, e_min, e_max, e_abs, e_m1, e_m1R, e_m1S, e_joinL, e_joinO, e_joinT, e_txN, e_txC, e_txS, e_isiS, e_isiL, e_isiTu, e_rep, e_replS, e_tabG, e_mpS, e_tabI, e_inS, e_sl, e_slR, e_slS, e_slT, e_oNone, e_oSome, e_oRI, e_slStr, e_slL, e_slSL, e_slO, e_lc, e_ca0, e_ca1, e_ca2, e_ca3, e_ca4, e_ca5, e_ca6, e_ca7, e_ca8, e_ca9, e_ca10, e_ca11, e_ca12, e_scS, e_scI, e_scB, e_scN, e_allN, e_allC, e_eqFS, e_eqFI, e_inST, e_inIT, e_index, e_spR, e_mg, e_mgS, e_smN, e_smC, eq_self, Nat.reduceLT, Nat.reduceGT, Nat.reduceAdd, Nat.reduceMul, Nat.reduceSub, Nat.reduceLeDiff, Nat.reduceEqDiff, Int.reduceLT, Int.reduceLE, Int.reduceEq, Int.reduceAdd, Int.reduceSub, Int.reduceMul, Int.reduceMod, Int.reduceDiv, Int.reduceNeg, Nat.zero_le, Nat.le_refl, List.length_cons, List.length_nil, ite_true, ite_false, if_true, if_false, decide_true, decide_false, Bool.not_true, Bool.not_false, Bool.and_true, Bool.true_and, Bool.and_false, Bool.false_and, Bool.or_true, Bool.or_false, Bool.true_or, Bool.false_or, List.cons.injEq, and_true, true_and, and_false, false_and, and_self, ne_eq, not_true_eq_false, not_false_eq_true, reduceCtorEq, List.nil_append, List.cons_append, List.append_nil, List.append_assoc, e_joinW, e_joinWT, k1, k2, k3, k4, h1, h2, h3, h4, f1, f2, f3, f4, t0, p1, p2, p3]
          · unfold m__law_words d__law_words
            simp only [e_rdDat, e_rdOwn, e_at0, e_atS, e_pu0, e_puS, e_var, e_c, e_op2, e_op2R, e_op2S, e_op1, e_op1S, e_opA, e_opAS, e_ofS, e_ofN, e_dB, e_toBS, e_and, e_andT, e_andF, e_or, e_orT, e_orF, e_not, e_notT, e_notF, e_notB, e_andV, e_andVT, e_andVF, e_orV, e_orVT, e_orVF, e_notV, e_notVB, e_ifE, e_ifET, e_ifEF, e_nil, e_cons, e_consR, e_consS, e_cleanN, e_cleanC, e_oN, e_oB, e_oI, e_oS, e_oT, e_oL, e_oSL, e_oOb, e_nf, e_tt, e_tup, e_tupR, e_tupB, e_items, e_itemsR, e_itemsB, e_fix, e_fixR, e_cat, e_catR, e_appN, e_appC, e_catB, e_catLL, e_catOL, e_catLO, e_catOO, e_call, e_callR, e_callB0, e_callB1, e_callB2, e_callB3, e_callB4, e_callB5, e_seq, e_seqN, e_seqR, e_seqB, e_seqC, e_seqX, e_skip, e_break, e_cont, e_set, e_setR, e_setX, e_setB, e_own, e_ownR, e_asg, e_asgR, e_nxO, e_tgT, e_putN, e_putC, e_tgN, e_tgB, e_drop, e_dropR, e_ret, e_retR, e_retX, e_retB, e_retN, e_if, e_ifT, e_ifF, e_app, e_appR, e_appB, e_frz, e_frzO, e_frzD, e_frzU, e_for, e_forR, e_forN, e_forC, e_turnB, e_turnN, e_turnC, e_turnK, e_turnR, e_turnX, e_it, e_itR, e_itA, e_itAR, e_asLst, e_asSlst, e_asTup, e_asStr, e_raise, e_run, e_endN, e_endR, e_endX, e_stC, e_st0, e_stS, e_addI, e_addS, e_addB, e_addLL, e_addOL, e_addLO, e_addOO, e_sub, e_mul, e_mod, e_div, e_neg, e_cmp, e_eqI, e_eqS, e_eqB, e_id, e_n1, e_isN, e_isI, e_isS, e_isT, e_isL, e_isB, e_isnN, e_isnI, e_isnS, e_isnT, e_isnL, e_isnB, e_ixS, e_ixT, e_ixL, e_ixSL, e_ixO, e_at_0, e_at_1, e_at_2, e_sg, e_lenS, e_lenT, e_lenL, e_lenSL, e_lenO, e_int, e_intT, e_intF, e_str, e_min, e_max, e_abs, e_m1, e_m1R, e_m1S, e_joinL, e_joinO, e_joinT, e_txN, e_txC, e_txS, e_isiS, e_isiL, e_isiTu, e_rep, e_replS, e_tabG, e_mpS, e_tabI, e_inS, e_sl, e_slR, e_slS, e_slT, e_oNone, e_oSome, e_oRI, e_slStr, e_slL, e_slSL, e_slO, e_lc, e_ca0, e_ca1, e_ca2, e_ca3, e_ca4, e_ca5, e_ca6, e_ca7, e_ca8, e_ca9, e_ca10, e_ca11, e_ca12, e_scS, e_scI, e_scB, e_scN, e_allN, e_allC, e_eqFS, e_eqFI, e_inST, e_inIT, e_index, e_spR, e_mg, e_mgS, e_smN, e_smC, eq_self, Nat.reduceLT, Nat.reduceGT, Nat.reduceAdd, Nat.reduceMul, Nat.reduceSub, Nat.reduceLeDiff, Nat.reduceEqDiff, Int.reduceLT, Int.reduceLE, Int.reduceEq, Int.reduceAdd, Int.reduceSub, Int.reduceMul, Int.reduceMod, Int.reduceDiv, Int.reduceNeg, Nat.zero_le, Nat.le_refl, List.length_cons, List.length_nil, ite_true, ite_false, if_true, if_false, decide_true, decide_false, Bool.not_true, Bool.not_false, Bool.and_true, Bool.true_and, Bool.and_false, Bool.false_and, Bool.or_true, Bool.or_false, Bool.true_or, Bool.false_or, List.cons.injEq, and_true, true_and, and_false, false_and, and_self, ne_eq, not_true_eq_false, not_false_eq_true, reduceCtorEq, List.nil_append, List.cons_append, List.append_nil, List.append_assoc, e_joinW, e_joinWT, k1, k2, k3, k4, h1, h2, h3, h4, f1, f2, f3, f4, t0, p1, p2, p3]
        · have p1 : (p.length ≤ 1000) = True := eq_true (by omega)
          have q1 : (q.length ≤ 1000) = True := eq_true (by omega)
          refine ⟨jn L8 [w, L13, [c], L12, cw, p, q, [e]], ?_, ?_⟩
          · unfold m_in_words d_in_words
            simp only [e_rdDat, e_rdOwn, e_at0, e_atS, e_pu0, e_puS, e_var, e_c, e_op2, e_op2R, e_op2S, e_op1, e_op1S, e_opA, e_opAS, e_ofS, e_ofN, e_dB, e_toBS, e_and, e_andT, e_andF, e_or, e_orT, e_orF, e_not, e_notT, e_notF, e_notB, e_andV, e_andVT, e_andVF, e_orV, e_orVT, e_orVF, e_notV, e_notVB, e_ifE, e_ifET, e_ifEF, e_nil, e_cons, e_consR, e_consS, e_cleanN, e_cleanC, e_oN, e_oB, e_oI, e_oS, e_oT, e_oL, e_oSL, e_oOb, e_nf, e_tt, e_tup, e_tupR, e_tupB, e_items, e_itemsR, e_itemsB, e_fix, e_fixR, e_cat, e_catR, e_appN, e_appC, e_catB, e_catLL, e_catOL, e_catLO, e_catOO, e_call, e_callR, e_callB0, e_callB1, e_callB2, e_callB3, e_callB4, e_callB5, e_seq, e_seqN, e_seqR, e_seqB, e_seqC, e_seqX, e_skip, e_break, e_cont, e_set, e_setR, e_setX, e_setB, e_own, e_ownR, e_asg, e_asgR, e_nxO, e_tgT, e_putN, e_putC, e_tgN, e_tgB, e_drop, e_dropR, e_ret, e_retR, e_retX, e_retB, e_retN, e_if, e_ifT, e_ifF, e_app, e_appR, e_appB, e_frz, e_frzO, e_frzD, e_frzU, e_for, e_forR, e_forN, e_forC, e_turnB, e_turnN, e_turnC, e_turnK, e_turnR, e_turnX, e_it, e_itR, e_itA, e_itAR, e_asLst, e_asSlst, e_asTup, e_asStr, e_raise, e_run, e_endN, e_endR, e_endX, e_stC, e_st0, e_stS, e_addI, e_addS, e_addB, e_addLL, e_addOL, e_addLO, e_addOO, e_sub, e_mul, e_mod, e_div, e_neg, e_cmp, e_eqI, e_eqS, e_eqB, e_id, e_n1, e_isN, e_isI, e_isS, e_isT, e_isL, e_isB, e_isnN, e_isnI, e_isnS, e_isnT, e_isnL, e_isnB, e_ixS, e_ixT, e_ixL, e_ixSL, e_ixO, e_at_0, e_at_1, e_at_2, e_sg, e_lenS, e_lenT, e_lenL, e_lenSL, e_lenO, e_int, e_intT, e_intF, e_str, e_min, e_max, e_abs, e_m1, e_m1R, e_m1S, e_joinL, e_joinO, e_joinT, e_txN, e_txC, e_txS, e_isiS, e_isiL, e_isiTu, e_rep, e_replS, e_tabG, e_mpS, e_tabI, e_inS, e_sl, e_slR, e_slS, e_slT, e_oNone, e_oSome, e_oRI, e_slStr, e_slL, e_slSL, e_slO, e_lc, e_ca0, e_ca1, e_ca2, e_ca3, e_ca4, e_ca5, e_ca6, e_ca7, e_ca8, e_ca9, e_ca10, e_ca11, e_ca12, e_scS, e_scI, e_scB, e_scN, e_allN, e_allC, e_eqFS, e_eqFI, e_inST, e_inIT, e_index, e_spR, e_mg, e_mgS, e_smN, e_smC, eq_self, Nat.reduceLT, Nat.reduceGT, Nat.reduceAdd, Nat.reduceMul, Nat.reduceSub, Nat.reduceLeDiff, Nat.reduceEqDiff, Int.reduceLT, Int.reduceLE, Int.reduceEq, Int.reduceAdd, Int.reduceSub, Int.reduceMul, Int.reduceMod, Int.reduceDiv, Int.reduceNeg, Nat.zero_le, Nat.le_refl, List.length_cons, List.length_nil, ite_true, ite_false, if_true, if_false, decide_true, decide_false, Bool.not_true, Bool.not_false, Bool.and_true, Bool.true_and, Bool.and_false, Bool.false_and, Bool.or_true, Bool.or_false, Bool.true_or, Bool.false_or, List.cons.injEq, and_true, true_and, and_false, false_and, and_self, ne_eq, not_true_eq_false, not_false_eq_true, reduceCtorEq, List.nil_append, List.cons_append, List.append_nil, List.append_assoc, e_joinW, e_joinWT, k1, k2, k3, k4, h1, h2, h3, h4, f1, f2, f3, f4, t0, p1, q1, p2, p3]
          · unfold m__law_words d__law_words
            simp only [e_rdDat, e_rdOwn, e_at0, e_atS, e_pu0, e_puS, e_var, e_c, e_op2, e_op2R, e_op2S, e_op1, e_op1S, e_opA, e_opAS, e_ofS, e_ofN, e_dB, e_toBS, e_and, e_andT, e_andF, e_or, e_orT, e_orF, e_not, e_notT, e_notF, e_notB, e_andV, e_andVT, e_andVF, e_orV, e_orVT, e_orVF, e_notV, e_notVB, e_ifE, e_ifET, e_ifEF, e_nil, e_cons, e_consR, e_consS, e_cleanN, e_cleanC, e_oN, e_oB, e_oI, e_oS, e_oT, e_oL, e_oSL, e_oOb, e_nf, e_tt, e_tup, e_tupR, e_tupB, e_items, e_itemsR, e_itemsB, e_fix, e_fixR, e_cat, e_catR, e_appN, e_appC, e_catB, e_catLL, e_catOL, e_catLO, e_catOO, e_call, e_callR, e_callB0, e_callB1, e_callB2, e_callB3, e_callB4, e_callB5, e_seq, e_seqN, e_seqR, e_seqB, e_seqC, e_seqX, e_skip, e_break, e_cont, e_set, e_setR, e_setX, e_setB, e_own, e_ownR, e_asg, e_asgR, e_nxO, e_tgT, e_putN, e_putC, e_tgN, e_tgB, e_drop, e_dropR, e_ret, e_retR, e_retX, e_retB, e_retN, e_if, e_ifT, e_ifF, e_app, e_appR, e_appB, e_frz, e_frzO, e_frzD, e_frzU, e_for, e_forR, e_forN, e_forC, e_turnB, e_turnN, e_turnC, e_turnK, e_turnR, e_turnX, e_it, e_itR, e_itA, e_itAR, e_asLst, e_asSlst, e_asTup, e_asStr, e_raise, e_run, e_endN, e_endR, e_endX, e_stC, e_st0, e_stS, e_addI, e_addS, e_addB, e_addLL, e_addOL, e_addLO, e_addOO, e_sub, e_mul, e_mod, e_div, e_neg, e_cmp, e_eqI, e_eqS, e_eqB, e_id, e_n1, e_isN, e_isI, e_isS, e_isT, e_isL, e_isB, e_isnN, e_isnI, e_isnS, e_isnT, e_isnL, e_isnB, e_ixS, e_ixT, e_ixL, e_ixSL, e_ixO, e_at_0, e_at_1, e_at_2, e_sg, e_lenS, e_lenT, e_lenL, e_lenSL, e_lenO, e_int, e_intT, e_intF, e_str, e_min, e_max, e_abs, e_m1, e_m1R, e_m1S, e_joinL, e_joinO, e_joinT, e_txN, e_txC, e_txS, e_isiS, e_isiL, e_isiTu, e_rep, e_replS, e_tabG, e_mpS, e_tabI, e_inS, e_sl, e_slR, e_slS, e_slT, e_oNone, e_oSome, e_oRI, e_slStr, e_slL, e_slSL, e_slO, e_lc, e_ca0, e_ca1, e_ca2, e_ca3, e_ca4, e_ca5, e_ca6, e_ca7, e_ca8, e_ca9, e_ca10, e_ca11, e_ca12, e_scS, e_scI, e_scB, e_scN, e_allN, e_allC, e_eqFS, e_eqFI, e_inST, e_inIT, e_index, e_spR, e_mg, e_mgS, e_smN, e_smC, eq_self, Nat.reduceLT, Nat.reduceGT, Nat.reduceAdd, Nat.reduceMul, Nat.reduceSub, Nat.reduceLeDiff, Nat.reduceEqDiff, Int.reduceLT, Int.reduceLE, Int.reduceEq, Int.reduceAdd, Int.reduceSub, Int.reduceMul, Int.reduceMod, Int.reduceDiv, Int.reduceNeg, Nat.zero_le, Nat.le_refl, List.length_cons, List.length_nil, ite_true, ite_false, if_true, if_false, decide_true, decide_false, Bool.not_true, Bool.not_false, Bool.and_true, Bool.true_and, Bool.and_false, Bool.false_and, Bool.or_true, Bool.or_false, Bool.true_or, Bool.false_or, List.cons.injEq, and_true, true_and, and_false, false_and, and_self, ne_eq, not_true_eq_false, not_false_eq_true, reduceCtorEq, List.nil_append, List.cons_append, List.append_nil, List.append_assoc, e_joinW, e_joinWT, k1, k2, k3, k4, h1, h2, h3, h4, f1, f2, f3, f4, t0, p1, q1, p2, p3]
theorem good_words {p : D} (h : Good p) : ∃ x, m_in_words [p] = .ok (.str x) ∧ m__law_words [p] = .ok (.str x) := by
  obtain ⟨sh, v, t, y, k, rfl, hsh, hk, ht, hy⟩ := h
  rcases hy with ⟨h1, h2⟩ | ⟨h1, h2⟩ | ⟨h1, h2⟩ | ⟨h1, h2 | h2⟩
  · exact words1 hsh hk ht h1 h2
  · exact words2 hsh hk ht h1 h2
  · exact words3 hsh hk ht h1 h2
  · exact words4 hsh hk ht h1 h2
  · exact words5 hsh hk ht h1 h2

/-! ### the law -/
abbrev body1 : DS := dSeq (dSet 3 (dOp2 fMod (dOp2 fMul (dVar 2) (dC (.int 48271))) (dC (.int 2147483647)))) (dApp 1 (dCall 2 m__law_phrase (dCons (dVar 3) (dCons (dOp2 fMod (dOp2 fMul (dVar 3) (dC (.int 40692))) (dC (.int 2147483399))) (dNil)))))
abbrev body2 : DS := dSeq (dSet 5 (dCall 1 m_in_words (dCons (dVar 4) (dNil)))) (dIf (dOrT (dNotT (dB (dOpA fIsi (dCons (dVar 5) (dCons (dC (.obj (.ty "str"))) (dNil)))))) (dB (dOp2 fNe (dVar 5) (dCall 1 m__law_words (dCons (dVar 4) (dNil)))))) (dRet (dC (.bl false))) (dSkip))
def P1 (a : D) (k : Nat) (δ : DSt) : Prop := ∃ (ps : List D) (x2 x3 : Sl), δ = [.dat a, .own ps, x2, x3, .un, .un] ∧ ps.length = k ∧ ∀ p ∈ ps, Good p ∧ isO p = false
def P2 (a : D) (ps : List D) (δ : DSt) : Prop := ∃ (x2 x3 x4 x5 : Sl), δ = [.dat a, .own ps, x2, x3, x4, x5]
theorem step1 (a : D) (k : Nat) (hk : k < 1000) (n : Int) (δ : DSt) (h : P1 a k δ) : ∃ δ', turnB body1 (tgN 2 (.int n) δ) = .nx δ' ∧ P1 a (k + 1) δ' := by
  obtain ⟨ps, x2, x3, rfl, hl, hp⟩ := h
  obtain ⟨p, g, e, o⟩ := phrase_ok (n * 48271 % 2147483647) (n * 48271 % 2147483647 * 40692 % 2147483399)
  have m1 : ∀ i : Int, fMul (.int i) (.int 48271) = some (.int (i * 48271)) := fun i => mul_r i 48271
  have m2 : ∀ i : Int, fMul (.int i) (.int 40692) = some (.int (i * 40692)) := fun i => mul_r i 40692
  have l1 : (ps.length < 1000000) = True := eq_true (by omega)
  refine ⟨[.dat a, .own (appL ps [p]), .dat (.int n), .dat (.int (n * 48271 % 2147483647)), .un, .un], ?_, appL ps [p], _, _, rfl, ?_, fun q hq => ?_⟩
  · simp only [e_rdDat, e_rdOwn, e_at0, e_atS, e_pu0, e_puS, e_var, e_c, e_op2, e_op2R, e_op2S, e_op1, e_op1S, e_opA, e_opAS, e_ofS, e_ofN, e_dB, e_toBS, e_and, e_andT, e_andF, e_or, e_orT, e_orF, e_not, e_notT, e_notF, e_notB, e_andV, e_andVT, e_andVF, e_orV, e_orVT, e_orVF, e_notV, e_notVB, e_ifE, e_ifET, e_ifEF, e_nil, e_cons, e_consR, e_consS, e_cleanN, e_cleanC, e_oN, e_oB, e_oI, e_oS, e_oT, e_oL, e_oSL, e_oOb, e_nf, e_tt, e_tup, e_tupR, e_tupB, e_items, e_itemsR, e_itemsB, e_fix, e_fixR, e_cat, e_catR, e_appN, e_appC, e_catB, e_catLL, e_catOL, e_catLO, e_catOO, e_call, e_callR, e_callB0, e_callB1, e_callB2, e_callB3, e_callB4, e_callB5, e_seq, e_seqN, e_seqR, e_seqB, e_seqC, e_seqX, e_skip, e_break, e_cont, e_set, e_setR, e_setX, e_setB, e_own, e_ownR, e_asg, e_asgR, e_nxO, e_tgT, e_putN, e_putC, e_tgN, e_tgB, e_drop, e_dropR, e_ret, e_retR, e_retX, e_retB, e_retN, e_if, e_ifT, e_ifF, e_app, e_appR, e_appB, e_frz, e_frzO, e_frzD, e_frzU, e_for, e_forR, e_forN, e_forC, e_turnB, e_turnN, e_turnC, e_turnK, e_turnR, e_turnX, e_it, e_itR, e_itA, e_itAR, e_asLst, e_asSlst, e_asTup, e_asStr, e_raise, e_run, e_endN, e_endR, e_endX, e_stC, e_st0, e_stS, e_addI, e_addS, e_addB, e_addLL, e_addOL, e_addLO, e_addOO, e_sub, e_mul, e_mod, e_div, e_neg, e_cmp, e_eqI, e_eqS, e_eqB, e_id, e_n1, e_isN, e_isI, e_isS, e_isT, e_isL, e_isB, e_isnN, e_isnI, e_isnS, e_isnT, e_isnL, e_isnB, e_ixS, e_ixT, e_ixL, e_ixSL, e_ixO, e_at_0, e_at_1, e_at_2, e_sg, e_lenS, e_lenT, e_lenL, e_lenSL, e_lenO, e_int, e_intT, e_intF, e_str, e_min, e_max, e_abs, e_m1, e_m1R, e_m1S, e_joinL, e_joinO, e_joinT, e_joinB, e_txN, e_txC, e_txS, e_isiS, e_isiL, e_isiTu, e_rep, e_replS, e_tabG, e_mpS, e_tabI, e_inS, e_sl, e_slR, e_slS, e_slT, e_oNone, e_oSome, e_oRI, e_slStr, e_slL, e_slSL, e_slO, e_lc, e_ca0, e_ca1, e_ca2, e_ca3, e_ca4, e_ca5, e_ca6, e_ca7, e_ca8, e_ca9, e_ca10, e_ca11, e_ca12, e_scS, e_scI, e_scB, e_scN, e_allN, e_allC, e_inN, e_inC, e_eqFS, e_eqFI, e_inST, e_inIT, e_index, e_spR, e_mg, e_mgS, e_smN, e_smC, eq_self, Nat.reduceLT, Nat.reduceGT, Nat.reduceAdd, Nat.reduceMul, Nat.reduceSub, Nat.reduceLeDiff, Nat.reduceEqDiff, Int.reduceLT, Int.reduceLE, Int.reduceEq, Int.reduceAdd, Int.reduceSub, Int.reduceMul, Int.reduceMod, Int.reduceDiv, Int.reduceNeg, Nat.zero_le, Nat.le_refl, List.length_cons, List.length_nil, ite_true, ite_false, if_true, if_false, decide_true, decide_false, Bool.not_true, Bool.not_false, Bool.and_true, Bool.true_and, Bool.and_false, Bool.false_and, Bool.or_true, Bool.or_false, Bool.true_or, Bool.false_or, List.cons.injEq, and_true, true_and, and_false, false_and, and_self, ne_eq, not_true_eq_false, not_false_eq_true, reduceCtorEq, List.nil_append, List.cons_append, List.append_nil, List.append_assoc, m1, m2, e, o, l1]
  · rw [appL_eq, List.length_append, List.length_singleton, hl]
  · rw [appL_eq] at hq
    rcases List.mem_append.mp hq with hq | hq
    · exact hp q hq
    · rw [List.mem_singleton] at hq
      subst hq
      exact ⟨g, o⟩
theorem step2 (a : D) (ps : List D) (p : D) (g : Good p) (o : isO p = false) (δ : DSt) (h : P2 a ps δ) : ∃ δ', turnB body2 (tgN 4 p δ) = .nx δ' ∧ P2 a ps δ' := by
  obtain ⟨x2, x3, x4, x5, rfl⟩ := h
  obtain ⟨x, e1, e2⟩ := good_words g
  refine ⟨[.dat a, .own ps, x2, x3, .dat p, .dat (.str x)], ?_, _, _, _, _, rfl⟩
  simp only [e_rdDat, e_rdOwn, e_at0, e_atS, e_pu0, e_puS, e_var, e_c, e_op2, e_op2R, e_op2S, e_op1, e_op1S, e_opA, e_opAS, e_ofS, e_ofN, e_dB, e_toBS, e_and, e_andT, e_andF, e_or, e_orT, e_orF, e_not, e_notT, e_notF, e_notB, e_andV, e_andVT, e_andVF, e_orV, e_orVT, e_orVF, e_notV, e_notVB, e_ifE, e_ifET, e_ifEF, e_nil, e_cons, e_consR, e_consS, e_cleanN, e_cleanC, e_oN, e_oB, e_oI, e_oS, e_oT, e_oL, e_oSL, e_oOb, e_nf, e_tt, e_tup, e_tupR, e_tupB, e_items, e_itemsR, e_itemsB, e_fix, e_fixR, e_cat, e_catR, e_appN, e_appC, e_catB, e_catLL, e_catOL, e_catLO, e_catOO, e_call, e_callR, e_callB0, e_callB1, e_callB2, e_callB3, e_callB4, e_callB5, e_seq, e_seqN, e_seqR, e_seqB, e_seqC, e_seqX, e_skip, e_break, e_cont, e_set, e_setR, e_setX, e_setB, e_own, e_ownR, e_asg, e_asgR, e_nxO, e_tgT, e_putN, e_putC, e_tgN, e_tgB, e_drop, e_dropR, e_ret, e_retR, e_retX, e_retB, e_retN, e_if, e_ifT, e_ifF, e_app, e_appR, e_appB, e_frz, e_frzO, e_frzD, e_frzU, e_for, e_forR, e_forN, e_forC, e_turnB, e_turnN, e_turnC, e_turnK, e_turnR, e_turnX, e_it, e_itR, e_itA, e_itAR, e_asLst, e_asSlst, e_asTup, e_asStr, e_raise, e_run, e_endN, e_endR, e_endX, e_stC, e_st0, e_stS, e_addI, e_addS, e_addB, e_addLL, e_addOL, e_addLO, e_addOO, e_sub, e_mul, e_mod, e_div, e_neg, e_cmp, e_eqI, e_eqS, e_eqB, e_id, e_n1, e_isN, e_isI, e_isS, e_isT, e_isL, e_isB, e_isnN, e_isnI, e_isnS, e_isnT, e_isnL, e_isnB, e_ixS, e_ixT, e_ixL, e_ixSL, e_ixO, e_at_0, e_at_1, e_at_2, e_sg, e_lenS, e_lenT, e_lenL, e_lenSL, e_lenO, e_int, e_intT, e_intF, e_str, e_min, e_max, e_abs, e_m1, e_m1R, e_m1S, e_joinL, e_joinO, e_joinT, e_joinB, e_txN, e_txC, e_txS, e_isiS, e_isiL, e_isiTu, e_rep, e_replS, e_tabG, e_mpS, e_tabI, e_inS, e_sl, e_slR, e_slS, e_slT, e_oNone, e_oSome, e_oRI, e_slStr, e_slL, e_slSL, e_slO, e_lc, e_ca0, e_ca1, e_ca2, e_ca3, e_ca4, e_ca5, e_ca6, e_ca7, e_ca8, e_ca9, e_ca10, e_ca11, e_ca12, e_scS, e_scI, e_scB, e_scN, e_allN, e_allC, e_inN, e_inC, e_eqFS, e_eqFI, e_inST, e_inIT, e_index, e_spR, e_mg, e_mgS, e_smN, e_smC, eq_self, Nat.reduceLT, Nat.reduceGT, Nat.reduceAdd, Nat.reduceMul, Nat.reduceSub, Nat.reduceLeDiff, Nat.reduceEqDiff, Int.reduceLT, Int.reduceLE, Int.reduceEq, Int.reduceAdd, Int.reduceSub, Int.reduceMul, Int.reduceMod, Int.reduceDiv, Int.reduceNeg, Nat.zero_le, Nat.le_refl, List.length_cons, List.length_nil, ite_true, ite_false, if_true, if_false, decide_true, decide_false, Bool.not_true, Bool.not_false, Bool.and_true, Bool.true_and, Bool.and_false, Bool.false_and, Bool.or_true, Bool.or_false, Bool.true_or, Bool.false_or, List.cons.injEq, and_true, true_and, and_false, false_and, and_self, ne_eq, not_true_eq_false, not_false_eq_true, reduceCtorEq, List.nil_append, List.cons_append, List.append_nil, List.append_assoc, e1, e2, o]
theorem last_ok : m_in_words [.tup [.str L10, .non, .str L10, .str L98, .str L10]] = .ok (.str L99) := by kernel_rfl
theorem law_true (ns : List Int) (hn : ns.length ≤ 63) : m_law [.slst (ns.map .int)] = .ok (.bl true) := by
  have hc : (cutL (ns.map D.int) none (some 60)).length ≤ 63 := by
    have := cut_len (ns.map D.int) none (some 60)
    rw [List.length_map] at this
    omega
  obtain ⟨δ1, e1, ps, x2, x3, rfl, hl, hp⟩ := for_inv (tg := tgN 2) (b := body1) (P := P1 (.slst (ns.map .int))) (xs := cutL (ns.map D.int) none (some 60)) (n := 0) (δ := [.dat (.slst (ns.map .int)), .own [], .un, .un, .un, .un]) (fun k x δ hx _ h2 hP => by
    obtain ⟨n, _, rfl⟩ := List.mem_map.mp (cut_mem hx)
    exact step1 _ k (by omega) n δ hP) ⟨[], .un, .un, rfl, rfl, fun _ h => nomatch h⟩
  have hl' : ps.length ≤ 63 := by omega
  have hc2 := cut_len ps none (some 1)
  obtain ⟨δ2, e2, x4, x5, x6, x7, rfl⟩ := for_inv (tg := tgN 4) (b := body2) (P := fun _ => P2 (.slst (ns.map .int)) ps) (xs := appL ps (cutL ps none (some 1))) (n := 0) (δ := [.dat (.slst (ns.map .int)), .own ps, x2, x3, .un, .un]) (fun k x δ hx _ _ hP => by
    rw [appL_eq] at hx
    have q : x ∈ ps := by
      rcases List.mem_append.mp hx with h | h
      · exact h
      · exact cut_mem h
    exact step2 _ ps x (hp x q).1 (hp x q).2 δ hP) ⟨_, _, _, _, rfl⟩
  have l1 : (ps.length + (cutL ps none (some 1)).length ≤ 1000000) = True := eq_true (by omega)
  unfold m_law d_law
  simp only [e_rdDat, e_rdOwn, e_at0, e_atS, e_pu0, e_puS, e_var, e_c, e_op2, e_op2R, e_op2S, e_op1, e_op1S, e_opA, e_opAS, e_ofS, e_ofN, e_dB, e_toBS, e_and, e_andT, e_andF, e_or, e_orT, e_orF, e_not, e_notT, e_notF, e_notB, e_andV, e_andVT, e_andVF, e_orV, e_orVT, e_orVF, e_notV, e_notVB, e_ifE, e_ifET, e_ifEF, e_nil, e_cons, e_consR, e_consS, e_cleanN, e_cleanC, e_oN, e_oB, e_oI, e_oS, e_oT, e_oL, e_oSL, e_oOb, e_nf, e_tt, e_tup, e_tupR, e_tupB, e_items, e_itemsR, e_itemsB, e_fix, e_fixR, e_cat, e_catR, e_appN, e_appC, e_catB, e_catLL, e_catOL, e_catLO, e_catOO, e_call, e_callR, e_callB0, e_callB1, e_callB2, e_callB3, e_callB4, e_callB5, e_seq, e_seqN, e_seqR, e_seqB, e_seqC, e_seqX, e_skip, e_break, e_cont, e_set, e_setR, e_setX, e_setB, e_own, e_ownR, e_asg, e_asgR, e_nxO, e_tgT, e_putN, e_putC, e_tgN, e_tgB, e_drop, e_dropR, e_ret, e_retR, e_retX, e_retB, e_retN, e_if, e_ifT, e_ifF, e_app, e_appR, e_appB, e_frz, e_frzO, e_frzD, e_frzU, e_for, e_forR, e_forN, e_forC, e_turnB, e_turnN, e_turnC, e_turnK, e_turnR, e_turnX, e_it, e_itR, e_itA, e_itAR, e_asLst, e_asSlst, e_asTup, e_asStr, e_raise, e_run, e_endN, e_endR, e_endX, e_stC, e_st0, e_stS, e_addI, e_addS, e_addB, e_addLL, e_addOL, e_addLO, e_addOO, e_sub, e_mul, e_mod, e_div, e_neg, e_cmp, e_eqI, e_eqS, e_eqB, e_id, e_n1, e_isN, e_isI, e_isS, e_isT, e_isL, e_isB, e_isnN, e_isnI, e_isnS, e_isnT, e_isnL, e_isnB, e_ixS, e_ixT, e_ixL, e_ixSL, e_ixO, e_at_0, e_at_1, e_at_2, e_sg, e_lenS, e_lenT, e_lenL, e_lenSL, e_lenO, e_int, e_intT, e_intF, e_str, e_min, e_max, e_abs, e_m1, e_m1R, e_m1S, e_joinL, e_joinO, e_joinT, e_joinB, e_txN, e_txC, e_txS, e_isiS, e_isiL, e_isiTu, e_rep, e_replS, e_tabG, e_mpS, e_tabI, e_inS, e_sl, e_slR, e_slS, e_slT, e_oNone, e_oSome, e_oRI, e_slStr, e_slL, e_slSL, e_slO, e_lc, e_ca0, e_ca1, e_ca2, e_ca3, e_ca4, e_ca5, e_ca6, e_ca7, e_ca8, e_ca9, e_ca10, e_ca11, e_ca12, e_scS, e_scI, e_scB, e_scN, e_allN, e_allC, e_inN, e_inC, e_eqFS, e_eqFI, e_inST, e_inIT, e_index, e_spR, e_mg, e_mgS, e_smN, e_smC, eq_self, Nat.reduceLT, Nat.reduceGT, Nat.reduceAdd, Nat.reduceMul, Nat.reduceSub, Nat.reduceLeDiff, Nat.reduceEqDiff, Int.reduceLT, Int.reduceLE, Int.reduceEq, Int.reduceAdd, Int.reduceSub, Int.reduceMul, Int.reduceMod, Int.reduceDiv, Int.reduceNeg, Nat.zero_le, Nat.le_refl, List.length_cons, List.length_nil, ite_true, ite_false, if_true, if_false, decide_true, decide_false, Bool.not_true, Bool.not_false, Bool.and_true, Bool.true_and, Bool.and_false, Bool.false_and, Bool.or_true, Bool.or_false, Bool.true_or, Bool.false_or, List.cons.injEq, and_true, true_and, and_false, false_and, and_self, ne_eq, not_true_eq_false, not_false_eq_true, reduceCtorEq, List.nil_append, List.cons_append, List.append_nil, List.append_assoc, e1, l1, e2, last_ok]
end Ma83
set_option Elab.async false
set_option linter.all false
/-! The end. -/
open PySem PySem.W PySem.Calls PyProof.Rows
set_option maxRecDepth 100000 in
set_option maxHeartbeats 0 in
theorem PySem.Challenge.cw_modehand_k83_in_words_holds : PySem.Challenge.rw_modehand_k83_in_words.Holds := by
  w_on; o_law
  refine HandSHeadRun.head_tok (m := 367) (r := OpenLaw.row PySem.Challenge.rw_modehand_k83_in_words) (q := view (OpenLaw.row PySem.Challenge.rw_modehand_k83_in_words).prog [21]) (H := Wa83.hk) (ob := Wa83.ob) (M := 40000) (loose := Wa83.loose) (d := HandSHeadRun.topDef (OpenLaw.row PySem.Challenge.rw_modehand_k83_in_words).prog 21) Wa83.ob_eq He.hookM_toks
    (by kernel_rfl) (fun s => by kernel_rfl) Wa83.run (by kernel_rfl) (by kernel_rfl) (by kernel_rfl) (by rfl) (by first | assumption | decide +kernel) (by decide +kernel) ⟨rfl, rfl, rfl, rfl, rfl, by decide +kernel⟩ ?hw ?hc
  case hw => w_witness2
  case hc =>
    refine Dl.walk_ofQ (l := PySem.Challenge.rw_modehand_k83_in_words) (n := 63) (k := 5) (x := "_law_script") rfl (by decide) (by kernel_rfl) ⟨rfl, by decide, by decide⟩ ?F
    intro w mg fa h Y GN hmg0
    obtain ⟨K, KX, c, cx⟩ := Y
    have hmg : mg ("law" : PySem.Str) = some (.ref fa) := by
      have e : (HandSHeadRun.topDef (OpenLaw.row PySem.Challenge.rw_modehand_k83_in_words).prog 21).name = ("law" : PySem.Str) := by kernel_rfl
      rw [← e]
      exact hmg0
    have Z := Wa83.txt KX GN c cx
    have e := hmg.symm.trans Z.g_law
    cases e
    obtain ⟨fd, F, _, _, hb⟩ := Wa83.ok_law (P := (PySem.Challenge.rw_modehand_k83_in_words).prog) Z c.d
    exact ⟨K, fd, Dl.spM K 1 Mi83.m_law, KX, fun s v => hb s [v] rfl, fun H a ns hl _ hS => Dl.law_sp hS (Ma83.law_true ns hl), fun base _ _ => F base⟩
