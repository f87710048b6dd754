import PyProof.Rows.All
import Wide.All
import OpenK.AllK
import Wide.FinOn
import HandS.ForMost
import HandS.IsInst
import HandS.Gcd
import HandS.Wide
import HandS.Walk
import HandS.Flow
import HandS.NoneIn
import HandS.Defaults
import HandS.Exc
import HandS.ExcOwn
import HandS.WordsExc
import HandS.HeadHook1
import HandS.Style
import HandS.Flt
import KE.KStateDown
import HandS.Head0
import HandS.Head1
import HandS.Head2
import HandS.Head3
import HandS.HeadEnd
import HandS.HeadHook2
import HandS.EndBits
import HandS.SetFor
import KE.KIsAll
import KE.KExcIs
import HandS.ExcInit
import HandS.ExcField
import HandS.ExcIs
import HandS.Deep
import PySem.Challenge.RW_fewfounders_k01_inverse_and_powers
set_option Elab.async false
set_option linter.all false
set_option maxRecDepth 100000
set_option maxHeartbeats 4000000
/-! DL: plain data over the hand layer. -/
namespace DL
open PySem PySem.Spec PyProof.Rows L2

/-- what a slot holds: nothing known, a value, a list of one's own, a list of one's own of such lists -/
inductive SC where
  | un | va (d : PyData) | ow (ds : List PyData) | oo (dss : List (List PyData))
abbrev Rho := List SC

section
variable {K : PySem.W.Frag} {F H F' H' F1 H1 F2 H2 B : Hp}
theorem sameT {a : Addr} {xs : List V} (e : Same F H) (h : SqT K F a xs) : SqT K H a xs := by
  rcases h with (h | ⟨o, h⟩) | h
  · exact .inl (.inl (e _ _ h))
  · exact .inl (.inr ⟨o, e _ _ h⟩)
  · exact .inr h
mutual
theorem dpMono (e : Same F H) : ∀ (d : PyData) (v : V), Dp K F v d → Dp K H v d
  | .none, _, h => by cases h; exact .non
  | .bool b, _, h => by cases h; exact .bl b
  | .int i, _, h => by cases h; exact .int i
  | .str x, _, h => by cases h; exact .str x
  | .list ds, _, h => by
    cases h with
    | lst a b => exact .lst (e.seq a) (dpMonoAll e ds _ b)
  | .tuple ds, _, h => by
    cases h with
    | tup a b => exact .tup (sameT e a) (dpMonoAll e ds _ b)
  | .dict _, _, h => by cases h
theorem dpMonoAll (e : Same F H) : ∀ (ds : List PyData) (vs : List V), DpAll K F vs ds → DpAll K H vs ds
  | [], _, h => by cases h; exact .nil
  | d :: ds, _, h => by
    cases h with
    | cons a b => exact .cons (dpMono e d _ a) (dpMonoAll e ds _ b)
end
theorem dpLen : ∀ {vs : List V} {ds : List PyData}, DpAll K H vs ds → vs.length = ds.length
  | _, _, .nil => rfl
  | _, _, .cons _ b => congrArg (· + 1) (dpLen b)
theorem dpGet : ∀ {vs : List V} {ds : List PyData} {i : Nat} {d : PyData}, DpAll K H vs ds → ds[i]? = some d → ∃ v, vs[i]? = some v ∧ Dp K H v d
  | _, _, _, _, .nil, e => by simp at e
  | _, _, 0, _, .cons a _, e => by
    simp at e
    subst e
    exact ⟨_, rfl, a⟩
  | _, _, i + 1, _, .cons _ b, e => by
    obtain ⟨v, h1, h2⟩ := dpGet (i := i) b (by simpa using e)
    exact ⟨v, by simpa using h1, h2⟩
theorem dpGetV : ∀ {vs : List V} {ds : List PyData} {i : Nat} {v : V}, DpAll K H vs ds → vs[i]? = some v → ∃ d, ds[i]? = some d ∧ Dp K H v d
  | _, _, _, _, .nil, e => by simp at e
  | _, _, 0, _, .cons a _, e => by
    simp at e
    subst e
    exact ⟨_, rfl, a⟩
  | _, _, i + 1, _, .cons _ b, e => by
    obtain ⟨v, h1, h2⟩ := dpGetV (i := i) b (by simpa using e)
    exact ⟨v, by simpa using h1, h2⟩
theorem dpApp : ∀ {vs ws : List V} {ds es : List PyData}, DpAll K H vs ds → DpAll K H ws es → DpAll K H (vs ++ ws) (ds ++ es)
  | _, _, _, _, .nil, b => b
  | _, _, _, _, .cons a r, b => .cons a (dpApp r b)
theorem dpTake : ∀ (n : Nat) {vs : List V} {ds : List PyData}, DpAll K H vs ds → DpAll K H (vs.take n) (ds.take n)
  | 0, _, _, _ => .nil
  | _ + 1, _, _, .nil => .nil
  | n + 1, _, _, .cons a r => .cons a (dpTake n r)
theorem dpDrop : ∀ (n : Nat) {vs : List V} {ds : List PyData}, DpAll K H vs ds → DpAll K H (vs.drop n) (ds.drop n)
  | 0, _, _, h => h
  | _ + 1, _, _, .nil => .nil
  | n + 1, _, _, .cons _ r => dpDrop n r
theorem dpSet : ∀ (i : Nat) {vs : List V} {ds : List PyData} {v : V} {d : PyData}, DpAll K H vs ds → Dp K H v d → DpAll K H (vs.set i v) (ds.set i d)
  | _, _, _, _, _, .nil, _ => .nil
  | 0, _, _, _, _, .cons _ r, h => .cons h r
  | i + 1, _, _, _, _, .cons a r, h => .cons a (dpSet i r h)

/-- F: what is known for good; H: what is tracked. Behind a stretch that makes new things alone -/
structure Grow (F H F' H' : Hp) : Prop where
  ff : Same F F'
  fh : Same F' H'
  hh : Same H H'
  nn : ∀ a o, H a = some o → F a = none → F' a = none
theorem Grow.refl (s : Same F H) : Grow F H F H := ⟨.refl F, s, .refl H, fun _ _ _ h => h⟩
theorem Grow.trans (a : Grow F H F1 H1) (b : Grow F1 H1 F2 H2) : Grow F H F2 H2 :=
  ⟨a.ff.trans b.ff, b.fh, a.hh.trans b.hh, fun c o h n => b.nn c o (a.hh c o h) (a.nn c o h n)⟩
theorem sameUpd {p : Addr} {o : HO} (h : H p = none) : Same H (upd H p o) := fun b x e => by
  rw [upd_ne (ne_of_none e h)]
  exact e
theorem sameUpd2 {p : Addr} {o : HO} (s : Same F H) : Same (upd F p o) (upd H p o) := fun b x e => by
  by_cases hb : b = p
  · subst hb
    rw [upd_same] at e ⊢
    exact e
  · rw [upd_ne hb] at e ⊢
    exact s b x e
theorem Grow.new {p : Addr} {o : HO} (s : Same F H) (h : H p = none) : Grow F H (upd F p o) (upd H p o) :=
  ⟨sameUpd (s.free h), sameUpd2 s, sameUpd h, fun a x e n => by rw [upd_ne (ne_of_none e h)]; exact n⟩
theorem Grow.side {p : Addr} {o : HO} (s : Same F H) (h : H p = none) : Grow F H F (upd H p o) :=
  ⟨.refl F, s.trans (sameUpd h), sameUpd h, fun _ _ _ n => n⟩
/-- a thing that is tracked, made since, is known for good from here on -/
theorem Grow.keep {p : Addr} {o : HO} (g : Grow F H F1 H1) (h : H p = none) (h1 : H1 p = some o) (f1 : F1 p = none) : Grow F H (upd F1 p o) H1 :=
  ⟨g.ff.trans (sameUpd f1), fun b x e => by
    by_cases hb : b = p
    · subst hb
      rw [upd_same] at e
      rw [h1]
      exact e
    · rw [upd_ne hb] at e
      exact g.fh b x e, g.hh, fun a x e n => by rw [upd_ne (ne_of_none e h)]; exact g.nn a x e n⟩

/-- what owns an address: a slot's list (none), its k-th inner list -/
def AtP (H : Hp) (σ : L2.St) (ρ : Rho) (i : Nat) (k : Option Nat) (a : Addr) : Prop := match k with
  | none => (∃ ds, ρ[i]? = some (.ow ds) ∧ σ[i]? = some (some (.ref a))) ∨ ∃ dss, ρ[i]? = some (.oo dss) ∧ σ[i]? = some (some (.ref a))
  | some k => ∃ (dss : List (List PyData)) (b : Addr) (as : List Addr), ρ[i]? = some (.oo dss) ∧ σ[i]? = some (some (.ref b)) ∧ H b = some (.lst (as.map V.ref)) ∧ as[k]? = some a
/-- the slots -/
structure ER (K : PySem.W.Frag) (B F H : Hp) (σ : L2.St) (ρ : Rho) : Prop where
  fh : Same F H
  len : σ.length = ρ.length
  va : ∀ (i : Nat) (d : PyData), ρ[i]? = some (.va d) → ∃ v, σ[i]? = some (some v) ∧ Dp K F v d
  ow : ∀ (i : Nat) (ds : List PyData), ρ[i]? = some (.ow ds) → ∃ (a : Addr) (vs : List V), σ[i]? = some (some (.ref a)) ∧ F a = none ∧ B a = none ∧ H a = some (.lst vs) ∧ DpAll K F vs ds
  oo : ∀ (i : Nat) (dss : List (List PyData)), ρ[i]? = some (.oo dss) → ∃ (a : Addr) (as : List Addr), σ[i]? = some (some (.ref a)) ∧ F a = none ∧ B a = none ∧ H a = some (.lst (as.map V.ref)) ∧ as.length = dss.length ∧
    ∀ (k : Nat) (b : Addr) (ds : List PyData), as[k]? = some b → dss[k]? = some ds → F b = none ∧ B b = none ∧ ∃ vs, H b = some (.lst vs) ∧ DpAll K F vs ds
  dj : ∀ (i j : Nat) (k l : Option Nat) (a : Addr), AtP H σ ρ i k a → AtP H σ ρ j l a → i = j ∧ k = l
theorem refs_inj : ∀ {as bs : List Addr}, as.map V.ref = bs.map V.ref → as = bs
  | [], [], _ => rfl
  | [], _ :: _, e => by cases e
  | _ :: _, [], e => by cases e
  | a :: as, b :: bs, e => by
    rw [List.map_cons, List.map_cons] at e
    injection e with e1 e2
    injection e1 with e1
    rw [e1, refs_inj e2]
theorem ER.at_ {σ : L2.St} {ρ : Rho} {i : Nat} {k : Option Nat} {a : Addr} (E : ER K B F H σ ρ) (p : AtP H σ ρ i k a) : F a = none ∧ B a = none ∧ ∃ vs, H a = some (.lst vs) := by
  cases k with
  | none =>
    rcases p with ⟨ds, h1, h2⟩ | ⟨dss, h1, h2⟩
    · obtain ⟨b, vs, q1, q2, q3, q4, _⟩ := E.ow i ds h1
      rw [h2] at q1
      cases q1
      exact ⟨q2, q3, vs, q4⟩
    · obtain ⟨b, as, q1, q2, q3, q4, _⟩ := E.oo i dss h1
      rw [h2] at q1
      cases q1
      exact ⟨q2, q3, _, q4⟩
  | some k =>
    obtain ⟨dss, b, as, h1, h2, h3, h4⟩ := p
    obtain ⟨b', as', q1, q2, q3, q4, q5, q6⟩ := E.oo i dss h1
    rw [h2] at q1
    cases q1
    rw [h3] at q4
    injection q4 with q4
    injection q4 with q4
    have := refs_inj q4
    subst this
    have hk : k < dss.length := by
      rw [← q5]
      by_cases c : k < as.length
      · exact c
      · rw [List.getElem?_eq_none (by omega)] at h4
        cases h4
    obtain ⟨r1, r2, vs, r3, _⟩ := q6 k a dss[k] h4 (List.getElem?_eq_getElem hk)
    exact ⟨r1, r2, vs, r3⟩
/-- places at a later heap are places at the earlier one -/
theorem AtP.back {σ : L2.St} {ρ : Rho} {i : Nat} {k : Option Nat} {a : Addr} (E : ER K B F H σ ρ) (hh : ∀ a o, B a = none → H a = some o → H' a = some o) (p : AtP H' σ ρ i k a) : AtP H σ ρ i k a := by
  cases k with
  | none => exact p
  | some k =>
    obtain ⟨dss, b, as, h1, h2, h3, h4⟩ := p
    obtain ⟨b', as', q1, q2, q3, q4, q5, q6⟩ := E.oo i dss h1
    rw [h2] at q1
    cases q1
    have q7 := hh _ _ q3 q4
    rw [h3] at q7
    injection q7 with q7
    injection q7 with q7
    have := refs_inj q7
    subst this
    exact ⟨dss, b, as, h1, h2, q4, h4⟩
theorem ER.grow {σ : L2.St} {ρ : Rho} (E : ER K B F H σ ρ) (g : Grow F H F' H') : ER K B F' H' σ ρ where
  fh := g.fh
  len := E.len
  va := fun i d e => by
    obtain ⟨v, h1, h2⟩ := E.va i d e
    exact ⟨v, h1, dpMono g.ff _ _ h2⟩
  ow := fun i ds e => by
    obtain ⟨a, vs, h1, h2, h3, h4, h5⟩ := E.ow i ds e
    exact ⟨a, vs, h1, g.nn _ _ h4 h2, h3, g.hh _ _ h4, dpMonoAll g.ff _ _ h5⟩
  oo := fun i dss e => by
    obtain ⟨a, as, h1, h2, h3, h4, h5, h6⟩ := E.oo i dss e
    refine ⟨a, as, h1, g.nn _ _ h4 h2, h3, g.hh _ _ h4, h5, fun k b ds e1 e2 => ?_⟩
    obtain ⟨r1, r2, vs, r3, r4⟩ := h6 k b ds e1 e2
    exact ⟨g.nn _ _ r3 r1, r2, vs, g.hh _ _ r3, dpMonoAll g.ff _ _ r4⟩
  dj := fun i j k l a p q => E.dj i j k l a (p.back E fun a o _ h => g.hh a o h) (q.back E fun a o _ h => g.hh a o h)
theorem setIn {ρ : Rho} {i : Nat} {x y : SC} (h : (ρ.set i x)[i]? = some y) : y = x := by
  by_cases hl : i < ρ.length
  · rw [List.getElem?_set_self hl] at h
    exact (Option.some.inj h).symm
  · rw [List.getElem?_eq_none (by simpa using hl)] at h
    cases h
/-- a slot that gets no list of one's own -/
theorem AtP.off {σ : L2.St} {ρ : Rho} {i j : Nat} {k : Option Nat} {a : Addr} {v : Option V} {x : SC} (h1 : ∀ ds, x ≠ .ow ds) (h2 : ∀ dss, x ≠ .oo dss) (p : AtP H (σ.set i v) (ρ.set i x) j k a) : AtP H σ ρ j k a ∧ j ≠ i := by
  have ne : j ≠ i := fun z => by
    subst z
    cases k with
    | none =>
      rcases p with ⟨ds, e, _⟩ | ⟨dss, e, _⟩
      · exact h1 ds (setIn e).symm
      · exact h2 dss (setIn e).symm
    | some k =>
      obtain ⟨dss, _, _, e, _⟩ := p
      exact h2 dss (setIn e).symm
  refine ⟨?_, ne⟩
  cases k with
  | none =>
    rcases p with ⟨ds, e, e2⟩ | ⟨dss, e, e2⟩
    · rw [List.getElem?_set_ne (Ne.symm ne)] at e e2
      exact .inl ⟨ds, e, e2⟩
    · rw [List.getElem?_set_ne (Ne.symm ne)] at e e2
      exact .inr ⟨dss, e, e2⟩
  | some k =>
    obtain ⟨dss, b, as, e, e2, e3, e4⟩ := p
    rw [List.getElem?_set_ne (Ne.symm ne)] at e e2
    exact ⟨dss, b, as, e, e2, e3, e4⟩
/-- the other slots -/
theorem AtP.ne {σ : L2.St} {ρ : Rho} {i j : Nat} {k : Option Nat} {a : Addr} {v : Option V} {x : SC} (hj : j ≠ i) (p : AtP H (σ.set i v) (ρ.set i x) j k a) : AtP H σ ρ j k a := by
  cases k with
  | none =>
    rcases p with ⟨ds, e, e2⟩ | ⟨dss, e, e2⟩
    · rw [List.getElem?_set_ne (Ne.symm hj)] at e e2
      exact .inl ⟨ds, e, e2⟩
    · rw [List.getElem?_set_ne (Ne.symm hj)] at e e2
      exact .inr ⟨dss, e, e2⟩
  | some k =>
    obtain ⟨dss, b, as, e, e2, e3, e4⟩ := p
    rw [List.getElem?_set_ne (Ne.symm hj)] at e e2
    exact ⟨dss, b, as, e, e2, e3, e4⟩
theorem ER.setFlat {σ : L2.St} {ρ : Rho} {i : Nat} {v : Option V} {x : SC} (E : ER K B F H σ ρ) (h1 : ∀ ds, x ≠ .ow ds) (h2 : ∀ dss, x ≠ .oo dss) (r : ∀ d, x = .va d → ∃ w, v = some w ∧ Dp K F w d) : ER K B F H (σ.set i v) (ρ.set i x) where
  fh := E.fh
  len := by rw [List.length_set, List.length_set]; exact E.len
  va := fun j e h => by
    by_cases hj : i = j
    · subst hj
      have := setIn h
      obtain ⟨w, e1, e2⟩ := r e this.symm
      have hl : i < ρ.length := by
        by_cases hl : i < ρ.length
        · exact hl
        · rw [List.getElem?_eq_none (by simpa using hl)] at h
          cases h
      rw [List.getElem?_set_self (by rw [E.len]; exact hl)]
      exact ⟨w, by rw [e1], e2⟩
    · rw [List.getElem?_set_ne hj] at h ⊢
      exact E.va j e h
  ow := fun j e h => by
    by_cases hj : i = j
    · subst hj
      exact absurd (setIn h).symm (h1 e)
    · rw [List.getElem?_set_ne hj] at h ⊢
      exact E.ow j e h
  oo := fun j e h => by
    by_cases hj : i = j
    · subst hj
      exact absurd (setIn h).symm (h2 e)
    · rw [List.getElem?_set_ne hj] at h ⊢
      exact E.oo j e h
  dj := fun i' j k l a p q => E.dj i' j k l a (p.off h1 h2).1 (q.off h1 h2).1
theorem ER.setVa {σ : L2.St} {ρ : Rho} {i : Nat} {v : V} {d : PyData} (E : ER K B F H σ ρ) (r : Dp K F v d) : ER K B F H (σ.set i (some v)) (ρ.set i (.va d)) :=
  E.setFlat (fun _ => nofun) (fun _ => nofun) fun d' e => ⟨v, rfl, by cases e; exact r⟩
/-- a slot gets a list of its own -/
theorem ER.setOw {σ : L2.St} {ρ : Rho} {i : Nat} {a : Addr} {vs : List V} {ds : List PyData} (E : ER K B F H σ ρ) (f : F a = none) (b : B a = none) (h : H a = some (.lst vs)) (r : DpAll K F vs ds)
    (no : ∀ (j : Nat) (k : Option Nat), j ≠ i → ¬ AtP H σ ρ j k a) : ER K B F H (σ.set i (some (.ref a))) (ρ.set i (.ow ds)) where
  fh := E.fh
  len := by rw [List.length_set, List.length_set]; exact E.len
  va := fun j e h => by
    by_cases hj : i = j
    · subst hj
      cases setIn h
    · rw [List.getElem?_set_ne hj] at h ⊢
      exact E.va j e h
  ow := fun j e q => by
    by_cases hj : i = j
    · subst hj
      have := setIn q
      cases this
      have hl : i < ρ.length := by
        by_cases hl : i < ρ.length
        · exact hl
        · rw [List.getElem?_eq_none (by simpa using hl)] at q
          cases q
      rw [List.getElem?_set_self (by rw [E.len]; exact hl)]
      exact ⟨a, vs, rfl, f, b, h, r⟩
    · rw [List.getElem?_set_ne hj] at q ⊢
      exact E.ow j e q
  oo := fun j e h => by
    by_cases hj : i = j
    · subst hj
      cases setIn h
    · rw [List.getElem?_set_ne hj] at h ⊢
      exact E.oo j e h
  dj := fun i' j k l c p q => by
    have at_i : ∀ {k c}, AtP H (σ.set i (some (.ref a))) (ρ.set i (.ow ds)) i k c → k = none ∧ c = a := by
      intro k c p
      have lt : ∀ {y}, (σ.set i (some (V.ref a)))[i]? = some (some y) → y = V.ref a := by
        intro y h
        by_cases hl : i < σ.length
        · rw [List.getElem?_set_self hl] at h
          exact (Option.some.inj (Option.some.inj h)).symm
        · rw [List.getElem?_eq_none (by simpa using hl)] at h
          cases h
      cases k with
      | none =>
        rcases p with ⟨_, _, e⟩ | ⟨_, e, _⟩
        · have := lt e
          injection this with this
          exact ⟨rfl, this⟩
        · cases setIn e
      | some k =>
        obtain ⟨_, _, _, e, _⟩ := p
        cases setIn e
    by_cases hi : i' = i
    · by_cases hj : j = i
      · subst hi hj
        exact ⟨rfl, (at_i p).1.trans (at_i q).1.symm⟩
      · subst hi
        obtain ⟨_, rfl⟩ := at_i p
        exact absurd (q.ne hj) (no j l hj)
    · by_cases hj : j = i
      · subst hj
        obtain ⟨_, rfl⟩ := at_i q
        exact absurd (p.ne hi) (no i' k hi)
      · exact E.dj i' j k l c (p.ne hi) (q.ne hj)
/-- F and what H holds at some addresses -/
def ext (F H : Hp) (S : List Addr) : Hp := fun x => if x ∈ S then H x else F x
theorem ext_same {S : List Addr} (h : ∀ x ∈ S, F x = none) : Same F (ext F H S) := fun x o e => by
  unfold ext
  rw [if_neg (fun z => by rw [h x z] at e; cases e)]
  exact e
theorem ext_sub {S : List Addr} (h : Same F H) : Same (ext F H S) H := fun x o e => by
  unfold ext at e
  split at e
  · exact e
  · exact h x o e
theorem ext_none {S : List Addr} {x : Addr} (h : x ∉ S) (n : F x = none) : ext F H S x = none := by
  unfold ext
  rw [if_neg h]
  exact n
theorem ext_in {S : List Addr} {x : Addr} (h : x ∈ S) : ext F H S x = H x := if_pos h
theorem dpRefs : ∀ {as : List Addr} {dss : List (List PyData)}, as.length = dss.length → (∀ (k : Nat) (b : Addr) (ds : List PyData), as[k]? = some b → dss[k]? = some ds → ∃ vs, F b = some (.lst vs) ∧ DpAll K F vs ds) → DpAll K F (as.map V.ref) (dss.map PyData.list)
  | [], [], _, _ => .nil
  | [], _ :: _, e, _ => by cases e
  | _ :: _, [], e, _ => by cases e
  | a :: as, ds :: dss, e, h => by
    obtain ⟨vs, h1, h2⟩ := h 0 a ds rfl rfl
    exact .cons (.lst (.inl (.inl h1)) h2) (dpRefs (by simpa using e) fun k b ds' e1 e2 => h (k + 1) b ds' (by simpa using e1) (by simpa using e2))
/-- own lists made known for good: those of the slots in S -/
def frz1 (ρ : Rho) (i : Nat) : Rho := match ρ[i]? with
  | some (SC.ow ds) => ρ.set i (SC.va (PyData.list ds))
  | some (SC.oo dss) => ρ.set i (SC.va (PyData.list (dss.map PyData.list)))
  | _ => ρ
def frz (S : List Nat) (ρ : Rho) : Rho := S.foldl frz1 ρ
theorem setSelf' {α : Type} : ∀ {l : List α} {i : Nat} {x : α}, l[i]? = some x → l.set i x = l
  | [], _, _, e => by simp at e
  | y :: l, 0, x, e => by simp at e; rw [e]; rfl
  | y :: l, i + 1, x, e => by
    show y :: l.set i x = y :: l
    rw [setSelf' (l := l) (i := i) (by simpa using e)]
/-- what is owned by one slot is known for good from here on -/
theorem ER.give {σ : L2.St} {ρ : Rho} {i : Nat} {v : V} {d : PyData} {S : List Addr} (E : ER K B F H σ ρ) (hv : σ[i]? = some (some v)) (hS : ∀ x ∈ S, ∃ k, AtP H σ ρ i k x) (hd : Dp K (ext F H S) v d) :
    Same F (ext F H S) ∧ ER K B (ext F H S) H σ (ρ.set i (.va d)) ∧ ∀ a o, B a = some o → F a = none → ext F H S a = none := by
  have sn : ∀ x ∈ S, F x = none ∧ B x = none := fun x hx => by
    obtain ⟨k, p⟩ := hS x hx
    obtain ⟨h1, h2, _⟩ := E.at_ p
    exact ⟨h1, h2⟩
  have sf : Same F (ext F H S) := ext_same fun x hx => (sn x hx).1
  have out : ∀ {j k c}, j ≠ i → AtP H σ ρ j k c → c ∉ S := fun hj p hc => by
    obtain ⟨k', p'⟩ := hS _ hc
    exact hj (E.dj _ _ _ _ _ p p').1
  have hb : ∀ (j : Nat) (dss : List (List PyData)) (a : Addr) (as : List Addr), j ≠ i → ρ[j]? = some (.oo dss) → σ[j]? = some (some (.ref a)) → H a = some (.lst (as.map V.ref)) → ∀ k b, as[k]? = some b → b ∉ S := fun j dss a as hj h1 h2 h3 k b h4 => out hj (k := some k) ⟨dss, a, as, h1, h2, h3, h4⟩
  refine ⟨sf, ⟨ext_sub E.fh, by rw [List.length_set]; exact E.len, fun j e h => ?_, fun j e h => ?_, fun j e h => ?_, fun i' j k l c p q => ?_⟩, fun a o h n => ext_none (fun z => by rw [(sn a z).2] at h; cases h) n⟩
  · by_cases hj : i = j
    · subst hj
      cases setIn h
      exact ⟨v, hv, hd⟩
    · rw [List.getElem?_set_ne hj] at h
      obtain ⟨w, q1, q2⟩ := E.va j e h
      exact ⟨w, q1, dpMono sf _ _ q2⟩
  · by_cases hj : i = j
    · subst hj
      cases setIn h
    · rw [List.getElem?_set_ne hj] at h
      obtain ⟨a, vs, q1, q2, q3, q4, q5⟩ := E.ow j e h
      exact ⟨a, vs, q1, ext_none (out (Ne.symm hj) (k := none) (.inl ⟨e, h, q1⟩)) q2, q3, q4, dpMonoAll sf _ _ q5⟩
  · by_cases hj : i = j
    · subst hj
      cases setIn h
    · rw [List.getElem?_set_ne hj] at h
      obtain ⟨a, as, q1, q2, q3, q4, q5, q6⟩ := E.oo j e h
      refine ⟨a, as, q1, ext_none (out (Ne.symm hj) (k := none) (.inr ⟨e, h, q1⟩)) q2, q3, q4, q5, fun k b ds e1 e2 => ?_⟩
      obtain ⟨r1, r2, vs, r3, r4⟩ := q6 k b ds e1 e2
      exact ⟨ext_none (hb j e a as (Ne.symm hj) h q1 q4 k b e1) r1, r2, vs, r3, dpMonoAll sf _ _ r4⟩
  · have e1 : σ.set i (some v) = σ := setSelf' hv
    rw [← e1] at p q
    exact E.dj i' j k l c (AtP.off (x := .va d) (fun _ => nofun) (fun _ => nofun) p).1 (AtP.off (x := .va d) (fun _ => nofun) (fun _ => nofun) q).1
theorem ER.frz1 {σ : L2.St} {ρ : Rho} (i : Nat) (E : ER K B F H σ ρ) : ∃ F', Same F F' ∧ ER K B F' H σ (DL.frz1 ρ i) ∧ ∀ a o, B a = some o → F a = none → F' a = none := by
  unfold DL.frz1
  split
  · rename_i ds e
    obtain ⟨a, vs, h1, h2, h3, h4, h5⟩ := E.ow i ds e
    have hS : ∀ x ∈ [a], ∃ k, AtP H σ ρ i k x := fun x hx => ⟨none, by rw [List.mem_singleton.mp hx]; exact .inl ⟨ds, e, h1⟩⟩
    have sf : Same F (ext F H [a]) := ext_same fun x hx => by rw [List.mem_singleton.mp hx]; exact h2
    obtain ⟨s1, s2, s3⟩ := E.give (d := .list ds) h1 hS (.lst (.inl (.inl (by rw [ext_in (by simp)]; exact h4))) (dpMonoAll sf _ _ h5))
    exact ⟨_, s1, s2, s3⟩
  · rename_i dss e
    obtain ⟨a, as, h1, h2, h3, h4, h5, h6⟩ := E.oo i dss e
    have inner : ∀ x ∈ as, ∃ k : Nat, as[k]? = some x := fun x hx => by
      obtain ⟨k, hk, rfl⟩ := List.getElem_of_mem hx
      exact ⟨k, List.getElem?_eq_getElem hk⟩
    have hS : ∀ x ∈ a :: as, ∃ k, AtP H σ ρ i k x := fun x hx => by
      rcases List.mem_cons.mp hx with rfl | hx
      · exact ⟨none, .inr ⟨dss, e, h1⟩⟩
      · obtain ⟨k, hk⟩ := inner x hx
        exact ⟨some k, dss, a, as, e, h1, h4, hk⟩
    have sf : Same F (ext F H (a :: as)) := ext_same fun x hx => by
      obtain ⟨k, p⟩ := hS x hx
      exact (E.at_ p).1
    obtain ⟨s1, s2, s3⟩ := E.give (d := .list (dss.map PyData.list)) h1 hS (.lst (.inl (.inl (by rw [ext_in (by simp)]; exact h4))) (dpRefs h5 fun k b ds e1 e2 => by
      obtain ⟨r1, r2, vs, r3, r4⟩ := h6 k b ds e1 e2
      exact ⟨vs, by rw [ext_in (List.mem_cons_of_mem _ (List.mem_of_getElem? e1))]; exact r3, dpMonoAll sf _ _ r4⟩))
    exact ⟨_, s1, s2, s3⟩
  · exact ⟨F, .refl F, E, fun _ _ _ n => n⟩
theorem ER.frz {σ : L2.St} : ∀ (S : List Nat) {F : Hp} {ρ : Rho}, ER K B F H σ ρ → ∃ F', Same F F' ∧ ER K B F' H σ (DL.frz S ρ) ∧ ∀ a o, B a = some o → F a = none → F' a = none
  | [], F, ρ, E => ⟨F, .refl F, E, fun _ _ _ n => n⟩
  | i :: S, F, ρ, E => by
    unfold DL.frz
    rw [List.foldl_cons]
    obtain ⟨F1, s1, E1, n1⟩ := E.frz1 i
    obtain ⟨F2, s2, E2, n2⟩ := ER.frz S E1
    exact ⟨F2, s1.trans s2, E2, fun a o h n => n2 a o h (n1 a o h n)⟩
theorem ER.start {vs : List V} {ds : List PyData} {n : Nat} (s : Same F H) (h : DpAll K F vs ds) : ER K B F H (vs.map some ++ List.replicate n none) (ds.map SC.va ++ List.replicate n SC.un) where
  fh := s
  len := by simp [dpLen h]
  va := fun i d e => by
    by_cases hi : i < ds.length
    · rw [List.getElem?_append_left (by simpa using hi), List.getElem?_map] at e
      cases q : ds[i]? with
      | none => rw [q] at e; cases e
      | some d' =>
        rw [q] at e
        cases e
        obtain ⟨v, h1, h2⟩ := dpGet h q
        refine ⟨v, ?_, h2⟩
        rw [List.getElem?_append_left (by rw [List.length_map, dpLen h]; exact hi), List.getElem?_map, h1]
        rfl
    · rw [List.getElem?_append_right (by simpa using hi), List.getElem?_replicate] at e
      split at e <;> cases e
  ow := fun i d e => by
    by_cases hi : i < ds.length
    · rw [List.getElem?_append_left (by simpa using hi), List.getElem?_map] at e
      cases q : ds[i]? with
      | none => rw [q] at e; cases e
      | some d' => rw [q] at e; cases e
    · rw [List.getElem?_append_right (by simpa using hi), List.getElem?_replicate] at e
      split at e <;> cases e
  oo := fun i d e => by
    by_cases hi : i < ds.length
    · rw [List.getElem?_append_left (by simpa using hi), List.getElem?_map] at e
      cases q : ds[i]? with
      | none => rw [q] at e; cases e
      | some d' => rw [q] at e; cases e
    · rw [List.getElem?_append_right (by simpa using hi), List.getElem?_replicate] at e
      split at e <;> cases e
  dj := fun i j k l a p => by
    have no : ∀ x, (ds.map SC.va ++ List.replicate n SC.un)[i]? = some x → (∀ ds, x ≠ .ow ds) ∧ ∀ dss, x ≠ .oo dss := fun x e => by
      by_cases hi : i < ds.length
      · rw [List.getElem?_append_left (by simpa using hi), List.getElem?_map] at e
        cases q : ds[i]? with
        | none => rw [q] at e; cases e
        | some d' => rw [q] at e; cases e; exact ⟨fun _ => nofun, fun _ => nofun⟩
      · rw [List.getElem?_append_right (by simpa using hi), List.getElem?_replicate] at e
        split at e <;> cases e
        exact ⟨fun _ => nofun, fun _ => nofun⟩
    cases k with
    | none =>
      rcases p with ⟨d, e, _⟩ | ⟨d, e, _⟩
      · exact absurd rfl ((no _ e).1 d)
      · exact absurd rfl ((no _ e).2 d)
    | some k =>
      obtain ⟨d, _, _, e, _⟩ := p
      exact absurd rfl ((no _ e).2 d)
end
end DL

set_option Elab.async false
set_option linter.all false
set_option maxRecDepth 100000
set_option maxHeartbeats 4000000
namespace DL
open PySem PySem.Spec PyProof.Rows L2
/-! ### judgements -/
abbrev EV := Rho → Option PyData
abbrev EA := Rho → Option (List PyData)
abbrev EB := Rho → Option Bool
def tD (K : PySem.W.Frag) (f : EV) : TE := fun σ H Q => ∃ B F ρ d, ER K B F H σ ρ ∧ f ρ = some d ∧ ∀ v F' H', Grow F H F' H' → Dp K F' v d → Q v H'
def tF (K : PySem.W.Frag) (f : EA) : TE := fun σ H Q => ∃ B F ρ ds, ER K B F H σ ρ ∧ f ρ = some ds ∧
  ∀ (a : Addr) (vs : List V) F' H', Grow F H F' H' → H a = none → F' a = none → H' a = some (.lst vs) → DpAll K F' vs ds → Q (.ref a) H'
def tT (K : PySem.W.Frag) (f : EB) : TT := fun σ H Q => ∃ B F ρ b, ER K B F H σ ρ ∧ f ρ = some b ∧ ∀ F' H', Grow F H F' H' → Q b H'
def tA (K : PySem.W.Frag) (f : EA) : TA := fun σ H Q => ∃ B F ρ ds, ER K B F H σ ρ ∧ f ρ = some ds ∧ ∀ vs F' H', Grow F H F' H' → DpAll K F' vs ds → Q vs H'
def DV (X : Cx) (e : Expr) (f : EV) : Prop := PE X e (tD X.K f)
/-- a new list -/
def DF (X : Cx) (e : Expr) (f : EA) : Prop := PE X e (tF X.K f)
def DT (X : Cx) (e : Expr) (f : EB) : Prop := PT X e (tT X.K f)
def DW (X : Cx) (e : Expr) (f : EB) : Prop := PW X e (tT X.K f)
structure DA (X : Cx) (es : List Expr) (f : EA) : Prop where
  pa : PA X es (tA X.K f)
  len : ∀ ρ ds, f ρ = some ds → ds.length = es.length
theorem peMono {X : Cx} {e : Expr} {t t' : TE} (h : PE X e t) (k : ∀ σ H Q, t' σ H Q → t σ H Q) : PE X e t' := ⟨fun pins s σ H Q I q => h.run pins s σ H Q I (k _ _ _ q)⟩
theorem ptMono {X : Cx} {e : Expr} {t t' : TT} (h : PT X e t) (k : ∀ σ H Q, t' σ H Q → t σ H Q) : PT X e t' := ⟨fun pins s σ H Q I q => h.run pins s σ H Q I (k _ _ _ q)⟩
theorem pwMono {X : Cx} {e : Expr} {t t' : TT} (h : PW X e t) (k : ∀ σ H Q, t' σ H Q → t σ H Q) : PW X e t' := ⟨fun w pins s σ H Q I q => h.run w pins s σ H Q I (k _ _ _ q)⟩
theorem paMono {X : Cx} {e : List Expr} {t t' : TA} (h : PA X e t) (k : ∀ σ H Q, t' σ H Q → t σ H Q) : PA X e t' := ⟨fun p pins s σ H Q I q => h.run p pins s σ H Q I (k _ _ _ q)⟩
theorem opMono {X : Cx} {f : Value → Value → Sem Value} {r r' : R2} (h : OpR X f r) (k : ∀ x y H Q, r' x y H Q → r x y H Q) : OpR X f r' := fun pins s σ H x y v u Q I rx ry q => h pins s σ H x y v u Q I rx ry (k _ _ _ _ q)
theorem ixMono {X : Cx} {r r' : R2} (h : IxR X r) (k : ∀ x y H Q, r' x y H Q → r x y H Q) : IxR X r' := fun a b pins s σ H x y v u Q I rx ry q hs => h a b pins s σ H x y v u Q I rx ry (k _ _ _ _ q) hs
theorem unMono {X : Cx} {f : Value → Sem Value} {r r' : V → Hp → VK → Prop} (h : UnR X f r) (k : ∀ x H Q, r' x H Q → r x H Q) : UnR X f r' := fun pins s σ H x v Q I rx q => h pins s σ H x v Q I rx (k _ _ _ q)
theorem clMono {X : Cx} {f : Value} {r r' : List V → Hp → VK → Prop} (h : CallR X f r) (k : ∀ xs H Q, r' xs H Q → r xs H Q) : CallR X f r' := fun pins s σ H x v Q I rx q => h pins s σ H x v Q I rx (k _ _ _ q)
/-- operators over data -/
def rG (K : PySem.W.Frag) (g : PyData → PyData → Option PyData) : R2 := fun x y H Q => ∃ F dx dy d, Same F H ∧ Dp K F x dx ∧ Dp K F y dy ∧ g dx dy = some d ∧ ∀ v F' H', Grow F H F' H' → Dp K F' v d → Q v H'
def rG1 (K : PySem.W.Frag) (g : PyData → Option PyData) : V → Hp → VK → Prop := fun x H Q => ∃ F dx d, Same F H ∧ Dp K F x dx ∧ g dx = some d ∧ ∀ v F' H', Grow F H F' H' → Dp K F' v d → Q v H'
def rGA (K : PySem.W.Frag) (g : List PyData → Option PyData) : List V → Hp → VK → Prop := fun xs H Q => ∃ F ds d, Same F H ∧ DpAll K F xs ds ∧ g ds = some d ∧ ∀ v F' H', Grow F H F' H' → Dp K F' v d → Q v H'
/-- calls that hand back a new list -/
def rGF (K : PySem.W.Frag) (g : List PyData → Option (List PyData)) : List V → Hp → VK → Prop := fun xs H Q => ∃ F ds d, Same F H ∧ DpAll K F xs ds ∧ g ds = some d ∧
  ∀ (a : Addr) (vs : List V) F' H', Grow F H F' H' → H a = none → F' a = none → H' a = some (.lst vs) → DpAll K F' vs d → Q (.ref a) H'

/-! ### meanings -/
def eVar (i : Nat) : EV := fun ρ => match ρ[i]? with
  | some (SC.va d) => some d
  | _ => none
def eC (d : PyData) : EV := fun _ => some d
def eBin (g : PyData → PyData → Option PyData) (f1 f2 : EV) : EV := fun ρ => (f1 ρ).bind fun x => (f2 ρ).bind fun y => g x y
def eUn (g : PyData → Option PyData) (f : EV) : EV := fun ρ => (f ρ).bind g
def eOfF (f : EA) : EV := fun ρ => (f ρ).map PyData.list
def aNil : EA := fun _ => some []
def aCons (f : EV) (g : EA) : EA := fun ρ => (f ρ).bind fun x => (g ρ).bind fun xs => some (x :: xs)
def eAll (g : List PyData → Option PyData) (f : EA) : EV := fun ρ => (f ρ).bind g
def fAll (g : List PyData → Option (List PyData)) (f : EA) : EA := fun ρ => (f ρ).bind g
def eTup (f : EA) : EV := fun ρ => (f ρ).map PyData.tuple
def blOf : PyData → Option Bool
  | .bool b => some b
  | _ => none
def eAnd (f g : EV) : EV := fun ρ => (f ρ).bind fun x => (blOf x).bind fun b => if b then g ρ else some (.bool false)
def eOr (f g : EV) : EV := fun ρ => (f ρ).bind fun x => (blOf x).bind fun b => if b then some (.bool true) else g ρ
def gNot : PyData → Option PyData
  | .bool b => some (.bool !b)
  | _ => none
def bVal (f : EV) : EB := fun ρ => (f ρ).bind blOf
def bAnd (f g : EB) : EB := fun ρ => (f ρ).bind fun b => if b then g ρ else some false
def bOr (f g : EB) : EB := fun ρ => (f ρ).bind fun b => if b then some true else g ρ
def bNot (f : EB) : EB := fun ρ => (f ρ).bind fun b => some !b
def eIf (c : EB) (f g : EV) : EV := fun ρ => (c ρ).bind fun b => if b then f ρ else g ρ
/-- a scalar -/
def flat : PyData → Bool
  | .none => true | .bool _ => true | .int _ => true | .str _ => true
  | _ => false
/-- own lists lent while e is worked out: its value is a scalar -/
def eLend (S : List Nat) (f : EV) : EV := fun ρ => (f (frz S ρ)).bind fun d => if flat d then some d else none
/-- the item of an own list -/
def gIx : PyData → PyData → Option PyData
  | .list xs, .int i => atI xs i
  | .tuple xs, .int i => atI xs i
  | _, _ => none
def eIxO (i : Nat) (f : EV) : EV := fun ρ => match ρ[i]? with
  | some (SC.ow ds) => (f ρ).bind fun x => gIx (.list ds) x
  | _ => none

section
variable {X : Cx} {a b c e : Expr} {es : List Expr} {f g f1 f2 : EV} {h : EA} {cb cb' : EB} {pos : Pos}
theorem dv_var {i : Nat} {x : Str} {pos : Pos} (h : PE X (.Name x pos) (tVar i)) : DV X (.Name x pos) (eVar i) := peMono h fun σ H Q ⟨B, F, ρ, d, E, e, q⟩ => by
  unfold eVar at e
  split at e
  · rename_i d' h'
    cases e
    obtain ⟨v, h1, h2⟩ := E.va i d h'
    exact ⟨v, h1, q v F H (.refl E.fh) h2⟩
  · cases e
theorem dv_int {i : Int} {j} : DV X (.Constant (.int i) j pos) (eC (.int i)) := peMono pe_int fun σ H Q ⟨B, F, ρ, d, E, e, q⟩ => by
  cases e
  exact q _ F H (.refl E.fh) (.int i)
theorem dv_bl {i : Bool} {j} : DV X (.Constant (.bool i) j pos) (eC (.bool i)) := peMono pe_bl fun σ H Q ⟨B, F, ρ, d, E, e, q⟩ => by
  cases e
  exact q _ F H (.refl E.fh) (.bl i)
theorem dv_non {j} : DV X (.Constant .none j pos) (eC .none) := peMono pe_non fun σ H Q ⟨B, F, ρ, d, E, e, q⟩ => by
  cases e
  exact q _ F H (.refl E.fh) .non
theorem dv_str {x : Str} {j} : DV X (.Constant (.str x) j pos) (eC (.str x)) := peMono pe_str fun σ H Q ⟨B, F, ρ, d, E, e, q⟩ => by
  cases e
  exact q _ F H (.refl E.fh) (.str x)
theorem bind_some {α β : Type} {o : Option α} {f : α → Option β} {y : β} (e : o.bind f = some y) : ∃ x, o = some x ∧ f x = some y := by
  cases o with
  | none => cases e
  | some x => exact ⟨x, rfl, e⟩
theorem tBin {g : PyData → PyData → Option PyData} {σ : L2.St} {H : Hp} {Q : VK} {K : PySem.W.Frag} (h : tD K (eBin g f1 f2) σ H Q) : tOp (rG K g) (tD K f1) (tD K f2) σ H Q := by
  obtain ⟨B, F, ρ, d, E, e, q⟩ := h
  obtain ⟨dx, e1, e⟩ := bind_some e
  obtain ⟨dy, e2, e⟩ := bind_some e
  exact ⟨B, F, ρ, dx, E, e1, fun x F1 H1 G1 r1 => ⟨B, F1, ρ, dy, E.grow G1, e2, fun y F2 H2 G2 r2 => ⟨F2, dx, dy, d, G2.fh, dpMono G2.ff _ _ r1, r2, e, fun v F' H' G3 r3 => q v F' H' (G1.trans (G2.trans G3)) r3⟩⟩⟩
theorem dv_bin {op : Operator} {g : PyData → PyData → Option PyData} (ho : OpR X (binaryOp op) (rG X.K g)) (ha : DV X a f1) (hb : DV X b f2) : DV X (.BinOp a op b pos) (eBin g f1 f2) :=
  peMono (pe_op ho ha hb) fun _ _ _ q => tBin q
theorem dv_cmp {op : CmpOp} {g : PyData → PyData → Option PyData} (ho : OpR X (compareOp op) (rG X.K g)) (ha : DV X a f1) (hb : DV X b f2) (hm : behindInMarks op b = false := by first | exact nomark _ | rfl) : DV X (.Compare a [op] [b] pos) (eBin g f1 f2) :=
  peMono (pe_cmpR ho ha hb hm) fun _ _ _ q => tBin q
theorem dt_cmp {op : CmpOp} {g : PyData → PyData → Option PyData} (ho : OpR X (compareOp op) (rG X.K g)) (ha : DV X a f1) (hb : DV X b f2) (hm : behindInMarks op b = false := by first | exact nomark _ | rfl) : DT X (.Compare a [op] [b] pos) (bVal (eBin g f1 f2)) :=
  ptMono (pt_cmpR ho ha hb hm) fun σ H Q ⟨B, F, ρ, b, E, e, q⟩ => by
    obtain ⟨d, e1, e2⟩ := bind_some e
    refine tBin ⟨B, F, ρ, d, E, e1, fun v F' H' G r => ?_⟩
    cases d with
    | bool k =>
      cases e2
      cases r
      exact ⟨_, rfl, q F' H' G⟩
    | _ => cases e2
theorem dv_un {op : UnaryOp} {g : PyData → Option PyData} (ho : UnR X (unaryOp op) (rG1 X.K g)) (ha : DV X a f) : DV X (.UnaryOp op a pos) (eUn g f) :=
  peMono (pe_un ho ha) fun σ H Q ⟨B, F, ρ, d, E, e, q⟩ => by
    obtain ⟨dx, e1, e⟩ := bind_some e
    exact ⟨B, F, ρ, dx, E, e1, fun x F1 H1 G1 r1 => ⟨F1, dx, d, G1.fh, r1, e, fun v F' H' G3 r3 => q v F' H' (G1.trans G3) r3⟩⟩
theorem dv_ix {g : PyData → PyData → Option PyData} (ho : IxR X (rG X.K g)) (ha : DV X a f1) (hb : DV X b f2) (hs : PlainIx b := by exact fun _ _ => rfl) : DV X (.Subscript a b pos) (eBin g f1 f2) :=
  peMono (pe_ix ho ha hb hs) fun _ _ _ q => tBin q
theorem dv_ofF (hf : DF X e h) : DV X e (eOfF h) := peMono hf fun σ H Q ⟨B, F, ρ, d, E, e, q⟩ => by
  obtain ⟨ds, e1, e2⟩ := Option.map_eq_some_iff.mp e
  subst e2
  refine ⟨B, F, ρ, ds, E, e1, fun a vs F' H' G h1 h2 h3 h4 => q _ (upd F' a (.lst vs)) H' (G.keep h1 h3 h2) (.lst (.inl (.inl upd_same)) (dpMonoAll (sameUpd h2) _ _ h4))⟩
theorem da_nil : DA X [] aNil := ⟨paMono pa_nil fun σ H Q ⟨B, F, ρ, ds, E, e, q⟩ => by
  cases e
  exact q _ F H (.refl E.fh) .nil, fun ρ ds e => by cases e; rfl⟩
theorem da_cons (ha : DV X e f) (hr : DA X es h) (hs : starEach (e :: es) X.env = (false, eval e X.env) :: starEach es X.env := by rfl) : DA X (e :: es) (aCons f h) := ⟨paMono (pa_cons ha hr.pa hs) fun σ H Q ⟨B, F, ρ, ds, E, e, q⟩ => by
  obtain ⟨dx, e1, e⟩ := bind_some e
  obtain ⟨dr, e2, e⟩ := bind_some e
  cases e
  exact ⟨B, F, ρ, dx, E, e1, fun x F1 H1 G1 r1 => ⟨B, F1, ρ, dr, E.grow G1, e2, fun xs F2 H2 G2 r2 => q _ F2 H2 (G1.trans G2) (.cons (dpMono G2.ff _ _ r1) r2)⟩⟩, fun ρ ds e => by
  obtain ⟨dx, e1, e⟩ := bind_some e
  obtain ⟨dr, e2, e⟩ := bind_some e
  cases e
  exact congrArg (· + 1) (hr.len ρ dr e2)⟩
theorem dv_tup {x1} (ha : DA X es h) (hz : es.length ≤ sizeLine := by decide) : DV X (.Tuple es x1 pos) (eTup h) := peMono (pe_tup ha.pa) fun σ H Q ⟨B, F, ρ, d, E, e, q⟩ => by
  obtain ⟨ds, e1, e2⟩ := Option.map_eq_some_iff.mp e
  subst e2
  refine ⟨B, F, ρ, ds, E, e1, fun vs F' H' G r => ⟨by rw [dpLen r, ha.len ρ ds e1]; exact hz, fun p np => ?_⟩⟩
  have s1 : Same F' (upd F' p (.tup vs)) := sameUpd (G.fh.free np)
  exact q _ _ _ (G.trans (.new G.fh np)) (.tup (.inl (.inl upd_same)) (dpMonoAll s1 _ _ r))
theorem df_lst (ha : DA X es h) (hz : es.length ≤ sizeLine := by decide) : DF X (.List es pos) h := peMono (pe_lst ha.pa) fun σ H Q ⟨B, F, ρ, ds, E, e1, q⟩ => by
  refine ⟨B, F, ρ, ds, E, e1, fun vs F' H' G r => ⟨by rw [dpLen r, ha.len ρ ds e1]; exact hz, fun p np => ?_⟩⟩
  have hn : H p = none := G.hh.free np
  exact q p vs F' _ (G.trans (.side G.fh np)) hn (G.fh.free np) upd_same r
theorem dv_and {rest : List Expr} (ha : DV X a f) (hb : DV X (.BoolOp .And (b :: rest) pos) g) : DV X (.BoolOp .And (a :: b :: rest) pos) (eAnd f g) := peMono (pe_and ha hb) fun σ H Q ⟨B, F, ρ, d, E, e, q⟩ => by
  obtain ⟨dx, e1, e⟩ := bind_some e
  refine ⟨B, F, ρ, dx, E, e1, fun x F1 H1 G1 r1 => ?_⟩
  cases dx with
  | bool k =>
    cases r1
    refine ⟨k, rfl, ?_⟩
    cases k with
    | true => exact ⟨B, F1, ρ, d, E.grow G1, e, fun v F2 H2 G2 r2 => q v F2 H2 (G1.trans G2) r2⟩
    | false =>
      cases e
      exact q _ F1 H1 G1 (.bl false)
  | _ => cases e
theorem dv_or {rest : List Expr} (ha : DV X a f) (hb : DV X (.BoolOp .Or (b :: rest) pos) g) : DV X (.BoolOp .Or (a :: b :: rest) pos) (eOr f g) := peMono (pe_or ha hb) fun σ H Q ⟨B, F, ρ, d, E, e, q⟩ => by
  obtain ⟨dx, e1, e⟩ := bind_some e
  refine ⟨B, F, ρ, dx, E, e1, fun x F1 H1 G1 r1 => ?_⟩
  cases dx with
  | bool k =>
    cases r1
    refine ⟨k, rfl, ?_⟩
    cases k with
    | false => exact ⟨B, F1, ρ, d, E.grow G1, e, fun v F2 H2 G2 r2 => q v F2 H2 (G1.trans G2) r2⟩
    | true =>
      cases e
      exact q _ F1 H1 G1 (.bl true)
  | _ => cases e
theorem dv_one {op} (ha : DV X a f) : DV X (.BoolOp op [a] pos) f := pe_one ha
theorem dv_not (ha : DV X a f) : DV X (.UnaryOp .Not a pos) (eUn gNot f) := peMono (pe_not ha) fun σ H Q ⟨B, F, ρ, d, E, e, q⟩ => by
  obtain ⟨dx, e1, e⟩ := bind_some e
  refine ⟨B, F, ρ, dx, E, e1, fun x F1 H1 G1 r1 => ?_⟩
  cases dx with
  | bool k =>
    cases r1
    cases e
    exact ⟨k, rfl, q _ F1 H1 G1 (.bl _)⟩
  | _ => cases e
theorem dt_val (h : DV X e f) (he : ∀ whole, isTrue e X.env whole = (do let v ← whole; standAt e.pos; holding [v] (truthy v)) := by intro _; rfl) : DT X e (bVal f) := ptMono (pt_val h he) fun σ H Q ⟨B, F, ρ, b, E, e, q⟩ => by
  obtain ⟨d, e1, e2⟩ := bind_some e
  refine ⟨B, F, ρ, d, E, e1, fun v F' H' G r => ?_⟩
  cases d with
  | bool k =>
    cases e2
    cases r
    exact ⟨_, rfl, q F' H' G⟩
  | _ => cases e2
theorem dt_w (h : DW X e cb) : DT X e cb := PW.pt h
theorem dw_and1 (ha : DT X a cb) : DW X (.BoolOp .And [a] pos) cb := pw_and1 ha
theorem dw_or1 (ha : DT X a cb) : DW X (.BoolOp .Or [a] pos) cb := pw_or1 ha
theorem dw_and {rest : List Expr} (ha : DT X a cb) (hb : DW X (.BoolOp .And (b :: rest) pos) cb') : DW X (.BoolOp .And (a :: b :: rest) pos) (bAnd cb cb') := pwMono (pw_and ha hb) fun σ H Q ⟨B, F, ρ, k, E, e, q⟩ => by
  obtain ⟨k1, e1, e⟩ := bind_some e
  refine ⟨B, F, ρ, k1, E, e1, fun F1 H1 G1 => ?_⟩
  cases k1 with
  | true =>
    rw [if_pos rfl] at e ⊢
    exact ⟨B, F1, ρ, k, E.grow G1, e, fun F2 H2 G2 => q F2 H2 (G1.trans G2)⟩
  | false =>
    rw [if_neg (by simp)] at e ⊢
    cases e
    exact q F1 H1 G1
theorem dw_or {rest : List Expr} (ha : DT X a cb) (hb : DW X (.BoolOp .Or (b :: rest) pos) cb') : DW X (.BoolOp .Or (a :: b :: rest) pos) (bOr cb cb') := pwMono (pw_or ha hb) fun σ H Q ⟨B, F, ρ, k, E, e, q⟩ => by
  obtain ⟨k1, e1, e⟩ := bind_some e
  refine ⟨B, F, ρ, k1, E, e1, fun F1 H1 G1 => ?_⟩
  cases k1 with
  | false =>
    rw [if_neg (by simp)] at e ⊢
    exact ⟨B, F1, ρ, k, E.grow G1, e, fun F2 H2 G2 => q F2 H2 (G1.trans G2)⟩
  | true =>
    rw [if_pos rfl] at e ⊢
    cases e
    exact q F1 H1 G1
theorem dt_not (ha : DT X a cb) : DT X (.UnaryOp .Not a pos) (bNot cb) := ptMono (pt_not ha) fun σ H Q ⟨B, F, ρ, k, E, e, q⟩ => by
  obtain ⟨k1, e1, e⟩ := bind_some e
  cases e
  exact ⟨B, F, ρ, k1, E, e1, fun F1 H1 G1 => q F1 H1 G1⟩
theorem dv_if (hc : DT X c cb) (ha : DV X a f1) (hb : DV X b f2) : DV X (.IfExp c a b pos) (eIf cb f1 f2) := peMono (pe_ifExp hc ha hb) fun σ H Q ⟨B, F, ρ, d, E, e, q⟩ => by
  obtain ⟨k1, e1, e⟩ := bind_some e
  refine ⟨B, F, ρ, k1, E, e1, fun F1 H1 G1 => ?_⟩
  cases k1 with
  | false =>
    rw [if_neg (by simp)] at e ⊢
    exact ⟨B, F1, ρ, d, E.grow G1, e, fun v F2 H2 G2 r => q v F2 H2 (G1.trans G2) r⟩
  | true =>
    rw [if_pos rfl] at e ⊢
    exact ⟨B, F1, ρ, d, E.grow G1, e, fun v F2 H2 G2 r => q v F2 H2 (G1.trans G2) r⟩
theorem flatDp {K : PySem.W.Frag} {F F' : Hp} {v : V} {d : PyData} (h : Dp K F v d) (hf : flat d = true) : Dp K F' v d := by
  cases h with
  | non => exact .non
  | bl b => exact .bl b
  | int i => exact .int i
  | str x => exact .str x
  | lst _ _ => cases hf
  | tup _ _ => cases hf
theorem dv_lend {S : List Nat} (ha : DV X e f) : DV X e (eLend S f) := peMono ha fun σ H Q ⟨B, F, ρ, d, E, e, q⟩ => by
  obtain ⟨dx, e1, e⟩ := bind_some e
  split at e
  · rename_i hf
    cases e
    obtain ⟨F1, s1, E1, n1⟩ := E.frz S
    refine ⟨B, F1, DL.frz S ρ, d, E1, e1, fun v F2 H2 G r => q v F H2 ⟨.refl F, s1.trans (G.ff.trans G.fh), G.hh, fun _ _ _ n => n⟩ (flatDp r hf)⟩
  · cases e
theorem pvO {x : Str} {i : Nat} {pos : Pos} (h : PE X (.Name x pos) (tVar i)) : PE X (.Name x pos) (fun σ H Q => ∃ v, σ[i]? = some (some v) ∧ Q v H) := h
end
end DL

set_option Elab.async false
set_option linter.all false
set_option maxRecDepth 100000
set_option maxHeartbeats 4000000
namespace DL
open PySem PySem.Spec PyProof.Rows L2
section
variable {X : Cx} {a b c e : Expr} {es : List Expr} {f g f1 f2 : EV} {h : EA} {cb cb' : EB} {pos : Pos}
theorem ixNat {xs : List V} {ds : List PyData} {K : PySem.W.Frag} {H : Hp} {i : Int} {d : PyData} (r : DpAll K H xs ds) (e : atI ds i = some d) : ∃ v, atI xs i = some v ∧ Dp K H v d := by
  unfold atI at e ⊢
  obtain ⟨j, e1, e2⟩ := bind_some e
  rw [dpLen r, e1]
  obtain ⟨v, h1, h2⟩ := dpGet r e2
  exact ⟨v, h1, h2⟩
theorem ix_g : IxR X (rG X.K gIx) := ixMono ix_seq fun x y H Q ⟨F, dx, dy, d, s, rx, ry, e, q⟩ => by
  cases dy with
  | int i =>
    cases ry
    cases dx with
    | list ds =>
      cases rx with
      | lst hs r =>
        obtain ⟨v, h1, h2⟩ := ixNat r e
        exact .inl ⟨_, _, i, v, rfl, rfl, s.seq hs, h1, q v F H (.refl s) h2⟩
    | tuple ds =>
      cases rx with
      | tup hs r =>
        obtain ⟨v, h1, h2⟩ := ixNat r e
        exact .inr (.inl ⟨_, _, i, v, rfl, rfl, sameT s hs, h1, q v F H (.refl s) h2⟩)
    | _ => cases e
  | _ => cases dx <;> cases e
theorem dv_ixO {i : Nat} {x : Str} {px : Pos} (hx : PE X (.Name x px) (tVar i)) (hb : DV X b f) (hs : PlainIx b := by exact fun _ _ => rfl) : DV X (.Subscript (.Name x px) b pos) (eIxO i f) :=
  peMono (pe_ix ix_list hx hb hs) fun σ H Q ⟨B, F, ρ, d, E, e, q⟩ => by
    unfold eIxO at e
    split at e
    · rename_i ds hρ
      obtain ⟨dy, e1, e2⟩ := bind_some e
      obtain ⟨l, vs, h1, h2, h3, h4, h5⟩ := E.ow i ds hρ
      refine ⟨.ref l, h1, B, F, ρ, dy, E, e1, fun y F1 H1 G r => ?_⟩
      cases dy with
      | int k =>
        cases r
        obtain ⟨v, r1, r2⟩ := ixNat h5 e2
        exact ⟨l, vs, k, v, rfl, rfl, .inl (.inl (G.hh _ _ h4)), r1, q v F1 H1 G (dpMono G.ff _ _ r2)⟩
      | _ => cases e2
    · cases e

/-! ### calls -/
/-- the promise of a def that works out data: n arguments, the value by m -/
def spD (K : PySem.W.Frag) (n : Nat) (m : List PyData → Option PyData) : Sp := fun vs H Q _ => vs.length = n ∧ ∃ F ds d, Same F H ∧ DpAll K F vs ds ∧ m ds = some d ∧ ∀ v F' H', Grow F H F' H' → Dp K F' v d → Q v H'
def eCall (m : List PyData → Option PyData) (f : EA) : EV := fun ρ => (f ρ).bind m
theorem dv_call {k n : Nat} {fa : Addr} {fd : FuncData} {ps : List Str} {m : List PyData → Option PyData} {x : Str} {p : Pos} (F : FnOk X.prog X.w X.K X.mg X.base CX0 k fa fd ps (spD X.K n m)) (hr : Room k X.A) (hg : Gl X x) (hm : X.mg x = some (.ref fa)) (hk : PySem.W.keepIn X.K (.ref fa) = true)
    (hb : Binds X.K fd ps []) (ha : DA X (e :: es) h) (hn : (e :: es).length = n := by rfl) (hdb : (x == ("__debug__" : Str)) = false := by decide) (he : starEach (e :: es) X.env = (false, eval e X.env) :: starEach es X.env := by rfl) (hpl : (backTo pos (starEach es X.env)).any (·.1) = false := by rfl) :
    DV X (.Call (.Name x p) (e :: es) [] pos) (eCall m h) := peMono (pe_call F hr hg hm hk hb .nil pass0 ha.pa hdb he hpl) fun σ H Q ⟨B, F, ρ, d, E, e, q⟩ => by
  obtain ⟨ds, e1, e2⟩ := bind_some e
  refine ⟨B, F, ρ, ds, E, e1, fun vs F1 H1 G r => ?_⟩
  show spD X.K n m (vs ++ []) H1 Q E0
  rw [List.append_nil]
  exact ⟨by rw [dpLen r, ha.len ρ ds e1]; exact hn, F1, ds, d, G.fh, r, e2, fun v F2 H2 G2 r2 => q v F2 H2 (G.trans G2) r2⟩
theorem dv_blt {x : Str} {p : Pos} {id : String} {m : List PyData → Option PyData} (hc : CallR X (.builtin id) (rGA X.K m)) (hg : Gl X x) (hm : X.mg x = none) (hv : bootBuiltins x = some (.builtin id)) (ha : DA X (e :: es) h) (hn : x ≠ "__name__" := by decide) (hdb : (x == ("__debug__" : Str)) = false := by decide)
    (he : starEach (e :: es) X.env = (false, eval e X.env) :: starEach es X.env := by rfl) (hpl : (backTo pos (starEach es X.env)).any (·.1) = false := by rfl) : DV X (.Call (.Name x p) (e :: es) [] pos) (eAll m h) :=
  peMono (pe_callB hc hg hm hv ha.pa hn hdb he hpl) fun σ H Q ⟨B, F, ρ, d, E, e, q⟩ => by
    obtain ⟨ds, e1, e2⟩ := bind_some e
    exact ⟨B, F, ρ, ds, E, e1, fun vs F1 H1 G r => ⟨F1, ds, d, G.fh, r, e2, fun v F2 H2 G2 r2 => q v F2 H2 (G.trans G2) r2⟩⟩
theorem dv_ty {x : Str} {p : Pos} {T : String} {m : List PyData → Option PyData} (hc : CallR X (.type T) (rGA X.K m)) (hg : Gl X x) (hm : X.mg x = none) (hv : bootBuiltins x = some (.type T)) (ha : DA X (e :: es) h) (hn : x ≠ "__name__" := by decide) (hdb : (x == ("__debug__" : Str)) = false := by decide)
    (he : starEach (e :: es) X.env = (false, eval e X.env) :: starEach es X.env := by rfl) (hpl : (backTo pos (starEach es X.env)).any (·.1) = false := by rfl) : DV X (.Call (.Name x p) (e :: es) [] pos) (eAll m h) :=
  peMono (pe_callTy hc hg hm hv ha.pa hn hdb he hpl) fun σ H Q ⟨B, F, ρ, d, E, e, q⟩ => by
    obtain ⟨ds, e1, e2⟩ := bind_some e
    exact ⟨B, F, ρ, ds, E, e1, fun vs F1 H1 G r => ⟨F1, ds, d, G.fh, r, e2, fun v F2 H2 G2 r2 => q v F2 H2 (G.trans G2) r2⟩⟩
/-- a module's name for a built-in function -/
theorem dv_mod {x : Str} {p : Pos} {id : String} {m : List PyData → Option PyData} (hc : CallR X (.builtin id) (rGA X.K m)) (hg : Gl X x) (hm : X.mg x = some (.builtin id)) (ha : DA X (e :: es) h) (hdb : (x == ("__debug__" : Str)) = false := by decide)
    (he : starEach (e :: es) X.env = (false, eval e X.env) :: starEach es X.env := by rfl) (hpl : (backTo pos (starEach es X.env)).any (·.1) = false := by rfl) : DV X (.Call (.Name x p) (e :: es) [] pos) (eAll m h) :=
  peMono (pe_callBfun hc hg hm ha.pa hdb he hpl) fun σ H Q ⟨B, F, ρ, d, E, e, q⟩ => by
    obtain ⟨ds, e1, e2⟩ := bind_some e
    exact ⟨B, F, ρ, ds, E, e1, fun vs F1 H1 G r => ⟨F1, ds, d, G.fh, r, e2, fun v F2 H2 G2 r2 => q v F2 H2 (G.trans G2) r2⟩⟩
theorem df_blt {x : Str} {p : Pos} {id : String} {m : List PyData → Option (List PyData)} (hc : CallR X (.builtin id) (rGF X.K m)) (hg : Gl X x) (hm : X.mg x = none) (hv : bootBuiltins x = some (.builtin id)) (ha : DA X (e :: es) h) (hn : x ≠ "__name__" := by decide) (hdb : (x == ("__debug__" : Str)) = false := by decide)
    (he : starEach (e :: es) X.env = (false, eval e X.env) :: starEach es X.env := by rfl) (hpl : (backTo pos (starEach es X.env)).any (·.1) = false := by rfl) : DF X (.Call (.Name x p) (e :: es) [] pos) (fAll m h) :=
  peMono (pe_callB hc hg hm hv ha.pa hn hdb he hpl) fun σ H Q ⟨B, F, ρ, d, E, e, q⟩ => by
    obtain ⟨ds, e1, e2⟩ := bind_some e
    exact ⟨B, F, ρ, ds, E, e1, fun vs F1 H1 G r => ⟨F1, ds, d, G.fh, r, e2, fun a ws F2 H2 G2 n1 n2 n3 r2 => q a ws F2 H2 (G.trans G2) (G.hh.free n1) n2 n3 r2⟩⟩
theorem df_ty {x : Str} {p : Pos} {T : String} {m : List PyData → Option (List PyData)} (hc : CallR X (.type T) (rGF X.K m)) (hg : Gl X x) (hm : X.mg x = none) (hv : bootBuiltins x = some (.type T)) (ha : DA X (e :: es) h) (hn : x ≠ "__name__" := by decide) (hdb : (x == ("__debug__" : Str)) = false := by decide)
    (he : starEach (e :: es) X.env = (false, eval e X.env) :: starEach es X.env := by rfl) (hpl : (backTo pos (starEach es X.env)).any (·.1) = false := by rfl) : DF X (.Call (.Name x p) (e :: es) [] pos) (fAll m h) :=
  peMono (pe_callTy hc hg hm hv ha.pa hn hdb he hpl) fun σ H Q ⟨B, F, ρ, d, E, e, q⟩ => by
    obtain ⟨ds, e1, e2⟩ := bind_some e
    exact ⟨B, F, ρ, ds, E, e1, fun vs F1 H1 G r => ⟨F1, ds, d, G.fh, r, e2, fun a ws F2 H2 G2 n1 n2 n3 r2 => q a ws F2 H2 (G.trans G2) (G.hh.free n1) n2 n3 r2⟩⟩

/-! ### operators -/
def gI (C : Int → Int → Prop) [∀ i j, Decidable (C i j)] (r : Int → Int → PyData) : PyData → PyData → Option PyData
  | .int i, .int j => if C i j then some (r i j) else none
  | _, _ => none
def gI0 (r : Int → Int → PyData) : PyData → PyData → Option PyData
  | .int i, .int j => some (r i j)
  | _, _ => none
theorem op_i {f : Value → Value → Sem Value} {C : Int → Int → Prop} [∀ i j, Decidable (C i j)] {r : Int → Int → Int} (h : OpR X f (rI C fun i j => .int (r i j))) : OpR X f (rG X.K (gI C fun i j => .int (r i j))) := opMono h fun x y H Q ⟨F, dx, dy, d, s, rx, ry, e, q⟩ => by
  unfold gI at e
  split at e
  · rename_i i j
    cases rx
    cases ry
    split at e
    · rename_i hc
      cases e
      exact ⟨i, j, rfl, rfl, hc, q _ F H (.refl s) (.int _)⟩
    · cases e
  · cases e
theorem op_i0 {f : Value → Value → Sem Value} {r : Int → Int → Int} (h : OpR X f (rI0 fun i j => .int (r i j))) : OpR X f (rG X.K (gI0 fun i j => .int (r i j))) := opMono h fun x y H Q ⟨F, dx, dy, d, s, rx, ry, e, q⟩ => by
  cases dx <;> cases dy <;> try cases e
  rename_i i j
  cases rx
  cases ry
  exact ⟨i, j, rfl, rfl, q _ F H (.refl s) (.int _)⟩
theorem op_b0 {f : Value → Value → Sem Value} {r : Int → Int → Bool} (h : OpR X f (rI0 fun i j => .bl (r i j))) : OpR X f (rG X.K (gI0 fun i j => .bool (r i j))) := opMono h fun x y H Q ⟨F, dx, dy, d, s, rx, ry, e, q⟩ => by
  cases dx <;> cases dy <;> try cases e
  rename_i i j
  cases rx
  cases ry
  exact ⟨i, j, rfl, rfl, q _ F H (.refl s) (.bl _)⟩
abbrev gAdd : PyData → PyData → Option PyData := gI0 fun i j => .int (i + j)
abbrev gSub : PyData → PyData → Option PyData := gI0 fun i j => .int (i - j)
instance : ∀ i j, Decidable (CMulW i j) := fun i j => by unfold CMulW; infer_instance
abbrev gMul : PyData → PyData → Option PyData := gI CMulW fun i j => .int (i * j)
def CDivA (_ j : Int) : Prop := j ≠ 0 ∧ j.natAbs.log2 < 9000
instance : ∀ i j, Decidable (CDivA i j) := fun i j => by unfold CDivA; infer_instance
abbrev gFdiv : PyData → PyData → Option PyData := gI CDivA fun i j => .int (i.fdiv j)
abbrev gMod : PyData → PyData → Option PyData := gI (fun _ j => j ≠ 0) fun i j => .int (i.fmod j)
instance : ∀ i j, Decidable (CPow i j) := fun i j => by unfold CPow; infer_instance
abbrev gPow : PyData → PyData → Option PyData := gI CPow fun i j => .int (i ^ j.toNat)
abbrev gLt : PyData → PyData → Option PyData := gI0 fun i j => .bool (decide (i < j))
abbrev gLe : PyData → PyData → Option PyData := gI0 fun i j => .bool (decide (i ≤ j))
abbrev gGt : PyData → PyData → Option PyData := gI0 fun i j => .bool (decide (j < i))
abbrev gGe : PyData → PyData → Option PyData := gI0 fun i j => .bool (decide (j ≤ i))
theorem o_add : OpR X (binaryOp .Add) (rG X.K gAdd) := op_i0 op_add
theorem o_sub : OpR X (binaryOp .Sub) (rG X.K gSub) := op_i0 op_sub
theorem o_mul : OpR X (binaryOp .Mult) (rG X.K gMul) := op_i op_mulW
theorem o_fdiv : OpR X (binaryOp .FloorDiv) (rG X.K gFdiv) := op_i (opI fun i j _ _ _ _ _ hc q => floordiv_int hc.1 q (.inl (PyProof.noPylong_of_log2 hc.2)))
theorem o_mod : OpR X (binaryOp .Mod) (rG X.K gMod) := op_i op_modN
theorem o_pow : OpR X (binaryOp .Pow) (rG X.K gPow) := op_i op_pow
theorem o_lt : OpR X (compareOp .Lt) (rG X.K gLt) := op_b0 op_lt
theorem o_le : OpR X (compareOp .LtE) (rG X.K gLe) := op_b0 op_le
theorem o_gt : OpR X (compareOp .Gt) (rG X.K gGt) := op_b0 op_gt
theorem o_ge : OpR X (compareOp .GtE) (rG X.K gGe) := op_b0 op_ge
def gNeg : PyData → Option PyData
  | .int i => some (.int (-i))
  | _ => none
theorem u_neg : UnR X (unaryOp .USub) (rG1 X.K gNeg) := unMono un_neg fun x H Q ⟨F, dx, d, s, rx, e, q⟩ => by
  cases dx <;> try cases e
  rename_i i
  cases rx
  exact ⟨i, rfl, q _ F H (.refl s) (.int _)⟩
def gEq (x y : PyData) : Option PyData := if SeqAt.shaped x && SeqAt.shaped y then some (.bool (PyData.eqv x y)) else none
def gNe (x y : PyData) : Option PyData := if SeqAt.shaped x && SeqAt.shaped y then some (.bool (!PyData.eqv x y)) else none
theorem o_eq (hu : X.A.units + 64 < cLine) : OpR X (compareOp .Eq) (rG X.K gEq) := opMono (op_eqD hu) fun x y H Q ⟨F, dx, dy, d, s, rx, ry, e, q⟩ => by
  unfold gEq at e
  split at e
  · rename_i hc
    cases e
    obtain ⟨h1, h2⟩ := Bool.and_eq_true_iff.mp hc
    exact ⟨dx, dy, dpMono s _ _ rx, dpMono s _ _ ry, h1, h2, q _ F H (.refl s) (.bl _)⟩
  · cases e
theorem o_ne (hu : X.A.units + 64 < cLine) : OpR X (compareOp .NotEq) (rG X.K gNe) := opMono (op_neD hu) fun x y H Q ⟨F, dx, dy, d, s, rx, ry, e, q⟩ => by
  unfold gNe at e
  split at e
  · rename_i hc
    cases e
    obtain ⟨h1, h2⟩ := Bool.and_eq_true_iff.mp hc
    exact ⟨dx, dy, dpMono s _ _ rx, dpMono s _ _ ry, h1, h2, q _ F H (.refl s) (.bl _)⟩
  · cases e
def isN : PyData → Bool
  | .none => true
  | _ => false
def gIs : PyData → PyData → Option PyData
  | x, .none => some (.bool (isN x))
  | _, _ => none
def gIsnt : PyData → PyData → Option PyData
  | x, .none => some (.bool !(isN x))
  | _, _ => none
theorem isN_v {K : PySem.W.Frag} {F : Hp} {x : V} {d : PyData} (r : Dp K F x d) : decide (x = .non) = isN d := by
  cases r <;> simp [isN]
theorem o_isN : OpR X (compareOp .Is) (rG X.K gIs) := opMono op_isN fun x y H Q ⟨F, dx, dy, d, s, rx, ry, e, q⟩ => by
  cases dy <;> try cases e
  cases ry
  exact ⟨rfl, by rw [isN_v rx]; exact q _ F H (.refl s) (.bl _)⟩
theorem o_notN : OpR X (compareOp .IsNot) (rG X.K gIsnt) := opMono op_notN fun x y H Q ⟨F, dx, dy, d, s, rx, ry, e, q⟩ => by
  cases dy <;> try cases e
  cases ry
  exact ⟨rfl, by rw [isN_v rx]; exact q _ F H (.refl s) (.bl _)⟩

/-! ### built-in functions -/
def mLen : List PyData → Option PyData
  | [.list xs] => some (.int xs.length)
  | [.tuple xs] => some (.int xs.length)
  | _ => none
theorem one_of {K : PySem.W.Frag} {F : Hp} {vs : List V} {d : PyData} (r : DpAll K F vs [d]) : ∃ v, vs = [v] ∧ Dp K F v d := by
  cases r with
  | cons a b =>
    cases b
    exact ⟨_, rfl, a⟩
theorem two_of {K : PySem.W.Frag} {F : Hp} {vs : List V} {d e : PyData} (r : DpAll K F vs [d, e]) : ∃ v u, vs = [v, u] ∧ Dp K F v d ∧ Dp K F u e := by
  cases r with
  | cons a b =>
    obtain ⟨u, rfl, r⟩ := one_of b
    exact ⟨_, u, rfl, a, r⟩
theorem c_len : CallR X (.builtin "len") (rGA X.K mLen) := clMono call_len_seq fun xs H Q ⟨F, ds, d, s, r, e, q⟩ => by
  unfold mLen at e
  split at e
  · cases e
    obtain ⟨v, rfl, rv⟩ := one_of r
    cases rv with
    | lst hs ha => exact ⟨_, _, rfl, .inl (s.seq hs), by rw [dpLen ha]; exact q _ F H (.refl s) (.int _)⟩
  · cases e
    obtain ⟨v, rfl, rv⟩ := one_of r
    cases rv with
    | tup hs ha => exact ⟨_, _, rfl, .inr (sameT s hs), by rw [dpLen ha]; exact q _ F H (.refl s) (.int _)⟩
  · cases e
def mAbs : List PyData → Option PyData
  | [.int i] => some (.int (if i < 0 then -i else i))
  | _ => none
theorem c_abs : CallR X (.builtin "abs") (rGA X.K mAbs) := clMono call_abs fun xs H Q ⟨F, ds, d, s, r, e, q⟩ => by
  unfold mAbs at e
  split at e
  · cases e
    obtain ⟨v, rfl, rv⟩ := one_of r
    cases rv
    exact ⟨_, rfl, q _ F H (.refl s) (.int _)⟩
  · cases e
def mInt : List PyData → Option PyData
  | [.int i] => some (.int i)
  | [.bool b] => some (.int (if b then 1 else 0))
  | _ => none
theorem c_int : CallR X (.type "int") (rGA X.K mInt) := clMono call_int1 fun xs H Q ⟨F, ds, d, s, r, e, q⟩ => by
  unfold mInt at e
  split at e
  · cases e
    obtain ⟨v, rfl, rv⟩ := one_of r
    cases rv
    exact .inl ⟨_, rfl, q _ F H (.refl s) (.int _)⟩
  · cases e
    obtain ⟨v, rfl, rv⟩ := one_of r
    cases rv
    exact .inr ⟨_, rfl, q _ F H (.refl s) (.int _)⟩
  · cases e
def mMax2 : List PyData → Option PyData
  | [.int i, .int j] => some (.int (if j > i then j else i))
  | _ => none
theorem c_max2 (hc : X.calm = true) : CallR X (.builtin "max") (rGA X.K mMax2) := clMono (call_max2 hc) fun xs H Q ⟨F, ds, d, s, r, e, q⟩ => by
  unfold mMax2 at e
  split at e
  · cases e
    obtain ⟨v, u, rfl, rv, ru⟩ := two_of r
    cases rv
    cases ru
    exact ⟨_, _, rfl, q _ F H (.refl s) (.int _)⟩
  · cases e
def mMin2 : List PyData → Option PyData
  | [.int i, .int j] => some (.int (if j < i then j else i))
  | _ => none
theorem c_min2 (hc : X.calm = true) : CallR X (.builtin "min") (rGA X.K mMin2) := clMono (call_min2 hc) fun xs H Q ⟨F, ds, d, s, r, e, q⟩ => by
  unfold mMin2 at e
  split at e
  · cases e
    obtain ⟨v, u, rfl, rv, ru⟩ := two_of r
    cases rv
    cases ru
    exact ⟨_, _, rfl, q _ F H (.refl s) (.int _)⟩
  · cases e
def mGcd : List PyData → Option PyData
  | [.int i, .int j] => some (.int ((Nat.gcd i.natAbs j.natAbs : Nat) : Int))
  | _ => none
theorem c_gcd : CallR X (.builtin "math.gcd") (rGA X.K mGcd) := clMono cr_gcd fun xs H Q ⟨F, ds, d, s, r, e, q⟩ => by
  unfold mGcd at e
  split at e
  · cases e
    obtain ⟨v, u, rfl, rv, ru⟩ := two_of r
    cases rv
    cases ru
    exact ⟨_, _, rfl, q _ F H (.refl s) (.int _)⟩
  · cases e
def mTuple : List PyData → Option PyData
  | [.list xs] => some (.tuple xs)
  | [.tuple xs] => some (.tuple xs)
  | _ => none
theorem c_tuple : CallR X (.type "tuple") (rGA X.K mTuple) := clMono call_tuple_of fun xs H Q ⟨F, ds, d, s, r, e, q⟩ => by
  unfold mTuple at e
  split at e
  · cases e
    obtain ⟨v, rfl, rv⟩ := one_of r
    cases rv with
    | lst hs ha => exact ⟨_, _, rfl, .inl ⟨s.seq hs, fun l nl => q _ _ _ (.new s nl) (.tup (.inl (.inl upd_same)) (dpMonoAll (sameUpd (s.free nl)) _ _ ha))⟩⟩
  · cases e
    obtain ⟨v, rfl, rv⟩ := one_of r
    cases rv with
    | tup hs ha => exact ⟨_, _, rfl, .inr ⟨sameT s hs, q _ F H (.refl s) (.tup hs ha)⟩⟩
  · cases e
def mList : List PyData → Option (List PyData)
  | [.list xs] => some xs
  | [.tuple xs] => some xs
  | _ => none
theorem c_list : CallR X (.type "list") (rGF X.K mList) := clMono call_list_of fun xs H Q ⟨F, ds, d, s, r, e, q⟩ => by
  unfold mList at e
  split at e
  · cases e
    obtain ⟨v, rfl, rv⟩ := one_of r
    cases rv with
    | lst hs ha => exact ⟨_, _, rfl, .inl (s.seq hs), fun l nl => q _ _ _ _ (.side s nl) nl (s.free nl) upd_same ha⟩
  · cases e
    obtain ⟨v, rfl, rv⟩ := one_of r
    cases rv with
    | tup hs ha => exact ⟨_, _, rfl, .inr (sameT s hs), fun l nl => q _ _ _ _ (.side s nl) nl (s.free nl) upd_same ha⟩
  · cases e
/-! ### isinstance of a built-in type -/
inductive Ty where
  | int | bool | tuple | list | str
def Ty.s : Ty → String
  | .int => "int" | .bool => "bool" | .tuple => "tuple" | .list => "list" | .str => "str"
def isT : Ty → PyData → Option Bool
  | .int, .int _ => some true
  | .int, .bool _ => some true
  | .bool, .bool _ => some true
  | .tuple, .tuple _ => some true
  | .list, .list _ => some true
  | .str, .str _ => some true
  | _, .dict _ => none
  | _, _ => some false
def eIs (T : Ty) (f : EV) : EV := fun ρ => (f ρ).bind fun d => (isT T d).map PyData.bool
theorem ty_of {K : PySem.W.Frag} {F : Hp} {x : V} {d : PyData} (r : Dp K F x d) : ∃ t, TyX K F x (.type t) ∧ ∀ T b, isT T d = some b → PySem.W.kitOne K (.type t) (.type T.s) = some b := by
  cases r with
  | non => exact ⟨_, .base .non, fun T b e => by cases T <;> cases e <;> exact kit_ty (by decide +kernel)⟩
  | bl k => exact ⟨_, .base (.bl k), fun T b e => by cases T <;> cases e <;> exact kit_ty (by decide +kernel)⟩
  | int k => exact ⟨_, .base (.int k), fun T b e => by cases T <;> cases e <;> exact kit_ty (by decide +kernel)⟩
  | str k => exact ⟨_, .base (.str k), fun T b e => by cases T <;> cases e <;> exact kit_ty (by decide +kernel)⟩
  | lst hs _ =>
    refine ⟨"list", ?_, fun T b e => by cases T <;> cases e <;> exact kit_ty (by decide +kernel)⟩
    rcases hs with (hs | ⟨o, hs⟩) | ⟨o, its, n, h1, h2, _⟩
    · exact .base (.lst hs)
    · exact .base (.frz hs)
    · exact .kList h1 h2
  | tup hs _ =>
    refine ⟨"tuple", ?_, fun T b e => by cases T <;> cases e <;> exact kit_ty (by decide +kernel)⟩
    rcases hs with (hs | ⟨o, hs⟩) | ⟨o, its, n, h1, h2, _⟩
    · exact .base (.tup hs)
    · exact .fTuple hs
    · exact .kTuple h1 h2
theorem dv_isi {x y : Str} {p p2 : Pos} {T : Ty} (hg : Gl X x) (hm : X.mg x = none) (hx : x = "isinstance") (hgt : Gl X y) (hmt : X.mg y = none) (hvt : bootBuiltins y = some (.type T.s)) (ha : DV X a f) (hnt : y ≠ "__name__" := by decide) (hdt : (y == ("__debug__" : Str)) = false := by decide)
    (he : starEach [a, .Name y p2] X.env = (false, eval a X.env) :: starEach [.Name y p2] X.env := by rfl) (he2 : starEach [.Name y p2] X.env = (false, eval (.Name y p2) X.env) :: starEach [] X.env := by rfl) (hpl : (backTo pos (starEach [.Name y p2] X.env)).any (·.1) = false := by rfl) : DV X (.Call (.Name x p) [a, .Name y p2] [] pos) (eIs T f) := by
  subst hx
  refine peMono (pe_callB call_isi hg hm (by decide +kernel) (pa_cons ha (pa_cons (pe_bltn (v := .ty T.s) hgt hmt hvt rfl hnt hdt) pa_nil he2) he) (by decide) (by decide) he hpl) fun σ H Q ⟨B, F, ρ, d, E, e, q⟩ => ?_
  obtain ⟨dx, e1, e2⟩ := bind_some e
  obtain ⟨k, e3, e4⟩ := Option.map_eq_some_iff.mp e2
  subst e4
  refine ⟨B, F, ρ, dx, E, e1, fun v F1 H1 G r => ?_⟩
  obtain ⟨t, h1, h2⟩ := ty_of (dpMono G.fh _ _ r)
  exact ⟨v, .ty T.s, .type t, .type T.s, k, rfl, .ty _, h1, h2 T k e3, q _ F1 H1 G (.bl k)⟩
end
end DL

set_option Elab.async false
set_option linter.all false
set_option maxRecDepth 100000
set_option maxHeartbeats 4000000
namespace DL
open PySem PySem.Spec PyProof.Rows L2
/-! ### what is walked -/
structure Ylds (K : PySem.W.Frag) (J : It) (F : Hp) (ds : List PyData) : Prop where
  go : ∀ i H, i < ds.length → Same F H → J.go i H
  stop : ∀ H, Same F H → J.stop ds.length H
  yld : ∀ i H x H' F1, i < ds.length → Same F F1 → Same F1 H → J.yld i H x H' → ∃ d F2, ds[i]? = some d ∧ Grow F1 H F2 H' ∧ Dp K F2 x d
def tI (K : PySem.W.Frag) (f : EA) : TI := fun σ H R => ∃ B F ρ ds, ER K B F H σ ρ ∧ f ρ = some ds ∧ ∀ J F' H', Grow F H F' H' → Ylds K J F' ds → R J H'
def DI (X : Cx) (tg iter : Expr) (f : EA) : Prop := PI X tg iter (tI X.K f)
theorem piMono {X : Cx} {tg it : Expr} {t t' : TI} (h : PI X tg it t) (k : ∀ σ H R, t' σ H R → t σ H R) : PI X tg it t' := ⟨fun pins s σ H R I q => h.run pins s σ H R I (k _ _ _ q)⟩
theorem piOr {X : Cx} {tg it : Expr} {t t' : TI} (h : PI X tg it t) (h' : PI X tg it t') : PI X tg it (fun σ H R => t σ H R ∨ t' σ H R) := ⟨fun pins s σ H R I q => q.elim (h.run pins s σ H R I) (h'.run pins s σ H R I)⟩
theorem ylds_list {K : PySem.W.Frag} {F : Hp} {a : Addr} {xs : List V} {ds : List PyData} (hs : SqL K F a xs) (r : DpAll K F xs ds) : Ylds K (Itl K a) F ds :=
  have w := walk_list (K := K) (a := a) (xs := xs)
  have e := dpLen r
  ⟨fun i H hi s => w.goes i H (by rw [e]; exact hi) (s.seq hs), fun H s => by rw [← e]; exact w.stops H (s.seq hs), fun i H x H' F1 hi s1 s y => by
    obtain ⟨y1, y2⟩ := w.yields i H x H' (by rw [e]; exact hi) (s.seq (s1.seq hs)) y
    obtain ⟨d, h1, h2⟩ := dpGetV r y2
    rw [y1]
    exact ⟨d, F1, h1, .refl s, dpMono s1 _ _ h2⟩⟩
theorem ylds_tup {K : PySem.W.Frag} {F : Hp} {a : Addr} {xs : List V} {ds : List PyData} (hs : SqT K F a xs) (r : DpAll K F xs ds) : Ylds K (Itt K a) F ds :=
  have w := walk_tup (K := K) (a := a) (xs := xs)
  have e := dpLen r
  ⟨fun i H hi s => w.goes i H (by rw [e]; exact hi) (sameT s hs), fun H s => by rw [← e]; exact w.stops H (sameT s hs), fun i H x H' F1 hi s1 s y => by
    obtain ⟨y1, y2⟩ := w.yields i H x H' (by rw [e]; exact hi) (sameT s (sameT s1 hs)) y
    obtain ⟨d, h1, h2⟩ := dpGetV r y2
    rw [y1]
    exact ⟨d, F1, h1, .refl s, dpMono s1 _ _ h2⟩⟩
def rng (lo : Int) (n : Nat) : List PyData := (List.range n).map fun (i : Nat) => PyData.int (lo + (i : Int))
theorem rng_len (lo : Int) (n : Nat) : (rng lo n).length = n := by simp [rng]
theorem ylds_rng {K : PySem.W.Frag} {F : Hp} {lo : Int} {n : Nat} : Ylds K (Itr lo n) F (rng lo n) :=
  ⟨fun i H hi _ => by rw [rng_len] at hi; exact hi, fun H _ => by rw [rng_len]; exact Nat.le_refl _, fun i H x H' F1 hi s1 s y => by
    rw [rng_len] at hi
    obtain ⟨y1, y2⟩ := y
    rw [y1, y2]
    exact ⟨.int (lo + i), F1, by simp [rng, hi], .refl s, .int _⟩⟩
def seqOf : PyData → Option (List PyData)
  | .list xs => some xs
  | .tuple xs => some xs
  | _ => none
def iSeq (f : EV) : EA := fun ρ => (f ρ).bind seqOf
noncomputable def cIf {α : Type} (c : Prop) (a b : α) : α := @ite α c (Classical.propDecidable c) a b
theorem cIf_pos {α : Type} {c : Prop} {a b : α} (h : c) : cIf c a b = a := if_pos h
theorem cIf_neg {α : Type} {c : Prop} {a b : α} (h : ¬ c) : cIf c a b = b := if_neg h
theorem cIf_some {α : Type} {c : Prop} {a : α} {y : α} (h : cIf c (some a) none = some y) : c ∧ a = y := by
  by_cases hc : c
  · rw [cIf_pos hc] at h
    exact ⟨hc, Option.some.inj h⟩
  · rw [cIf_neg hc] at h
    cases h
noncomputable def rg1 : PyData → Option (List PyData)
  | .int j => cIf (-(2 ^ 62) ≤ j ∧ j < 2 ^ 62) (some (rng 0 j.toNat)) none
  | _ => none
noncomputable def rg2 : PyData → PyData → Option (List PyData)
  | .int i, .int j => cIf (-(2 ^ 62) ≤ i ∧ i < 2 ^ 62 ∧ -(2 ^ 62) ≤ j ∧ j < 2 ^ 62) (some (rng i (j - i).toNat)) none
  | _, _ => none
noncomputable def iRg1 (f : EV) : EA := fun ρ => (f ρ).bind rg1
noncomputable def iRg2 (f g : EV) : EA := fun ρ => (f ρ).bind fun d => (g ρ).bind fun e => rg2 d e
section
variable {X : Cx} {tg a b c e elt iter : Expr} {es : List Expr} {f g f1 f2 : EV} {h : EA} {cb cb' : EB} {pos : Pos}
theorem di_seq (h : DV X a f) : DI X tg a (iSeq f) := piMono (piOr (pi_list h) (pi_tup h)) fun σ H R ⟨B, F, ρ, ds, E, e, q⟩ => by
  obtain ⟨d, e1, e2⟩ := bind_some e
  cases d with
  | list xs =>
    cases e2
    refine .inl ⟨B, F, ρ, _, E, e1, fun v F1 H1 G r => ?_⟩
    cases r with
    | lst hs ha => exact ⟨_, rfl, ⟨_, G.fh.seq hs⟩, q _ F1 H1 G (ylds_list hs ha)⟩
  | tuple xs =>
    cases e2
    refine .inr ⟨B, F, ρ, _, E, e1, fun v F1 H1 G r => ?_⟩
    cases r with
    | tup hs ha => exact ⟨_, rfl, ⟨_, sameT G.fh hs⟩, q _ F1 H1 G (ylds_tup hs ha)⟩
  | _ => cases e2
theorem di_rg1 {p : Pos} (hg : Gl X "range") (hm : X.mg "range" = none) (ha : DV X a f) (hs : starEach [a] X.env = (false, eval a X.env) :: starEach [] X.env := by rfl) (hs1 : starEach [a] X.env = [(false, eval a X.env)] := by rfl) : DI X tg (.Call (.Name "range" p) [a] [] pos) (iRg1 f) :=
  piMono (pi_range1 hg hm (pa_cons ha pa_nil hs) hs1) fun σ H R ⟨B, F, ρ, ds, E, e, q⟩ => by
    obtain ⟨d, e1, e2⟩ := bind_some e
    refine ⟨B, F, ρ, d, E, e1, fun v F1 H1 G r => ?_⟩
    cases d with
    | int j =>
      cases r
      obtain ⟨hc, e3⟩ := cIf_some (show cIf (-(2 ^ 62) ≤ j ∧ j < 2 ^ 62) (some (rng 0 j.toNat)) none = some ds from e2)
      subst e3
      exact ⟨j, rfl, hc.1, hc.2, q _ F1 H1 G ylds_rng⟩
    | _ => cases e2
theorem di_rg2 {p : Pos} (hg : Gl X "range") (hm : X.mg "range" = none) (ha : DV X a f) (hb : DV X b g) (hs : starEach [a, b] X.env = (false, eval a X.env) :: starEach [b] X.env := by rfl) (hs0 : starEach [b] X.env = (false, eval b X.env) :: starEach [] X.env := by rfl)
    (hs1 : starEach [a, b] X.env = [(false, eval a X.env), (false, eval b X.env)] := by rfl) (hs2 : starEach [b] X.env = [(false, eval b X.env)] := by rfl) : DI X tg (.Call (.Name "range" p) [a, b] [] pos) (iRg2 f g) :=
  piMono (pi_range2 hg hm (pa_cons ha (pa_cons hb pa_nil hs0) hs) hs1 hs2) fun σ H R ⟨B, F, ρ, ds, E, e, q⟩ => by
    obtain ⟨d, e1, e2⟩ := bind_some e
    obtain ⟨d2, e3, e4⟩ := bind_some e2
    refine ⟨B, F, ρ, d, E, e1, fun v F1 H1 G r => ⟨B, F1, ρ, d2, E.grow G, e3, fun v2 F2 H2 G2 r2 => ?_⟩⟩
    cases d with
    | int i =>
      cases d2 with
      | int j =>
        cases r
        cases r2
        obtain ⟨hc, e5⟩ := cIf_some (show cIf (-(2 ^ 62) ≤ i ∧ i < 2 ^ 62 ∧ -(2 ^ 62) ≤ j ∧ j < 2 ^ 62) (some (rng i (j - i).toNat)) none = some ds from e4)
        subst e5
        exact ⟨i, j, rfl, hc, q _ F2 H2 (G.trans G2) ylds_rng⟩
      | _ => cases e4
    | _ => cases e4

/-! ### targets -/
abbrev EG := PyData → Rho → Option Rho
def tG (K : PySem.W.Frag) (is : List Nat) (g : EG) : TG := fun v σ H Q => ∃ B F ρ d ρ', ER K B F H σ ρ ∧ Dp K F v d ∧ g d ρ = some ρ' ∧ ∀ σ', ER K B F H σ' ρ' → σ'.length = σ.length → (∀ j, j ∉ is → σ'[j]? = σ[j]?) → Q σ' H
def tGs (K : PySem.W.Frag) (is : List Nat) (g : List PyData → Rho → Option Rho) : TGs := fun vs σ H Q => ∃ B F ρ ds ρ', ER K B F H σ ρ ∧ DpAll K F vs ds ∧ g ds ρ = some ρ' ∧ ∀ σ', ER K B F H σ' ρ' → σ'.length = σ.length → (∀ j, j ∉ is → σ'[j]? = σ[j]?) → Q σ' H
def DG (X : Cx) (tg : Expr) (is : List Nat) (g : EG) : Prop := PG X tg (tG X.K is g)
def DGs (X : Cx) (tg : List Expr) (is : List Nat) (g : List PyData → Rho → Option Rho) : Prop := PGs X tg (tGs X.K is g)
theorem pgMono {t t' : TG} (h : PG X tg t) (k : ∀ v σ H Q, t' v σ H Q → t v σ H Q) : PG X tg t' := ⟨fun pins s σ H x v Q I r q => h.run pins s σ H x v Q I r (k _ _ _ _ q)⟩
theorem pgsMono {t t' : TGs} {ts : List Expr} (h : PGs X ts t) (k : ∀ v σ H Q, t' v σ H Q → t v σ H Q) : PGs X ts t' := ⟨fun pins s σ H x v Q I r q => h.run pins s σ H x v Q I r (k _ _ _ _ q)⟩
def gNm (i : Nat) : EG := fun d ρ => some (ρ.set i (.va d))
def gsNil : List PyData → Rho → Option Rho := fun ds ρ => match ds with
  | [] => some ρ
  | _ => none
def gsCons (g : EG) (r : List PyData → Rho → Option Rho) : List PyData → Rho → Option Rho := fun ds ρ => match ds with
  | d :: ds => (g d ρ).bind fun ρ' => r ds ρ'
  | [] => none
def gTp (n : Nat) (r : List PyData → Rho → Option Rho) : EG := fun d ρ => match d with
  | .tuple ds => if ds.length = n then r ds ρ else none
  | .list ds => if ds.length = n then r ds ρ else none
  | _ => none
theorem dg_name {i : Nat} {x : Str} (h : PG X (.Name x pos) (gName i)) : DG X (.Name x pos) [i] (gNm i) := pgMono h fun v σ H Q ⟨B, F, ρ, d, ρ', E, r, e, q⟩ => by
  cases e
  exact q _ (E.setVa r) (by rw [List.length_set]) fun j hj => List.getElem?_set_ne (fun z => hj (by simp [z]))
theorem dgs_nil : DGs X [] [] gsNil := pgsMono pgs_nil fun vs σ H Q ⟨B, F, ρ, ds, ρ', E, r, e, q⟩ => by
  cases ds with
  | nil =>
    cases r
    cases e
    exact ⟨rfl, q σ E rfl fun _ _ => rfl⟩
  | cons d ds => cases e
theorem dgs_cons {is js : List Nat} {g : EG} {gr : List PyData → Rho → Option Rho} (h1 : DG X e is g) (h2 : DGs X es js gr) (he : (assignEach (e :: es) X.env).map (·.2) = assign e X.env :: (assignEach es X.env).map (·.2) := by rfl) : DGs X (e :: es) (is ++ js) (gsCons g gr) := pgsMono (pgs_cons h1 h2 he) fun vs σ H Q ⟨B, F, ρ, ds, ρ', E, r, ee, q⟩ => by
  cases ds with
  | nil => cases ee
  | cons d ds =>
    obtain ⟨ρ1, e1, e2⟩ := bind_some ee
    cases r with
    | cons ra rb =>
      exact ⟨_, _, rfl, B, F, ρ, d, ρ1, E, ra, e1, fun σ1 E1 l1 k1 => ⟨B, F, ρ1, ds, ρ', E1, rb, e2, fun σ2 E2 l2 k2 => q σ2 E2 (l2.trans l1) fun j hj => (k2 j fun z => hj (List.mem_append_right _ z)).trans (k1 j fun z => hj (List.mem_append_left _ z))⟩⟩
theorem pgOr {t t' : TG} (h : PG X tg t) (h' : PG X tg t') : PG X tg (fun v σ H Q => t v σ H Q ∨ t' v σ H Q) := ⟨fun pins s σ H x v Q I r q => q.elim (h.run pins s σ H x v Q I r) (h'.run pins s σ H x v Q I r)⟩
theorem dg_tup {n k : Nat} {is : List Nat} {gr : List PyData → Rho → Option Rho} (hc : X.calm = true) (h : DGs X es is gr) (hn : (assignEach es X.env).length = n := by rfl) (hst : (assignEach es X.env).findIdx? (·.1) = none := by rfl) : DG X (.Tuple es k pos) is (gTp n gr) :=
  pgMono (pgOr (pg_tup (n := n) hc h hn hst) (pg_unl (n := n) hc h hn hst)) fun v σ H Q ⟨B, F, ρ, d, ρ', E, r, e, q⟩ => by
    unfold gTp at e
    split at e
    · rename_i ds
      split at e
      · rename_i hl
        cases r with
        | tup hs ha => exact .inl ⟨_, _, rfl, sameT E.fh hs, (dpLen ha).trans hl, B, F, ρ, _, ρ', E, ha, e, q⟩
      · cases e
    · rename_i ds
      split at e
      · rename_i hl
        cases r with
        | lst hs ha => exact .inr ⟨_, _, rfl, E.fh.seq hs, (dpLen ha).trans hl, B, F, ρ, _, ρ', E, ha, e, q⟩
      · cases e
    · cases e

/-! ### comprehensions -/
def wipeR (ρ : Rho) : List Nat → Rho
  | [] => ρ
  | v :: vs => (wipeR ρ vs).set v .un
def compL (g : EG) (c : EB) (e : EV) (ρ : Rho) : List PyData → Option (List PyData)
  | [] => some []
  | d :: ds => (g d ρ).bind fun ρ1 => (c ρ1).bind fun b => if b then (e ρ1).bind fun x => (compL g c e ρ ds).bind fun r => some (x :: r) else compL g c e ρ ds
def fComp (it : EA) (g : EG) (c : EB) (e : EV) (vs : List Nat) : EA := fun ρ => (it ρ).bind fun ds => if ds.length ≤ 16000000 then compL g c e (wipeR ρ vs) ds else none
theorem setUn {K : PySem.W.Frag} {B F H : Hp} {σ : L2.St} {ρ : Rho} (E : ER K B F H σ ρ) (i : Nat) (x : Option V) : ER K B F H (σ.set i x) (ρ.set i .un) :=
  E.setFlat (fun _ => nofun) (fun _ => nofun) fun _ e => nomatch e
theorem erWipe {K : PySem.W.Frag} {B F H : Hp} {σ : L2.St} {ρ : Rho} (E : ER K B F H σ ρ) : ∀ vs : List Nat, ER K B F H (wipe σ vs) (wipeR ρ vs)
  | [] => E
  | v :: vs => setUn (erWipe E vs) v none
theorem wipe_at {σ : L2.St} : ∀ (vs : List Nat) (j : Nat), (wipe σ vs)[j]? = if j ∈ vs ∧ j < σ.length then some none else σ[j]?
  | [], j => by simp [wipe]
  | v :: vs, j => by
    unfold wipe
    rw [List.getElem?_set, wipe_at vs j, wipe_length]
    by_cases h1 : v = j
    · subst h1
      by_cases h2 : v < σ.length
      · simp [h2]
      · simp [h2]
    · have h3 : ¬ j = v := fun z => h1 z.symm
      simp [h1, h3]
theorem wipe_same {σ σ2 : L2.St} {is vs : List Nat} (hs : ∀ i ∈ is, i ∈ vs) (l : σ2.length = (wipe σ vs).length) (k : ∀ j, j ∉ is → σ2[j]? = (wipe σ vs)[j]?) : wipe σ2 vs = wipe σ vs := by
  rw [wipe_length] at l
  refine List.ext_getElem? fun j => ?_
  rw [wipe_at vs j, wipe_at vs j, l]
  by_cases hj : j ∈ vs
  · by_cases hl : j < σ.length
    · rw [if_pos ⟨hj, hl⟩, if_pos ⟨hj, hl⟩]
    · rw [if_neg fun z => hl z.2, if_neg fun z => hl z.2, List.getElem?_eq_none (by omega), List.getElem?_eq_none (by omega)]
  · rw [if_neg fun z => hj z.1, if_neg fun z => hj z.1, k j fun z => hj (hs j z), wipe_at vs j, if_neg fun z => hj z.1]
theorem compLen {g : EG} {c : EB} {e : EV} {ρ : Rho} : ∀ {ds rs : List PyData}, compL g c e ρ ds = some rs → rs.length ≤ ds.length
  | [], _, h => by cases h; exact Nat.le_refl _
  | d :: ds, rs, h => by
    obtain ⟨ρ1, _, h⟩ := bind_some h
    obtain ⟨b, _, h⟩ := bind_some h
    split at h
    · obtain ⟨x, _, h⟩ := bind_some h
      obtain ⟨r, h1, h⟩ := bind_some h
      cases h
      exact Nat.succ_le_succ (compLen h1)
    · exact Nat.le_succ_of_le (compLen h)
theorem tComp {K : PySem.W.Frag} {it : EA} {g : EG} {is : List Nat} {cb : EB} {ev : EV} {vs : List Nat} (hv : ∀ i ∈ is, i ∈ vs) {σ : L2.St} {H : Hp} {Q : VK} (h : tF K (fComp it g cb ev vs) σ H Q) : tLc (tI K it) (tG K is g) (tT K cb) (tD K ev) vs σ H Q := by
  obtain ⟨B, F, ρ, rs, E, e, q⟩ := h
  obtain ⟨ds, e1, e⟩ := bind_some e
  split at e
  case isFalse => cases e
  rename_i hz
  refine ⟨B, F, ρ, ds, E, e1, fun J F1 H1 G1 Y D nD => ⟨fun i m H2 => m = ds.length - i ∧ i ≤ ds.length ∧ ∃ F2 acc ws rest, Grow F1 H1 F2 H2 ∧ F2 D = none ∧ H2 D = some (.lst ws) ∧ DpAll K F2 ws acc ∧ compL g cb ev (wipeR ρ vs) (ds.drop i) = some rest ∧ acc ++ rest = rs ∧ acc.length ≤ i, ⟨ds.length, by simp, Nat.zero_le _, F1, [], [], rs, .side G1.fh nD, G1.fh.free nD, upd_same, .nil, e, rfl, Nat.le_refl _⟩, ?_⟩⟩
  rintro i m H2 ⟨rfl, hi, F2, acc, ws, rest, G2, n2, h2, r2, e2, e3, l2⟩
  by_cases hlt : i < ds.length
  · refine .inr ⟨Y.go i H2 hlt (G2.ff.trans G2.fh), _, fun H' p' => ⟨ds.length - (i + 1), by omega, rfl, hlt, p'⟩, fun x H3 y => ?_⟩
    obtain ⟨d, F3, hd, G3, r3⟩ := Y.yld i H2 x H3 F2 hlt G2.ff G2.fh y
    have ed : ds.drop i = d :: ds.drop (i + 1) := by
      rw [List.drop_eq_getElem_cons hlt]
      rw [List.getElem?_eq_getElem hlt] at hd
      cases hd
      rfl
    rw [ed] at e2
    obtain ⟨ρ1, c1, e2⟩ := bind_some e2
    obtain ⟨b, c2, e2⟩ := bind_some e2
    have GA := G1.trans (G2.trans G3)
    refine ⟨B, F3, wipeR ρ vs, d, ρ1, erWipe (E.grow GA) vs, r3, c1, fun σ2 E2 l k => ⟨wipe_same hv l k, B, F3, ρ1, b, E2, c2, fun F4 H4 G4 => ?_⟩⟩
    cases b with
    | false =>
      rw [if_neg (by simp)] at e2 ⊢
      exact ⟨F4, acc, ws, rest, G2.trans (G3.trans G4), G4.nn _ _ (G3.hh _ _ h2) (G3.nn _ _ h2 n2), G4.hh _ _ (G3.hh _ _ h2), dpMonoAll (G3.ff.trans G4.ff) _ _ r2, e2, e3, by omega⟩
    | true =>
      rw [if_pos rfl] at e2 ⊢
      obtain ⟨dx, c3, e2⟩ := bind_some e2
      obtain ⟨rr, c4, e2⟩ := bind_some e2
      cases e2
      refine ⟨B, F4, ρ1, dx, E2.grow G4, c3, fun v F5 H5 G5 r5 => ?_⟩
      have GG := G3.trans (G4.trans G5)
      have h5 := GG.hh _ _ h2
      have n5 := GG.nn _ _ h2 n2
      have w5 : ws.length = acc.length := dpLen r2
      refine ⟨ws, h5, by rw [w5]; exact Nat.lt_of_le_of_lt (show acc.length ≤ 16000000 by omega) (by decide), F5, acc ++ [dx], ws ++ [v], rr, ⟨G2.ff.trans GG.ff, fun b o z => ?_, fun b o z => ?_, fun b o z n => GG.nn b o (G2.hh b o z) (G2.nn b o z n)⟩, n5, upd_same, dpApp (dpMonoAll GG.ff _ _ r2) (.cons r5 .nil), c4, by rw [List.append_assoc]; exact e3, by rw [List.length_append, List.length_singleton]; omega⟩
      · rw [upd_ne (fun q => by rw [q, n5] at z; cases z)]
        exact G5.fh b o z
      · rw [upd_ne (ne_of_none z nD)]
        exact GG.hh b o (G2.hh b o z)
  · have ei : i = ds.length := by omega
    subst ei
    rw [List.drop_length] at e2
    cases e2
    rw [List.append_nil] at e3
    subst e3
    exact .inl ⟨Y.stop H2 (G2.ff.trans G2.fh), q D ws F2 H2 (G1.trans G2) (G1.hh.free nD) n2 h2 r2⟩
def DX (X : Cx) (ifs : List Expr) (f : EB) : Prop := PTs X ifs (tT X.K f)
theorem ptsMono {ifs : List Expr} {t t' : TT} (h : PTs X ifs t) (k : ∀ σ H Q, t' σ H Q → t σ H Q) : PTs X ifs t' := ⟨fun pins s σ H Q I q => h.run pins s σ H Q I (k _ _ _ q)⟩
def bYes : EB := fun _ => some true
theorem dx_nil : DX X [] bYes := ptsMono pts_nil fun σ H Q ⟨B, F, ρ, b, E, e, q⟩ => by
  cases e
  exact q F H (.refl E.fh)
theorem dx_one (h : DT X c cb) : DX X [c] cb := pts_one h
theorem df_comp {scope : Scope} {own : List (Str × Nat)} {ifs : List Expr} {is : List Nat} {gg : EG} {it : EA} {ev : EV} (hc : X.calm = true) (hN : X.N.Nodup) (hi : DI X tg iter it) (ok : BlkOk X.N X.env.scope scope own)
    (hg : ∀ (s : Shared) (H : Hp) (C : Addr) (cl : List (Str × Addr)) (fp : List Addr), DG (X.blk s H scope (compEnvC scope cl C X.env) fp) tg is gg) (ht : ∀ (s : Shared) (H : Hp) (C : Addr) (cl : List (Str × Addr)) (fp : List Addr), DX (X.blk s H scope (compEnvC scope cl C X.env) fp) ifs cb)
    (he : ∀ (s : Shared) (H : Hp) (C : Addr) (cl : List (Str × Addr)) (fp : List Addr), DV (X.blk s H scope (compEnvC scope cl C X.env) fp) elt ev) (hv : ∀ i ∈ is, i ∈ own.map (·.2) := by decide) (hs : ∀ x, foldedSetIterable iter X.env x = pure x := by intro _; rfl) :
    DF X (.ListComp elt [⟨tg, iter, ifs, 0⟩] scope pos) (fComp it gg cb ev (own.map (·.2))) := peMono (pe_lc (g := tG X.K is gg) (tt := tT X.K cb) (te := tD X.K ev) hc hN hi ok hg ht he hs) fun _ _ _ q => tComp hv q
end
end DL

set_option Elab.async false
set_option linter.all false
set_option maxRecDepth 100000
set_option maxHeartbeats 4000000
namespace DL
open PySem PySem.Spec PyProof.Rows L2
/-! ### statements -/
/-- an exception: its class by name, its one field -/
structure XD where
  c : Str
  f : Str
  d : PyData
inductive SR where
  | nx (ρ : Rho) | rt (d : PyData) | bk (ρ : Rho) | ct (ρ : Rho) | xc (ρ : Rho) (x : XD)
abbrev ES := Rho → Option SR
def stOk (K : PySem.W.Frag) (F0 B F : Hp) (P : L2.St → Hp → Prop) (ρ : Rho) : Prop := ∀ σ' F' H', Grow F0 B F' H' → ER K B F' H' σ' ρ → Same F F' → P σ' H'
def postX (K : PySem.W.Frag) (F0 B F : Hp) (W : WX) (ρ : Rho) (x : XD) : Prop := ∀ σ' F' H' dd v, Grow F0 B F' H' → ER K B F' H' σ' ρ → Same F F' → H' dd = some (.xd [(x.f, v)]) → F' dd = none → B dd = none → Dp K F' v x.d → W (.ref (He.ga K x.c)) (some dd) σ' H'
def post (K : PySem.W.Frag) (F0 B F : Hp) (W : WX) (D : Ends) : SR → Prop
  | .xc ρ x => postX K F0 B F W ρ x
  | .nx ρ => stOk K F0 B F D.nx ρ
  | .bk ρ => stOk K F0 B F D.bk ρ
  | .ct ρ => stOk K F0 B F D.ct ρ
  | .rt d => ∀ v F' H', Grow F0 B F' H' → Dp K F' v d → D.rt v H'
theorem stOk.mono {K : PySem.W.Frag} {F0 B F F1 : Hp} {P : L2.St → Hp → Prop} {ρ : Rho} (h : stOk K F0 B F P ρ) (s : Same F F1) : stOk K F0 B F1 P ρ := fun σ' F' H' g e s' => h σ' F' H' g e (s.trans s')
theorem post.mono {K : PySem.W.Frag} {F0 B F F1 : Hp} {W : WX} {D : Ends} {r : SR} (h : post K F0 B F W D r) (s : Same F F1) : post K F0 B F1 W D r := by
  cases r with
  | nx ρ => exact stOk.mono h s
  | bk ρ => exact stOk.mono h s
  | ct ρ => exact stOk.mono h s
  | rt d => exact h
  | xc ρ x => exact fun σ' F' H' dd v g e s' => h σ' F' H' dd v g e (s.trans s')
def tS (K : PySem.W.Frag) (W : WX) (f : ES) : TS := fun D σ H => ∃ F0 B F ρ r, Grow F0 B F H ∧ ER K B F H σ ρ ∧ f ρ = some r ∧ post K F0 B F W D r
def DS (X : Cx) (st : Stmt) (f : ES) : Prop := ∀ W : WX, Takes X W → PS X st (tS X.K W f)
def DSs (X : Cx) (st : List Stmt) (f : ES) : Prop := ∀ W : WX, Takes X W → PSs X st (tS X.K W f)
theorem psMono {X : Cx} {st : Stmt} {t t' : TS} (h : PS X st t) (k : ∀ D σ H, t' D σ H → t D σ H) : PS X st t' := ⟨fun pins s σ H D I q => h.run pins s σ H D I (k _ _ _ q)⟩
theorem pssMono {X : Cx} {st : List Stmt} {t t' : TS} (h : PSs X st t) (k : ∀ D σ H, t' D σ H → t D σ H) : PSs X st t' := ⟨fun pins s σ H D I q => h.run pins s σ H D I (k _ _ _ q)⟩
def sNx : ES := fun ρ => some (.nx ρ)
def sBk : ES := fun ρ => some (.bk ρ)
def sCt : ES := fun ρ => some (.ct ρ)
def sSeq (f g : ES) : ES := fun ρ => (f ρ).bind fun r => match r with
  | .nx ρ' => g ρ'
  | r => some r
def sSet (i : Nat) (f : EV) : ES := fun ρ => (f ρ).bind fun d => some (.nx (ρ.set i (.va d)))
def sOwn (i : Nat) (f : EA) : ES := fun ρ => (f ρ).bind fun ds => some (.nx (ρ.set i (.ow ds)))
def sTo (g : EG) (f : EV) : ES := fun ρ => (f ρ).bind fun d => (g d ρ).bind fun ρ' => some (.nx ρ')
def sExp (f : EV) : ES := fun ρ => (f ρ).bind fun _ => some (.nx ρ)
def sApp (i : Nat) (f : EV) : ES := fun ρ => match ρ[i]? with
  | some (SC.ow ds) => (f ρ).bind fun d => if ds.length < 16000000 then some (.nx (ρ.set i (.ow (ds ++ [d])))) else none
  | _ => none
def sPut (i : Nat) (j f : EV) : ES := fun ρ => match ρ[i]? with
  | some (SC.ow ds) => (f ρ).bind fun d => (j ρ).bind fun x => match x with
    | .int k => (ixN ds.length k).bind fun n => some (.nx (ρ.set i (.ow (ds.set n d))))
    | _ => none
  | _ => none
def sIf (c : EB) (f g : ES) : ES := fun ρ => (c ρ).bind fun b => if b then f ρ else g ρ
def sRet (f : EV) : ES := fun ρ => (f ρ).bind fun d => some (.rt d)
def sRetN : ES := fun _ => some (.rt .none)
def sFrz (S : List Nat) (f : ES) : ES := fun ρ => f (frz S ρ)
def forL (g : EG) (f : ES) : List PyData → Rho → Option SR
  | [], ρ => some (.nx ρ)
  | d :: ds, ρ => (g d ρ).bind fun ρ1 => (f ρ1).bind fun r => match r with
    | .nx ρ' => forL g f ds ρ'
    | .ct ρ' => forL g f ds ρ'
    | .bk ρ' => some (.nx ρ')
    | .rt d => some (.rt d)
    | .xc ρ' x => some (.xc ρ' x)
def sFor (it : EA) (g : EG) (f : ES) : ES := fun ρ => (it ρ).bind fun ds => forL g f ds ρ
def whileF (c : EB) (f : ES) : Nat → Rho → Option SR
  | 0, _ => none
  | n + 1, ρ => (c ρ).bind fun b => if b then (f ρ).bind fun r => match r with
    | .nx ρ' => whileF c f n ρ'
    | .ct ρ' => whileF c f n ρ'
    | .bk ρ' => some (.nx ρ')
    | .rt d => some (.rt d)
    | .xc ρ' x => some (.xc ρ' x)
    else some (.nx ρ)
open Classical in
noncomputable def sWhile (c : EB) (f : ES) : ES := fun ρ => if h : ∃ n, (whileF c f n ρ).isSome then whileF c f h.choose ρ else none
theorem whileF_succ {c : EB} {f : ES} : ∀ {n : Nat} {ρ : Rho} {r : SR}, whileF c f n ρ = some r → whileF c f (n + 1) ρ = some r
  | 0, _, _, h => by cases h
  | n + 1, ρ, r, h => by
    unfold whileF at h ⊢
    obtain ⟨b, h1, h⟩ := Option.bind_eq_some_iff.mp h
    rw [h1]
    show (if b = true then _ else _) = some r
    cases b with
    | false => exact h
    | true =>
      rw [if_pos rfl] at h ⊢
      obtain ⟨q, h2, h⟩ := Option.bind_eq_some_iff.mp h
      rw [h2]
      cases q with
      | nx ρ' => exact whileF_succ h
      | ct ρ' => exact whileF_succ h
      | bk ρ' => exact h
      | rt d => exact h
      | xc ρ' x => exact h
theorem whileF_le {c : EB} {f : ES} {n m : Nat} {ρ : Rho} {r : SR} (h : whileF c f n ρ = some r) (l : n ≤ m) : whileF c f m ρ = some r := by
  obtain ⟨k, rfl⟩ := Nat.le.dest l
  induction k with
  | zero => exact h
  | succ k ih => exact whileF_succ (ih (Nat.le_add_right _ _))
theorem sWhile_of {c : EB} {f : ES} {n : Nat} {ρ : Rho} {r : SR} (h : whileF c f n ρ = some r) : sWhile c f ρ = some r := by
  have ex : ∃ n, (whileF c f n ρ).isSome := ⟨n, by rw [h]; rfl⟩
  unfold sWhile
  rw [dif_pos ex]
  obtain ⟨r', h'⟩ := Option.isSome_iff_exists.mp ex.choose_spec
  rw [h']
  by_cases l : n ≤ ex.choose
  · rw [whileF_le h l] at h'
    exact h'.symm
  · rw [whileF_le h' (by omega)] at h
    exact h
theorem sWhile_some {c : EB} {f : ES} {ρ : Rho} {r : SR} (h : sWhile c f ρ = some r) : ∃ n, whileF c f n ρ = some r := by
  unfold sWhile at h
  split at h
  · rename_i ex
    exact ⟨_, h⟩
  · cases h

section
variable {X : Cx} {tg a b c e iter : Expr} {es : List Expr} {st : Stmt} {sts ss : List Stmt} {f g f1 f2 : EV} {h : EA} {cb cb' : EB} {u u1 u2 : ES} {pos : Pos}
theorem dss_nil : DSs X [] sNx := fun W tk => pssMono pss_nil fun D σ H ⟨F0, B, F, ρ, r, G, E, e, p⟩ => by
  cases e
  exact p σ F H G E (.refl F)
theorem dss_cons (h1 : DS X st u1) (h2 : DSs X sts u2) : DSs X (st :: sts) (sSeq u1 u2) := fun W tk => pssMono (pss_cons (h1 W tk) (h2 W tk)) fun D σ H ⟨F0, B, F, ρ, r, G, E, e, p⟩ => by
  obtain ⟨r1, e1, e⟩ := bind_some e
  refine ⟨F0, B, F, ρ, r1, G, E, e1, ?_⟩
  cases r1 with
  | nx ρ' => exact fun σ' F' H' G' E' s => ⟨F0, B, F', ρ', r, G', E', e, p.mono s⟩
  | bk ρ' =>
    cases e
    exact p
  | ct ρ' =>
    cases e
    exact p
  | rt d =>
    cases e
    exact p
  | xc ρ' x =>
    cases e
    exact p
theorem dss_one (h1 : DS X st u1) : DSs X [st] u1 := fun W tk => pss_one (h1 W tk)
theorem ds_pass : DS X (.Pass pos) sNx := fun W tk => psMono ps_pass fun D σ H ⟨F0, B, F, ρ, r, G, E, e, p⟩ => by
  cases e
  exact p σ F H G E (.refl F)
theorem ds_break : DS X (.Break pos) sBk := fun W tk => psMono ps_break fun D σ H ⟨F0, B, F, ρ, r, G, E, e, p⟩ => by
  cases e
  exact p σ F H G E (.refl F)
theorem ds_continue : DS X (.Continue pos) sCt := fun W tk => psMono ps_continue fun D σ H ⟨F0, B, F, ρ, r, G, E, e, p⟩ => by
  cases e
  exact p σ F H G E (.refl F)
theorem setOfV {i : Nat} {te : TE} (h : PS X st (tAsg te (gName i))) (k : ∀ σ H Q, tD X.K f σ H Q → te σ H Q) : DS X st (sSet i f) := fun W tk => psMono h fun D σ H ⟨F0, B, F, ρ, r, G, E, e, p⟩ => by
  obtain ⟨d, e1, e⟩ := bind_some e
  cases e
  exact k _ _ _ ⟨B, F, ρ, d, E, e1, fun v F' H' G' r' => p _ F' H' (G.trans G') ((E.grow G').setVa r') G'.ff⟩
theorem setOfF {i : Nat} {te : TE} (h1 : PS X st (tAsg te (gName i))) (k : ∀ σ H Q, tF X.K h σ H Q → te σ H Q) : DS X st (sOwn i h) := fun W tk => psMono h1 fun D σ H ⟨F0, B, F, ρ, r, G, E, e, p⟩ => by
  obtain ⟨ds, e1, e⟩ := bind_some e
  cases e
  refine k _ _ _ ⟨B, F, ρ, ds, E, e1, fun l vs F' H' G' n1 n2 h3 r' => p _ F' H' (G.trans G') ((E.grow G').setOw n2 (G.hh.free n1) h3 r' fun j k hj q => ?_) G'.ff⟩
  obtain ⟨_, _, ws, q4⟩ := E.at_ (q.back E fun a o _ h => G'.hh a o h)
  rw [n1] at q4
  cases q4
theorem ds_set {i : Nat} {x : Str} {pos' : Pos} (hN : X.N.Nodup) (hi : X.N[i]? = some x) (hx : Loc X.env.scope x) (he : DV X e f) (hs : swapsWith e (some (.Name x pos')) pos.line X.env = pure false := by rfl) (hf : X.fn x = true ∨ X.env.scope.names.lookup x = some .local := by first | exact .inl rfl | exact .inr rfl | assumption) :
    DS X (.Assign [.Name x pos'] e pos) (sSet i f) := setOfV (ps_set hN hi hx he hs hf) fun _ _ _ q => q
theorem ds_own {i : Nat} {x : Str} {pos' : Pos} (hN : X.N.Nodup) (hi : X.N[i]? = some x) (hx : Loc X.env.scope x) (he : DF X e h) (hs : swapsWith e (some (.Name x pos')) pos.line X.env = pure false := by rfl) (hf : X.fn x = true ∨ X.env.scope.names.lookup x = some .local := by first | exact .inl rfl | exact .inr rfl | assumption) :
    DS X (.Assign [.Name x pos'] e pos) (sOwn i h) := setOfF (ps_set hN hi hx he hs hf) fun _ _ _ q => q
/-- x = [.. for ..], x no cell -/
theorem ds_lc {i : Nat} {y : Str} {py : Pos} {elt : Expr} {spos : Pos} {scope : Scope} {own : List (Str × Nat)} {ifs : List Expr} {is : List Nat} {gg : EG} {it : EA} {ev : EV} (hc : X.calm = true) (hN : X.N.Nodup) (hy : X.N[i]? = some y) (hyl : X.env.scope.names.lookup y = some .local)
    (hsw : swapsWith (.ListComp elt [⟨tg, iter, ifs, 0⟩] scope pos) (some (.Name y py)) spos.line X.env = pure true) (hi : DI X tg iter it) (ok : BlkOk X.N X.env.scope scope own)
    (hg : ∀ (s : Shared) (H : Hp) (C : Addr) (cl : List (Str × Addr)) (fp : List Addr), DG (X.blk s H scope (compEnvC scope cl C X.env) fp) tg is gg) (ht : ∀ (s : Shared) (H : Hp) (C : Addr) (cl : List (Str × Addr)) (fp : List Addr), DX (X.blk s H scope (compEnvC scope cl C X.env) fp) ifs cb)
    (he : ∀ (s : Shared) (H : Hp) (C : Addr) (cl : List (Str × Addr)) (fp : List Addr), DV (X.blk s H scope (compEnvC scope cl C X.env) fp) elt ev) (hv : ∀ i ∈ is, i ∈ own.map (·.2) := by decide) (hs : ∀ x, foldedSetIterable iter X.env x = pure x := by intro _; rfl) :
    DS X (.Assign [.Name y py] (.ListComp elt [⟨tg, iter, ifs, 0⟩] scope pos) spos) (sOwn i (fComp it gg cb ev (own.map (·.2)))) :=
  setOfF (ps_setLc (g := tG X.K is gg) (tt := tT X.K cb) (te := tD X.K ev) hc hN hy hyl hsw hi ok hg ht he hs) fun _ _ _ q => tComp hv q
theorem ds_to {is : List Nat} {gg : EG} (he : DV X e f) (hg : DG X tg is gg) (hs : swapsWithSole [tg] e pos.line X.env = pure false := by rfl) (hw : swappedStores [tg] e X.env = pure none := by rfl)
    (h1 : (assignEach [tg] X.env).map (·.2) = [assign tg X.env] := by rfl) : DS X (.Assign [tg] e pos) (sTo gg f) := fun W tk => psMono (ps_asg he hg hs hw h1) fun D σ H ⟨F0, B, F, ρ, r, G, E, e, p⟩ => by
  obtain ⟨d, e1, e⟩ := bind_some e
  obtain ⟨ρ', e2, e⟩ := bind_some e
  cases e
  exact ⟨B, F, ρ, d, E, e1, fun v F' H' G' r' => ⟨B, F', ρ, d, ρ', E.grow G', r', e2, fun σ' E' _ _ => p σ' F' H' (G.trans G') E' G'.ff⟩⟩
theorem ds_expr (he : DV X e f) (hs : swapsWith e none pos.line X.env = pure false := by rfl) : DS X (.Expr e pos) (sExp f) := fun W tk => psMono (ps_expr he hs) fun D σ H ⟨F0, B, F, ρ, r, G, E, e, p⟩ => by
  obtain ⟨d, e1, e⟩ := bind_some e
  cases e
  exact ⟨B, F, ρ, d, E, e1, fun v F' H' G' _ => p σ F' H' (G.trans G') (E.grow G') G'.ff⟩
theorem ownUpd {K : PySem.W.Frag} {F0 B F H : Hp} {σ : L2.St} {ρ : Rho} {i : Nat} {ds es : List PyData} {l : Addr} {ws : List V} (G : Grow F0 B F H) (E : ER K B F H σ ρ) (hρ : ρ[i]? = some (.ow ds)) (hl : σ[i]? = some (some (.ref l))) (r : DpAll K F ws es) :
    Grow F0 B F (upd H l (.lst ws)) ∧ ER K B F (upd H l (.lst ws)) σ (ρ.set i (.ow es)) := by
  obtain ⟨a, vs, q1, q2, q3, q4, q5⟩ := E.ow i ds hρ
  rw [hl] at q1
  cases q1
  have pl : AtP H σ ρ i none l := .inl ⟨ds, hρ, hl⟩
  have fh : Same F (upd H l (.lst ws)) := fun b o z => by
    rw [upd_ne (fun y => by rw [y, q2] at z; cases z)]
    exact E.fh b o z
  have hi : i < ρ.length := by
    by_cases hi : i < ρ.length
    · exact hi
    · rw [List.getElem?_eq_none (by simpa using hi)] at hρ
      cases hρ
  have ne : ∀ {j k c}, j ≠ i → AtP H σ ρ j k c → c ≠ l := fun hj p z => by
    subst z
    exact hj (E.dj _ _ _ _ _ p pl).1
  have back : ∀ {j k c}, AtP (upd H l (.lst ws)) σ (ρ.set i (.ow es)) j k c → AtP H σ ρ j k c := by
    intro j k c p
    by_cases hj : j = i
    · subst hj
      cases k with
      | none =>
        rcases p with ⟨_, _, e⟩ | ⟨_, e, _⟩
        · exact .inl ⟨ds, hρ, e⟩
        · cases setIn e
      | some k =>
        obtain ⟨_, _, _, e, _⟩ := p
        cases setIn e
    · cases k with
      | none =>
        rcases p with ⟨d, e, e2⟩ | ⟨d, e, e2⟩
        · rw [List.getElem?_set_ne (Ne.symm hj)] at e
          exact .inl ⟨d, e, e2⟩
        · rw [List.getElem?_set_ne (Ne.symm hj)] at e
          exact .inr ⟨d, e, e2⟩
      | some k =>
        obtain ⟨d, b, as, e, e2, e3, e4⟩ := p
        rw [List.getElem?_set_ne (Ne.symm hj)] at e
        rw [upd_ne (ne hj (k := none) (.inr ⟨d, e, e2⟩))] at e3
        exact ⟨d, b, as, e, e2, e3, e4⟩
  refine ⟨⟨G.ff, fh, fun b o z => ?_, G.nn⟩, fh, by rw [List.length_set]; exact E.len, fun j d z => ?_, fun j d z => ?_, fun j d z => ?_, fun i' j k l' c p q => E.dj i' j k l' c (back p) (back q)⟩
  · rw [upd_ne (fun y => by rw [y, q3] at z; cases z)]
    exact G.hh b o z
  · by_cases hj : i = j
    · subst hj
      rw [List.getElem?_set_self hi] at z
      cases z
    · rw [List.getElem?_set_ne hj] at z
      exact E.va j d z
  · by_cases hj : i = j
    · subst hj
      rw [List.getElem?_set_self hi] at z
      cases z
      exact ⟨l, ws, hl, q2, q3, upd_same, r⟩
    · rw [List.getElem?_set_ne hj] at z
      obtain ⟨a, vs, p1, p2, p3, p4, p5⟩ := E.ow j d z
      exact ⟨a, vs, p1, p2, p3, by rw [upd_ne (ne (Ne.symm hj) (k := none) (.inl ⟨d, z, p1⟩))]; exact p4, p5⟩
  · by_cases hj : i = j
    · subst hj
      rw [List.getElem?_set_self hi] at z
      cases z
    · rw [List.getElem?_set_ne hj] at z
      obtain ⟨a, as, p1, p2, p3, p4, p5, p6⟩ := E.oo j d z
      refine ⟨a, as, p1, p2, p3, by rw [upd_ne (ne (Ne.symm hj) (k := none) (.inr ⟨d, z, p1⟩))]; exact p4, p5, fun k b ds' e1 e2 => ?_⟩
      obtain ⟨r1, r2, vs, r3, r4⟩ := p6 k b ds' e1 e2
      exact ⟨r1, r2, vs, by rw [upd_ne (ne (Ne.symm hj) (k := some k) ⟨d, a, as, z, p1, p4, e1⟩)]; exact r3, r4⟩
theorem ds_app {i : Nat} {x : Str} {px apos cpos : Pos} (hx : PE X (.Name x px) (tVar i)) (he : DV X e f) (hsw : swapsWith (.Call (.Attribute (.Name x px) "append" apos) [e] [] cpos) none pos.line X.env = pure false := by rfl)
    (hbase : attributeBase (.Name x px) "append" X.env (eval (.Name x px) X.env) = eval (.Name x px) X.env := by rfl)
    (hfew : ((backTo cpos (starEach [e] X.env)).all (fun x => !x.1) && (backToKw cpos (keywordEach [] X.env)).all (fun x => x.1.isSome)
      && decide (([e] : List Expr).length + ([] : List Keyword).length + (if ([] : List Keyword).isEmpty then 0 else 1) < 30)) = true := by rfl)
    (hline : (apos.endLine == cpos.line) = true := by rfl) (hs : starEach [e] X.env = (false, eval e X.env) :: starEach [] X.env := by rfl) (hplain : (backTo cpos (starEach [] X.env)).any (·.1) = false := by rfl) :
    DS X (.Expr (.Call (.Attribute (.Name x px) "append" apos) [e] [] cpos) pos) (sApp i f) :=
  fun W tk => psMono (ps_expr (pe_bm PySem.F.plainAttrs_list PySem.F.slot_list_append PySem.F.type_list_append mt_append hx (pa_cons he pa_nil hs) hbase hfew hline hs hplain) hsw) fun D σ H ⟨F0, B, F, ρ, r, G, E, e, p⟩ => by
    unfold sApp at e
    split at e
    · rename_i ds hρ
      obtain ⟨d, e1, e⟩ := bind_some e
      split at e
      · rename_i hz
        cases e
        obtain ⟨l, vs, q1, q2, q3, q4, q5⟩ := E.ow i ds hρ
        refine ⟨.ref l, q1, .inl ⟨rfl, _, .inl (.inl q4)⟩, B, F, ρ, d, E, e1, fun v F' H' G' r' => ⟨l, vs, v, rfl, rfl, G'.hh _ _ q4, by rw [dpLen q5]; exact Nat.lt_trans hz (by decide), ?_⟩⟩
        obtain ⟨G2, E2⟩ := ownUpd (G.trans G') (E.grow G') hρ q1 (dpApp (dpMonoAll G'.ff _ _ q5) (.cons r' .nil))
        exact p σ F' _ G2 E2 G'.ff
      · cases e
    · cases e
theorem ds_put {i : Nat} {x : Str} {px tpos : Pos} (hx : PE X (.Name x px) (tVar i)) (hb : DV X b g) (he : DV X e f) (hs : swapsWithSole [.Subscript (.Name x px) b tpos] e pos.line X.env = pure false := by rfl) (hw : swappedStores [.Subscript (.Name x px) b tpos] e X.env = pure none := by rfl)
    (h1 : (assignEach [.Subscript (.Name x px) b tpos] X.env).map (·.2) = [assign (.Subscript (.Name x px) b tpos) X.env] := by rfl)
    (hgs : PG X (.Subscript (.Name x px) b tpos) (L2.gSub (tVar i) (tD X.K g) rSetL)) : DS X (.Assign [.Subscript (.Name x px) b tpos] e pos) (sPut i g f) :=
  fun W tk => psMono (ps_asg he hgs hs hw h1) fun D σ H ⟨F0, B, F, ρ, r, G, E, e, p⟩ => by
    unfold sPut at e
    split at e
    · rename_i ds hρ
      obtain ⟨d, e1, e⟩ := bind_some e
      obtain ⟨dx, e2, e⟩ := bind_some e
      obtain ⟨l, vs, q1, q2, q3, q4, q5⟩ := E.ow i ds hρ
      refine ⟨B, F, ρ, d, E, e1, fun v F' H' G' r' => ⟨.ref l, q1, B, F', ρ, dx, E.grow G', e2, fun y F2 H2 G2 r2 => ?_⟩⟩
      cases dx with
      | int k =>
        cases r2
        obtain ⟨n, e3, e⟩ := bind_some e
        cases e
        have GG := G'.trans G2
        have q6 := dpMonoAll GG.ff _ _ q5
        refine ⟨l, vs, k, n, rfl, rfl, GG.hh _ _ q4, by rw [dpLen q5]; exact e3, ?_⟩
        obtain ⟨G3, E3⟩ := ownUpd (G.trans GG) (E.grow GG) hρ q1 (dpSet n q6 (dpMono G2.ff _ _ r'))
        exact p σ F2 _ G3 E3 GG.ff
      | _ => cases e
    · cases e
theorem ds_if (hc : DT X c cb) (ha : DSs X sts u1) (hb : DSs X ss u2) : DS X (.If c sts ss pos) (sIf cb u1 u2) := fun W tk => psMono (ps_if hc (ha W tk) (hb W tk)) fun D σ H ⟨F0, B, F, ρ, r, G, E, e, p⟩ => by
  obtain ⟨k, e1, e⟩ := bind_some e
  refine ⟨B, F, ρ, k, E, e1, fun F' H' G' => ?_⟩
  cases k with
  | true =>
    rw [if_pos rfl] at e ⊢
    exact ⟨F0, B, F', ρ, r, G.trans G', E.grow G', e, p.mono G'.ff⟩
  | false =>
    rw [if_neg (by simp)] at e ⊢
    exact ⟨F0, B, F', ρ, r, G.trans G', E.grow G', e, p.mono G'.ff⟩
theorem ds_ret (he : DV X e f) : DS X (.Return (some e) pos) (sRet f) := fun W tk => psMono (ps_ret he) fun D σ H ⟨F0, B, F, ρ, r, G, E, e, p⟩ => by
  obtain ⟨d, e1, e⟩ := bind_some e
  cases e
  exact ⟨B, F, ρ, d, E, e1, fun v F' H' G' r' => p v F' H' (G.trans G') r'⟩
theorem ds_retN : DS X (.Return none pos) sRetN := fun W tk => psMono ps_retN fun D σ H ⟨F0, B, F, ρ, r, G, E, e, p⟩ => by
  cases e
  exact p .non F H G .non
theorem ds_frz {S : List Nat} (h1 : DS X st u) : DS X st (sFrz S u) := fun W tk => psMono (h1 W tk) fun D σ H ⟨F0, B, F, ρ, r, G, E, e, p⟩ => by
  obtain ⟨F1, s1, E1, n1⟩ := E.frz S
  exact ⟨F0, B, F1, DL.frz S ρ, r, ⟨G.ff.trans s1, E1.fh, G.hh, fun a o z n => n1 a o z (G.nn a o z n)⟩, E1, e, p.mono s1⟩
theorem ds_for {is : List Nat} {gg : EG} (hp : PassesOwn (model X.prog X.w) X.A X.env X.xe) (hc : X.calm = true) (hi : DI X tg iter h) (hg : DG X tg is gg) (hb : DSs X sts u) (hs : ∀ x, foldedSetIterable iter X.env x = pure x := by intro _; rfl) : DS X (.For tg iter sts [] pos) (sFor h gg u) :=
  fun W tk => psMono (ps_for hp hc hi hg (hb W tk) hs) fun D σ H ⟨F0, B, F, ρ, r, G, E, e, p⟩ => by
    obtain ⟨ds, e1, e⟩ := bind_some e
    refine ⟨B, F, ρ, ds, E, e1, fun J F1 H1 G1 Y => ⟨fun i m σ2 H2 => m = ds.length - i ∧ i ≤ ds.length ∧ ∃ F2 ρ2, Grow F0 B F2 H2 ∧ ER X.K B F2 H2 σ2 ρ2 ∧ Same F1 F2 ∧ forL gg u (ds.drop i) ρ2 = some r, ⟨ds.length, by simp, Nat.zero_le _, F1, ρ, G.trans G1, E.grow G1, .refl F1, e⟩, ?_⟩⟩
    rintro i m σ2 H2 ⟨rfl, hi, F2, ρ2, G2, E2, s2, e2⟩
    by_cases hlt : i < ds.length
    · refine .inr ⟨Y.go i H2 hlt (s2.trans E2.fh), fun σ' H' => ∃ F2 ρ2, Grow F0 B F2 H' ∧ ER X.K B F2 H' σ' ρ2 ∧ Same F1 F2 ∧ forL gg u (ds.drop (i + 1)) ρ2 = some r, fun σ' H' p' => ⟨ds.length - (i + 1), by omega, rfl, hlt, p'⟩, fun x H3 y => ?_⟩
      obtain ⟨d, F3, hd, G3, r3⟩ := Y.yld i H2 x H3 F2 hlt s2 E2.fh y
      have ed : ds.drop i = d :: ds.drop (i + 1) := by
        rw [List.drop_eq_getElem_cons hlt]
        rw [List.getElem?_eq_getElem hlt] at hd
        cases hd
        rfl
      rw [ed] at e2
      obtain ⟨ρ3, c1, e2⟩ := bind_some e2
      obtain ⟨r4, c2, e2⟩ := bind_some e2
      refine ⟨B, F3, ρ2, d, ρ3, E2.grow G3, r3, c1, fun σ3 E3 _ _ => ⟨F0, B, F3, ρ3, r4, G2.trans G3, E3, c2, ?_⟩⟩
      have s3 : Same F1 F3 := s2.trans G3.ff
      cases r4 with
      | nx ρ' => exact fun σ' F' H' G' E' s => ⟨F', ρ', G', E', s3.trans s, e2⟩
      | ct ρ' => exact fun σ' F' H' G' E' s => ⟨F', ρ', G', E', s3.trans s, e2⟩
      | bk ρ' =>
        cases e2
        exact fun σ' F' H' G' E' s => p σ' F' H' G' E' (G1.ff.trans (s3.trans s))
      | rt d =>
        cases e2
        exact p
      | xc ρ' x =>
        cases e2
        exact fun σ' F' H' dd v G' E' s => p σ' F' H' dd v G' E' (G1.ff.trans (s3.trans s))
    · have ei : i = ds.length := by omega
      subst ei
      rw [List.drop_length] at e2
      cases e2
      exact .inl ⟨Y.stop H2 (s2.trans E2.fh), p σ2 F2 H2 G2 E2 (G1.ff.trans s2)⟩
theorem ds_while (hp : PassesOwn (model X.prog X.w) X.A X.env X.xe) (hc : DT X c cb) (hb : DSs X sts u) : DS X (.While c sts [] pos) (sWhile cb u) :=
  fun W tk => psMono (ps_while hp hc (hb W tk)) fun D σ H ⟨F0, B, F, ρ, r, G, E, e, p⟩ => by
    obtain ⟨n, e⟩ := sWhile_some e
    refine ⟨fun m σ2 H2 => ∃ F2 ρ2, Grow F0 B F2 H2 ∧ ER X.K B F2 H2 σ2 ρ2 ∧ Same F F2 ∧ whileF cb u m ρ2 = some r, ⟨n, F, ρ, G, E, .refl F, e⟩, ?_⟩
    rintro m σ2 H2 ⟨F2, ρ2, G2, E2, s2, e2⟩
    cases m with
    | zero => cases e2
    | succ m =>
      obtain ⟨k, e3, e2⟩ := Option.bind_eq_some_iff.mp e2
      refine ⟨B, F2, ρ2, k, E2, e3, fun F3 H3 G3 => ?_⟩
      cases k with
      | false =>
        rw [if_neg (by simp)] at e2 ⊢
        cases e2
        exact p σ2 F3 H3 (G2.trans G3) (E2.grow G3) (s2.trans G3.ff)
      | true =>
        rw [if_pos rfl] at e2 ⊢
        obtain ⟨r4, e4, e2⟩ := Option.bind_eq_some_iff.mp e2
        refine ⟨fun σ' H' => ∃ F2 ρ2, Grow F0 B F2 H' ∧ ER X.K B F2 H' σ' ρ2 ∧ Same F F2 ∧ whileF cb u m ρ2 = some r, fun σ' H' p' => ⟨m, Nat.lt_succ_self _, p'⟩, F0, B, F3, ρ2, r4, G2.trans G3, E2.grow G3, e4, ?_⟩
        have s3 : Same F F3 := s2.trans G3.ff
        cases r4 with
        | nx ρ' => exact fun σ' F' H' G' E' s => ⟨F', ρ', G', E', s3.trans s, e2⟩
        | ct ρ' => exact fun σ' F' H' G' E' s => ⟨F', ρ', G', E', s3.trans s, e2⟩
        | bk ρ' =>
          cases e2
          exact fun σ' F' H' G' E' s => p σ' F' H' G' E' (s3.trans s)
        | rt d =>
          cases e2
          exact p
        | xc ρ' x =>
          cases e2
          exact fun σ' F' H' dd v G' E' s => p σ' F' H' dd v G' E' (s3.trans s)
end
/-! ### a def -/
def runD (k : Nat) (u : ES) : List PyData → Option PyData := fun ds => (u (ds.map SC.va ++ List.replicate k SC.un)).bind fun r => match r with
  | .rt d => some d
  | .nx _ => some .none
  | _ => none
abbrev FnP (K : PySem.W.Frag) (x : Str) (st : Stmt) (f : Addr) (fd : FuncData) : Prop := FunD K x x (defArgs st) (defBody st) (defScope st) [] [] f fd
theorem fnOk {P : Program} {w : World} {K : PySem.W.Frag} {mg : Str → Option Value} {base : Heap} {x : Str} {st : Stmt} {fa : Addr} {fd : FuncData} {N ps : List Str} {u : ES} {k n m : Nat} (F : FnP K x st fa fd) (S : FnScope N ps (defScope st)) (hn : ps.length = n) (hm : N.length - n = m)
    (hbody : ∀ (cdv : Value) (A : Around) (outer : List Env) (s : Shared) (H : Hp) (E : XK), Room k (A.deeper (envOfC x (defScope st) s.heap.objs.size fa cdv)) → DSs (cxOf CX0 P w K mg base N x (defScope st) fa cdv A outer s H E).nox (defBody st) u) :
    FnOk P w K mg base CX0 (k + 1) fa fd ps (spD K n (runD m u)) := by
  subst hn hm
  refine F.ok S (fun vs H Q E h => h.1) fun cdv A outer s H vs Q E hr h => ⟨_, (hbody cdv A outer s H E hr (fun _ _ _ _ => False) takes0).nox, ?_⟩
  obtain ⟨hl, F1, ds, d, s1, r, e, q⟩ := h
  obtain ⟨r1, e1, e2⟩ := bind_some e
  refine ⟨F1, H, F1, _, r1, .refl s1, .start s1 r, ?_, ?_⟩
  · rw [hl]
    exact e1
  · cases r1 with
    | rt d' =>
      cases e2
      exact fun v F' H' G r' => q v F' H' G r'
    | nx ρ =>
      cases e2
      exact fun σ' F' H' G E' _ => q .non F' H' G .non
    | bk ρ => cases e2
    | ct ρ => cases e2
    | xc ρ x => cases e2
end DL

set_option Elab.async false
set_option linter.all false
set_option maxRecDepth 100000
set_option maxHeartbeats 4000000
namespace DL
open PySem PySem.Spec PyProof.Rows L2
section
variable {X : Cx} {tg a b c e iter : Expr} {es : List Expr} {st : Stmt} {f g f1 f2 : EV} {h : EA} {cb cb' : EB} {pos : Pos}
/-! ### slices -/
abbrev EO := Rho → Option (Option Int)
def tO (K : PySem.W.Frag) (f : EO) : TO := fun σ H Q => ∃ B F ρ o, ER K B F H σ ρ ∧ f ρ = some o ∧ ∀ F' H', Grow F H F' H' → Q o H'
def DO (X : Cx) (e : Option Expr) (f : EO) : Prop := PO X e (tO X.K f)
theorem poMono {o : Option Expr} {t t' : TO} (h : PO X o t) (k : ∀ σ H Q, t' σ H Q → t σ H Q) : PO X o t' := ⟨fun pins s σ H Q I q => h.run pins s σ H Q I (k _ _ _ q)⟩
def oNone : EO := fun _ => some none
def oSome (f : EV) : EO := fun ρ => (f ρ).bind fun d => match d with
  | .int i => some (some i)
  | _ => none
theorem do_none : DO X none oNone := poMono po_none fun σ H Q ⟨B, F, ρ, o, E, e, q⟩ => by
  cases e
  exact q F H (.refl E.fh)
theorem do_some (h : DV X a f) : DO X (some a) (oSome f) := poMono (po_some h) fun σ H Q ⟨B, F, ρ, o, E, e, q⟩ => by
  obtain ⟨d, e1, e2⟩ := bind_some e
  refine ⟨B, F, ρ, d, E, e1, fun v F' H' G r => ?_⟩
  cases d with
  | int i =>
    cases r
    cases e2
    exact ⟨i, rfl, q F' H' G⟩
  | _ => cases e2
def cutD {α : Type} (xs : List α) (lo hi : Option Int) : List α := (xs.drop (HT.sIx xs.length 0 lo)).take (HT.sIx xs.length xs.length hi - HT.sIx xs.length 0 lo)
theorem dpCut {K : PySem.W.Frag} {H : Hp} {vs : List V} {ds : List PyData} (r : DpAll K H vs ds) (lo hi : Option Int) : DpAll K H (cutV vs lo hi) (cutD ds lo hi) := by
  unfold cutV cutD
  rw [dpLen r]
  exact dpTake _ (dpDrop _ r)
def gSl (x : PyData) (lo hi : Option Int) : Option PyData := match x with
  | .list ds => some (.list (cutD ds lo hi))
  | .tuple ds => if HT.sIx ds.length 0 lo = 0 ∧ HT.sIx ds.length ds.length hi = ds.length then none else some (.tuple (cutD ds lo hi))
  | _ => none
def eSl (f : EV) (lo hi : EO) : EV := fun ρ => (f ρ).bind fun x => (lo ρ).bind fun l => (hi ρ).bind fun u => gSl x l u
theorem dv_sl {lo hi : Option Expr} {l u : EO} {p2 : Pos} (he : DV X e f) (hl : DO X lo l) (hu : DO X hi u) : DV X (.Subscript e (.Slice lo hi none p2) pos) (eSl f l u) :=
  peMono (pe_slice (sl_list.or sl_tup) he hl hu) fun σ H Q ⟨B, F, ρ, d, E, e, q⟩ => by
    obtain ⟨x, e1, e⟩ := bind_some e
    obtain ⟨lo, e2, e⟩ := bind_some e
    obtain ⟨hi, e3, e⟩ := bind_some e
    refine ⟨B, F, ρ, x, E, e1, fun v F1 H1 G1 r1 => ⟨B, F1, ρ, lo, E.grow G1, e2, fun F2 H2 G2 => ⟨B, F2, ρ, hi, (E.grow G1).grow G2, e3, fun F3 H3 G3 => ?_⟩⟩⟩
    have r3 := dpMono (G2.ff.trans G3.ff) _ _ r1
    have GG := G1.trans (G2.trans G3)
    unfold gSl at e
    split at e
    · cases e
      cases r3 with
      | lst hs ha => exact .inl ⟨_, _, rfl, G3.fh.seq hs, fun p np => q _ _ _ (GG.trans (.new G3.fh np)) (.lst (.inl (.inl upd_same)) (dpMonoAll (sameUpd (G3.fh.free np)) _ _ (dpCut ha lo hi)))⟩
    · split at e
      · cases e
      · rename_i hw
        cases e
        cases r3 with
        | tup hs ha => exact .inr ⟨_, _, rfl, sameT G3.fh hs, by rw [dpLen ha]; exact hw, fun p np => q _ _ _ (GG.trans (.new G3.fh np)) (.tup (.inl (.inl upd_same)) (dpMonoAll (sameUpd (G3.fh.free np)) _ _ (dpCut ha lo hi)))⟩
    · cases e
/-- a slice of a list, to be one's own -/
def fSl (f : EV) (lo hi : EO) : EA := fun ρ => (f ρ).bind fun x => (lo ρ).bind fun l => (hi ρ).bind fun u => match x with
  | .list ds => some (cutD ds l u)
  | _ => none
theorem df_sl {lo hi : Option Expr} {l u : EO} {p2 : Pos} (he : DV X e f) (hl : DO X lo l) (hu : DO X hi u) : DF X (.Subscript e (.Slice lo hi none p2) pos) (fSl f l u) :=
  peMono (pe_slice sl_list he hl hu) fun σ H Q ⟨B, F, ρ, d, E, e, q⟩ => by
    obtain ⟨x, e1, e⟩ := bind_some e
    obtain ⟨lo, e2, e⟩ := bind_some e
    obtain ⟨hi, e3, e⟩ := bind_some e
    refine ⟨B, F, ρ, x, E, e1, fun v F1 H1 G1 r1 => ⟨B, F1, ρ, lo, E.grow G1, e2, fun F2 H2 G2 => ⟨B, F2, ρ, hi, (E.grow G1).grow G2, e3, fun F3 H3 G3 => ?_⟩⟩⟩
    have r3 := dpMono (G2.ff.trans G3.ff) _ _ r1
    have GG := G1.trans (G2.trans G3)
    split at e
    · cases e
      cases r3 with
      | lst hs ha => exact ⟨_, _, rfl, G3.fh.seq hs, fun p np => q p _ F3 _ (GG.trans (.side G3.fh np)) (GG.hh.free np) (G3.fh.free np) upd_same (dpCut ha lo hi)⟩
    · cases e
/-! ### is of bools -/
def gIsB : PyData → PyData → Option PyData
  | .bool a, .bool b => some (.bool (decide (a = b)))
  | _, _ => none
def gIsntB : PyData → PyData → Option PyData
  | .bool a, .bool b => some (.bool !(decide (a = b)))
  | _, _ => none
theorem o_isB : OpR X (compareOp .Is) (rG X.K gIsB) := opMono op_isBl fun x y H Q ⟨F, dx, dy, d, s, rx, ry, e, q⟩ => by
  cases dx <;> cases dy <;> try cases e
  cases rx
  cases ry
  exact ⟨_, _, rfl, rfl, q _ F H (.refl s) (.bl _)⟩
theorem o_isntB : OpR X (compareOp .IsNot) (rG X.K gIsntB) := opMono op_notBl fun x y H Q ⟨F, dx, dy, d, s, rx, ry, e, q⟩ => by
  cases dx <;> cases dy <;> try cases e
  cases rx
  cases ry
  exact ⟨_, _, rfl, rfl, q _ F H (.refl s) (.bl _)⟩
/-! ### max, min, isqrt -/
theorem three_of {K : PySem.W.Frag} {F : Hp} {vs : List V} {d e f : PyData} (r : DpAll K F vs [d, e, f]) : ∃ v u w, vs = [v, u, w] ∧ Dp K F v d ∧ Dp K F u e ∧ Dp K F w f := by
  cases r with
  | cons a b =>
    obtain ⟨u, w, rfl, r1, r2⟩ := two_of b
    exact ⟨_, u, w, rfl, a, r1, r2⟩
def mMax3 : List PyData → Option PyData
  | [.int i, .int j, .int k] => some (.int (if (if i < j then j else i) < k then k else (if i < j then j else i)))
  | _ => none
def mMin3 : List PyData → Option PyData
  | [.int i, .int j, .int k] => some (.int (if k < (if j < i then j else i) then k else (if j < i then j else i)))
  | _ => none
theorem c_max3 (hc : X.calm = true) : CallR X (.builtin "max") (rGA X.K mMax3) := clMono (call_max3Nu hc) fun xs H Q ⟨F, ds, d, s, r, e, q⟩ => by
  unfold mMax3 at e
  split at e
  · rename_i i j k
    cases e
    obtain ⟨v, u, w, rfl, rv, ru, rw'⟩ := three_of r
    cases rv
    cases ru
    cases rw'
    refine ⟨_, _, _, _, rfl, ?_, q _ F H (.refl s) (.int _)⟩
    simp only [nuMax3, nuMax2, nuLt, nuCB, Option.map_some, Option.bind_some]
    by_cases c1 : i < j
    · simp only [c1, decide_true, if_true, Option.map_some]
      by_cases c2 : j < k <;> simp [c2]
    · by_cases c2 : i < k <;> simp [c1, c2]
  · cases e
theorem c_min3 (hc : X.calm = true) : CallR X (.builtin "min") (rGA X.K mMin3) := clMono (call_min3Nu hc) fun xs H Q ⟨F, ds, d, s, r, e, q⟩ => by
  unfold mMin3 at e
  split at e
  · rename_i i j k
    cases e
    obtain ⟨v, u, w, rfl, rv, ru, rw'⟩ := three_of r
    cases rv
    cases ru
    cases rw'
    refine ⟨_, _, _, _, rfl, ?_, q _ F H (.refl s) (.int _)⟩
    simp only [nuMin3, nuMin2, nuLt, nuCB, Option.map_some, Option.bind_some]
    by_cases c1 : j < i
    · simp only [c1, decide_true, if_true, Option.map_some]
      by_cases c2 : k < j <;> simp [c2]
    · by_cases c2 : k < i <;> simp [c1, c2]
  · cases e
/-- ints of a list of data -/
def intsOf : List PyData → Option (List Int)
  | [] => some []
  | .int i :: r => (intsOf r).map (i :: ·)
  | _ => none
theorem dpInts {K : PySem.W.Frag} {F : Hp} : ∀ {ds : List PyData} {ns : List Int} {vs : List V}, intsOf ds = some ns → DpAll K F vs ds → vs = ns.map V.int
  | [], ns, vs, e, r => by
    cases e
    cases r
    rfl
  | d :: ds, ns, vs, e, r => by
    cases d with
    | int i =>
      obtain ⟨ms, e1, e2⟩ := Option.map_eq_some_iff.mp e
      subst e2
      cases r with
      | cons a b =>
        cases a
        rw [dpInts e1 b]
        rfl
    | _ => cases e
def lMax : List Int → Int
  | [] => 0
  | [x] => x
  | x :: y :: r => let m := lMax (y :: r); if x < m then m else x
def lMin : List Int → Int
  | [] => 0
  | [x] => x
  | x :: y :: r => let m := lMin (y :: r); if m < x then m else x
theorem lMax_ok : ∀ {ns : List Int}, ns ≠ [] → lMax ns ∈ ns ∧ ∀ y, y ∈ ns → y ≤ lMax ns
  | [], h => absurd rfl h
  | [x], _ => ⟨by simp [lMax], fun y hy => by simp at hy; subst hy; exact Int.le_refl _⟩
  | x :: y :: r, _ => by
    obtain ⟨h1, h2⟩ := lMax_ok (ns := y :: r) (by simp)
    unfold lMax
    by_cases c : x < lMax (y :: r)
    · rw [if_pos c]
      exact ⟨List.mem_cons_of_mem _ h1, fun z hz => by
        rcases List.mem_cons.mp hz with rfl | hz
        · exact Int.le_of_lt c
        · exact h2 z hz⟩
    · rw [if_neg c]
      exact ⟨List.mem_cons_self, fun z hz => by
        rcases List.mem_cons.mp hz with rfl | hz
        · exact Int.le_refl _
        · have := h2 z hz
          omega⟩
theorem lMin_ok : ∀ {ns : List Int}, ns ≠ [] → lMin ns ∈ ns ∧ ∀ y, y ∈ ns → lMin ns ≤ y
  | [], h => absurd rfl h
  | [x], _ => ⟨by simp [lMin], fun y hy => by simp at hy; subst hy; exact Int.le_refl _⟩
  | x :: y :: r, _ => by
    obtain ⟨h1, h2⟩ := lMin_ok (ns := y :: r) (by simp)
    unfold lMin
    by_cases c : lMin (y :: r) < x
    · rw [if_pos c]
      exact ⟨List.mem_cons_of_mem _ h1, fun z hz => by
        rcases List.mem_cons.mp hz with rfl | hz
        · exact Int.le_of_lt c
        · exact h2 z hz⟩
    · rw [if_neg c]
      exact ⟨List.mem_cons_self, fun z hz => by
        rcases List.mem_cons.mp hz with rfl | hz
        · exact Int.le_refl _
        · have := h2 z hz
          omega⟩
theorem max_eq {ns : List Int} {m : Int} (h : m ∈ ns) (k : ∀ y, y ∈ ns → y ≤ m) : m = lMax ns := by
  obtain ⟨h1, h2⟩ := lMax_ok (ns := ns) (by rintro rfl; cases h)
  exact Int.le_antisymm (h2 m h) (k _ h1)
theorem min_eq {ns : List Int} {m : Int} (h : m ∈ ns) (k : ∀ y, y ∈ ns → m ≤ y) : m = lMin ns := by
  obtain ⟨h1, h2⟩ := lMin_ok (ns := ns) (by rintro rfl; cases h)
  exact Int.le_antisymm (k _ h1) (h2 m h)
def mMaxL : List PyData → Option PyData
  | [.list ds] => (intsOf ds).bind fun ns => if 0 < ns.length then some (.int (lMax ns)) else none
  | _ => none
def mMinL : List PyData → Option PyData
  | [.list ds] => (intsOf ds).bind fun ns => if 0 < ns.length then some (.int (lMin ns)) else none
  | _ => none
theorem c_maxL (hc : X.calm = true) : CallR X (.builtin "max") (rGA X.K mMaxL) := clMono (cr_max hc) fun xs H Q ⟨F, ds, d, s, r, e, q⟩ => by
  unfold mMaxL at e
  split at e
  · obtain ⟨ns, e1, e2⟩ := bind_some e
    obtain ⟨v, rfl, rv⟩ := one_of r
    cases rv with
    | lst hs ha =>
      split at e2
      · rename_i hl
        cases e2
        rw [dpInts e1 ha] at hs
        exact ⟨_, ns, rfl, s.seq hs, hl, fun m hm hk => by rw [max_eq hm hk]; exact q _ F H (.refl s) (.int _)⟩
      · cases e2
  · cases e
theorem c_minL (hc : X.calm = true) : CallR X (.builtin "min") (rGA X.K mMinL) := clMono (cr_min hc) fun xs H Q ⟨F, ds, d, s, r, e, q⟩ => by
  unfold mMinL at e
  split at e
  · obtain ⟨ns, e1, e2⟩ := bind_some e
    obtain ⟨v, rfl, rv⟩ := one_of r
    cases rv with
    | lst hs ha =>
      split at e2
      · rename_i hl
        cases e2
        rw [dpInts e1 ha] at hs
        exact ⟨_, ns, rfl, s.seq hs, hl, fun m hm hk => by rw [min_eq hm hk]; exact q _ F H (.refl s) (.int _)⟩
      · cases e2
  · cases e
def mIsqrt : List PyData → Option PyData
  | [.int i] => if 0 ≤ i ∧ i.toNat.log2 < 13400 then some (.int ((Float64.isqrt i.toNat : Nat) : Int)) else none
  | _ => none
theorem c_isqrt : CallR X (.builtin "math.isqrt") (rGA X.K mIsqrt) := fun pins s σ H xs us Q I r ⟨F, ds, d, sm, rd, e, q⟩ => by
  unfold mIsqrt at e
  split at e
  · rename_i i
    split at e
    · rename_i hc
      cases e
      obtain ⟨v, rfl, rv⟩ := one_of rd
      cases rv
      obtain ⟨u, rfl, ru⟩ := r.one
      obtain ⟨t, rfl⟩ := ru
      have h1 := hc.1
      have h2 := hc.2
      exact PySem.call_function_meets PySem.W.MGF.kind_isqrt PySem.W.MGF.plain_isqrt PySem.W.MGF.entry_isqrt (PySem.W.MGF.args_isqrt _) (PySem.W.mg_run_isqrt i t (by omega) (by omega) (by omega)).meets ⟨.int _, H, I.tok _, ⟨_, rfl⟩, q _ F H (.refl sm) (.int _)⟩
    · cases e
  · cases e
/-- x = [.. for ..], x no cell, then read alone -/
def sSetF (i : Nat) (f : EA) : ES := fun ρ => (f ρ).bind fun ds => some (.nx (ρ.set i (.va (.list ds))))
theorem setOfFV {i : Nat} {te : TE} (h1 : PS X st (tAsg te (gName i))) (k : ∀ σ H Q, tF X.K h σ H Q → te σ H Q) : DS X st (sSetF i h) := fun W tk => psMono h1 fun D σ H ⟨F0, B, F, ρ, r, G, E, e, p⟩ => by
  obtain ⟨ds, e1, e⟩ := bind_some e
  cases e
  refine k _ _ _ ⟨B, F, ρ, ds, E, e1, fun l vs F' H' G' n1 n2 h3 r' => ?_⟩
  have G2 := G'.keep n1 h3 n2
  exact p _ _ H' (G.trans G2) ((E.grow G2).setVa (.lst (.inl (.inl upd_same)) (dpMonoAll (sameUpd n2) _ _ r'))) G2.ff
theorem ds_lcV {i : Nat} {y : Str} {py : Pos} {elt : Expr} {spos : Pos} {scope : Scope} {own : List (Str × Nat)} {ifs : List Expr} {is : List Nat} {gg : EG} {it : EA} {ev : EV} (hc : X.calm = true) (hN : X.N.Nodup) (hy : X.N[i]? = some y) (hyl : X.env.scope.names.lookup y = some .local)
    (hsw : swapsWith (.ListComp elt [⟨tg, iter, ifs, 0⟩] scope pos) (some (.Name y py)) spos.line X.env = pure true) (hi : DI X tg iter it) (ok : BlkOk X.N X.env.scope scope own)
    (hg : ∀ (s : Shared) (H : Hp) (C : Addr) (cl : List (Str × Addr)) (fp : List Addr), DG (X.blk s H scope (compEnvC scope cl C X.env) fp) tg is gg) (ht : ∀ (s : Shared) (H : Hp) (C : Addr) (cl : List (Str × Addr)) (fp : List Addr), DX (X.blk s H scope (compEnvC scope cl C X.env) fp) ifs cb)
    (he : ∀ (s : Shared) (H : Hp) (C : Addr) (cl : List (Str × Addr)) (fp : List Addr), DV (X.blk s H scope (compEnvC scope cl C X.env) fp) elt ev) (hv : ∀ i ∈ is, i ∈ own.map (·.2) := by decide) (hs : ∀ x, foldedSetIterable iter X.env x = pure x := by intro _; rfl) :
    DS X (.Assign [.Name y py] (.ListComp elt [⟨tg, iter, ifs, 0⟩] scope pos) spos) (sSetF i (fComp it gg cb ev (own.map (·.2)))) :=
  setOfFV (ps_setLc (g := tG X.K is gg) (tt := tT X.K cb) (te := tD X.K ev) hc hN hy hyl hsw hi ok hg ht he hs) fun _ _ _ q => tComp hv q
/-! ### constants of the module -/
def Gk (K : PySem.W.Frag) (mg : Str → Option Value) (x : Str) (d : PyData) : Prop := ∃ v u, mg x = some u ∧ RelV v u ∧ ∀ H, Dp K H v d
theorem dv_glob {x : Str} {p : Pos} {d : PyData} (hg : Gl X x) (hk : Gk X.K X.mg x d) (hd : (x == ("__debug__" : Str)) = false := by decide) : DV X (.Name x p) (eC d) := by
  obtain ⟨v, u, h1, h2, h3⟩ := hk
  exact peMono (pe_glob hg h1 h2 hd) fun σ H Q ⟨B, F, ρ, d', E, e, q⟩ => by
    cases e
    exact q _ F H (.refl E.fh) (h3 F)
end
/-! ### defs by name -/
section
variable {P : Program} {w : World} {K : PySem.W.Frag} {mg : Str → Option Value} {base : Heap}
def Fd (K : PySem.W.Frag) (mg : Str → Option Value) (x : Str) (st : Stmt) : Prop := ∃ fa fd, FnP K x st fa fd ∧ mg x = some (.ref fa)
structure Def (P : Program) (w : World) (K : PySem.W.Frag) (mg : Str → Option Value) (base : Heap) (x : Str) (k n : Nat) (m : List PyData → Option PyData) : Prop where
  ex : ∃ (fa : Addr) (fd : FuncData) (ps : List Str), FnOk P w K mg base CX0 k fa fd ps (spD K n m) ∧ mg x = some (.ref fa) ∧ PySem.W.keepIn K (.ref fa) = true ∧ L2.Binds K fd ps []
theorem Fd.mk {x : Str} {st : Stmt} {N ps : List Str} {u : ES} {k n m : Nat} (F : Fd K mg x st) (S : FnScope N ps (defScope st)) (hn : ps.length = n) (hm : N.length - n = m)
    (hb : ∀ (kV doc pm : Value) (an : Option Addr) (cdv ct : Value) (us : List Value), us.length = ps.length → bindArgs (PySem.W.fnOf x x (defArgs st) (defBody st) (defScope st) .none kV doc pm an cdv ct) ⟨us, []⟩ = pure (ps.zip us))
    (hbody : ∀ {fa : Addr} (cdv : Value) (A : Around) (outer : List Env) (s : Shared) (H : Hp) (E : XK), Room k (A.deeper (envOfC x (defScope st) s.heap.objs.size fa cdv)) → DSs (cxOf CX0 P w K mg base N x (defScope st) fa cdv A outer s H E).nox (defBody st) u) :
    Def P w K mg base x (k + 1) n (runD m u) := by
  obtain ⟨fa, fd, h1, h2⟩ := F
  exact ⟨fa, fd, ps, fnOk h1 S hn hm hbody, h2, h1.kp, h1.bindsN hb⟩
theorem dv_callD {X : Cx} {e : Expr} {es : List Expr} {h : EA} {x : Str} {p pos : Pos} {k n j : Nat} {m : List PyData → Option PyData} (D : Def X.prog X.w X.K X.mg X.base x k n m) (hr : Room j X.A) (ha : DA X (e :: es) h) (hj : k ≤ j := by decide) (hg : Gl X x := by rfl) (hn : (e :: es).length = n := by rfl) (hdb : (x == ("__debug__" : Str)) = false := by decide)
    (he : starEach (e :: es) X.env = (false, eval e X.env) :: starEach es X.env := by rfl) (hpl : (backTo pos (starEach es X.env)).any (·.1) = false := by rfl) : DV X (.Call (.Name x p) (e :: es) [] pos) (eCall m h) := by
  obtain ⟨fa, fd, ps, h1, h2, h3, h4⟩ := D.ex
  exact dv_call h1 (hr.mono hj) hg h2 h3 h4 ha hn hdb he hpl
end
end DL

set_option Elab.async false
set_option linter.all false
set_option maxRecDepth 100000
set_option maxHeartbeats 4000000
namespace DL
open PySem PySem.Spec PyProof.Rows L2
/-! ### constants of the module, checked -/
mutual
def dpB (K : PySem.W.Frag) : PyData → Value → Bool
  | .none, u => (match u with
    | .none => true
    | _ => false)
  | .bool b, u => (match u with
    | .bool c => b == c
    | _ => false)
  | .int i, u => (match u with
    | .int j _ => decide (i = j)
    | _ => false)
  | .str x, u => (match u with
    | .str y _ => decide (x = y)
    | _ => false)
  | .list ds, u => (match u with
    | .ref a => (match K.lookup a with
      | some ⟨.type c, none, .seq its _, _⟩ => decide (c = "list") && (decide (its.size ≤ sizeLine) && dpBAll K ds its.toList)
      | _ => false)
    | _ => false)
  | .tuple ds, u => (match u with
    | .ref a => (match K.lookup a with
      | some ⟨.type c, _, .seq its _, _⟩ => decide (c = "tuple") && (decide (its.size ≤ sizeLine) && dpBAll K ds its.toList)
      | _ => false)
    | _ => false)
  | .dict _, _ => false
def dpBAll (K : PySem.W.Frag) : List PyData → List Value → Bool
  | [], us => (match us with
    | [] => true
    | _ => false)
  | d :: ds, us => (match us with
    | u :: us => dpB K d u && dpBAll K ds us
    | _ => false)
end
mutual
theorem dpB_ok {K : PySem.W.Frag} : ∀ (d : PyData) (u : Value), dpB K d u = true → ∃ v, RelV v u ∧ ∀ H, Dp K H v d
  | .none, u, h => by
    unfold dpB at h
    split at h
    · exact ⟨.non, rfl, fun _ => .non⟩
    · cases h
  | .bool b, u, h => by
    unfold dpB at h
    split at h
    · exact ⟨.bl b, by rw [eq_of_beq h]; rfl, fun _ => .bl b⟩
    · cases h
  | .int i, u, h => by
    unfold dpB at h
    split at h
    · exact ⟨.int i, ⟨_, by rw [of_decide_eq_true h]⟩, fun _ => .int i⟩
    · cases h
  | .str x, u, h => by
    unfold dpB at h
    split at h
    · exact ⟨.str x, ⟨_, by rw [of_decide_eq_true h]⟩, fun _ => .str x⟩
    · cases h
  | .list ds, u, h => by
    unfold dpB at h
    split at h
    · split at h
      · rename_i a _ c its n sl q
        obtain ⟨h1, h2⟩ := Bool.and_eq_true_iff.mp h
        obtain ⟨h3, h4⟩ := Bool.and_eq_true_iff.mp h2
        obtain ⟨vs, r, k⟩ := dpBAll_ok ds its.toList h4
        exact ⟨.ref a, rfl, fun H => .lst (.inr ⟨_, its, n, q, congrArg Value.type (of_decide_eq_true h1), rfl, rfl, of_decide_eq_true h3, r⟩) (k H)⟩
      · cases h
    · cases h
  | .tuple ds, u, h => by
    unfold dpB at h
    split at h
    · split at h
      · rename_i a _ c _ its n sl q
        obtain ⟨h1, h2⟩ := Bool.and_eq_true_iff.mp h
        obtain ⟨h3, h4⟩ := Bool.and_eq_true_iff.mp h2
        obtain ⟨vs, r, k⟩ := dpBAll_ok ds its.toList h4
        exact ⟨.ref a, rfl, fun H => .tup (.inr ⟨_, its, n, q, congrArg Value.type (of_decide_eq_true h1), rfl, of_decide_eq_true h3, r⟩) (k H)⟩
      · cases h
    · cases h
  | .dict _, u, h => by
    unfold dpB at h
    cases h
theorem dpBAll_ok {K : PySem.W.Frag} : ∀ (ds : List PyData) (us : List Value), dpBAll K ds us = true → ∃ vs, Vals vs us ∧ ∀ H, DpAll K H vs ds
  | [], us, h => by
    unfold dpBAll at h
    split at h
    · exact ⟨[], .nil, fun _ => .nil⟩
    · cases h
  | d :: ds, us, h => by
    unfold dpBAll at h
    split at h
    · rename_i u us
      obtain ⟨h1, h2⟩ := Bool.and_eq_true_iff.mp h
      obtain ⟨v, r1, k1⟩ := dpB_ok d u h1
      obtain ⟨vs, r2, k2⟩ := dpBAll_ok ds us h2
      exact ⟨v :: vs, .cons r1 r2, fun H => .cons (k1 H) (k2 H)⟩
    · cases h
end
/-! ### the head's facts -/
abbrev Fct : Type := PySem.W.Frag → Bool
def fFree (x : Str) : Fct := fun K => He.eqO (PySem.W.nsIn K mainGlobals x) (some none)
def fBlt (x : Str) (id : String) : Fct := fun K => He.eqO (PySem.W.nsIn K mainGlobals x) (some (some (.builtin id)))
def fGlo (x : Str) : Fct := fun K => He.eqO (PySem.W.nsIn K mainGlobals x) (some (some (.ref (He.ga K x))))
def fCon (x : Str) (d : PyData) : Fct := fun K => match PySem.W.nsIn K mainGlobals x with
  | some (some u) => dpB K d u
  | _ => false
def obsX (fa : List Fct) (fn : List He.DefD) (K : PySem.W.Frag) : He.AlD := ((fa.all fun f => f K) && fn.all fun d => d.ok K && fGlo d.at_.1 K, fn.map fun d => He.fnW K d.at_)
def SaysX (fa : List Fct) (fn : List He.DefD) (K : PySem.W.Frag) : Prop := obsX fa fn K = He.valD fn
def obsXG (n : Nat) (fa : List Fct) (fn : List He.DefD) (g : Addr → Option Obj) : He.AlD := obsX fa fn (He.frG g (He.asD g n))
def hookX (n : Nat) (fa : List Fct) (fn : List He.DefD) : PySem.W.Hook where
  α := He.AlD
  obs := fun s => obsXG n fa fn s.heap.get?
  val := fun _ => He.valD fn
  says := fun _ h => ∃ K : PySem.W.Frag, K.In h ∧ SaysX fa fn K
  of := fun _ _ e => ⟨_, He.frG_in, e⟩
  keeps := fun _ _ _ ⟨K, hK, c⟩ k => ⟨K, PySem.W.Frag.In.keeps hK k, c⟩
theorem obsXG_eq {n : Nat} {fa : List Fct} {fn : List He.DefD} {g : Addr → Option Obj} {s : Shared} (h : ∀ a, g a = s.heap.get? a) : obsXG n fa fn g = (hookX n fa fn).obs s := by
  have e : g = s.heap.get? := funext h
  rw [e] <;> rfl
section
variable {fa : List Fct} {fn : List He.DefD} {K : PySem.W.Frag} {h : Heap} {mg : Str → Option Value}
theorem SaysX.fact (c : SaysX fa fn K) (i : Nat) {f : Fct} (h : fa[i]? = some f := by rfl) : f K = true := by
  have c1 := (He.ba (show ((fa.all fun f => f K) && fn.all fun d => d.ok K && fGlo d.at_.1 K) = true from congrArg (fun z : He.AlD => z.1) c)).1
  exact List.all_eq_true.mp c1 f (List.mem_of_getElem? h)
theorem SaysX.def_ (c : SaysX fa fn K) (i : Nat) {d : He.DefD} (h : fn[i]? = some d := by rfl) : (∃ fd, FunD K d.name d.qual d.params d.body d.scope (d.dvs K) (d.kws K) (He.fAd K d.at_) fd) ∧ fGlo d.at_.1 K = true := by
  have c2 := (He.ba (show ((fa.all fun f => f K) && fn.all fun d => d.ok K && fGlo d.at_.1 K) = true from congrArg (fun z : He.AlD => z.1) c)).2
  have e : fn.map (fun d => He.fnW K d.at_) = fn.map He.DefD.val := congrArg (fun z : He.AlD => z.2) c
  have e2 : (fn.map fun d => He.fnW K d.at_)[i]? = (fn.map He.DefD.val)[i]? := by rw [e]
  rw [List.getElem?_map, List.getElem?_map, h] at e2
  obtain ⟨k1, k2⟩ := He.ba (List.all_eq_true.mp c2 d (List.mem_of_getElem? h))
  exact ⟨He.DefD.funD (Option.some.inj e2) k1, k2⟩
/-- a def of the text as a datum -/
abbrev dfn (x : Str) (st : Stmt) : He.DefD := ⟨(x, none), x, x, defArgs st, defBody st, defScope st, [], []⟩
theorem SaysX.fnP (c : SaysX fa fn K) (X : K.In h) (G : h.Ns mainGlobals mg) (i : Nat) (x : Str) (st : Stmt) (e : fn[i]? = some (dfn x st) := by rfl) : ∃ fd, FnP K x st (He.ga K x) fd ∧ mg x = some (.ref (He.ga K x)) := by
  obtain ⟨⟨fd, h1⟩, h2⟩ := c.def_ i e
  exact ⟨fd, h1, PySem.W.mg_of X G (He.eqO_ok h2)⟩
theorem SaysX.fd (c : SaysX fa fn K) (X : K.In h) (G : h.Ns mainGlobals mg) (i : Nat) (x : Str) (st : Stmt) (e : fn[i]? = some (dfn x st) := by rfl) : Fd K mg x st := by
  obtain ⟨fd, h1, h2⟩ := c.fnP X G i x st e
  exact ⟨_, fd, h1, h2⟩
theorem SaysX.free (c : SaysX fa fn K) (X : K.In h) (G : h.Ns mainGlobals mg) (i : Nat) (x : Str) (e : fa[i]? = some (fFree x) := by rfl) : mg x = none := PySem.W.mg_none_of X G (He.eqO_ok (c.fact i e))
theorem SaysX.blt (c : SaysX fa fn K) (X : K.In h) (G : h.Ns mainGlobals mg) (i : Nat) (x : Str) (id : String) (e : fa[i]? = some (fBlt x id) := by rfl) : mg x = some (.builtin id) := PySem.W.mg_of X G (He.eqO_ok (c.fact i e))
theorem SaysX.con (c : SaysX fa fn K) (X : K.In h) (G : h.Ns mainGlobals mg) (i : Nat) (x : Str) (d : PyData) (e : fa[i]? = some (fCon x d) := by rfl) : Gk K mg x d := by
  have c1 := c.fact i e
  unfold fCon at c1
  split at c1
  · rename_i u q
    obtain ⟨v, r, k⟩ := dpB_ok d u c1
    exact ⟨v, u, PySem.W.mg_of X G q, r, k⟩
  · cases c1
end
/-! ### the law's end -/
theorem intsDp {K : PySem.W.Frag} {H : Hp} : ∀ ns : List Int, DpAll K H (ns.map V.int) (ns.map PyData.int)
  | [] => .nil
  | n :: ns => .cons (.int n) (intsDp ns)
theorem walk_law {l : PySem.W.OpenLaw} {k : Nat} {q : Program} {loose : List Str} {XP : (Str → Option Value) → Heap → Prop} {YP : World → Heap → Prop} {d : DefRec} {x : Str} {m : List PyData → Option PyData}
    (hn : l.most = some 63) (hdf : d.params.defaults = []) (hr : Room k callerA)
    (F : ∀ (w : World) (mg : Str → Option Value) (fa : Addr) (h : Heap), YP w h → h.Ns mainGlobals mg → mg d.name = some (.ref fa) →
      ∃ (K : PySem.W.Frag) (fd : FuncData), K.In h ∧ (∀ (s : Shared) (u : Value), BindsTo s fd ⟨[u], []⟩ [(x, u)]) ∧ ∀ base : Heap, K.In base → base.Ns mainGlobals mg → FnOk l.prog w K mg base CX0 k fa fd [x] (spD K 1 m))
    (hm : ∀ ns : List Int, ns.length ≤ 63 → (∀ z ∈ ns, Builtin.Int.intBits z ≤ 1048576) → m [.list (ns.map PyData.int)] = some (.bool true)) :
    PySem.W.WalkO q loose XP YP l.row.toRowW d [] (fun f vs => PySem.call f vs) := by
  refine Att.attach_callB hn hdf fun w s₀ s₁ mg mb fa o pm cd doc a vs ns G Y ho hd hcd hmg hobj hints hlen hbits hg => ?_
  obtain ⟨K, fd, KX, hb, hF⟩ := F w mg fa _ Y G.T.g hmg
  refine law_call KX G.T.g G.T.b G.T.builtins G.T.nolimit hg hobj hints (Nat.le_trans hlen (by decide)) hr hF hb (fun H hO hS => ⟨rfl, H, [.list (ns.map PyData.int)], .bool true, .refl H, .cons (.lst hS (intsDp ns)) .nil, hm ns hlen hbits, fun v F' H' _ r => ?_⟩) fun H e s' z => z
  cases r
  rfl
end DL

set_option Elab.async false
set_option linter.all false
set_option maxRecDepth 100000
set_option maxHeartbeats 4000000
namespace DL
open PySem PySem.Spec PyProof.Rows L2
section
variable {X : Cx} {tg a b c e iter : Expr} {es : List Expr} {st : Stmt} {f g f1 f2 : EV} {h : EA} {cb cb' : EB} {pos : Pos}
/-! ### a, b = x, y -/
def sPar (i j : Nat) (f : EA) : ES := fun ρ => (f ρ).bind fun ds => match ds with
  | [x, y] => some (.nx ((ρ.set i (.va x)).set j (.va y)))
  | _ => none
def sPar3 (i j k : Nat) (f : EA) : ES := fun ρ => (f ρ).bind fun ds => match ds with
  | [x, y, z] => some (.nx (((ρ.set i (.va x)).set j (.va y)).set k (.va z)))
  | _ => none
theorem ds_par {i j : Nat} {x y : Str} {px py pt : Pos} {kt k2 pt2} (hc : X.calm = true) (hN : X.N.Nodup) (hi : X.N[i]? = some x) (hj : X.N[j]? = some y) (hij : i ≠ j)
    (hx : X.env.scope.names.lookup x = some .local) (hy : X.env.scope.names.lookup y = some .local) (ha : DA X [a, b] h)
    (hw : swappedStores [.Tuple [.Name x px, .Name y py] kt pt] (.Tuple [a, b] k2 pt2) X.env = pure (some [x, y]))
    (hs : swapsWithSole [.Tuple [.Name x px, .Name y py] kt pt] (.Tuple [a, b] k2 pt2) pos.line X.env = pure false := by rfl) :
    DS X (.Assign [.Tuple [.Name x px, .Name y py] kt pt] (.Tuple [a, b] k2 pt2) pos) (sPar i j h) := fun W tk => psMono (ps_par hc hN hi hj hij hx hy ha.pa hw hs) fun D σ H ⟨F0, B, F, ρ, r, G, E, e, p⟩ => by
  obtain ⟨ds, e1, e2⟩ := bind_some e
  split at e2
  · cases e2
    refine ⟨B, F, ρ, _, E, e1, fun vs F1 H1 G1 rr => ?_⟩
    obtain ⟨v, u, rfl, rv, ru⟩ := two_of rr
    exact ⟨v, u, rfl, p _ F1 H1 (G.trans G1) (((E.grow G1).setVa rv).setVa ru) G1.ff⟩
  · cases e2
theorem ds_par3 {i j l : Nat} {x y z : Str} {px py pz pt : Pos} {kt k2 pt2} (hc : X.calm = true) (hN : X.N.Nodup) (hi : X.N[i]? = some x) (hj : X.N[j]? = some y) (hl : X.N[l]? = some z) (hij : i ≠ j) (hil : i ≠ l) (hjl : j ≠ l)
    (hx : X.env.scope.names.lookup x = some .local) (hy : X.env.scope.names.lookup y = some .local) (hz : X.env.scope.names.lookup z = some .local) (ha : DA X [a, b, c] h)
    (hw : swappedStores [.Tuple [.Name x px, .Name y py, .Name z pz] kt pt] (.Tuple [a, b, c] k2 pt2) X.env = pure (some [x, y, z]))
    (hs : swapsWithSole [.Tuple [.Name x px, .Name y py, .Name z pz] kt pt] (.Tuple [a, b, c] k2 pt2) pos.line X.env = pure false := by rfl) :
    DS X (.Assign [.Tuple [.Name x px, .Name y py, .Name z pz] kt pt] (.Tuple [a, b, c] k2 pt2) pos) (sPar3 i j l h) := fun W tk => psMono (ps_par3 hc hN hi hj hl hij hil hjl hx hy hz ha.pa hw hs) fun D σ H ⟨F0, B, F, ρ, r, G, E, e, p⟩ => by
  obtain ⟨ds, e1, e2⟩ := bind_some e
  split at e2
  · cases e2
    refine ⟨B, F, ρ, _, E, e1, fun vs F1 H1 G1 rr => ?_⟩
    obtain ⟨v, u, w, rfl, rv, ru, rw'⟩ := three_of rr
    exact ⟨v, u, w, rfl, p _ F1 H1 (G.trans G1) ((((E.grow G1).setVa rv).setVa ru).setVa rw') G1.ff⟩
  · cases e2
/-! ### chains a < b < c -/
def eChain (g g' : PyData → PyData → Option PyData) (f1 f2 f3 : EV) : EV := fun ρ => (f1 ρ).bind fun x => (f2 ρ).bind fun y => (g x y).bind fun d => (blOf d).bind fun k => if k then (f3 ρ).bind fun z => g' y z else some (.bool false)
theorem tChain' {g g' : PyData → PyData → Option PyData} {f3 : EV} {σ : L2.St} {H : Hp} {Q : VK} {K : PySem.W.Frag} (h : tD K (eChain g g' f1 f2 f3) σ H Q) : tChain (rG K g) (rG K g') (tD K f1) (tD K f2) (tD K f3) σ H Q := by
  obtain ⟨B, F, ρ, d, E, e, q⟩ := h
  obtain ⟨dx, e1, e⟩ := bind_some e
  obtain ⟨dy, e2, e⟩ := bind_some e
  obtain ⟨dk, e3, e⟩ := bind_some e
  obtain ⟨k, e4, e6⟩ := bind_some e
  clear e
  refine ⟨B, F, ρ, dx, E, e1, fun x F1 H1 G1 r1 => ⟨B, F1, ρ, dy, E.grow G1, e2, fun y F2 H2 G2 r2 => ⟨F2, dx, dy, dk, G2.fh, dpMono G2.ff _ _ r1, r2, e3, fun v F3 H3 G3 r3 => ?_⟩⟩⟩
  cases dk with
  | bool k' =>
    cases e4
    cases r3
    refine ⟨k, rfl, ?_⟩
    cases k with
    | true =>
      rw [if_pos rfl] at e6 ⊢
      obtain ⟨dz, e5, e⟩ := bind_some e6
      exact ⟨B, F3, ρ, dz, (E.grow (G1.trans G2)).grow G3, e5, fun w F4 H4 G4 r4 => ⟨F4, dy, dz, d, G4.fh, dpMono (G3.ff.trans G4.ff) _ _ r2, r4, e, fun v F5 H5 G5 r5 => q v F5 H5 (G1.trans (G2.trans (G3.trans (G4.trans G5)))) r5⟩⟩
    | false =>
      rw [if_neg (by simp)] at e6 ⊢
      cases e6
      exact q _ F3 H3 (G1.trans (G2.trans G3)) (.bl false)
  | _ => cases e4
theorem dv_chain {op op' : CmpOp} {g g' : PyData → PyData → Option PyData} {f3 : EV} (ho : OpR X (compareOp op) (rG X.K g)) (ho' : OpR X (compareOp op') (rG X.K g')) (ha : DV X a f1) (hb : DV X b f2) (hc : DV X c f3)
    (hm : lastMarks [op, op'] [b, c] = false := by with_unfolding_all rfl) : DV X (.Compare a [op, op'] [b, c] pos) (eChain g g' f1 f2 f3) := peMono (pe_chain ho ho' ha hb hc hm) fun _ _ _ q => tChain' q
theorem dt_chain {op op' : CmpOp} {g g' : PyData → PyData → Option PyData} {f3 : EV} (ho : OpR X (compareOp op) (rG X.K g)) (ho' : OpR X (compareOp op') (rG X.K g')) (ha : DV X a f1) (hb : DV X b f2) (hc : DV X c f3)
    (hm : lastMarks [op, op'] [b, c] = false := by with_unfolding_all rfl) : DT X (.Compare a [op, op'] [b, c] pos) (bVal (eChain g g' f1 f2 f3)) := ptMono (pt_chain ho ho' ha hb hc hm) fun σ H Q ⟨B, F, ρ, b, E, e, q⟩ => by
  obtain ⟨d, e1, e2⟩ := bind_some e
  refine tChain' ⟨B, F, ρ, d, E, e1, fun v F' H' G r => ?_⟩
  cases d with
  | bool k =>
    cases e2
    cases r
    exact ⟨_, rfl, q F' H' G⟩
  | _ => cases e2
end
end DL

set_option Elab.async false
set_option linter.all false
set_option maxRecDepth 100000
set_option maxHeartbeats 4000000
namespace DL
open PySem PySem.Spec PyProof.Rows L2
section
variable {X : Cx} {tg a b c e iter : Expr} {es : List Expr} {st : Stmt} {f g f1 f2 : EV} {h h1 h2 : EA} {cb cb' : EB} {pos apos cpos : Pos}
/-! ### what is never reached -/
def sNo : ES := fun _ => none
theorem ds_no : DS X st sNo := fun W tk => ⟨fun pins s σ H D I ⟨_, _, _, _, _, _, _, e, _⟩ => by cases e⟩
/-! ### a new list times a number -/
def fRep (h : EA) (f : EV) : EA := fun ρ => (h ρ).bind fun ds => (f ρ).bind fun d => match d with
  | .int k => if 0 ≤ k ∧ k ≤ 1000000 ∧ ds.length * k.toNat ≤ 16000000 then some (List.replicate k.toNat ds).flatten else none
  | _ => none
theorem dpRep {K : PySem.W.Frag} {H : Hp} {vs : List V} {ds : List PyData} (r : DpAll K H vs ds) : ∀ n : Nat, DpAll K H (List.replicate n vs).flatten (List.replicate n ds).flatten
  | 0 => .nil
  | n + 1 => by
    rw [List.replicate_succ, List.replicate_succ, List.flatten_cons, List.flatten_cons]
    exact dpApp r (dpRep r n)
theorem df_rep (ha : DF X a h) (hb : DV X b f) : DF X (.BinOp a .Mult b pos) (fRep h f) := peMono (pe_op op_rep ha hb) fun σ H Q ⟨B, F, ρ, ds, E, e, q⟩ => by
  obtain ⟨xs, e1, e⟩ := bind_some e
  obtain ⟨d, e2, e⟩ := bind_some e
  refine ⟨B, F, ρ, xs, E, e1, fun l vs F1 H1 G1 n1 n2 h1 r1 => ⟨B, F1, ρ, d, E.grow G1, e2, fun y F2 H2 G2 r2 => ?_⟩⟩
  cases d with
  | int k =>
    cases r2
    change (if 0 ≤ k ∧ k ≤ 1000000 ∧ xs.length * k.toNat ≤ 16000000 then some (List.replicate k.toNat xs).flatten else none) = some ds at e
    split at e
    case isFalse => cases e
    rename_i hc
    cases e
    have r3 := dpMonoAll G2.ff _ _ r1
    refine ⟨l, k, vs, rfl, rfl, G2.hh _ _ h1, by omega, by omega, ?_, fun p np => ?_⟩
    · rw [dpLen r1]
      exact Nat.le_trans hc.2.2 (by decide)
    · exact q p _ F2 _ ((G1.trans G2).trans (.side G2.fh np)) ((G1.trans G2).hh.free np) (G2.fh.free np) upd_same (dpRep r3 _)
  | _ => cases e
/-! ### how often a number stands in a list -/
def gCnt : PyData → PyData → Option PyData
  | .list ds, .int k => (intsOf ds).map fun ns => .int (ns.count k : Nat)
  | _, _ => none
theorem dv_count {o : Expr} (ho : DV X o f1) (he : DV X e f2) (hbase : attributeBase o "count" X.env (eval o X.env) = eval o X.env := by rfl)
    (hfew : ((backTo cpos (starEach [e] X.env)).all (fun x => !x.1) && (backToKw cpos (keywordEach [] X.env)).all (fun x => x.1.isSome)
      && decide (([e] : List Expr).length + ([] : List Keyword).length + (if ([] : List Keyword).isEmpty then 0 else 1) < 30)) = true := by rfl)
    (hline : (apos.endLine == cpos.line) = true := by rfl) (hs : starEach [e] X.env = (false, eval e X.env) :: starEach [] X.env := by rfl) (hplain : (backTo cpos (starEach [] X.env)).any (·.1) = false := by rfl) :
    DV X (.Call (.Attribute o "count" apos) [e] [] cpos) (eBin gCnt f1 f2) :=
  peMono (pe_bm PySem.F.plainAttrs_list PySem.F.slot_list_count PySem.F.type_list_count mt_lcount ho (pa_cons he pa_nil hs) hbase hfew hline hs hplain) fun σ H Q ⟨B, F, ρ, d, E, e, q⟩ => by
    obtain ⟨dx, e1, e⟩ := bind_some e
    obtain ⟨dy, e2, e⟩ := bind_some e
    refine ⟨B, F, ρ, dx, E, e1, fun v F1 H1 G1 r1 => ?_⟩
    cases dx <;> cases dy <;> try cases e
    · rename_i ds k
      obtain ⟨ns, e3, e4⟩ := Option.map_eq_some_iff.mp e
      cases e4
      cases r1 with
      | lst hs ha =>
        have hv := dpInts e3 ha
        subst hv
        refine ⟨.inl ⟨rfl, _, G1.fh.seq hs⟩, B, F1, ρ, _, E.grow G1, e2, fun y F2 H2 G2 r2 => ?_⟩
        cases r2
        exact ⟨_, ns, k, rfl, rfl, (G1.fh.trans G2.hh).seq hs, q _ F2 H2 (G1.trans G2) (.int _)⟩
end
end DL

set_option Elab.async false
set_option linter.all false
set_option maxRecDepth 100000
set_option maxHeartbeats 4000000
/-! DLA: exceptions. A def that may raise; raise; try; the suite of an except clause. -/
namespace DL
open PySem PySem.Spec PyProof.Rows L2
inductive XR where
  | val (d : PyData) | exc (x : XD)
/-- what stands of an exception: its class, its dict with the one field -/
structure XAt (K : PySem.W.Frag) (F H : Hp) (cls : Value) (d : Option Addr) (x : XD) : Prop where
  c : cls = .ref (He.ga K x.c)
  e : ∃ dd v, d = some dd ∧ H dd = some (.xd [(x.f, v)]) ∧ Dp K F v x.d
theorem XAt.grow {K : PySem.W.Frag} {F H F' H' : Hp} {cls : Value} {d : Option Addr} {x : XD} (a : XAt K F H cls d x) (g : Grow F H F' H') : XAt K F' H' cls d x := by
  obtain ⟨dd, v, e1, e2, e3⟩ := a.e
  exact ⟨a.c, dd, v, e1, g.hh _ _ e2, dpMono g.ff _ _ e3⟩
def spX (K : PySem.W.Frag) (n : Nat) (m : List PyData → Option XR) : Sp := fun vs H Q E => vs.length = n ∧ ∃ F ds r, Same F H ∧ DpAll K F vs ds ∧ m ds = some r ∧ match r with
  | .val d => ∀ v F' H', Grow F H F' H' → Dp K F' v d → Q v H'
  | .exc x => ∀ F' H' dd v, Grow F H F' H' → H' dd = some (.xd [(x.f, v)]) → F' dd = none → H dd = none → Dp K F' v x.d → E (.ref (He.ga K x.c)) (some dd) H'
def runX (k : Nat) (u : ES) : List PyData → Option XR := fun ds => (u (ds.map SC.va ++ List.replicate k SC.un)).bind fun r => match r with
  | .rt d => some (.val d)
  | .nx _ => some (.val .none)
  | .xc _ x => some (.exc x)
  | _ => none
def vOf : XR → Option PyData
  | .val d => some d
  | _ => none
theorem fnOkX {P : Program} {w : World} {K : PySem.W.Frag} {mg : Str → Option Value} {base : Heap} {x : Str} {st : Stmt} {fa : Addr} {fd : FuncData} {N ps : List Str} {u : ES} {k n m : Nat} (F : FnP K x st fa fd) (S : FnScope N ps (defScope st)) (hn : ps.length = n) (hm : N.length - n = m)
    (hbody : ∀ (cdv : Value) (A : Around) (outer : List Env) (s : Shared) (H : Hp) (E : XK), Room k (A.deeper (envOfC x (defScope st) s.heap.objs.size fa cdv)) → DSs (cxOf (L2.CX P w) P w K mg base N x (defScope st) fa cdv A outer s H E) (defBody st) u) :
    FnOk P w K mg base (L2.CX P w) (k + 1) fa fd ps (spX K n (runX m u)) := by
  subst hn hm
  refine F.ok S (fun vs H Q E h => h.1) fun cdv A outer s H vs Q E hr h => ⟨_, hbody cdv A outer s H E hr (fun cls d _ H => E cls d H) (takes_of rfl rfl rfl rfl), ?_⟩
  obtain ⟨hl, F1, ds, r, s1, rr, e, q⟩ := h
  obtain ⟨r1, e1, e2⟩ := bind_some e
  refine ⟨F1, H, F1, _, r1, .refl s1, .start s1 rr, ?_, ?_⟩
  · rw [hl]
    exact e1
  · cases r1 with
    | rt d' =>
      cases e2
      exact fun v F' H' G r' => q v F' H' G r'
    | nx ρ =>
      cases e2
      exact fun σ' F' H' G E' _ => q .non F' H' G .non
    | xc ρ x =>
      cases e2
      exact fun σ' F' H' dd v G _ _ h1 h2 h3 h4 => q F' H' dd v G h1 h2 h3 h4
    | bk ρ => cases e2
    | ct ρ => cases e2
/-- a def that may raise, by name -/
structure DefX (P : Program) (w : World) (K : PySem.W.Frag) (mg : Str → Option Value) (base : Heap) (x : Str) (k n : Nat) (m : List PyData → Option XR) : Prop where
  ex : ∃ (fa : Addr) (fd : FuncData) (ps : List Str), FnOk P w K mg base (L2.CX P w) k fa fd ps (spX K n m) ∧ mg x = some (.ref fa) ∧ PySem.W.keepIn K (.ref fa) = true ∧ L2.Binds K fd ps []
section
variable {P : Program} {w : World} {K : PySem.W.Frag} {mg : Str → Option Value} {base : Heap}
theorem Fd.mkX {x : Str} {st : Stmt} {N ps : List Str} {u : ES} {k n m : Nat} (F : Fd K mg x st) (S : FnScope N ps (defScope st)) (hn : ps.length = n) (hm : N.length - n = m)
    (hb : ∀ (kV doc pm : Value) (an : Option Addr) (cdv ct : Value) (us : List Value), us.length = ps.length → bindArgs (PySem.W.fnOf x x (defArgs st) (defBody st) (defScope st) .none kV doc pm an cdv ct) ⟨us, []⟩ = pure (ps.zip us))
    (hbody : ∀ {fa : Addr} (cdv : Value) (A : Around) (outer : List Env) (s : Shared) (H : Hp) (E : XK), Room k (A.deeper (envOfC x (defScope st) s.heap.objs.size fa cdv)) → DSs (cxOf (L2.CX P w) P w K mg base N x (defScope st) fa cdv A outer s H E) (defBody st) u) :
    DefX P w K mg base x (k + 1) n (runX m u) := by
  obtain ⟨fa, fd, h1, h2⟩ := F
  exact ⟨fa, fd, ps, fnOkX h1 S hn hm hbody, h2, h1.kp, h1.bindsN hb⟩
/-- where it raises nothing it is a def that works out data -/
theorem DefX.dat {x : Str} {k n : Nat} {m : List PyData → Option XR} (D : DefX P w K mg base x k n m) : Def P w K mg base x k n (fun ds => (m ds).bind vOf) := by
  obtain ⟨fa, fd, ps, h1, h2, h3, h4⟩ := D.ex
  refine ⟨fa, fd, ps, ⟨fun vs H Q E h => ?_, fun A outer s H args us vs Q E hr e0 hb r hsp => ?_⟩, h2, h3, h4⟩
  · obtain ⟨hl, F, ds, d, s, rr, e, q⟩ := h
    obtain ⟨r, e1, e2⟩ := bind_some e
    cases r with
    | val d' =>
      cases e2
      exact h1.len vs H Q (fun _ _ _ => False) ⟨hl, F, ds, _, s, rr, e1, q⟩
    | exc x => cases e2
  · obtain ⟨hl, F, ds, d, s0, rr, e, q⟩ := hsp
    obtain ⟨r0, e1, e2⟩ := bind_some e
    cases r0 with
    | val d' =>
      cases e2
      refine codeAny_mono (h1.run A outer s H args us vs Q (fun _ _ _ => False) hr e0 hb r ⟨hl, F, ds, _, s0, rr, e1, q⟩) fun res s' hc => ?_
      cases res with
      | ok fl =>
        cases fl with
        | ret u => exact hc
        | next => exact hc
        | brk => exact hc
        | cont => exact hc
      | error er =>
        obtain ⟨_, _, _, _, _, _, _, _, _, _, _, _, z⟩ := hc
        exact z.elim
    | exc x => cases e2
end
/-! ### a class of exceptions: class C(..): def __init__(self, f): self.f = f -/
def spIn (K : PySem.W.Frag) (f : Str) : Sp := fun vs H Q _ => ∃ (a C : Addr) (v : V), vs = [.ref a, v] ∧ OexC K C ∧ PySem.W.findIn K (.ref C) f = some none ∧ H a = some (exo a C none) ∧ ∀ dx, H dx = none → dx ≠ a → Q .non (upd (upd H dx (exd dx [(f, v)])) a (exo a C (some dx)))
structure XCls (P : Program) (w : World) (K : PySem.W.Frag) (mg : Str → Option Value) (base : Heap) (C f : Str) : Prop where
  g : mg C = some (.ref (He.ga K C))
  o : OexC K (He.ga K C)
  x : XfC K (He.ga K C)
  nf : PySem.W.findIn K (.ref (He.ga K C)) f = some none
  i : ∃ fI fd ps, PySem.W.findIn K (.ref (He.ga K C)) "__init__" = some (some (.ref fI)) ∧ PySem.W.typeIn K (.ref fI) = some (.type "function") ∧ FnOk P w K mg base CX0 1 fI fd ps (spIn K f) ∧ Binds K fd ps []
section
variable {P : Program} {w : World} {K : PySem.W.Frag} {mg : Str → Option Value} {base : Heap}
/-- its __init__ -/
theorem init_ok {C f q : Str} {args : Arguments} {body : List Stmt} {scope : Scope} {fa : Addr} {fd : FuncData} {p1 p2 p3 p4 : Pos} (F : FunD K "__init__" q args body scope [] [] fa fd) (S : FnScope ["self", f] ["self", f] scope) (eb : body = [.Assign [.Attribute (.Name "self" p1) f p2] (.Name f p3) p4])
    (hl1 : scope.names.lookup ("self" : Str) = some .local) (hl2 : scope.names.lookup f = some .local) (hd1 : (f == ("__debug__" : Str)) = false) (hd2 : (f == ("__classdict__" : Str)) = false) : FnOk P w K mg base CX0 1 fa fd ["self", f] (spIn K f) := by
  subst eb
  refine F.ok S (fun vs H Q E h => ?_) fun cdv A outer s H vs Q E hr h => ⟨_, (pss_one (ps_ost (X := (cxOf CX0 P w K mg base ["self", f] q scope fa cdv A outer s H E).nox) (pv 0 rfl (.inl hl1)) (pv 1 rfl (.inl hl2) hd1 hd2))).nox, ?_⟩
  · obtain ⟨a, C, v, rfl, _⟩ := h
    rfl
  · obtain ⟨a, C, v, rfl, h1, h2, h3, h4⟩ := h
    exact ⟨v, rfl, .ref a, rfl, a, C, rfl, h1, h2, .inl ⟨h3, fun dx n1 n2 => h4 dx n1 n2⟩⟩
end

section
variable {X : Cx} {tg a b c e iter : Expr} {es : List Expr} {st : Stmt} {sts ss : List Stmt} {f g f1 f2 : EV} {h h1 h2 : EA} {cb cb' : EB} {u u1 u2 : ES} {pos apos cpos : Pos}
/-! ### raise C(e) -/
def sRaise (C fl : Str) (f : EV) : ES := fun ρ => (f ρ).bind fun d => some (.xc ρ ⟨C, fl, d⟩)
theorem ds_raise {C fl : Str} {p pos2 : Pos} {k : Nat} (hc : X.calm = true) (T : XCls X.prog X.w X.K X.mg X.base C fl) (hr : Room (k + 1) X.A) (ha : DV X a f) (hg : Gl X C) (hk : 1 ≤ k := by decide) (hdb : (C == ("__debug__" : Str)) = false := by decide) (he : starEach [a] X.env = (false, eval a X.env) :: starEach [] X.env := by rfl) (hpl : (backTo pos (starEach [] X.env)).any (·.1) = false := by rfl) :
    DS X (.Raise (some (.Call (.Name C p) [a] [] pos)) none pos2) (sRaise C fl f) := fun W tk => by
  obtain ⟨fI, fd, ps, i1, i2, i3, i4⟩ := T.i
  refine psMono (ps_raise hc tk (pmk_oex T.o i1 i2 (i3.mono hk) hr i4 .nil pass0 hg T.g (pa_cons ha pa_nil he) hdb he hpl)) fun D σ H ⟨F0, B, F, ρ, r, G, E, e, p⟩ => ?_
  obtain ⟨d, e1, e⟩ := bind_some e
  cases e
  refine ⟨B, F, ρ, d, E, e1, fun v F1 H1 G1 r1 => ⟨(by decide : (1 : Nat) ≤ 1000), fun ax na => ?_⟩⟩
  refine ⟨ax, _, v, rfl, T.o, T.nf, upd_same, fun dx n1 n2 => ⟨rfl, dx, [(fl, v)], upd_same, ?_, ?_, ?_⟩⟩
  · rw [upd_ne n2, upd_same]
  · rw [upd_ne n2] at n1
    exact n1
  · rw [upd_ne n2] at n1
    have eH : upd (del (upd (upd (upd H1 ax (exo ax (He.ga X.K C) none)) dx (exd dx [(fl, v)])) ax (exo ax (He.ga X.K C) (some dx))) ax) dx (.xd [(fl, v)]) = upd H1 dx (.xd [(fl, v)]) := by
      funext b
      by_cases hb : b = dx
      · subst hb
        rw [upd_same, upd_same]
      · rw [upd_ne hb, upd_ne hb]
        by_cases hb2 : b = ax
        · subst hb2
          rw [del_same, na]
        · rw [del_ne hb2, upd_ne hb2, upd_ne hb, upd_ne hb2]
    rw [eH]
    have G2 : Grow F H F1 (upd H1 dx (.xd [(fl, v)])) := G1.trans (.side G1.fh n1)
    exact p σ F1 _ dx v (G.trans G2) (E.grow G2) G2.ff upd_same (G1.fh.free n1) (G.hh.free (G1.hh.free n1)) r1
/-! ### calls that may raise -/
abbrev EX := Rho → Option XR
def tDX (K : PySem.W.Frag) (W : WX) (f : EX) : TE := fun σ H Q => ∃ B F ρ r, ER K B F H σ ρ ∧ f ρ = some r ∧ match r with
  | .val d => ∀ v F' H', Grow F H F' H' → Dp K F' v d → Q v H'
  | .exc x => ∀ F' H' dd v, Grow F H F' H' → H' dd = some (.xd [(x.f, v)]) → F' dd = none → H dd = none → Dp K F' v x.d → W (.ref (He.ga K x.c)) (some dd) σ H'
def DVX (X : Cx) (e : Expr) (f : EX) : Prop := ∀ W : WX, Takes X W → PE X e (tDX X.K W f)
def xCall (m : List PyData → Option XR) (f : EA) : EX := fun ρ => (f ρ).bind m
theorem dvx_call {x : Str} {p : Pos} {k n j : Nat} {m : List PyData → Option XR} (D : DefX X.prog X.w X.K X.mg X.base x k n m) (hr : Room j X.A) (ha : DA X (e :: es) h) (hj : k ≤ j := by decide) (hg : Gl X x := by rfl) (hn : (e :: es).length = n := by rfl) (hdb : (x == ("__debug__" : Str)) = false := by decide)
    (he : starEach (e :: es) X.env = (false, eval e X.env) :: starEach es X.env := by rfl) (hpl : (backTo pos (starEach es X.env)).any (·.1) = false := by rfl) : DVX X (.Call (.Name x p) (e :: es) [] pos) (xCall m h) := fun W tk => by
  obtain ⟨fa, fd, ps, q1, q2, q3, q4⟩ := D.ex
  refine peMono (pe_callS (E := WE W) q1 (hr.mono hj) hg q2 q3 q4 (fun σ => passAt tk σ) ha.pa hdb he hpl) fun σ H Q ⟨B, F, ρ, r, E, e, q⟩ => ?_
  obtain ⟨ds, e1, e2⟩ := bind_some e
  refine ⟨B, F, ρ, ds, E, e1, fun vs F1 H1 G rr => ⟨by rw [dpLen rr, ha.len ρ ds e1]; exact hn, F1, ds, r, G.fh, rr, e2, ?_⟩⟩
  cases r with
  | val d => exact fun v F2 H2 G2 r2 => q v F2 H2 (G.trans G2) r2
  | exc x => exact fun F2 H2 dd v G2 h1 h2 h3 h4 => q F2 H2 dd v (G.trans G2) h1 h2 (G.hh.free h3) h4
/-- [e, f(..)]: the last item may raise -/
def xLst1 (f : EV) (g : EX) : EX := fun ρ => (f ρ).bind fun d => (g ρ).bind fun r => match r with
  | .val d' => some (.val (.list [d, d']))
  | .exc x => some (.exc x)
theorem dvx_lst1 {g : EX} (ha : DV X a f) (hb : DVX X b g) (hs1 : starEach [a, b] X.env = (false, eval a X.env) :: starEach [b] X.env := by rfl) (hs2 : starEach [b] X.env = (false, eval b X.env) :: starEach [] X.env := by rfl) : DVX X (.List [a, b] pos) (xLst1 f g) := fun W tk =>
  peMono (pe_lst (pa_cons ha (pa_cons (hb W tk) pa_nil hs2) hs1)) fun σ H Q ⟨B, F, ρ, r, E, e, q⟩ => by
    obtain ⟨d, e1, e⟩ := bind_some e
    obtain ⟨r0, e2, e⟩ := bind_some e
    refine ⟨B, F, ρ, d, E, e1, fun v F1 H1 G1 r1 => ⟨B, F1, ρ, r0, E.grow G1, e2, ?_⟩⟩
    cases r0 with
    | val d' =>
      cases e
      refine fun v2 F2 H2 G2 r2 => ⟨by show 2 ≤ sizeLine; decide, fun p np => ?_⟩
      have G := G1.trans G2
      refine q (.ref p) _ _ (G.trans (.new G.fh np)) (.lst (.inl (.inl upd_same)) ?_)
      have s1 : Same F2 (upd F2 p (.lst [v, v2])) := sameUpd (G.fh.free np)
      exact .cons (dpMono (G2.ff.trans s1) _ _ r1) (.cons (dpMono s1 _ _ r2) .nil)
    | exc x =>
      cases e
      exact fun F2 H2 dd w G2 h1 h2 h3 h4 => q F2 H2 dd w (G1.trans G2) h1 h2 (G1.hh.free h3) h4
/-! ### statements that may raise -/
theorem xc_of {K : PySem.W.Frag} {F0 B F F' H H' : Hp} {W : WX} {ρ : Rho} {x : XD} {σ : L2.St} {dd : Addr} {v : V} (G : Grow F0 B F H) (E : ER K B F H σ ρ) (p : postX K F0 B F W ρ x) (G1 : Grow F H F' H') (h1 : H' dd = some (.xd [(x.f, v)])) (h2 : F' dd = none) (h3 : H dd = none) (h4 : Dp K F' v x.d) : W (.ref (He.ga K x.c)) (some dd) σ H' :=
  p σ F' H' dd v (G.trans G1) (E.grow G1) G1.ff h1 h2 (G.hh.free h3) h4
def sRetX (f : EX) : ES := fun ρ => (f ρ).bind fun r => match r with
  | .val d => some (.rt d)
  | .exc x => some (.xc ρ x)
def sSetX (i : Nat) (f : EX) : ES := fun ρ => (f ρ).bind fun r => match r with
  | .val d => some (.nx (ρ.set i (.va d)))
  | .exc x => some (.xc ρ x)
def sExpX (f : EX) : ES := fun ρ => (f ρ).bind fun r => match r with
  | .val _ => some (.nx ρ)
  | .exc x => some (.xc ρ x)
theorem ds_retX {g : EX} (he : DVX X e g) : DS X (.Return (some e) pos) (sRetX g) := fun W tk => psMono (ps_ret (he W tk)) fun D σ H ⟨F0, B, F, ρ, r, G, E, e, p⟩ => by
  obtain ⟨r0, e1, e⟩ := bind_some e
  refine ⟨B, F, ρ, r0, E, e1, ?_⟩
  cases r0 with
  | val d =>
    cases e
    exact fun v F' H' G' r' => p v F' H' (G.trans G') r'
  | exc x =>
    cases e
    exact fun F' H' dd v G1 h1 h2 h3 h4 => xc_of G E p G1 h1 h2 h3 h4
theorem ds_setX {g : EX} {i : Nat} {x : Str} {pos' : Pos} (hN : X.N.Nodup) (hi : X.N[i]? = some x) (hx : Loc X.env.scope x) (he : DVX X e g) (hs : swapsWith e (some (.Name x pos')) pos.line X.env = pure false := by rfl) (hf : X.fn x = true ∨ X.env.scope.names.lookup x = some .local := by first | exact .inl rfl | exact .inr rfl | assumption) :
    DS X (.Assign [.Name x pos'] e pos) (sSetX i g) := fun W tk => psMono (ps_set hN hi hx (he W tk) hs hf) fun D σ H ⟨F0, B, F, ρ, r, G, E, e, p⟩ => by
  obtain ⟨r0, e1, e⟩ := bind_some e
  refine ⟨B, F, ρ, r0, E, e1, ?_⟩
  cases r0 with
  | val d =>
    cases e
    exact fun v F' H' G' r' => p _ F' H' (G.trans G') ((E.grow G').setVa r') G'.ff
  | exc x =>
    cases e
    exact fun F' H' dd v G1 h1 h2 h3 h4 => xc_of G E p G1 h1 h2 h3 h4
theorem ds_exprX {g : EX} (he : DVX X e g) (hs : swapsWith e none pos.line X.env = pure false := by rfl) : DS X (.Expr e pos) (sExpX g) := fun W tk => psMono (ps_expr (he W tk) hs) fun D σ H ⟨F0, B, F, ρ, r, G, E, e, p⟩ => by
  obtain ⟨r0, e1, e⟩ := bind_some e
  refine ⟨B, F, ρ, r0, E, e1, ?_⟩
  cases r0 with
  | val d =>
    cases e
    exact fun v F' H' G' _ => p σ F' H' (G.trans G') (E.grow G') G'.ff
  | exc x =>
    cases e
    exact fun F' H' dd v G1 h1 h2 h3 h4 => xc_of G E p G1 h1 h2 h3 h4
end
end DL

set_option Elab.async false
set_option linter.all false
set_option maxRecDepth 100000
set_option maxHeartbeats 4000000
/-! DLB: try, and the suite of except .. as n -/
namespace DL
open PySem PySem.Spec PyProof.Rows L2
structure HAt (K : PySem.W.Frag) (i : Nat) (a : Addr) (cls : Value) (d : Option Addr) (F H : Hp) (σ : L2.St) (x : XD) : Prop where
  s : σ[i]? = some (some (.ref a))
  x : XAt K F H cls d x
theorem HAt.grow {K : PySem.W.Frag} {i : Nat} {a : Addr} {cls : Value} {d : Option Addr} {F H F' H' : Hp} {σ : L2.St} {x : XD} (h : HAt K i a cls d F H σ x) (g : Grow F H F' H') : HAt K i a cls d F' H' σ x := ⟨h.s, h.x.grow g⟩
abbrev EVH := XD → EV
abbrev EBH := XD → EB
abbrev EAH := XD → EA
def tDH (K : PySem.W.Frag) (i : Nat) (a : Addr) (cls : Value) (d : Option Addr) (f : EVH) : TE := fun σ H Q => ∃ B F ρ x r, ER K B F H σ ρ ∧ HAt K i a cls d F H σ x ∧ f x ρ = some r ∧ ∀ v F' H', Grow F H F' H' → Dp K F' v r → Q v H'
def tTH (K : PySem.W.Frag) (i : Nat) (a : Addr) (cls : Value) (d : Option Addr) (f : EBH) : TT := fun σ H Q => ∃ B F ρ x b, ER K B F H σ ρ ∧ HAt K i a cls d F H σ x ∧ f x ρ = some b ∧ ∀ F' H', Grow F H F' H' → Q b H'
def tAH (K : PySem.W.Frag) (i : Nat) (a : Addr) (cls : Value) (d : Option Addr) (f : EAH) : TA := fun σ H Q => ∃ B F ρ x ds, ER K B F H σ ρ ∧ HAt K i a cls d F H σ x ∧ f x ρ = some ds ∧ ∀ vs F' H', Grow F H F' H' → DpAll K F' vs ds → Q vs H'
/-- the suite's own facts -/
structure Su where
  i : Nat
  a : Addr
  cls : Value
  d : Option Addr
def DVH (X : Cx) (u : Su) (e : Expr) (f : EVH) : Prop := PE X e (tDH X.K u.i u.a u.cls u.d f)
def DTH (X : Cx) (u : Su) (e : Expr) (f : EBH) : Prop := PT X e (tTH X.K u.i u.a u.cls u.d f)
def DWH (X : Cx) (u : Su) (e : Expr) (f : EBH) : Prop := PW X e (tTH X.K u.i u.a u.cls u.d f)
structure DAH (X : Cx) (u : Su) (es : List Expr) (f : EAH) : Prop where
  pa : PA X es (tAH X.K u.i u.a u.cls u.d f)
  len : ∀ x ρ ds, f x ρ = some ds → ds.length = es.length
section
variable {X : Cx} {s : Su} {a b c e : Expr} {es : List Expr} {f : EV} {g f1 f2 : EVH} {h : EAH} {cb cb' : EBH} {pos : Pos}
theorem dvh_of (h : DV X e f) : DVH X s e (fun _ => f) := peMono h fun σ H Q ⟨B, F, ρ, x, r, E, hx, e, q⟩ => ⟨B, F, ρ, r, E, e, q⟩
def eAndH (f g : EVH) : EVH := fun x => eAnd (f x) (g x)
def eOrH (f g : EVH) : EVH := fun x => eOr (f x) (g x)
def eUnH (g : PyData → Option PyData) (f : EVH) : EVH := fun x => eUn g (f x)
def bValH (f : EVH) : EBH := fun x => bVal (f x)
def bAndH (f g : EBH) : EBH := fun x => bAnd (f x) (g x)
def bOrH (f g : EBH) : EBH := fun x => bOr (f x) (g x)
def bNotH (f : EBH) : EBH := fun x => bNot (f x)
def aConsH (f : EVH) (g : EAH) : EAH := fun x => aCons (f x) (g x)
def aNilH : EAH := fun _ => aNil
theorem dvh_and {rest : List Expr} (ha : DVH X s a f1) (hb : DVH X s (.BoolOp .And (b :: rest) pos) g) : DVH X s (.BoolOp .And (a :: b :: rest) pos) (eAndH f1 g) := peMono (pe_and ha hb) fun σ H Q ⟨B, F, ρ, x, d, E, hx, e, q⟩ => by
  obtain ⟨dx, e1, e⟩ := bind_some e
  refine ⟨B, F, ρ, x, dx, E, hx, e1, fun v F1 H1 G1 r1 => ?_⟩
  cases dx with
  | bool k =>
    cases r1
    refine ⟨k, rfl, ?_⟩
    cases k with
    | true => exact ⟨B, F1, ρ, x, d, E.grow G1, hx.grow G1, e, fun v F2 H2 G2 r2 => q v F2 H2 (G1.trans G2) r2⟩
    | false =>
      cases e
      exact q _ F1 H1 G1 (.bl false)
  | _ => cases e
theorem dvh_or {rest : List Expr} (ha : DVH X s a f1) (hb : DVH X s (.BoolOp .Or (b :: rest) pos) g) : DVH X s (.BoolOp .Or (a :: b :: rest) pos) (eOrH f1 g) := peMono (pe_or ha hb) fun σ H Q ⟨B, F, ρ, x, d, E, hx, e, q⟩ => by
  obtain ⟨dx, e1, e⟩ := bind_some e
  refine ⟨B, F, ρ, x, dx, E, hx, e1, fun v F1 H1 G1 r1 => ?_⟩
  cases dx with
  | bool k =>
    cases r1
    refine ⟨k, rfl, ?_⟩
    cases k with
    | false => exact ⟨B, F1, ρ, x, d, E.grow G1, hx.grow G1, e, fun v F2 H2 G2 r2 => q v F2 H2 (G1.trans G2) r2⟩
    | true =>
      cases e
      exact q _ F1 H1 G1 (.bl true)
  | _ => cases e
theorem dvh_one {op} (ha : DVH X s a g) : DVH X s (.BoolOp op [a] pos) g := pe_one ha
theorem dvh_not (ha : DVH X s a g) : DVH X s (.UnaryOp .Not a pos) (eUnH gNot g) := peMono (pe_not ha) fun σ H Q ⟨B, F, ρ, x, d, E, hx, e, q⟩ => by
  obtain ⟨dx, e1, e⟩ := bind_some e
  refine ⟨B, F, ρ, x, dx, E, hx, e1, fun v F1 H1 G1 r1 => ?_⟩
  cases dx with
  | bool k =>
    cases r1
    cases e
    exact ⟨k, rfl, q _ F1 H1 G1 (.bl _)⟩
  | _ => cases e
theorem dth_val (h : DVH X s e g) (he : ∀ whole, isTrue e X.env whole = (do let v ← whole; standAt e.pos; holding [v] (truthy v)) := by intro _; rfl) : DTH X s e (bValH g) := ptMono (pt_val h he) fun σ H Q ⟨B, F, ρ, x, b, E, hx, e, q⟩ => by
  obtain ⟨d, e1, e2⟩ := bind_some e
  refine ⟨B, F, ρ, x, d, E, hx, e1, fun v F' H' G r => ?_⟩
  cases d with
  | bool k =>
    cases e2
    cases r
    exact ⟨_, rfl, q F' H' G⟩
  | _ => cases e2
theorem dth_w (h : DWH X s e cb) : DTH X s e cb := PW.pt h
theorem dwh_and1 (ha : DTH X s a cb) : DWH X s (.BoolOp .And [a] pos) cb := pw_and1 ha
theorem dwh_or1 (ha : DTH X s a cb) : DWH X s (.BoolOp .Or [a] pos) cb := pw_or1 ha
theorem dwh_and {rest : List Expr} (ha : DTH X s a cb) (hb : DWH X s (.BoolOp .And (b :: rest) pos) cb') : DWH X s (.BoolOp .And (a :: b :: rest) pos) (bAndH cb cb') := pwMono (pw_and ha hb) fun σ H Q ⟨B, F, ρ, x, k, E, hx, e, q⟩ => by
  obtain ⟨k1, e1, e⟩ := bind_some e
  refine ⟨B, F, ρ, x, k1, E, hx, e1, fun F1 H1 G1 => ?_⟩
  cases k1 with
  | true =>
    rw [if_pos rfl] at e ⊢
    exact ⟨B, F1, ρ, x, k, E.grow G1, hx.grow G1, e, fun F2 H2 G2 => q F2 H2 (G1.trans G2)⟩
  | false =>
    rw [if_neg (by simp)] at e ⊢
    cases e
    exact q F1 H1 G1
theorem dwh_or {rest : List Expr} (ha : DTH X s a cb) (hb : DWH X s (.BoolOp .Or (b :: rest) pos) cb') : DWH X s (.BoolOp .Or (a :: b :: rest) pos) (bOrH cb cb') := pwMono (pw_or ha hb) fun σ H Q ⟨B, F, ρ, x, k, E, hx, e, q⟩ => by
  obtain ⟨k1, e1, e⟩ := bind_some e
  refine ⟨B, F, ρ, x, k1, E, hx, e1, fun F1 H1 G1 => ?_⟩
  cases k1 with
  | false =>
    rw [if_neg (by simp)] at e ⊢
    exact ⟨B, F1, ρ, x, k, E.grow G1, hx.grow G1, e, fun F2 H2 G2 => q F2 H2 (G1.trans G2)⟩
  | true =>
    rw [if_pos rfl] at e ⊢
    cases e
    exact q F1 H1 G1
theorem dth_not (ha : DTH X s a cb) : DTH X s (.UnaryOp .Not a pos) (bNotH cb) := ptMono (pt_not ha) fun σ H Q ⟨B, F, ρ, x, k, E, hx, e, q⟩ => by
  obtain ⟨k1, e1, e⟩ := bind_some e
  cases e
  exact ⟨B, F, ρ, x, k1, E, hx, e1, fun F1 H1 G1 => q F1 H1 G1⟩
theorem dah_nil : DAH X s [] aNilH := ⟨paMono pa_nil fun σ H Q ⟨B, F, ρ, x, ds, E, hx, e, q⟩ => by
  cases e
  exact q _ F H (.refl E.fh) .nil, fun x ρ ds e => by cases e; rfl⟩
theorem dah_cons (ha : DVH X s e g) (hr : DAH X s es h) (hs : starEach (e :: es) X.env = (false, eval e X.env) :: starEach es X.env := by rfl) : DAH X s (e :: es) (aConsH g h) := ⟨paMono (pa_cons ha hr.pa hs) fun σ H Q ⟨B, F, ρ, x, ds, E, hx, e, q⟩ => by
  obtain ⟨dx, e1, e⟩ := bind_some e
  obtain ⟨dr, e2, e⟩ := bind_some e
  cases e
  exact ⟨B, F, ρ, x, dx, E, hx, e1, fun y F1 H1 G1 r1 => ⟨B, F1, ρ, x, dr, E.grow G1, hx.grow G1, e2, fun xs F2 H2 G2 r2 => q _ F2 H2 (G1.trans G2) (.cons (dpMono G2.ff _ _ r1) r2)⟩⟩, fun x ρ ds e => by
  obtain ⟨dx, e1, e⟩ := bind_some e
  obtain ⟨dr, e2, e⟩ := bind_some e
  cases e
  exact congrArg (· + 1) (hr.len x ρ dr e2)⟩
def eLstH (h : EAH) : EVH := fun x => eOfF (h x)
theorem dvh_lst (ha : DAH X s es h) (hz : es.length ≤ sizeLine := by decide) : DVH X s (.List es pos) (eLstH h) := peMono (pe_lst ha.pa) fun σ H Q ⟨B, F, ρ, x, d, E, hx, e, q⟩ => by
  obtain ⟨ds, e1, e2⟩ := Option.map_eq_some_iff.mp e
  subst e2
  refine ⟨B, F, ρ, x, ds, E, hx, e1, fun vs F' H' G r => ⟨by rw [dpLen r, ha.len x ρ ds e1]; exact hz, fun p np => ?_⟩⟩
  have s1 : Same F' (upd F' p (.lst vs)) := sameUpd (G.fh.free np)
  exact q _ _ _ (G.trans (.new G.fh np)) (.lst (.inl (.inl upd_same)) (dpMonoAll s1 _ _ r))
end
/-! ### what the suite asks of the exception -/
section
variable {X : Cx} {a : Addr} {oe : Obj} {cls : Value} {d : Option Addr} {pn : List (Addr × Obj)} {i : Nat} {n : Str} {np pos pos2 : Pos}
abbrev suC (X : Cx) (a : Addr) (oe : Obj) (pn : List (Addr × Obj)) : Cx := X.suite a ((a, oe) :: pn)
/-- n.f, where the class is C -/
def eFld (C fl : Str) : EVH := fun x _ => if x.c = C ∧ x.f = fl then some x.d else none
theorem dvh_fld {C fl : Str} (T : XCls X.prog X.w X.K X.mg X.base C fl) (hz : Zc cls d oe) (hf : ∃ vs, oe.data = .fields vs) (he : PE (suC X a oe pn) (.Name n np) (tVar i)) (hb : attributeBase (.Name n np) fl X.env (eval (.Name n np) X.env) = eval (.Name n np) X.env := by rfl) :
    DVH (suC X a oe pn) ⟨i, a, cls, d⟩ (.Attribute (.Name n np) fl pos) (eFld C fl) := peMono (pe_xf T.x T.nf hz hf he hb) fun σ H Q ⟨B, F, ρ, x, r, E, hx, e, q⟩ => by
  unfold eFld at e
  split at e
  · rename_i hc
    cases e
    obtain ⟨e1, e2⟩ := hc
    obtain ⟨dd, v, h1, h2, h3⟩ := hx.x.e
    refine ⟨.ref a, hx.s, rfl, by have z := hx.x.c; rw [e1] at z; exact z, dd, _, v, h1, h2, ?_, q v F H (.refl E.fh) h3⟩
    rw [e2]
    simp [List.lookup]
  · cases e
/-- isinstance(n, T) -/
def rIsX (K : PySem.W.Frag) (a : Addr) (cls : Value) (d : Option Addr) (kit : Value → Value → Option Bool → Prop) : List V → Hp → VK → Prop := fun xs H Q => ∃ (c : V) (b : Bool) (D dd : Addr) (fs : List (Str × V)), xs = [.ref a, c] ∧ cls = .ref D ∧ d = some dd ∧ H dd = some (.xd fs) ∧ ExcC K D ∧ (∀ u, RelV c u → kit (.ref D) u (some b)) ∧ Q (.bl b) H
theorem inst_of {pins : List (Addr × Obj)} {s : Shared} {σ : L2.St} {H : Hp} {D dd : Addr} {fs : List (Str × V)} (I : Inv (suC X a oe pn) pins σ H s) (hz : Zc (.ref D) (some dd) oe) (hf : ∃ vs, oe.data = .fields vs) (h : H dd = some (.xd fs)) : ∃ od, PySem.W.InstAt s.heap a oe D (some od) := by
  obtain ⟨hget, _⟩ := I.pin (a, oe) (List.mem_append.mpr (.inl List.mem_cons_self))
  obtain ⟨vs, hd⟩ := hf
  have hx : ObjOk X.prog X.w H s.heap dd (.xd fs) := I.hok dd _ h
  obtain ⟨mA, hns, hr⟩ := hx
  obtain ⟨od, ho, hl⟩ := lookIn_ns hns
  exact ⟨od, hget, hz.1, by unfold PySem.W.notCls; rw [hd] <;> rfl, by rw [hz.2]; exact ho⟩
theorem kitx_of {K : PySem.W.Frag} {D x : Addr} {ox : Obj} {od : Option Obj} (C : ExcC K D) : PySem.W.KitX K (.ref x) (.ref D) (fun h => PySem.W.InstAt h x ox D od) := by
  have hcl : (PySem.W.clsIn K D).isSome = true := by
    obtain ⟨cd, hc, _⟩ := PySem.W.any_some C.hd
    rw [hc]
    rfl
  exact PySem.W.kitx_exc hcl C.hg C.hk C.hs C.ha C.hn C.ht C.hm
theorem call_is1 (hz : Zc cls d oe) (hf : ∃ vs, oe.data = .fields vs) : CallR (suC X a oe pn) (.builtin "isinstance") (rIsX X.K a cls d fun t u b => PySem.W.kitOne X.K t u = b) := by
  intro pins s σ H xs us Q I r h
  obtain ⟨c, b, D, dd, fs, rfl, ec, ed, hH, C, hk, q⟩ := h
  subst ec ed
  obtain ⟨u1, u2, rfl, r1, r2⟩ : ∃ u1 u2, us = [u1, u2] ∧ RelV (.ref a) u1 ∧ RelV c u2 := by
    cases r with
    | cons ra rb =>
      cases rb with
      | cons rc rd =>
        cases rd
        exact ⟨_, _, rfl, ra, rc⟩
  cases r1
  obtain ⟨od, J⟩ := inst_of I hz hf hH
  exact PySem.W.kia_one (kitx_of C) I.kIn J (hk _ r2) (fun z => nomatch z) fun tk => ⟨.bl b, H, I.kept (t' := tk) fun _ _ z => z, rfl, q⟩
/-- isinstance(n, (T, ..)) -/
def rIsXT (K : PySem.W.Frag) (a : Addr) (cls : Value) (d : Option Addr) : List V → Hp → VK → Prop := fun xs H Q => ∃ (p : Addr) (ts : List V) (b : Bool) (D dd : Addr) (fs : List (Str × V)), xs = [.ref a, .ref p] ∧ H p = some (.tup ts) ∧ cls = .ref D ∧ d = some dd ∧ H dd = some (.xd fs) ∧ ExcC K D ∧ (∀ us, Vals ts us → PySem.W.kitAny K (.ref D) us = some b) ∧ Q (.bl b) H
theorem call_isT (hz : Zc cls d oe) (hf : ∃ vs, oe.data = .fields vs) : CallR (suC X a oe pn) (.builtin "isinstance") (rIsXT X.K a cls d) := by
  intro pins s σ H xs us Q I r h
  obtain ⟨p, ts, b, D, dd, fs, rfl, hp, ec, ed, hH, C, hk, q⟩ := h
  subst ec ed
  obtain ⟨u1, u2, rfl, r1, r2⟩ : ∃ u1 u2, us = [u1, u2] ∧ RelV (.ref a) u1 ∧ RelV (.ref p) u2 := by
    cases r with
    | cons ra rb =>
      cases rb with
      | cons rc rd =>
        cases rd
        exact ⟨_, _, rfl, ra, rc⟩
  cases r1
  cases r2
  obtain ⟨od, J⟩ := inst_of I hz hf hH
  obtain ⟨its, rv, pt, _⟩ := I.tuple (SqT.of hp)
  obtain ⟨⟨oc, odd, oda, osl⟩, ho, h1, n, h2⟩ := pt
  dsimp only at h1 h2
  subst h1 h2
  exact PySem.W.kia_tup (kitx_of C) I.kIn J ho (hk _ rv) (fun z => nomatch z) fun tk => ⟨.bl b, H, I.kept (t' := tk) fun _ _ z => z, rfl, q⟩
end

/-! ### names of classes -/
section
variable {X : Cx} {e : Expr} {es : List Expr} {pos p np : Pos} {x : Str}
theorem pe_cls {T : Str} (hg : Gl X T) (hm : X.mg T = some (.ref (He.ga X.K T))) (hd : (T == ("__debug__" : Str)) = false := by decide) : PE X (.Name T p) (tC (.ref (He.ga X.K T))) := pe_glob hg hm rfl hd
def tVs (vs : List V) : TA := fun _ H Q => Q vs H
theorem pn_nil : PA X [] (tVs []) := paMono pa_nil fun _ _ _ q => q
theorem pn_cons {v : V} {vs : List V} (ha : PE X e (tC v)) (hr : PA X es (tVs vs)) (hs : starEach (e :: es) X.env = (false, eval e X.env) :: starEach es X.env := by rfl) : PA X (e :: es) (tVs (v :: vs)) := paMono (pa_cons ha hr hs) fun _ _ _ q => q
end
section
variable {X : Cx} {a : Addr} {oe : Obj} {cls : Value} {d : Option Addr} {pn : List (Addr × Obj)} {i : Nat} {n : Str} {np pos pos2 p : Pos} {es : List Expr} {e2 : Expr}
/-- the table of a test: the class's name, what the test says -/
def eIsC (t : Str → Option Bool) : EVH := fun x _ => (t x.c).map PyData.bool
theorem dvh_is1 {t : Str → Option Bool} {c : V} (hg : Gl X "isinstance") (hm : X.mg "isinstance" = none) (ht : PE (suC X a oe pn) e2 (tC c)) (hT : ∀ C b, t C = some b → ExcC X.K (He.ga X.K C) ∧ ∀ u, RelV c u → PySem.W.kitOne X.K (.ref (He.ga X.K C)) u = some b)
    (hz : Zc cls d oe) (hf : ∃ vs, oe.data = .fields vs) (he : PE (suC X a oe pn) (.Name n np) (tVar i))
    (h1 : starEach [.Name n np, e2] X.env = (false, eval (.Name n np) X.env) :: starEach [e2] X.env := by rfl) (h2 : starEach [e2] X.env = (false, eval e2 X.env) :: starEach [] X.env := by rfl) (hpl : (backTo pos (starEach [e2] X.env)).any (·.1) = false := by rfl) :
    DVH (suC X a oe pn) ⟨i, a, cls, d⟩ (.Call (.Name "isinstance" p) [.Name n np, e2] [] pos) (eIsC t) :=
  peMono (pe_callB (X := suC X a oe pn) (call_is1 hz hf) hg hm (by decide +kernel) (pa_cons he (pa_cons ht pa_nil h2) h1) (by decide) (by decide) h1 hpl) fun σ H Q ⟨B, F, ρ, x, r, E, hx, e, q⟩ => by
    obtain ⟨b, e1, e3⟩ := Option.map_eq_some_iff.mp e
    subst e3
    obtain ⟨k1, k2⟩ := hT _ _ e1
    obtain ⟨dd, v, q1, q2, q3⟩ := hx.x.e
    exact ⟨.ref a, hx.s, c, b, _, dd, _, rfl, hx.x.c, q1, q2, k1, k2, q _ F H (.refl E.fh) (.bl b)⟩
theorem dvh_isT {t : Str → Option Bool} {ts : List V} {x1 : Nat} {pt : Pos} (hg : Gl X "isinstance") (hm : X.mg "isinstance" = none) (ht : PA (suC X a oe pn) es (tVs ts)) (hT : ∀ C b, t C = some b → ExcC X.K (He.ga X.K C) ∧ ∀ us, Vals ts us → PySem.W.kitAny X.K (.ref (He.ga X.K C)) us = some b)
    (hz : Zc cls d oe) (hf : ∃ vs, oe.data = .fields vs) (he : PE (suC X a oe pn) (.Name n np) (tVar i)) (hl : ts.length ≤ sizeLine := by decide)
    (h1 : starEach [.Name n np, .Tuple es x1 pt] X.env = (false, eval (.Name n np) X.env) :: starEach [.Tuple es x1 pt] X.env := by rfl) (h2 : starEach [.Tuple es x1 pt] X.env = (false, eval (.Tuple es x1 pt) X.env) :: starEach [] X.env := by rfl) (hpl : (backTo pos (starEach [.Tuple es x1 pt] X.env)).any (·.1) = false := by rfl) :
    DVH (suC X a oe pn) ⟨i, a, cls, d⟩ (.Call (.Name "isinstance" p) [.Name n np, .Tuple es x1 pt] [] pos) (eIsC t) :=
  peMono (pe_callB (X := suC X a oe pn) (call_isT hz hf) hg hm (by decide +kernel) (pa_cons he (pa_cons (pe_tup ht) pa_nil h2) h1) (by decide) (by decide) h1 hpl) fun σ H Q ⟨B, F, ρ, x, r, E, hx, e, q⟩ => by
    obtain ⟨b, e1, e3⟩ := Option.map_eq_some_iff.mp e
    subst e3
    obtain ⟨k1, k2⟩ := hT _ _ e1
    obtain ⟨dd, v, q1, q2, q3⟩ := hx.x.e
    refine ⟨.ref a, hx.s, hl, fun p np => ?_⟩
    exact ⟨p, ts, b, _, dd, _, rfl, upd_same, hx.x.c, q1, by rw [upd_ne (ne_of_none q2 np)]; exact q2, k1, k2, q _ _ _ (.side E.fh np) (.bl b)⟩
end
/-! ### the suite's statements -/
def postH (K : PySem.W.Frag) (F0 B F : Hp) (s : Su) (x : XD) (D : Ends) : SR → Prop
  | .nx ρ => ∀ σ' F' H', Grow F0 B F' H' → ER K B F' H' σ' ρ → Same F F' → HAt K s.i s.a s.cls s.d F' H' σ' x → D.nx σ' H'
  | .rt d => ∀ v F' H', Grow F0 B F' H' → Dp K F' v d → D.rt v H'
  | _ => False
theorem postH.mono {K : PySem.W.Frag} {F0 B F F1 : Hp} {s : Su} {x : XD} {D : Ends} {r : SR} (h : postH K F0 B F s x D r) (q : Same F F1) : postH K F0 B F1 s x D r := by
  cases r with
  | nx ρ => exact fun σ' F' H' g e s' hx => h σ' F' H' g e (q.trans s') hx
  | rt d => exact h
  | bk ρ => exact h
  | ct ρ => exact h
  | xc ρ x => exact h
abbrev ESH := XD → ES
def tSH (K : PySem.W.Frag) (s : Su) (f : ESH) : TS := fun D σ H => ∃ F0 B F ρ x r, Grow F0 B F H ∧ ER K B F H σ ρ ∧ HAt K s.i s.a s.cls s.d F H σ x ∧ f x ρ = some r ∧ postH K F0 B F s x D r
def DSH (X : Cx) (s : Su) (st : Stmt) (f : ESH) : Prop := PS X st (tSH X.K s f)
def DSsH (X : Cx) (s : Su) (st : List Stmt) (f : ESH) : Prop := PSs X st (tSH X.K s f)
def sNxH : ESH := fun _ => sNx
def sSeqH (f g : ESH) : ESH := fun x => sSeq (f x) (g x)
def sSetH (j : Nat) (f : EVH) : ESH := fun x => sSet j (f x)
def sIfH (c : EBH) (f g : ESH) : ESH := fun x => sIf (c x) (f x) (g x)
def sRetH (f : EVH) : ESH := fun x => sRet (f x)
section
variable {X : Cx} {s : Su} {c e : Expr} {st : Stmt} {sts ss : List Stmt} {g : EVH} {cb : EBH} {u u1 u2 : ESH} {pos : Pos}
theorem dssh_nil : DSsH X s [] sNxH := pssMono pss_nil fun D σ H ⟨F0, B, F, ρ, x, r, G, E, hx, e, p⟩ => by
  cases e
  exact p σ F H G E (.refl F) hx
theorem dssh_cons (h1 : DSH X s st u1) (h2 : DSsH X s sts u2) : DSsH X s (st :: sts) (sSeqH u1 u2) := pssMono (pss_cons h1 h2) fun D σ H ⟨F0, B, F, ρ, x, r, G, E, hx, e, p⟩ => by
  obtain ⟨r1, e1, e⟩ := bind_some e
  refine ⟨F0, B, F, ρ, x, r1, G, E, hx, e1, ?_⟩
  cases r1 with
  | nx ρ' => exact fun σ' F' H' G' E' q hx' => ⟨F0, B, F', ρ', x, r, G', E', hx', e, p.mono q⟩
  | bk ρ' =>
    cases e
    exact p
  | ct ρ' =>
    cases e
    exact p
  | rt d =>
    cases e
    exact p
  | xc ρ' y =>
    cases e
    exact p
theorem dssh_one (h1 : DSH X s st u1) : DSsH X s [st] u1 := pss_one h1
theorem dsh_pass : DSH X s (.Pass pos) sNxH := psMono ps_pass fun D σ H ⟨F0, B, F, ρ, x, r, G, E, hx, e, p⟩ => by
  cases e
  exact p σ F H G E (.refl F) hx
theorem dsh_set {j : Nat} {x : Str} {pos' : Pos} (hN : X.N.Nodup) (hi : X.N[j]? = some x) (hx : Loc X.env.scope x) (hne : j ≠ s.i) (he : DVH X s e g) (hs : swapsWith e (some (.Name x pos')) pos.line X.env = pure false := by rfl) (hf : X.fn x = true ∨ X.env.scope.names.lookup x = some .local := by first | exact .inl rfl | exact .inr rfl | assumption) :
    DSH X s (.Assign [.Name x pos'] e pos) (sSetH j g) := psMono (ps_set hN hi hx he hs hf) fun D σ H ⟨F0, B, F, ρ, x, r, G, E, hx, e, p⟩ => by
  obtain ⟨d, e1, e⟩ := bind_some e
  cases e
  refine ⟨B, F, ρ, x, d, E, hx, e1, fun v F' H' G' r' => p _ F' H' (G.trans G') ((E.grow G').setVa r') G'.ff ⟨?_, (hx.grow G').x⟩⟩
  rw [List.getElem?_set_ne hne]
  exact hx.s
theorem dsh_if (hc : DTH X s c cb) (ha : DSsH X s sts u1) (hb : DSsH X s ss u2) : DSH X s (.If c sts ss pos) (sIfH cb u1 u2) := psMono (ps_if hc ha hb) fun D σ H ⟨F0, B, F, ρ, x, r, G, E, hx, e, p⟩ => by
  obtain ⟨k, e1, e⟩ := bind_some e
  refine ⟨B, F, ρ, x, k, E, hx, e1, fun F' H' G' => ?_⟩
  cases k with
  | true =>
    rw [if_pos rfl] at e ⊢
    exact ⟨F0, B, F', ρ, x, r, G.trans G', E.grow G', hx.grow G', e, p.mono G'.ff⟩
  | false =>
    rw [if_neg (by simp)] at e ⊢
    exact ⟨F0, B, F', ρ, x, r, G.trans G', E.grow G', hx.grow G', e, p.mono G'.ff⟩
theorem dsh_ret (he : DVH X s e g) : DSH X s (.Return (some e) pos) (sRetH g) := psMono (ps_ret he) fun D σ H ⟨F0, B, F, ρ, x, r, G, E, hx, e, p⟩ => by
  obtain ⟨d, e1, e⟩ := bind_some e
  cases e
  exact ⟨B, F, ρ, x, d, E, hx, e1, fun v F' H' G' r' => p v F' H' (G.trans G') r'⟩
end
/-! ### try: .. except C as n: .. -/
def sTry (i : Nat) (t : Str → Bool) (ub : ES) (us : ESH) : ES := fun ρ => (ub ρ).bind fun r => match r with
  | .xc ρ' x => if t x.c = true ∧ i < ρ'.length then (us x (ρ'.set i .un)).bind fun r' => match r' with
    | .nx ρ'' => some (.nx (ρ''.set i .un))
    | .rt d => some (.rt d)
    | _ => none
    else none
  | r => some r
theorem ds_try {X : Cx} {C n : Str} {i : Nat} {body suite : List Stmt} {b₀ : Stmt} {np pos pos' : Pos} {ub : ES} {us : ESH} (t : Str → Bool) (hs : X.stack = X.env :: X.outer) (hf : X.env.frame = some X.env.locals) (hN : X.N.Nodup) (hi : X.N[i]? = some n) (hln : X.env.kindOf n = some .local) (hc : Names X C (.ref (He.ga X.K C)))
    (hT : ∀ c, t c = true → PySem.W.exmOne X.K (.ref (He.ga X.K c)) (.ref (He.ga X.K C)) = some true)
    (hb : ∀ (pn : List (Addr × Obj)) (xe : Value → Shared → Prop), PassesOwn (model X.prog X.w) X.A X.env xe → DSs (X.tr pn xe) body ub)
    (hsu : ∀ (a : Addr) (oe : Obj) (cls : Value) (d : Option Addr) (pn : List (Addr × Obj)), Zc cls d oe → (∃ vs, oe.data = .fields vs) → DSsH (suC X a oe pn) ⟨i, a, cls, d⟩ (b₀ :: suite) us) :
    DS X (.Try body [.ExceptHandler (some (.Name C np)) (some n) (b₀ :: suite) pos'] [] [] pos) (sTry i t ub us) := fun W tk =>
  psMono (ps_try_as (i := i) (tb := fun W' => tS X.K W' ub) (ts := fun a cls d => tSH X.K ⟨i, a, cls, d⟩ us) (Wout := W) hs hf hN hi hln hc tk (fun W' pn xe tk' po => hb pn xe po W' tk') hsu) fun D σ H ⟨F0, B, F, ρ, r, G, E, e, p⟩ => by
    obtain ⟨r0, e1, e⟩ := bind_some e
    refine ⟨F0, B, F, ρ, r0, G, E, e1, ?_⟩
    cases r0 with
    | nx ρ' =>
      cases e
      exact p
    | bk ρ' =>
      cases e
      exact p
    | ct ρ' =>
      cases e
      exact p
    | rt d =>
      cases e
      exact p
    | xc ρ' x =>
      intro σ' F' H' dd v G' E' q h1 h2 h3 h4
      change (if t x.c = true ∧ i < ρ'.length then _ else none) = some r at e
      split at e
      case isFalse => cases e
      rename_i hh
      obtain ⟨r1, e2, e⟩ := bind_some e
      refine ⟨true, hT _ hh.1, fun _ a na => ?_, fun z => nomatch z⟩
      refine ⟨F0, B, F', ρ'.set i .un, x, r1, G', setUn E' i _, ⟨?_, ⟨rfl, dd, v, rfl, h1, h4⟩⟩, e2, ?_⟩
      · rw [List.getElem?_set_self (by rw [E'.len]; exact hh.2)]
      · cases r1 with
        | nx ρ2 =>
          cases e
          exact fun σ2 F2 H2 G2 E2 q2 hx => p _ F2 H2 G2 (setUn E2 i none) (q.trans q2)
        | rt d =>
          cases e
          exact fun v F2 H2 G2 r2 => p v F2 H2 G2 r2
        | bk ρ2 => cases e
        | ct ρ2 => cases e
        | xc ρ2 y => cases e
end DL

set_option Elab.async false
set_option linter.all false
set_option maxRecDepth 100000
set_option maxHeartbeats 4000000
/-! DLC: the head's facts about classes of exceptions -/
namespace DL
open PySem PySem.Spec PyProof.Rows L2
def clsInit : Stmt → Stmt
  | .ClassDef _ _ _ body _ _ _ _ _ _ _ => body.getD 0 (.Pass ⟨0, 0, 0, 0⟩)
  | s => s
def oexB (K : PySem.W.Frag) (C : Addr) : Bool := match K.lookup C with
  | some ⟨cl, _, .cls cd, sl⟩ => decide (cl = .type "type") && ((match cd.mro with
    | .ref C' :: bm => decide (C' = C) && PySem.HandSPX.refsVE bm
    | _ => false) && (cd.hasDict && (!cd.hasDel && (match sl.toList with
    | [_, _, _, _, some (.builtin n), _] => decide (n = "ValueError.__new__")
    | _ => false))))
  | _ => false
theorem oexB_ok {K : PySem.W.Frag} {C : Addr} (h : oexB K C = true) : ∃ nm q N bs bm sn sub ab col dd k0 k1 k2 k3 k5, K.lookup C = some (excClassObj nm q C N bs bm true sn sub ab col dd k0 k1 k2 k3 k5 "ValueError.__new__") ∧ PySem.HandSPX.refsVE bm = true := by
  unfold oexB at h
  split at h
  · rename_i cl dd cd sl ho
    obtain ⟨h1, h⟩ := Bool.and_eq_true_iff.mp h
    obtain ⟨h2, h⟩ := Bool.and_eq_true_iff.mp h
    obtain ⟨h3, h⟩ := Bool.and_eq_true_iff.mp h
    obtain ⟨h4, h5⟩ := Bool.and_eq_true_iff.mp h
    have e1 := of_decide_eq_true h1
    subst e1
    split at h2
    · rename_i C' bm hm
      obtain ⟨h6, h7⟩ := Bool.and_eq_true_iff.mp h2
      have e2 := of_decide_eq_true h6
      subst e2
      split at h5
      · rename_i k0 k1 k2 k3 n k5 hs
        have e3 := of_decide_eq_true h5
        subst e3
        have hsl : sl = #[k0, k1, k2, k3, some (.builtin "ValueError.__new__"), k5] := by
          obtain ⟨l⟩ := sl
          simp only at hs
          rw [hs]
        subst hsl
        obtain ⟨nm, bs, mro, ns, qn, hd, sn, sub, ab, col, del⟩ := cd
        dsimp only at hm h3 h4
        have e4 : del = false := by simpa using h4
        subst hm h3 e4
        exact ⟨nm, qn, ns, bs, bm, sn, sub, ab, col, dd, k0, k1, k2, k3, k5, ho, h7⟩
      · cases h5
    · cases h2
  · cases h
/-- all about a class with one field -/
def fXc (C f : Str) : Fct := fun K => oexB K (He.ga K C) && (He.eqO (PySem.W.findIn K (.ref (He.ga K C)) "__setattr__") (some (some (.builtin "object.__setattr__"))) && (decide (PySem.W.typeIn K (.ref (He.ga K C)) = some (.type "type")) && (PySem.W.keepIn K (.ref (He.ga K C)) && (xfB K (He.ga K C) &&
  (He.eqO (PySem.W.findIn K (.ref (He.ga K C)) f) (some none) && (He.eqO (PySem.W.findIn K (.ref (He.ga K C)) "__init__") (some (some (.ref (He.ma K (He.ga K C) "__init__")))) && decide (PySem.W.typeIn K (.ref (He.ma K (He.ga K C) "__init__")) = some (.type "function"))))))))
def fEx (C : Str) : Fct := fun K => xfB K (He.ga K C) && (He.eqO (PySem.W.findIn K (.ref (He.ga K C)) "__class__") (some (some (.builtin "object.__class__"))) && (He.eqO (PySem.W.specialIn K (.builtin "object.__class__") "__get__") (some (some (.builtin "getset_descriptor.__get__"))) && (decide (PySem.W.takesIn K (.builtin "object.__class__") = some true) && decide (PySem.W.mroIn K (He.ga K C) (.type "object") = some true))))
theorem fEx_ok {K : PySem.W.Frag} {C : Str} (h : fEx C K = true) : ExcC K (He.ga K C) := by
  obtain ⟨h1, h⟩ := Bool.and_eq_true_iff.mp h
  obtain ⟨h2, h⟩ := Bool.and_eq_true_iff.mp h
  obtain ⟨h3, h⟩ := Bool.and_eq_true_iff.mp h
  obtain ⟨h4, h5⟩ := Bool.and_eq_true_iff.mp h
  obtain ⟨x1, x2, x3, x4⟩ := xfB_ok h1
  exact ⟨x1, x2, x3, x4, He.eqO_ok h2, He.eqO_ok h3, of_decide_eq_true h4, of_decide_eq_true h5⟩
def fExm (c E : Str) : Fct := fun K => decide (PySem.W.exmOne K (.ref (He.ga K c)) (.ref (He.ga K E)) = some true)
/-- what a test names -/
inductive TN where
  | c (x : Str) | t (n : String)
def TN.u (K : PySem.W.Frag) : TN → Value
  | .c x => .ref (He.ga K x)
  | .t n => .type n
def TN.v (K : PySem.W.Frag) : TN → V
  | .c x => .ref (He.ga K x)
  | .t n => .ty n
def fKitA (c : Str) (ts : List Str) (b : Bool) : Fct := fun K => decide (PySem.W.kitAny K (.ref (He.ga K c)) (ts.map fun T => Value.ref (He.ga K T)) = some b)
def fKit1 (c : Str) (t : TN) (b : Bool) : Fct := fun K => decide (PySem.W.kitOne K (.ref (He.ga K c)) (t.u K) = some b)
theorem vals_refs {K : PySem.W.Frag} : ∀ {ts : List Str} {us : List Value}, Vals (ts.map fun T => V.ref (He.ga K T)) us → us = ts.map fun T => Value.ref (He.ga K T)
  | [], us, r => by
    cases r
    rfl
  | T :: ts, us, r => by
    cases r with
    | cons a b =>
      rw [vals_refs b]
      cases a
      rfl
theorem relV_tn {K : PySem.W.Frag} {t : TN} {u : Value} (r : RelV (t.v K) u) : u = t.u K := by
  cases t with
  | c x =>
    cases r
    rfl
  | t n =>
    cases r
    rfl
def TabA (K : PySem.W.Frag) (ts : List Str) (tab : List (Str × Bool)) : Prop := ∀ C b, tab.lookup C = some b → ExcC K (He.ga K C) ∧ ∀ us, Vals (ts.map fun T => V.ref (He.ga K T)) us → PySem.W.kitAny K (.ref (He.ga K C)) us = some b
def Tab1 (K : PySem.W.Frag) (t : TN) (tab : List (Str × Bool)) : Prop := ∀ C b, tab.lookup C = some b → ExcC K (He.ga K C) ∧ ∀ u, RelV (t.v K) u → PySem.W.kitOne K (.ref (He.ga K C)) u = some b
def TabE (K : PySem.W.Frag) (E : Str) (l : List Str) : Prop := ∀ c, decide (c ∈ l) = true → PySem.W.exmOne K (.ref (He.ga K c)) (.ref (He.ga K E)) = some true
section
variable {K : PySem.W.Frag} {ts : List Str} {t : TN} {tab : List (Str × Bool)} {c : Str} {b : Bool} {E : Str} {l : List Str}
theorem tabA_nil : TabA K ts [] := fun C b e => by cases e
theorem tabA_cons (h1 : fEx c K = true) (h2 : fKitA c ts b K = true) (h : TabA K ts tab) : TabA K ts ((c, b) :: tab) := fun C b' e => by
  rw [List.lookup_cons] at e
  cases q : (C == c) with
  | true =>
    rw [q] at e
    cases e
    have := eq_of_beq q
    subst this
    exact ⟨fEx_ok h1, fun us r => by rw [vals_refs r]; exact of_decide_eq_true h2⟩
  | false =>
    rw [q] at e
    exact h C b' e
theorem tab1_nil : Tab1 K t [] := fun C b e => by cases e
theorem tab1_cons (h1 : fEx c K = true) (h2 : fKit1 c t b K = true) (h : Tab1 K t tab) : Tab1 K t ((c, b) :: tab) := fun C b' e => by
  rw [List.lookup_cons] at e
  cases q : (C == c) with
  | true =>
    rw [q] at e
    cases e
    have := eq_of_beq q
    subst this
    exact ⟨fEx_ok h1, fun u r => by rw [relV_tn r]; exact of_decide_eq_true h2⟩
  | false =>
    rw [q] at e
    exact h C b' e
theorem tabE_nil : TabE K E [] := fun c h => by simp at h
theorem tabE_cons (h1 : fExm c E K = true) (h : TabE K E l) : TabE K E (c :: l) := fun c' e => by
  have e := of_decide_eq_true e
  rcases List.mem_cons.mp e with rfl | e
  · exact of_decide_eq_true h1
  · exact h c' (decide_eq_true e)
end
abbrev dini (C q : Str) (st : Stmt) : He.DefD := ⟨(C, some "__init__"), "__init__", q, defArgs st, defBody st, defScope st, [], []⟩
section
variable {fa : List Fct} {fn : List He.DefD} {K : PySem.W.Frag} {h : Heap} {mg : Str → Option Value}
theorem SaysX.cls (c : SaysX fa fn K) (X : K.In h) (G : h.Ns mainGlobals mg) (i : Nat) (x : Str) (e : fa[i]? = some (fGlo x) := by rfl) : mg x = some (.ref (He.ga K x)) := PySem.W.mg_of X G (He.eqO_ok (c.fact i e))
theorem SaysX.xcls {P : Program} {w : World} {base : Heap} (c : SaysX fa fn K) (X : K.In h) (G : h.Ns mainGlobals mg) (i : Nat) (C f q : Str) (j : Nat) (st : Stmt) {p1 p2 p3 p4 : Pos} (S : FnScope ["self", f] ["self", f] (defScope st)) (eb : defBody st = [.Assign [.Attribute (.Name "self" p1) f p2] (.Name f p3) p4])
    (hl1 : (defScope st).names.lookup ("self" : Str) = some .local) (hl2 : (defScope st).names.lookup f = some .local) (hd1 : (f == ("__debug__" : Str)) = false) (hd2 : (f == ("__classdict__" : Str)) = false)
    (hb : ∀ (kV doc pm : Value) (an : Option Addr) (cdv ct : Value) (us : List Value), us.length = (["self", f] : List Str).length → bindArgs (PySem.W.fnOf "__init__" q (defArgs st) (defBody st) (defScope st) .none kV doc pm an cdv ct) ⟨us, []⟩ = pure ((["self", f] : List Str).zip us))
    (e : fa[i]? = some (fXc C f) := by rfl) (e2 : fn[j]? = some (dini C q st) := by rfl) : XCls P w K mg base C f := by
  have c1 := c.fact i e
  obtain ⟨h1, c1⟩ := Bool.and_eq_true_iff.mp c1
  obtain ⟨h2, c1⟩ := Bool.and_eq_true_iff.mp c1
  obtain ⟨h3, c1⟩ := Bool.and_eq_true_iff.mp c1
  obtain ⟨h4, c1⟩ := Bool.and_eq_true_iff.mp c1
  obtain ⟨h5, c1⟩ := Bool.and_eq_true_iff.mp c1
  obtain ⟨h6, c1⟩ := Bool.and_eq_true_iff.mp c1
  obtain ⟨h7, h8⟩ := Bool.and_eq_true_iff.mp c1
  obtain ⟨⟨fd, F⟩, hg⟩ := c.def_ j e2
  have xf := xfB_ok h5
  have F' : FunD K "__init__" q (defArgs st) (defBody st) (defScope st) [] [] (He.ma K (He.ga K C) "__init__") fd := F
  exact ⟨PySem.W.mg_of X G (He.eqO_ok hg), ⟨oexB_ok h1, He.eqO_ok h2, xf.exC, of_decide_eq_true h3, h4⟩, xf, He.eqO_ok h6, _, fd, ["self", f], He.eqO_ok h7, of_decide_eq_true h8, init_ok (C := C) F' S eb hl1 hl2 hd1 hd2, F'.bindsN hb⟩
end
end DL

set_option Elab.async false
set_option linter.all false
set_option maxRecDepth 100000
set_option maxHeartbeats 4000000
/-! DLD: the head's facts over a written list of addresses -/
namespace DL
open PySem PySem.Spec PyProof.Rows L2
def obsL (as : List Addr) (fa : List Fct) (fn : List He.DefD) (g : Addr → Option Obj) : He.AlD := obsX fa fn (He.frG g as)
def hookL (as : List Addr) (fa : List Fct) (fn : List He.DefD) : PySem.W.Hook where
  α := He.AlD
  obs := fun s => obsL as fa fn s.heap.get?
  val := fun _ => He.valD fn
  says := fun _ h => ∃ K : PySem.W.Frag, K.In h ∧ SaysX fa fn K
  of := fun _ _ e => ⟨_, He.frG_in, e⟩
  keeps := fun _ _ _ ⟨K, hK, c⟩ k => ⟨K, PySem.W.Frag.In.keeps hK k, c⟩
theorem obsL_eq {as : List Addr} {fa : List Fct} {fn : List He.DefD} {g : Addr → Option Obj} {s : Shared} (h : ∀ a, g a = s.heap.get? a) : obsL as fa fn g = (hookL as fa fn).obs s := by
  have e : g = s.heap.get? := funext h
  rw [e] <;> rfl
end DL

set_option Elab.async false
set_option linter.all false
set_option maxRecDepth 100000
set_option maxHeartbeats 4000000
/-! DLE: list + list; one of two new lists -/
namespace DL
open PySem PySem.Spec PyProof.Rows L2
section
variable {X : Cx} {a b c e : Expr} {f : EV} {h1 h2 : EA} {pos p2 : Pos}
def fCat (h1 h2 : EA) : EA := fun ρ => (h1 ρ).bind fun xs => (h2 ρ).bind fun ys => if xs.length + ys.length ≤ 16000000 then some (xs ++ ys) else none
theorem df_cat (ha : DF X a h1) (hb : DF X b h2) : DF X (.BinOp a .Add b pos) (fCat h1 h2) := peMono (pe_op op_cat ha hb) fun σ H Q ⟨B, F, ρ, ds, E, e, q⟩ => by
  obtain ⟨xs, e1, e⟩ := bind_some e
  obtain ⟨ys, e2, e⟩ := bind_some e
  split at e
  case isFalse => cases e
  rename_i hz
  cases e
  refine ⟨B, F, ρ, xs, E, e1, fun l vs F1 H1 G1 n1 n2 g1 r1 => ⟨B, F1, ρ, ys, E.grow G1, e2, fun m ws F2 H2 G2 m1 m2 g2 r2 => ⟨l, m, vs, ws, rfl, rfl, G2.hh _ _ g1, g2, ?_, fun p np => ?_⟩⟩⟩
  · rw [dpLen r1, dpLen r2]
    exact Nat.le_trans hz (by decide)
  · exact q p _ F2 _ ((G1.trans G2).trans (.side G2.fh np)) ((G1.trans G2).hh.free np) (G2.fh.free np) upd_same (dpApp (dpMonoAll G2.ff _ _ r1) r2)
def fPick (h1 h2 : EA) (f : EV) : EA := fun ρ => (h1 ρ).bind fun xs => (h2 ρ).bind fun ys => (f ρ).bind fun d => match d with
  | .int i => atI [xs, ys] i
  | _ => none
theorem pick2 {α β : Type} {x y z : α} {u v : β} {i : Int} (e : atI [x, y] i = some z) : (atI [u, v] i = some u ∧ z = x) ∨ (atI [u, v] i = some v ∧ z = y) := by
  unfold atI at e ⊢
  obtain ⟨j, e1, e2⟩ := bind_some e
  have e3 : ixN [u, v].length i = some j := e1
  rw [e3]
  match j, e2 with
  | 0, e2 => cases e2; exact .inl ⟨rfl, rfl⟩
  | 1, e2 => cases e2; exact .inr ⟨rfl, rfl⟩
theorem df_pick {p1 : Pos} (ha : DF X a h1) (hb : DF X b h2) (hc : DV X c f) (hs : PlainIx c := by exact fun _ _ => rfl) (s1 : starEach [a, b] X.env = (false, eval a X.env) :: starEach [b] X.env := by rfl) (s2 : starEach [b] X.env = (false, eval b X.env) :: starEach [] X.env := by rfl) :
    DF X (.Subscript (.List [a, b] p1) c pos) (fPick h1 h2 f) := peMono (pe_ix ix_list (pe_lst (pa_cons ha (pa_cons hb pa_nil s2) s1)) hc hs) fun σ H Q ⟨B, F, ρ, ds, E, e, q⟩ => by
  obtain ⟨xs, e1, e⟩ := bind_some e
  obtain ⟨ys, e2, e⟩ := bind_some e
  obtain ⟨d, e3, e⟩ := bind_some e
  cases d with
  | int i =>
    refine ⟨B, F, ρ, xs, E, e1, fun l vs F1 H1 G1 n1 n2 g1 r1 => ⟨B, F1, ρ, ys, E.grow G1, e2, fun m ws F2 H2 G2 m1 m2 g2 r2 => ⟨by show 2 ≤ sizeLine; decide, fun p np => ?_⟩⟩⟩
    have G3 : Grow F2 H2 F2 (upd H2 p (.lst [.ref l, .ref m])) := .side G2.fh np
    refine ⟨B, F2, ρ, .int i, ((E.grow G1).grow G2).grow G3, e3, fun y F4 H4 G4 r4 => ?_⟩
    cases r4
    have G34 := G3.trans G4
    have hp : H4 p = some (.lst [.ref l, .ref m]) := G4.hh _ _ upd_same
    have GA := G1.trans (G2.trans G34)
    rcases pick2 (u := V.ref l) (v := V.ref m) e with ⟨k, rfl⟩ | ⟨k, rfl⟩
    · have g1' := G2.hh _ _ g1
      exact ⟨p, _, i, _, rfl, rfl, .inl (.inl hp), k, q l vs F4 H4 GA n1 (G34.nn _ _ g1' (G2.nn _ _ g1 n2)) (G34.hh _ _ g1') (dpMonoAll (G2.ff.trans G34.ff) _ _ r1)⟩
    · exact ⟨p, _, i, _, rfl, rfl, .inl (.inl hp), k, q m ws F4 H4 GA (G1.hh.free m1) (G34.nn _ _ g2 m2) (G34.hh _ _ g2) (dpMonoAll G34.ff _ _ r2)⟩
  | _ => cases e
end
end DL

set_option Elab.async false
set_option linter.all false
set_option maxRecDepth 100000
set_option maxHeartbeats 4000000
/-! DLF: in, not in; comprehensions with two fors -/
namespace DL
open PySem PySem.Spec PyProof.Rows L2
theorem Room.u65 {k : Nat} {A : Around} (r : Room k A) : A.units + 65 < cLine := by have := r.un; omega
section
variable {X : Cx}
def gIn (x y : PyData) : Option PyData := match y with
  | .list ds => if SeqAt.shaped x && SeqAt.shaped (.list ds) then some (.bool (ds.any fun z => PyData.eqv z x)) else none
  | .tuple ds => if SeqAt.shaped x && SeqAt.shaped (.tuple ds) then some (.bool (ds.any fun z => PyData.eqv z x)) else none
  | _ => none
def gNin (x y : PyData) : Option PyData := (gIn x y).bind gNot
theorem o_in (hu : X.A.units + 65 < cLine) : OpR X (compareOp .In) (rG X.K gIn) := fun pins s σ H x y v u Q I rx ry ⟨F, dx, dy, d, sm, hx, hy, e, q⟩ => by
  have hx' := dpMono sm _ _ hx
  have hy' := dpMono sm _ _ hy
  unfold gIn at e
  split at e
  · split at e
    · rename_i hc
      cases e
      obtain ⟨h1, h2⟩ := Bool.and_eq_true_iff.mp hc
      exact op_inD hu pins s σ H x y v u Q I rx ry ⟨dx, _, hx', hy', h1, h2, q _ F H (.refl sm) (.bl _)⟩
    · cases e
  · split at e
    · rename_i ds hc
      cases e
      obtain ⟨h1, h2⟩ := Bool.and_eq_true_iff.mp hc
      obtain ⟨as, r1⟩ := Dp.reads I dx x v hx' rx
      obtain ⟨bs, r2⟩ := Dp.reads I (.tuple ds) y u hy' ry
      have h2' : SeqAt.shaped (.list ds) = true := h2
      exact SeqAt.in_tuple_reads r2 r1 (SeqAt.canLay_of_shaped h2') (SeqAt.canLay_of_shaped h1) (room_in_shaped h1 hu) ⟨.bl _, H, I, rfl, q _ F H (.refl sm) (.bl _)⟩
    · cases e
  · cases e
theorem o_nin (hu : X.A.units + 65 < cLine) : OpR X (compareOp .NotIn) (rG X.K gNin) := fun pins s σ H x y v u Q I rx ry ⟨F, dx, dy, d, sm, hx, hy, e, q⟩ => by
  have hx' := dpMono sm _ _ hx
  have hy' := dpMono sm _ _ hy
  obtain ⟨d', e, e2⟩ := bind_some e
  unfold gIn at e
  split at e
  · split at e
    · rename_i hc
      cases e
      cases e2
      obtain ⟨h1, h2⟩ := Bool.and_eq_true_iff.mp hc
      exact op_notInD hu pins s σ H x y v u Q I rx ry ⟨dx, _, hx', hy', h1, h2, q _ F H (.refl sm) (.bl _)⟩
    · cases e
  · split at e
    · rename_i ds _ hc
      cases e
      cases e2
      obtain ⟨h1, h2⟩ := Bool.and_eq_true_iff.mp hc
      obtain ⟨as, r1⟩ := Dp.reads I dx x v hx' rx
      obtain ⟨bs, r2⟩ := Dp.reads I (.tuple ds) y u hy' ry
      have h2' : SeqAt.shaped (.list ds) = true := h2
      exact SeqAt.notIn_tuple_reads r2 r1 (SeqAt.canLay_of_shaped h2') (SeqAt.canLay_of_shaped h1) (room_in_shaped h1 hu) ⟨.bl _, H, I, rfl, q _ F H (.refl sm) (.bl _)⟩
    · cases e
  · cases e
end
/-! ### two fors -/
def compL2 (g : EG) (c : EB) (it1 : EA) (g1 : EG) (c1 : EB) (e : EV) (vs1 : List Nat) (ρ : Rho) : List PyData → Option (List PyData)
  | [] => some []
  | d :: ds => (g d ρ).bind fun ρ1 => (c ρ1).bind fun b => if b then (it1 ρ1).bind fun ds1 => if ds1.length ≤ 4000 then (compL g1 c1 e (wipeR ρ1 vs1) ds1).bind fun r1 => (compL2 g c it1 g1 c1 e vs1 ρ ds).bind fun r => some (r1 ++ r) else none else compL2 g c it1 g1 c1 e vs1 ρ ds
def fComp2 (it : EA) (g : EG) (c : EB) (it1 : EA) (g1 : EG) (c1 : EB) (e : EV) (vs vs1 : List Nat) : EA := fun ρ => (it ρ).bind fun ds => if ds.length ≤ 4000 then compL2 g c it1 g1 c1 e vs1 (wipeR ρ vs) ds else none
section
variable {K : PySem.W.Frag} {B F H F' H' : Hp} {σ : L2.St} {ρ : Rho}
/-- one list of the base changes -/
theorem ER.but {D : Addr} {oD : HO} (E : ER K B F H σ ρ) (hB : B D = some oD) (ff : Same F F') (fh : Same F' H') (hh : ∀ a o, a ≠ D → H a = some o → H' a = some o) (nn : ∀ a o, a ≠ D → H a = some o → F a = none → F' a = none) : ER K B F' H' σ ρ where
  fh := fh
  len := E.len
  va := fun i d e => by
    obtain ⟨v, h1, h2⟩ := E.va i d e
    exact ⟨v, h1, dpMono ff _ _ h2⟩
  ow := fun i ds e => by
    obtain ⟨a, vs, h1, h2, h3, h4, h5⟩ := E.ow i ds e
    have ne : a ≠ D := fun z => by rw [z, hB] at h3; cases h3
    exact ⟨a, vs, h1, nn _ _ ne h4 h2, h3, hh _ _ ne h4, dpMonoAll ff _ _ h5⟩
  oo := fun i dss e => by
    obtain ⟨a, as, h1, h2, h3, h4, h5, h6⟩ := E.oo i dss e
    have ne : a ≠ D := fun z => by rw [z, hB] at h3; cases h3
    refine ⟨a, as, h1, nn _ _ ne h4 h2, h3, hh _ _ ne h4, h5, fun k b ds e1 e2 => ?_⟩
    obtain ⟨r1, r2, vs, r3, r4⟩ := h6 k b ds e1 e2
    have nb : b ≠ D := fun z => by rw [z, hB] at r2; cases r2
    exact ⟨nn _ _ nb r3 r1, r2, vs, hh _ _ nb r3, dpMonoAll ff _ _ r4⟩
  dj := fun i j k l a p q => by
    have bk : ∀ a o, B a = none → H a = some o → H' a = some o := fun a o n h => hh a o (fun z => by rw [z, hB] at n; cases n) h
    exact E.dj i j k l a (p.back E bk) (q.back E bk)
/-- the base with one more -/
theorem ER.base {D : Addr} {oD : HO} (E : ER K B F H σ ρ) (hn : H D = none) : ER K (upd B D oD) F H σ ρ where
  fh := E.fh
  len := E.len
  va := E.va
  ow := fun i ds e => by
    obtain ⟨a, vs, h1, h2, h3, h4, h5⟩ := E.ow i ds e
    exact ⟨a, vs, h1, h2, by rw [upd_ne (ne_of_none h4 hn)]; exact h3, h4, h5⟩
  oo := fun i dss e => by
    obtain ⟨a, as, h1, h2, h3, h4, h5, h6⟩ := E.oo i dss e
    refine ⟨a, as, h1, h2, by rw [upd_ne (ne_of_none h4 hn)]; exact h3, h4, h5, fun k b ds e1 e2 => ?_⟩
    obtain ⟨r1, r2, vs, r3, r4⟩ := h6 k b ds e1 e2
    exact ⟨r1, by rw [upd_ne (ne_of_none r3 hn)]; exact r2, vs, r3, r4⟩
  dj := E.dj
theorem compLen' {g : EG} {c : EB} {e : EV} {ds rs : List PyData} (h : compL g c e ρ ds = some rs) : rs.length ≤ ds.length := compLen h
theorem tComp2 {it it1 : EA} {g g1 : EG} {is is1 : List Nat} {cb cb1 : EB} {ev : EV} {vs vs1 : List Nat} (hv : ∀ i ∈ is, i ∈ vs) (hv1 : ∀ i ∈ is1, i ∈ vs1) {Q : VK} (h : tF K (fComp2 it g cb it1 g1 cb1 ev vs vs1) σ H Q) :
    tLc2 (tI K it) (tG K is g) (tT K cb) (tI K it1) (tG K is1 g1) (tT K cb1) (tD K ev) vs vs1 σ H Q := by
  obtain ⟨B0, F, ρ, rs, E0, e, q⟩ := h
  obtain ⟨ds, e1, e⟩ := bind_some e
  split at e
  case isFalse => cases e
  rename_i hz
  refine ⟨B0, F, ρ, ds, E0, e1, fun J F1 H1 G1 Y D nD => ?_⟩
  have E : ER K (upd B0 D (.lst [])) F1 H1 σ ρ := (E0.grow G1).base nD
  have hBD : upd B0 D (.lst []) D = some (.lst []) := upd_same
  generalize upd B0 D (.lst []) = B at *
  refine ⟨fun i m H2 => m = ds.length - i ∧ i ≤ ds.length ∧ ∃ F2 acc ws rest, Grow F1 H1 F2 H2 ∧ F2 D = none ∧ H2 D = some (.lst ws) ∧ DpAll K F2 ws acc ∧ compL2 g cb it1 g1 cb1 ev vs1 (wipeR ρ vs) (ds.drop i) = some rest ∧ acc ++ rest = rs ∧ acc.length ≤ i * 4000,
    ⟨ds.length, by simp, Nat.zero_le _, F1, [], [], rs, .side G1.fh nD, G1.fh.free nD, upd_same, .nil, e, rfl, by simp⟩, ?_⟩
  rintro i m H2 ⟨rfl, hi, F2, acc, ws, rest, G2, n2, h2, r2, e2, e3, l2⟩
  by_cases hlt : i < ds.length
  · refine .inr ⟨Y.go i H2 hlt (G2.ff.trans G2.fh), fun H' => ∃ F2 acc ws rest, Grow F1 H1 F2 H' ∧ F2 D = none ∧ H' D = some (.lst ws) ∧ DpAll K F2 ws acc ∧ compL2 g cb it1 g1 cb1 ev vs1 (wipeR ρ vs) (ds.drop (i + 1)) = some rest ∧ acc ++ rest = rs ∧ acc.length ≤ (i + 1) * 4000,
      fun H' p' => ⟨ds.length - (i + 1), by omega, rfl, hlt, p'⟩, fun x H3 y => ?_⟩
    obtain ⟨d, F3, hd, G3, r3⟩ := Y.yld i H2 x H3 F2 hlt G2.ff G2.fh y
    have ed : ds.drop i = d :: ds.drop (i + 1) := by
      rw [List.drop_eq_getElem_cons hlt]
      rw [List.getElem?_eq_getElem hlt] at hd
      cases hd
      rfl
    rw [ed] at e2
    obtain ⟨ρ1, c1, e2⟩ := bind_some e2
    obtain ⟨b, c2, e2⟩ := bind_some e2
    have GA := G2.trans G3
    have n3 := G3.nn _ _ h2 n2
    have h3 := G3.hh _ _ h2
    have E3 : ER K B F3 H3 σ ρ := E.grow GA
    refine ⟨B, F3, wipeR ρ vs, d, ρ1, erWipe E3 vs, r3, c1, fun σ2 E2 l k => ⟨wipe_same hv l k, B, F3, ρ1, b, E2, c2, fun F4 H4 G4 => ?_⟩⟩
    have n4 := G4.nn _ _ h3 n3
    have h4 := G4.hh _ _ h3
    have r4 := dpMonoAll (G3.ff.trans G4.ff) _ _ r2
    have GB := GA.trans G4
    cases b with
    | false =>
      rw [if_neg (by simp)] at e2
      dsimp only
      rw [if_neg (by simp)]
      exact ⟨F4, acc, ws, rest, GB, n4, h4, r4, e2, e3, by omega⟩
    | true =>
      rw [if_pos rfl] at e2
      dsimp only
      rw [if_pos rfl]
      obtain ⟨ds1, c3, e2⟩ := bind_some e2
      split at e2
      case isFalse => cases e2
      rename_i hz1
      obtain ⟨rr1, c4, e2⟩ := bind_some e2
      obtain ⟨rr, c5, e2⟩ := bind_some e2
      cases e2
      refine ⟨B, F4, ρ1, ds1, E2.grow G4, c3, fun J1 F5 H5 G5 Y1 => ?_⟩
      have E5 : ER K B F5 H5 σ2 ρ1 := (E2.grow G4).grow G5
      have n5 := G5.nn _ _ h4 n4
      have h5 := G5.hh _ _ h4
      have r5 := dpMonoAll G5.ff _ _ r4
      have GC := GB.trans G5
      refine ⟨fun j k H6 => k = ds1.length - j ∧ j ≤ ds1.length ∧ ∃ F6 acc6 ws6 rest6, Grow F1 H1 F6 H6 ∧ Same F5 F6 ∧ (∀ a o, a ≠ D → H5 a = some o → H6 a = some o) ∧ (∀ a o, a ≠ D → H5 a = some o → F5 a = none → F6 a = none) ∧ F6 D = none ∧ H6 D = some (.lst ws6) ∧ DpAll K F6 ws6 acc6 ∧
          compL g1 cb1 ev (wipeR ρ1 vs1) (ds1.drop j) = some rest6 ∧ acc6 ++ rest6 = acc ++ rr1 ∧ acc6.length ≤ i * 4000 + j,
        ⟨ds1.length, by simp, Nat.zero_le _, F5, acc, ws, rr1, GC, .refl F5, fun _ _ _ h => h, fun _ _ _ _ h => h, n5, h5, r5, c4, rfl, by omega⟩, ?_⟩
      rintro j k H6 ⟨rfl, hj, F6, acc6, ws6, rest6, G6, s6, hh6, nn6, n6, h6, r6, e6, e7, l6⟩
      by_cases hjt : j < ds1.length
      · refine .inr ⟨Y1.go j H6 hjt (s6.trans G6.fh), _, fun H' p' => ⟨ds1.length - (j + 1), by omega, rfl, hjt, p'⟩, fun x H7 y => ?_⟩
        obtain ⟨d1, F7, hd1, G7, r7⟩ := Y1.yld j H6 x H7 F6 hjt s6 G6.fh y
        have ed1 : ds1.drop j = d1 :: ds1.drop (j + 1) := by
          rw [List.drop_eq_getElem_cons hjt]
          rw [List.getElem?_eq_getElem hjt] at hd1
          cases hd1
          rfl
        rw [ed1] at e6
        obtain ⟨ρ3, k1, e6⟩ := bind_some e6
        obtain ⟨b1, k2, e6⟩ := bind_some e6
        have E7 : ER K B F7 H7 σ2 ρ1 := E5.but hBD (s6.trans G7.ff) G7.fh (fun a o ne h => G7.hh _ _ (hh6 a o ne h)) (fun a o ne h n => G7.nn _ _ (hh6 a o ne h) (nn6 a o ne h n))
        refine ⟨B, F7, wipeR ρ1 vs1, d1, ρ3, erWipe E7 vs1, r7, k1, fun σ3 E8 l k => ⟨wipe_same hv1 l k, B, F7, ρ3, b1, E8, k2, fun F8 H8 G8 => ?_⟩⟩
        have GD := G6.trans (G7.trans G8)
        have G78 := G7.trans G8
        cases b1 with
        | false =>
          rw [if_neg (by simp)] at e6
          dsimp only
          rw [if_neg (by simp)]
          exact ⟨F8, acc6, ws6, rest6, GD, s6.trans G78.ff, fun a o ne h => G78.hh _ _ (hh6 a o ne h), fun a o ne h n => G78.nn _ _ (hh6 a o ne h) (nn6 a o ne h n), G78.nn _ _ h6 n6, G78.hh _ _ h6, dpMonoAll G78.ff _ _ r6, e6, e7, by omega⟩
        | true =>
          rw [if_pos rfl] at e6
          dsimp only
          rw [if_pos rfl]
          obtain ⟨dx, k3, e6⟩ := bind_some e6
          obtain ⟨r9, k4, e6⟩ := bind_some e6
          cases e6
          refine ⟨B, F8, ρ3, dx, E8.grow G8, k3, fun v F9 H9 G9 rv => ?_⟩
          have GG := G78.trans G9
          have h9 := GG.hh _ _ h6
          have n9 := GG.nn _ _ h6 n6
          have w9 : ws6.length = acc6.length := dpLen r6
          have bound : ws6.length < sizeLine := by
            rw [w9]
            refine Nat.lt_of_le_of_lt (show acc6.length ≤ 16000000 from ?_) (by decide)
            have : i * 4000 ≤ 3999 * 4000 := Nat.mul_le_mul_right _ (by omega)
            omega
          refine ⟨ws6, h9, bound, F9, acc6 ++ [dx], ws6 ++ [v], r9, ⟨G6.ff.trans GG.ff, fun b o z => ?_, fun b o z => ?_, fun b o z n => GG.nn b o (G6.hh b o z) (G6.nn b o z n)⟩, s6.trans GG.ff, fun a o ne h => by rw [upd_ne ne]; exact GG.hh _ _ (hh6 a o ne h), fun a o ne h n => GG.nn _ _ (hh6 a o ne h) (nn6 a o ne h n), n9, upd_same, dpApp (dpMonoAll GG.ff _ _ r6) (.cons rv .nil), k4, by rw [List.append_assoc]; exact e7, by rw [List.length_append, List.length_singleton]; omega⟩
          · rw [upd_ne (fun q => by rw [q, n9] at z; cases z)]
            exact G9.fh b o z
          · rw [upd_ne (ne_of_none z nD)]
            exact GG.hh b o (G6.hh b o z)
      · have ej : j = ds1.length := by omega
        subst ej
        rw [List.drop_length] at e6
        cases e6
        rw [List.append_nil] at e7
        subst e7
        refine .inl ⟨Y1.stop H6 (s6.trans G6.fh), F6, acc ++ rr1, ws6, rr, G6, n6, h6, r6, c5, by rw [List.append_assoc]; exact e3, by rw [List.length_append]; have := compLen c4; omega⟩
  · have ei : i = ds.length := by omega
    subst ei
    rw [List.drop_length] at e2
    cases e2
    rw [List.append_nil] at e3
    subst e3
    exact .inl ⟨Y.stop H2 (G2.ff.trans G2.fh), q D ws F2 H2 (G1.trans G2) (G1.hh.free nD) n2 h2 r2⟩
end
section
variable {X : Cx} {tg tg1 elt iter iter1 : Expr} {pos : Pos} {cb cb1 : EB}
theorem df_comp2 {scope : Scope} {own : List (Str × Nat)} {vs1 : List Nat} {ifs ifs1 : List Expr} {is is1 : List Nat} {gg gg1 : EG} {it it1 : EA} {ev : EV} (hc : X.calm = true) (hN : X.N.Nodup) (hi : DI X tg iter it) (ok : BlkOk X.N X.env.scope scope own) (hv1 : ∀ i ∈ vs1, i ∈ own.map (·.2))
    (hg : ∀ (s : Shared) (H : Hp) (C : Addr) (cl : List (Str × Addr)) (fp : List Addr), DG (X.blk s H scope (compEnvC scope cl C X.env) fp) tg is gg) (ht : ∀ (s : Shared) (H : Hp) (C : Addr) (cl : List (Str × Addr)) (fp : List Addr), DX (X.blk s H scope (compEnvC scope cl C X.env) fp) ifs cb)
    (hi1 : ∀ (s : Shared) (H : Hp) (C : Addr) (cl : List (Str × Addr)) (fp : List Addr), DI (X.blk s H scope (compEnvC scope cl C X.env) fp) tg1 iter1 it1)
    (hg1 : ∀ (s : Shared) (H : Hp) (C : Addr) (cl : List (Str × Addr)) (fp : List Addr), DG (X.blk s H scope (compEnvC scope cl C X.env) fp) tg1 is1 gg1) (ht1 : ∀ (s : Shared) (H : Hp) (C : Addr) (cl : List (Str × Addr)) (fp : List Addr), DX (X.blk s H scope (compEnvC scope cl C X.env) fp) ifs1 cb1)
    (he : ∀ (s : Shared) (H : Hp) (C : Addr) (cl : List (Str × Addr)) (fp : List Addr), DV (X.blk s H scope (compEnvC scope cl C X.env) fp) elt ev) (hv : ∀ i ∈ is, i ∈ own.map (·.2) := by decide) (hv2 : ∀ i ∈ is1, i ∈ vs1 := by decide) (hs : ∀ x, foldedSetIterable iter X.env x = pure x := by intro _; rfl) (hs1 : ∀ env x, foldedSetIterable iter1 env x = pure x := by intro _ _; rfl) :
    DF X (.ListComp elt [⟨tg, iter, ifs, 0⟩, ⟨tg1, iter1, ifs1, 0⟩] scope pos) (fComp2 it gg cb it1 gg1 cb1 ev (own.map (·.2)) vs1) :=
  peMono (pe_lc2 (wi := tI X.K it) (wi1 := tI X.K it1) (g := tG X.K is gg) (tt := tT X.K cb) (g1 := tG X.K is1 gg1) (tt1 := tT X.K cb1) (te := tD X.K ev) hc hN hi ok hv1 hg ht hi1 hg1 ht1 he hs hs1) fun _ _ _ q => tComp2 hv hv2 q
end
end DL

set_option Elab.async false
set_option linter.all false
set_option maxRecDepth 100000
set_option maxHeartbeats 4000000
/-! DLG: lists of own lists -/
namespace DL
open PySem PySem.Spec PyProof.Rows L2
abbrev EAA := Rho → Option (List (List PyData))
/-- new lists, all of them tracked alone -/
structure Fr (K : PySem.W.Frag) (H F' H' : Hp) (as : List Addr) (dss : List (List PyData)) : Prop where
  len : as.length = dss.length
  nd : as.Nodup
  new : ∀ b ∈ as, H b = none
  at_ : ∀ (k : Nat) (b : Addr) (ds : List PyData), as[k]? = some b → dss[k]? = some ds → F' b = none ∧ ∃ vs, H' b = some (.lst vs) ∧ DpAll K F' vs ds
theorem Fr.nil {K : PySem.W.Frag} {H F' H' : Hp} : Fr K H F' H' [] [] := ⟨rfl, .nil, (fun _ h => nomatch h), fun _ _ _ h => by cases h⟩
theorem Fr.mem {K : PySem.W.Frag} {H F' H' : Hp} {as : List Addr} {dss : List (List PyData)} (h : Fr K H F' H' as dss) {b : Addr} (hb : b ∈ as) : F' b = none ∧ ∃ vs, H' b = some (.lst vs) := by
  obtain ⟨k, hk, rfl⟩ := List.getElem_of_mem hb
  have hk' : k < dss.length := by rw [← h.len]; exact hk
  obtain ⟨h1, vs, h2, _⟩ := h.at_ k _ dss[k] (List.getElem?_eq_getElem hk) (List.getElem?_eq_getElem hk')
  exact ⟨h1, vs, h2⟩
theorem Fr.grow {K : PySem.W.Frag} {H F1 H1 F2 H2 : Hp} {as : List Addr} {dss : List (List PyData)} (h : Fr K H F1 H1 as dss) (g : Grow F1 H1 F2 H2) : Fr K H F2 H2 as dss where
  len := h.len
  nd := h.nd
  new := h.new
  at_ := fun k b ds e1 e2 => by
    obtain ⟨h1, vs, h2, h3⟩ := h.at_ k b ds e1 e2
    exact ⟨g.nn _ _ h2 h1, vs, g.hh _ _ h2, dpMonoAll g.ff _ _ h3⟩
theorem Fr.back {K : PySem.W.Frag} {H0 H F1 H1 : Hp} {as : List Addr} {dss : List (List PyData)} (h : Fr K H F1 H1 as dss) (s : Same H0 H) : Fr K H0 F1 H1 as dss := ⟨h.len, h.nd, fun b hb => s.free (h.new b hb), h.at_⟩
theorem Fr.upd {K : PySem.W.Frag} {H F1 H1 : Hp} {as : List Addr} {dss : List (List PyData)} (h : Fr K H F1 H1 as dss) {p : Addr} {o : HO} (n : p ∉ as) : Fr K H F1 (L2.upd H1 p o) as dss := ⟨h.len, h.nd, h.new, fun k b ds e1 e2 => by
  obtain ⟨h1, vs, h2, h3⟩ := h.at_ k b ds e1 e2
  exact ⟨h1, vs, by rw [upd_ne (fun z => n (by rw [← z]; exact List.mem_of_getElem? e1))]; exact h2, h3⟩⟩
theorem Fr.snoc {K : PySem.W.Frag} {H F1 H1 : Hp} {as : List Addr} {dss : List (List PyData)} {a : Addr} {vs : List V} {ds : List PyData} (h : Fr K H F1 H1 as dss) (n : a ∉ as) (h0 : H a = none) (f : F1 a = none) (g : H1 a = some (.lst vs)) (r : DpAll K F1 vs ds) : Fr K H F1 H1 (as ++ [a]) (dss ++ [ds]) where
  len := by rw [List.length_append, List.length_append, h.len]; rfl
  nd := by
    rw [List.nodup_append]
    exact ⟨h.nd, by simp, fun x hx y hy => by rw [List.mem_singleton.mp hy]; intro z; exact n (z ▸ hx)⟩
  new := fun b hb => by
    rcases List.mem_append.mp hb with hb | hb
    · exact h.new b hb
    · rw [List.mem_singleton.mp hb]; exact h0
  at_ := fun k b ds' e1 e2 => by
    by_cases hk : k < as.length
    · rw [List.getElem?_append_left hk] at e1
      rw [List.getElem?_append_left (by rw [← h.len]; exact hk)] at e2
      exact h.at_ k b ds' e1 e2
    · rw [List.getElem?_append_right (by omega)] at e1
      rw [List.getElem?_append_right (by rw [← h.len]; omega), ← h.len] at e2
      have : k - as.length = 0 := by
        by_cases z : k - as.length = 0
        · exact z
        · rw [List.getElem?_eq_none (by simp; omega)] at e1
          cases e1
      rw [this] at e1 e2
      cases e1
      cases e2
      exact ⟨f, vs, g, r⟩
theorem Fr.cons {K : PySem.W.Frag} {H F1 H1 : Hp} {as : List Addr} {dss : List (List PyData)} {a : Addr} {vs : List V} {ds : List PyData} (h : Fr K H F1 H1 as dss) (n : a ∉ as) (h0 : H a = none) (f : F1 a = none) (g : H1 a = some (.lst vs)) (r : DpAll K F1 vs ds) : Fr K H F1 H1 (a :: as) (ds :: dss) where
  len := by rw [List.length_cons, List.length_cons, h.len]
  nd := List.nodup_cons.mpr ⟨n, h.nd⟩
  new := fun b hb => by
    rcases List.mem_cons.mp hb with rfl | hb
    · exact h0
    · exact h.new b hb
  at_ := fun k b ds' e1 e2 => by
    cases k with
    | zero =>
      cases e1
      cases e2
      exact ⟨f, vs, g, r⟩
    | succ k => exact h.at_ k b ds' (by simpa using e1) (by simpa using e2)
/-- a new list of new lists -/
def tFF (K : PySem.W.Frag) (f : EAA) : TE := fun σ H Q => ∃ B F ρ dss, ER K B F H σ ρ ∧ f ρ = some dss ∧
  ∀ (a : Addr) (as : List Addr) F' H', Grow F H F' H' → H a = none → F' a = none → H' a = some (.lst (as.map V.ref)) → a ∉ as → Fr K H F' H' as dss → Q (.ref a) H'
def DFF (X : Cx) (e : Expr) (f : EAA) : Prop := PE X e (tFF X.K f)
def tAF (K : PySem.W.Frag) (f : EAA) : TA := fun σ H Q => ∃ B F ρ dss, ER K B F H σ ρ ∧ f ρ = some dss ∧ ∀ as F' H', Grow F H F' H' → Fr K H F' H' as dss → Q (as.map V.ref) H'
structure DAF (X : Cx) (es : List Expr) (f : EAA) : Prop where
  pa : PA X es (tAF X.K f)
  len : ∀ ρ ds, f ρ = some ds → ds.length = es.length
def ffNil : EAA := fun _ => some []
def ffCons (f : EA) (g : EAA) : EAA := fun ρ => (f ρ).bind fun x => (g ρ).bind fun xs => some (x :: xs)
def compLL (g : EG) (c : EB) (e : EA) (ρ : Rho) : List PyData → Option (List (List PyData))
  | [] => some []
  | d :: ds => (g d ρ).bind fun ρ1 => (c ρ1).bind fun b => if b then (e ρ1).bind fun x => (compLL g c e ρ ds).bind fun r => some (x :: r) else compLL g c e ρ ds
def ffComp (it : EA) (g : EG) (c : EB) (e : EA) (vs : List Nat) : EAA := fun ρ => (it ρ).bind fun ds => if ds.length ≤ 16000000 then compLL g c e (wipeR ρ vs) ds else none
section
variable {X : Cx} {tg a b c e elt iter : Expr} {es : List Expr} {f g : EV} {h : EA} {hh : EAA} {cb : EB} {pos : Pos}
theorem daf_nil : DAF X [] ffNil := ⟨paMono pa_nil fun σ H Q ⟨B, F, ρ, ds, E, e, q⟩ => by
  cases e
  exact q [] F H (.refl E.fh) .nil, fun ρ ds e => by cases e; rfl⟩
theorem daf_cons (ha : DF X e h) (hr : DAF X es hh) (hs : starEach (e :: es) X.env = (false, eval e X.env) :: starEach es X.env := by rfl) : DAF X (e :: es) (ffCons h hh) := ⟨paMono (pa_cons ha hr.pa hs) fun σ H Q ⟨B, F, ρ, dss, E, e, q⟩ => by
  obtain ⟨dx, e1, e⟩ := bind_some e
  obtain ⟨dr, e2, e⟩ := bind_some e
  cases e
  refine ⟨B, F, ρ, dx, E, e1, fun l vs F1 H1 G1 n1 n2 g1 r1 => ⟨B, F1, ρ, dr, E.grow G1, e2, fun as F2 H2 G2 fr => ?_⟩⟩
  have hl : l ∉ as := fun z => by
    have := fr.new l z
    rw [g1] at this
    cases this
  exact q (l :: as) F2 H2 (G1.trans G2) (.cons (fr.back G1.hh) hl n1 (G2.nn _ _ g1 n2) (G2.hh _ _ g1) (dpMonoAll G2.ff _ _ r1)), fun ρ ds e => by
  obtain ⟨dx, e1, e⟩ := bind_some e
  obtain ⟨dr, e2, e⟩ := bind_some e
  cases e
  exact congrArg (· + 1) (hr.len ρ dr e2)⟩
theorem dff_lst (ha : DAF X es hh) (hz : es.length ≤ sizeLine := by decide) : DFF X (.List es pos) hh := peMono (pe_lst ha.pa) fun σ H Q ⟨B, F, ρ, dss, E, e1, q⟩ => by
  refine ⟨B, F, ρ, dss, E, e1, fun as F' H' G fr => ⟨by rw [List.length_map, fr.len, ha.len ρ dss e1]; exact hz, fun p np => ?_⟩⟩
  have no : p ∉ as := fun z => by
    obtain ⟨_, vs, w⟩ := fr.mem z
    rw [np] at w
    cases w
  exact q p as F' _ (G.trans (.side G.fh np)) (G.hh.free np) (G.fh.free np) upd_same no (fr.upd no)
theorem compLLlen {g : EG} {c : EB} {e : EA} {ρ : Rho} : ∀ {ds : List PyData} {rs : List (List PyData)}, compLL g c e ρ ds = some rs → rs.length ≤ ds.length
  | [], _, h => by cases h; exact Nat.le_refl _
  | d :: ds, rs, h => by
    obtain ⟨ρ1, _, h⟩ := bind_some h
    obtain ⟨b, _, h⟩ := bind_some h
    split at h
    · obtain ⟨x, _, h⟩ := bind_some h
      obtain ⟨r, h1, h⟩ := bind_some h
      cases h
      exact Nat.succ_le_succ (compLLlen h1)
    · exact Nat.le_succ_of_le (compLLlen h)
theorem tCompF {K : PySem.W.Frag} {it : EA} {g : EG} {is : List Nat} {cb : EB} {ev : EA} {vs : List Nat} (hv : ∀ i ∈ is, i ∈ vs) {σ : L2.St} {H : Hp} {Q : VK} (h : tFF K (ffComp it g cb ev vs) σ H Q) : tLc (tI K it) (tG K is g) (tT K cb) (tF K ev) vs σ H Q := by
  obtain ⟨B, F, ρ, rs, E, e, q⟩ := h
  obtain ⟨ds, e1, e⟩ := bind_some e
  split at e
  case isFalse => cases e
  rename_i hz
  refine ⟨B, F, ρ, ds, E, e1, fun J F1 H1 G1 Y D nD => ⟨fun i m H2 => m = ds.length - i ∧ i ≤ ds.length ∧ ∃ F2 acc as rest, Grow F1 H1 F2 H2 ∧ F2 D = none ∧ H2 D = some (.lst (as.map V.ref)) ∧ D ∉ as ∧ Fr K H1 F2 H2 as acc ∧ compLL g cb ev (wipeR ρ vs) (ds.drop i) = some rest ∧ acc ++ rest = rs ∧ acc.length ≤ i, ⟨ds.length, by simp, Nat.zero_le _, F1, [], [], rs, .side G1.fh nD, G1.fh.free nD, upd_same, (fun z => nomatch z), .nil, e, rfl, Nat.le_refl _⟩, ?_⟩⟩
  rintro i m H2 ⟨rfl, hi, F2, acc, as, rest, G2, n2, h2, no, fr, e2, e3, l2⟩
  by_cases hlt : i < ds.length
  · refine .inr ⟨Y.go i H2 hlt (G2.ff.trans G2.fh), _, fun H' p' => ⟨ds.length - (i + 1), by omega, rfl, hlt, p'⟩, fun x H3 y => ?_⟩
    obtain ⟨d, F3, hd, G3, r3⟩ := Y.yld i H2 x H3 F2 hlt G2.ff G2.fh y
    have ed : ds.drop i = d :: ds.drop (i + 1) := by
      rw [List.drop_eq_getElem_cons hlt]
      rw [List.getElem?_eq_getElem hlt] at hd
      cases hd
      rfl
    rw [ed] at e2
    obtain ⟨ρ1, c1, e2⟩ := bind_some e2
    obtain ⟨b, c2, e2⟩ := bind_some e2
    have GA := G1.trans (G2.trans G3)
    refine ⟨B, F3, wipeR ρ vs, d, ρ1, erWipe (E.grow GA) vs, r3, c1, fun σ2 E2 l k => ⟨wipe_same hv l k, B, F3, ρ1, b, E2, c2, fun F4 H4 G4 => ?_⟩⟩
    cases b with
    | false =>
      rw [if_neg (by simp)] at e2 ⊢
      exact ⟨F4, acc, as, rest, G2.trans (G3.trans G4), G4.nn _ _ (G3.hh _ _ h2) (G3.nn _ _ h2 n2), G4.hh _ _ (G3.hh _ _ h2), no, fr.grow (G3.trans G4), e2, e3, by omega⟩
    | true =>
      rw [if_pos rfl] at e2 ⊢
      obtain ⟨dx, c3, e2⟩ := bind_some e2
      obtain ⟨rr, c4, e2⟩ := bind_some e2
      cases e2
      refine ⟨B, F4, ρ1, dx, E2.grow G4, c3, fun v ws F5 H5 G5 v1 v2 v3 r5 => ?_⟩
      have G34 := G3.trans G4
      have GG := G34.trans G5
      have h4 := G34.hh _ _ h2
      have h5 := G5.hh _ _ h4
      have n5 := GG.nn _ _ h2 n2
      have f4 := fr.grow G34
      have f5 := fr.grow GG
      have vD : v ≠ D := fun z => by rw [z, h4] at v1; cases v1
      have va : v ∉ as := fun z => by
        obtain ⟨_, w, hw⟩ := f4.mem z
        rw [v1] at hw
        cases hw
      have vn : H1 v = none := (G2.hh.trans (fun a o w => G34.hh a o w) |> fun s => Same.free (fun b o w => by
        by_cases hb : b = D
        · exact absurd w (by rw [hb, nD]; nofun)
        · exact s b o (by first | exact w | (rw [upd_ne hb]; exact w))) v1)
      refine ⟨as.map V.ref, h5, by rw [List.length_map, fr.len]; exact Nat.lt_of_le_of_lt (show acc.length ≤ 16000000 by omega) (by decide), F5, acc ++ [dx], as ++ [v], rr, ⟨G2.ff.trans GG.ff, fun b o z => ?_, fun b o z => ?_, fun b o z n => GG.nn b o (G2.hh b o z) (G2.nn b o z n)⟩, n5, by rw [upd_same, List.map_append]; rfl, fun z => ?_, (f5.snoc va vn v2 v3 r5).upd fun z => ?_, c4, by rw [List.append_assoc]; exact e3, by rw [List.length_append, List.length_singleton]; omega⟩
      · rw [upd_ne (fun q => by rw [q, n5] at z; cases z)]
        exact G5.fh b o z
      · rw [upd_ne (ne_of_none z nD)]
        exact GG.hh b o (G2.hh b o z)
      · rcases List.mem_append.mp z with z | z
        · exact no z
        · exact vD (List.mem_singleton.mp z).symm
      · rcases List.mem_append.mp z with z | z
        · exact no z
        · exact vD (List.mem_singleton.mp z).symm
  · have ei : i = ds.length := by omega
    subst ei
    rw [List.drop_length] at e2
    cases e2
    rw [List.append_nil] at e3
    subst e3
    exact .inl ⟨Y.stop H2 (G2.ff.trans G2.fh), q D as F2 H2 (G1.trans G2) (G1.hh.free nD) n2 h2 no (fr.back G1.hh)⟩
theorem dff_comp {scope : Scope} {own : List (Str × Nat)} {ifs : List Expr} {is : List Nat} {gg : EG} {it : EA} {ev : EA} (hc : X.calm = true) (hN : X.N.Nodup) (hi : DI X tg iter it) (ok : BlkOk X.N X.env.scope scope own)
    (hg : ∀ (s : Shared) (H : Hp) (C : Addr) (cl : List (Str × Addr)) (fp : List Addr), DG (X.blk s H scope (compEnvC scope cl C X.env) fp) tg is gg) (ht : ∀ (s : Shared) (H : Hp) (C : Addr) (cl : List (Str × Addr)) (fp : List Addr), DX (X.blk s H scope (compEnvC scope cl C X.env) fp) ifs cb)
    (he : ∀ (s : Shared) (H : Hp) (C : Addr) (cl : List (Str × Addr)) (fp : List Addr), DF (X.blk s H scope (compEnvC scope cl C X.env) fp) elt ev) (hv : ∀ i ∈ is, i ∈ own.map (·.2) := by decide) (hs : ∀ x, foldedSetIterable iter X.env x = pure x := by intro _; rfl) :
    DFF X (.ListComp elt [⟨tg, iter, ifs, 0⟩] scope pos) (ffComp it gg cb ev (own.map (·.2))) := peMono (pe_lc (g := tG X.K is gg) (tt := tT X.K cb) (te := tF X.K ev) hc hN hi ok hg ht he hs) fun _ _ _ q => tCompF hv q
end
end DL

set_option Elab.async false
set_option linter.all false
set_option maxRecDepth 100000
set_option maxHeartbeats 4000000
/-! DLH: lists of own lists in the slots -/
namespace DL
open PySem PySem.Spec PyProof.Rows L2
section
variable {K : PySem.W.Frag} {F H B F0 : Hp}
/-- the slot i, that owned l, holds x from here on; l has new items -/
theorem ER.poke {σ : L2.St} {ρ : Rho} {i : Nat} {k0 : Option Nat} {l : Addr} {ws : List V} {x : SC} (G : Grow F0 B F H) (E : ER K B F H σ ρ) (pl : AtP H σ ρ i k0 l) (h0 : ∀ d, x ≠ .va d)
    (h1 : ∀ ds, x = .ow ds → ∃ (a : Addr) (vs : List V), σ[i]? = some (some (.ref a)) ∧ F a = none ∧ B a = none ∧ upd H l (.lst ws) a = some (.lst vs) ∧ DpAll K F vs ds)
    (h2 : ∀ dss, x = .oo dss → ∃ (a : Addr) (as : List Addr), σ[i]? = some (some (.ref a)) ∧ F a = none ∧ B a = none ∧ upd H l (.lst ws) a = some (.lst (as.map V.ref)) ∧ as.length = dss.length ∧
      ∀ (k : Nat) (b : Addr) (ds : List PyData), as[k]? = some b → dss[k]? = some ds → F b = none ∧ B b = none ∧ ∃ vs, upd H l (.lst ws) b = some (.lst vs) ∧ DpAll K F vs ds)
    (hdj : ∀ k a, AtP (upd H l (.lst ws)) σ (ρ.set i x) i k a → (∃ k', AtP H σ ρ i k' a) ∨ ∀ j k, ¬ AtP H σ ρ j k a)
    (hin : ∀ k k' a, AtP (upd H l (.lst ws)) σ (ρ.set i x) i k a → AtP (upd H l (.lst ws)) σ (ρ.set i x) i k' a → k = k') :
    Grow F0 B F (upd H l (.lst ws)) ∧ ER K B F (upd H l (.lst ws)) σ (ρ.set i x) := by
  obtain ⟨q2, q3, _⟩ := E.at_ pl
  have fh : Same F (upd H l (.lst ws)) := fun b o z => by
    rw [upd_ne (fun y => by rw [y, q2] at z; cases z)]
    exact E.fh b o z
  have ne : ∀ {j k c}, j ≠ i → AtP H σ ρ j k c → c ≠ l := fun hj p z => by
    subst z
    exact hj (E.dj _ _ _ _ _ p pl).1
  have off : ∀ {j k c}, j ≠ i → AtP (upd H l (.lst ws)) σ (ρ.set i x) j k c → AtP H σ ρ j k c := by
    intro j k c hj p
    cases k with
    | none =>
      rcases p with ⟨d, e, e2⟩ | ⟨d, e, e2⟩
      · rw [List.getElem?_set_ne (Ne.symm hj)] at e
        exact .inl ⟨d, e, e2⟩
      · rw [List.getElem?_set_ne (Ne.symm hj)] at e
        exact .inr ⟨d, e, e2⟩
    | some k =>
      obtain ⟨d, b, as, e, e2, e3, e4⟩ := p
      rw [List.getElem?_set_ne (Ne.symm hj)] at e
      rw [upd_ne (ne hj (k := none) (.inr ⟨d, e, e2⟩))] at e3
      exact ⟨d, b, as, e, e2, e3, e4⟩
  refine ⟨⟨G.ff, fh, fun b o z => ?_, G.nn⟩, fh, by rw [List.length_set]; exact E.len, fun j d z => ?_, fun j d z => ?_, fun j d z => ?_, fun i' j k l' c p q => ?_⟩
  · rw [upd_ne (fun y => by rw [y, q3] at z; cases z)]
    exact G.hh b o z
  · by_cases hj : i = j
    · subst hj
      exact absurd (setIn z).symm (h0 d)
    · rw [List.getElem?_set_ne hj] at z
      exact E.va j d z
  · by_cases hj : i = j
    · subst hj
      exact h1 d (setIn z).symm
    · rw [List.getElem?_set_ne hj] at z
      obtain ⟨a, vs, p1, p2, p3, p4, p5⟩ := E.ow j d z
      exact ⟨a, vs, p1, p2, p3, by rw [upd_ne (ne (Ne.symm hj) (k := none) (.inl ⟨d, z, p1⟩))]; exact p4, p5⟩
  · by_cases hj : i = j
    · subst hj
      exact h2 d (setIn z).symm
    · rw [List.getElem?_set_ne hj] at z
      obtain ⟨a, as, p1, p2, p3, p4, p5, p6⟩ := E.oo j d z
      refine ⟨a, as, p1, p2, p3, by rw [upd_ne (ne (Ne.symm hj) (k := none) (.inr ⟨d, z, p1⟩))]; exact p4, p5, fun k b ds' e1 e2 => ?_⟩
      obtain ⟨r1, r2, vs, r3, r4⟩ := p6 k b ds' e1 e2
      exact ⟨r1, r2, vs, by rw [upd_ne (ne (Ne.symm hj) (k := some k) ⟨d, a, as, z, p1, p4, e1⟩)]; exact r3, r4⟩
  · by_cases hi : i' = i
    · by_cases hj : j = i
      · subst hi hj
        exact ⟨rfl, hin k l' c p q⟩
      · subst hi
        exfalso
        rcases hdj k c p with ⟨k', w⟩ | w
        · exact hj (E.dj _ _ _ _ _ (off hj q) w).1
        · exact w _ _ (off hj q)
    · by_cases hj : j = i
      · subst hj
        exfalso
        rcases hdj l' c q with ⟨k', w⟩ | w
        · exact hi (E.dj _ _ _ _ _ (off hi p) w).1
        · exact w _ _ (off hi p)
      · exact E.dj i' j k l' c (off hi p) (off hj q)
theorem atOO {H : Hp} {σ : L2.St} {ρ : Rho} {i : Nat} {dss : List (List PyData)} {a : Addr} {as : List Addr} (hρ : ρ[i]? = some (.oo dss)) (hl : σ[i]? = some (some (.ref a))) (hh : H a = some (.lst (as.map V.ref))) {k : Option Nat} {c : Addr} (p : AtP H σ ρ i k c) : (k = none ∧ c = a) ∨ ∃ n, k = some n ∧ as[n]? = some c := by
  cases k with
  | none =>
    rcases p with ⟨_, e, _⟩ | ⟨_, _, e⟩
    · rw [hρ] at e
      cases e
    · rw [hl] at e
      cases e
      exact .inl ⟨rfl, rfl⟩
  | some n =>
    obtain ⟨_, b, bs, _, e2, e3, e4⟩ := p
    rw [hl] at e2
    cases e2
    rw [hh] at e3
    injection e3 with e3
    injection e3 with e3
    rw [← refs_inj e3] at e4
    exact .inr ⟨n, rfl, e4⟩
theorem setLt {ρ : Rho} {i : Nat} {x : SC} (h : ρ[i]? = some x) : i < ρ.length := by
  by_cases hl : i < ρ.length
  · exact hl
  · rw [List.getElem?_eq_none (by omega)] at h
    cases h
/-- an inner list is changed -/
theorem ooUpd {σ : L2.St} {ρ : Rho} {i k : Nat} {dss : List (List PyData)} {es : List PyData} {a b : Addr} {as : List Addr} {ws : List V} (G : Grow F0 B F H) (E : ER K B F H σ ρ) (hρ : ρ[i]? = some (.oo dss)) (hl : σ[i]? = some (some (.ref a))) (ha : H a = some (.lst (as.map V.ref))) (hk : as[k]? = some b) (r : DpAll K F ws es) :
    Grow F0 B F (upd H b (.lst ws)) ∧ ER K B F (upd H b (.lst ws)) σ (ρ.set i (.oo (dss.set k es))) := by
  have pl : AtP H σ ρ i (some k) b := ⟨dss, a, as, hρ, hl, ha, hk⟩
  have pa : AtP H σ ρ i none a := .inr ⟨dss, hρ, hl⟩
  have ab : a ≠ b := fun z => by
    subst z
    cases (E.dj _ _ _ _ _ pa pl).2
  have ha' : upd H b (.lst ws) a = some (.lst (as.map V.ref)) := by rw [upd_ne ab]; exact ha
  have hρ' : (ρ.set i (.oo (dss.set k es)))[i]? = some (.oo (dss.set k es)) := List.getElem?_set_self (setLt hρ)
  have back : ∀ {k' c}, AtP (upd H b (.lst ws)) σ (ρ.set i (.oo (dss.set k es))) i k' c → AtP H σ ρ i k' c := by
    intro k' c p
    rcases atOO hρ' hl ha' p with ⟨rfl, rfl⟩ | ⟨n, rfl, e⟩
    · exact pa
    · exact ⟨dss, a, as, hρ, hl, ha, e⟩
  obtain ⟨b', bs, q1, q2, q3, q4, q5, q6⟩ := E.oo i dss hρ
  rw [hl] at q1
  cases q1
  rw [ha] at q4
  injection q4 with q4
  injection q4 with q4
  have := refs_inj q4
  subst this
  refine ER.poke G E pl (fun _ => nofun) (fun _ => nofun) (fun dss' e => ?_) (fun k' c p => .inl ⟨k', back p⟩) (fun k1 k2 c p q => (E.dj _ _ _ _ _ (back p) (back q)).2)
  cases e
  refine ⟨a, as, hl, q2, q3, ha', by rw [List.length_set]; exact q5, fun n c ds e1 e2 => ?_⟩
  by_cases hn : k = n
  · subst hn
    rw [hk] at e1
    cases e1
    have lk : k < dss.length := by
      by_cases z : k < dss.length
      · exact z
      · rw [List.getElem?_eq_none (by rw [List.length_set]; omega)] at e2
        cases e2
    rw [List.getElem?_set_self lk] at e2
    cases e2
    obtain ⟨r1, r2, _⟩ := E.at_ pl
    exact ⟨r1, r2, ws, upd_same, r⟩
  · rw [List.getElem?_set_ne hn] at e2
    obtain ⟨r1, r2, vs, r3, r4⟩ := q6 n c ds e1 e2
    refine ⟨r1, r2, vs, ?_, r4⟩
    rw [upd_ne (fun z => ?_)]
    · exact r3
    · subst z
      have := (E.dj _ _ _ _ _ pl (show AtP H σ ρ i (some n) c from ⟨dss, a, as, hρ, hl, ha, e1⟩)).2
      exact hn (by injection this)
/-- an inner list gives way to a new one -/
theorem ooPut {σ : L2.St} {ρ : Rho} {i k : Nat} {dss : List (List PyData)} {es : List PyData} {a b : Addr} {as : List Addr} {ws : List V} (G : Grow F0 B F H) (E : ER K B F H σ ρ) (hρ : ρ[i]? = some (.oo dss)) (hl : σ[i]? = some (some (.ref a))) (ha : H a = some (.lst (as.map V.ref))) (hb : H b = some (.lst ws)) (fb : F b = none) (bb : B b = none)
    (no : ∀ j k, ¬ AtP H σ ρ j k b) (r : DpAll K F ws es) :
    Grow F0 B F (upd H a (.lst ((as.set k b).map V.ref))) ∧ ER K B F (upd H a (.lst ((as.set k b).map V.ref))) σ (ρ.set i (.oo (dss.set k es))) := by
  have pa : AtP H σ ρ i none a := .inr ⟨dss, hρ, hl⟩
  have ha' : upd H a (.lst ((as.set k b).map V.ref)) a = some (.lst ((as.set k b).map V.ref)) := upd_same
  have hρ' : (ρ.set i (.oo (dss.set k es)))[i]? = some (.oo (dss.set k es)) := List.getElem?_set_self (setLt hρ)
  have ba : b ≠ a := fun z => no i none (z ▸ pa)
  have old : ∀ {n c}, as[n]? = some c → AtP H σ ρ i (some n) c := fun e => ⟨dss, a, as, hρ, hl, ha, e⟩
  have split : ∀ {n c}, (as.set k b)[n]? = some c → (n = k ∧ c = b) ∨ (n ≠ k ∧ as[n]? = some c) := by
    intro n c e
    by_cases hn : k = n
    · subst hn
      by_cases lk : k < as.length
      · rw [List.getElem?_set_self lk] at e
        cases e
        exact .inl ⟨rfl, rfl⟩
      · rw [List.getElem?_eq_none (by rw [List.length_set]; omega)] at e
        cases e
    · rw [List.getElem?_set_ne hn] at e
      exact .inr ⟨Ne.symm hn, e⟩
  obtain ⟨b', bs, q1, q2, q3, q4, q5, q6⟩ := E.oo i dss hρ
  rw [hl] at q1
  cases q1
  rw [ha] at q4
  injection q4 with q4
  injection q4 with q4
  have := refs_inj q4
  subst this
  refine ER.poke G E pa (fun _ => nofun) (fun _ => nofun) (fun dss' e => ?_) (fun k' c p => ?_) (fun k1 k2 c p q => ?_)
  · cases e
    refine ⟨a, as.set k b, hl, q2, q3, ha', by rw [List.length_set, List.length_set]; exact q5, fun n c ds e1 e2 => ?_⟩
    rcases split e1 with ⟨rfl, rfl⟩ | ⟨hn, e1⟩
    · have lk : n < dss.length := by
        by_cases z : n < dss.length
        · exact z
        · rw [List.getElem?_eq_none (by rw [List.length_set]; omega)] at e2
          cases e2
      rw [List.getElem?_set_self lk] at e2
      cases e2
      exact ⟨fb, bb, ws, by rw [upd_ne ba]; exact hb, r⟩
    · rw [List.getElem?_set_ne (Ne.symm hn)] at e2
      obtain ⟨r1, r2, vs, r3, r4⟩ := q6 n c ds e1 e2
      refine ⟨r1, r2, vs, ?_, r4⟩
      rw [upd_ne (fun z => ?_)]
      · exact r3
      · subst z
        cases (E.dj _ _ _ _ _ pa (old e1)).2
  · rcases atOO hρ' hl ha' p with ⟨rfl, rfl⟩ | ⟨n, rfl, e⟩
    · exact .inl ⟨none, pa⟩
    · rcases split e with ⟨rfl, rfl⟩ | ⟨hn, e1⟩
      · exact .inr no
      · exact .inl ⟨_, old e1⟩
  · rcases atOO hρ' hl ha' p with ⟨rfl, rfl⟩ | ⟨n, rfl, e⟩
    · rcases atOO hρ' hl ha' q with ⟨rfl, _⟩ | ⟨m, rfl, e'⟩
      · rfl
      · rcases split e' with ⟨rfl, z⟩ | ⟨hn, e1⟩
        · exact absurd z.symm ba
        · cases (E.dj _ _ _ _ _ pa (old e1)).2
    · rcases atOO hρ' hl ha' q with ⟨rfl, rfl⟩ | ⟨m, rfl, e'⟩
      · rcases split e with ⟨rfl, z⟩ | ⟨hn, e1⟩
        · exact absurd z.symm ba
        · cases (E.dj _ _ _ _ _ pa (old e1)).2
      · rcases split e with ⟨rfl, rfl⟩ | ⟨hn, e1⟩
        · rcases split e' with ⟨rfl, _⟩ | ⟨hm, e2⟩
          · rfl
          · exact absurd (old e2) (no _ _)
        · rcases split e' with ⟨rfl, rfl⟩ | ⟨hm, e2⟩
          · exact absurd (old e1) (no _ _)
          · exact (E.dj _ _ _ _ _ (old e1) (old e2)).2
/-- a slot gets a list of lists of its own -/
theorem ER.setOo {σ : L2.St} {ρ : Rho} {i : Nat} {a : Addr} {as : List Addr} {dss : List (List PyData)} (E : ER K B F H σ ρ) (f : F a = none) (b : B a = none) (h : H a = some (.lst (as.map V.ref))) (len : as.length = dss.length) (nd : as.Nodup) (na : a ∉ as)
    (r : ∀ (k : Nat) (b : Addr) (ds : List PyData), as[k]? = some b → dss[k]? = some ds → F b = none ∧ B b = none ∧ ∃ vs, H b = some (.lst vs) ∧ DpAll K F vs ds)
    (no : ∀ c ∈ a :: as, ∀ (j : Nat) (k : Option Nat), ¬ AtP H σ ρ j k c) : ER K B F H (σ.set i (some (.ref a))) (ρ.set i (.oo dss)) where
  fh := E.fh
  len := by rw [List.length_set, List.length_set]; exact E.len
  va := fun j e h => by
    by_cases hj : i = j
    · subst hj
      cases setIn h
    · rw [List.getElem?_set_ne hj] at h ⊢
      exact E.va j e h
  ow := fun j e h => by
    by_cases hj : i = j
    · subst hj
      cases setIn h
    · rw [List.getElem?_set_ne hj] at h ⊢
      exact E.ow j e h
  oo := fun j e q => by
    by_cases hj : i = j
    · subst hj
      have := setIn q
      cases this
      have hl : i < ρ.length := by
        by_cases hl : i < ρ.length
        · exact hl
        · rw [List.getElem?_eq_none (by simpa using hl)] at q
          cases q
      rw [List.getElem?_set_self (by rw [E.len]; exact hl)]
      exact ⟨a, as, rfl, f, b, h, len, r⟩
    · rw [List.getElem?_set_ne hj] at q ⊢
      exact E.oo j e q
  dj := fun i' j k l c p q => by
    have at_i : ∀ {k c}, AtP H (σ.set i (some (.ref a))) (ρ.set i (.oo dss)) i k c → (k = none ∧ c = a) ∨ ∃ n, k = some n ∧ as[n]? = some c := by
      intro k c p
      by_cases hl : i < ρ.length
      · exact atOO (List.getElem?_set_self hl) (List.getElem?_set_self (by rw [E.len]; exact hl)) h p
      · cases k with
        | none =>
          rcases p with ⟨_, e, _⟩ | ⟨_, e, _⟩
          · rw [List.getElem?_eq_none (by simpa using hl)] at e
            cases e
          · rw [List.getElem?_eq_none (by simpa using hl)] at e
            cases e
        | some n =>
          obtain ⟨_, _, _, e, _⟩ := p
          rw [List.getElem?_eq_none (by simpa using hl)] at e
          cases e
    have mem : ∀ {k c}, AtP H (σ.set i (some (.ref a))) (ρ.set i (.oo dss)) i k c → c ∈ a :: as := by
      intro k c p
      rcases at_i p with ⟨_, rfl⟩ | ⟨n, _, e⟩
      · exact List.mem_cons_self ..
      · exact List.mem_cons_of_mem _ (List.mem_of_getElem? e)
    by_cases hi : i' = i
    · by_cases hj : j = i
      · subst hi hj
        refine ⟨rfl, ?_⟩
        rcases at_i p with ⟨rfl, rfl⟩ | ⟨n, rfl, e⟩
        · rcases at_i q with ⟨rfl, _⟩ | ⟨m, rfl, e'⟩
          · rfl
          · exact absurd (List.mem_of_getElem? e') na
        · rcases at_i q with ⟨rfl, rfl⟩ | ⟨m, rfl, e'⟩
          · exact absurd (List.mem_of_getElem? e) na
          · rw [(List.getElem?_inj (by
              by_cases z : n < as.length
              · exact z
              · rw [List.getElem?_eq_none (by omega)] at e
                cases e) nd).mp (e.trans e'.symm)]
      · subst hi
        exact absurd (q.ne hj) (no c (mem p) j l)
    · by_cases hj : j = i
      · subst hj
        exact absurd (p.ne hi) (no c (mem q) i' k)
      · exact E.dj i' j k l c (p.ne hi) (q.ne hj)
end
/-! ### statements -/
def sOwnO (i : Nat) (f : EAA) : ES := fun ρ => (f ρ).bind fun dss => some (.nx (ρ.set i (.oo dss)))
/-- x[a][b] = e -/
def sPut2 (i : Nat) (a b f : EV) : ES := fun ρ => match ρ[i]? with
  | some (SC.oo dss) => (f ρ).bind fun d => (a ρ).bind fun x => (b ρ).bind fun y => match x, y with
    | .int k, .int m => (ixN dss.length k).bind fun n => (dss[n]?).bind fun ds => (ixN ds.length m).bind fun p => some (.nx (ρ.set i (.oo (dss.set n (ds.set p d)))))
    | _, _ => none
  | _ => none
/-- x[a] = a new list -/
def sPutF (i : Nat) (a : EV) (h : EA) : ES := fun ρ => match ρ[i]? with
  | some (SC.oo dss) => (h ρ).bind fun es => (a ρ).bind fun x => match x with
    | .int k => (ixN dss.length k).bind fun n => some (.nx (ρ.set i (.oo (dss.set n es))))
    | _ => none
  | _ => none
def eIxOO (i : Nat) (f g : EV) : EV := fun ρ => match ρ[i]? with
  | some (SC.oo dss) => (f ρ).bind fun x => (g ρ).bind fun y => match x with
    | .int k => (atI dss k).bind fun ds => gIx (.list ds) y
    | _ => none
  | _ => none
section
variable {X : Cx} {tg a b c e elt iter : Expr} {es : List Expr} {st : Stmt} {f g fa fb : EV} {h : EA} {hh : EAA} {cb : EB} {pos : Pos}
theorem setOfFF {i : Nat} {te : TE} (h1 : PS X st (tAsg te (gName i))) (k : ∀ σ H Q, tFF X.K hh σ H Q → te σ H Q) : DS X st (sOwnO i hh) := fun W tk => psMono h1 fun D σ H ⟨F0, B, F, ρ, r, G, E, e, p⟩ => by
  obtain ⟨dss, e1, e⟩ := bind_some e
  cases e
  refine k _ _ _ ⟨B, F, ρ, dss, E, e1, fun l as F' H' G' n1 n2 h3 na fr => p _ F' H' (G.trans G') ((E.grow G').setOo n2 (G.hh.free n1) h3 fr.len fr.nd na (fun k b ds e1 e2 => ?_) fun c hc j k q => ?_) G'.ff⟩
  · obtain ⟨q1, q2⟩ := fr.at_ k b ds e1 e2
    exact ⟨q1, G.hh.free (fr.new b (List.mem_of_getElem? e1)), q2⟩
  · have nc : H c = none := by
      rcases List.mem_cons.mp hc with rfl | hc
      · exact n1
      · exact fr.new c hc
    obtain ⟨_, _, ws, q4⟩ := E.at_ (q.back E fun a o _ h => G'.hh a o h)
    rw [nc] at q4
    cases q4
theorem ds_ownO {i : Nat} {x : Str} {pos' : Pos} (hN : X.N.Nodup) (hi : X.N[i]? = some x) (hx : Loc X.env.scope x) (he : DFF X e hh) (hs : swapsWith e (some (.Name x pos')) pos.line X.env = pure false := by rfl) (hf : X.fn x = true ∨ X.env.scope.names.lookup x = some .local := by first | exact .inl rfl | exact .inr rfl | assumption) :
    DS X (.Assign [.Name x pos'] e pos) (sOwnO i hh) := setOfFF (ps_set hN hi hx he hs hf) fun _ _ _ q => q
theorem ds_lcO {i : Nat} {y : Str} {py : Pos} {spos : Pos} {scope : Scope} {own : List (Str × Nat)} {ifs : List Expr} {is : List Nat} {gg : EG} {it : EA} {ev : EA} (hc : X.calm = true) (hN : X.N.Nodup) (hy : X.N[i]? = some y) (hyl : X.env.scope.names.lookup y = some .local)
    (hsw : swapsWith (.ListComp elt [⟨tg, iter, ifs, 0⟩] scope pos) (some (.Name y py)) spos.line X.env = pure true) (hi : DI X tg iter it) (ok : BlkOk X.N X.env.scope scope own)
    (hg : ∀ (s : Shared) (H : Hp) (C : Addr) (cl : List (Str × Addr)) (fp : List Addr), DG (X.blk s H scope (compEnvC scope cl C X.env) fp) tg is gg) (ht : ∀ (s : Shared) (H : Hp) (C : Addr) (cl : List (Str × Addr)) (fp : List Addr), DX (X.blk s H scope (compEnvC scope cl C X.env) fp) ifs cb)
    (he : ∀ (s : Shared) (H : Hp) (C : Addr) (cl : List (Str × Addr)) (fp : List Addr), DF (X.blk s H scope (compEnvC scope cl C X.env) fp) elt ev) (hv : ∀ i ∈ is, i ∈ own.map (·.2) := by decide) (hs : ∀ x, foldedSetIterable iter X.env x = pure x := by intro _; rfl) :
    DS X (.Assign [.Name y py] (.ListComp elt [⟨tg, iter, ifs, 0⟩] scope pos) spos) (sOwnO i (ffComp it gg cb ev (own.map (·.2)))) :=
  setOfFF (ps_setLc (g := tG X.K is gg) (tt := tT X.K cb) (te := tF X.K ev) hc hN hy hyl hsw hi ok hg ht he hs) fun _ _ _ q => tCompF hv q
theorem ds_put2 {i : Nat} {x : Str} {px p2 tpos : Pos} (ha : DV X a fa) (hb : DV X b fb) (he : DV X e f)
    (hgs : PG X (.Subscript (.Subscript (.Name x px) a p2) b tpos) (L2.gSub (tOp (rIxL X.K) (tVar i) (tD X.K fa)) (tD X.K fb) rSetL))
    (hs : swapsWithSole [.Subscript (.Subscript (.Name x px) a p2) b tpos] e pos.line X.env = pure false := by rfl) (hw : swappedStores [.Subscript (.Subscript (.Name x px) a p2) b tpos] e X.env = pure none := by rfl)
    (h1 : (assignEach [.Subscript (.Subscript (.Name x px) a p2) b tpos] X.env).map (·.2) = [assign (.Subscript (.Subscript (.Name x px) a p2) b tpos) X.env] := by rfl) : DS X (.Assign [.Subscript (.Subscript (.Name x px) a p2) b tpos] e pos) (sPut2 i fa fb f) :=
  fun W tk => psMono (ps_asg he hgs hs hw h1) fun D σ H ⟨F0, B, F, ρ, r, G, E, e, p⟩ => by
    unfold sPut2 at e
    split at e
    · rename_i dss hρ
      obtain ⟨d, e1, e⟩ := bind_some e
      obtain ⟨x, e2, e⟩ := bind_some e
      obtain ⟨y, e3, e⟩ := bind_some e
      cases x with
      | int k =>
       cases y with
       | int m =>
        obtain ⟨n, e4, e⟩ := bind_some e
        obtain ⟨ds, e5, e⟩ := bind_some e
        obtain ⟨q, e6, e⟩ := bind_some e
        cases e
        obtain ⟨l, as, q1, q2, q3, q4, q5, q6⟩ := E.oo i dss hρ
        have hn : n < as.length := by
          rw [q5]
          by_cases z : n < dss.length
          · exact z
          · rw [List.getElem?_eq_none (by omega)] at e5
            cases e5
        have hk : as[n]? = some as[n] := List.getElem?_eq_getElem hn
        obtain ⟨r1, r2, vs, r3, r4⟩ := q6 n _ ds hk e5
        refine ⟨B, F, ρ, d, E, e1, fun v F1 H1 G1 rv => ⟨.ref l, q1, B, F1, ρ, .int k, E.grow G1, e2, fun xv F2 H2 G2 rx => ?_⟩⟩
        cases rx
        refine ⟨l, as.map V.ref, k, .ref as[n], rfl, rfl, .inl (.inl ((G1.trans G2).hh _ _ q4)), ?_, B, F2, ρ, .int m, E.grow (G1.trans G2), e3, fun yv F3 H3 G3 ry => ?_⟩
        · unfold atI
          rw [List.length_map, q5, e4]
          show (as.map V.ref)[n]? = _
          rw [List.getElem?_map, hk]
          rfl
        · cases ry
          have GG := G1.trans (G2.trans G3)
          refine ⟨as[n], vs, m, q, rfl, rfl, GG.hh _ _ r3, by rw [dpLen r4]; exact e6, ?_⟩
          obtain ⟨G4, E4⟩ := ooUpd (k := n) (G.trans GG) (E.grow GG) hρ q1 (GG.hh _ _ q4) hk (dpSet q (dpMonoAll GG.ff _ _ r4) (dpMono (G2.ff.trans G3.ff) _ _ rv))
          exact p σ F3 _ G4 E4 GG.ff
       | _ => cases e
      | _ => cases e
    · cases e
theorem ds_putF {i : Nat} {x : Str} {px tpos : Pos} (hb : DV X b g) (he : DF X e h) (hs : swapsWithSole [.Subscript (.Name x px) b tpos] e pos.line X.env = pure false := by rfl) (hw : swappedStores [.Subscript (.Name x px) b tpos] e X.env = pure none := by rfl)
    (h1 : (assignEach [.Subscript (.Name x px) b tpos] X.env).map (·.2) = [assign (.Subscript (.Name x px) b tpos) X.env] := by rfl)
    (hgs : PG X (.Subscript (.Name x px) b tpos) (L2.gSub (tVar i) (tD X.K g) rSetL)) : DS X (.Assign [.Subscript (.Name x px) b tpos] e pos) (sPutF i g h) :=
  fun W tk => psMono (ps_asg he hgs hs hw h1) fun D σ H ⟨F0, B, F, ρ, r, G, E, e, p⟩ => by
    unfold sPutF at e
    split at e
    · rename_i dss hρ
      obtain ⟨es, e1, e⟩ := bind_some e
      obtain ⟨dx, e2, e⟩ := bind_some e
      obtain ⟨l, as, q1, q2, q3, q4, q5, q6⟩ := E.oo i dss hρ
      refine ⟨B, F, ρ, es, E, e1, fun v ws F1 H1 G1 n1 n2 g1 r1 => ⟨.ref l, q1, B, F1, ρ, dx, E.grow G1, e2, fun y F2 H2 G2 r2 => ?_⟩⟩
      cases dx with
      | int k =>
        cases r2
        obtain ⟨n, e3, e⟩ := bind_some e
        cases e
        have GG := G1.trans G2
        have E2 := E.grow GG
        refine ⟨l, as.map V.ref, k, n, rfl, rfl, GG.hh _ _ q4, by rw [List.length_map, q5]; exact e3, ?_⟩
        have em : (as.map V.ref).set n (.ref v) = (as.set n v).map V.ref := by rw [List.map_set]
        obtain ⟨G3, E3⟩ := ooPut (k := n) (G.trans GG) E2 hρ q1 (GG.hh _ _ q4) (G2.hh _ _ g1) (G2.nn _ _ g1 n2) (G.hh.free n1) (fun j k' at' => by
          obtain ⟨_, _, ws', q⟩ := E.at_ (at'.back E fun a o _ h => GG.hh a o h)
          rw [n1] at q
          cases q) (dpMonoAll G2.ff _ _ r1)
        rw [em]
        exact p σ F2 _ G3 E3 GG.ff
      | _ => cases e
    · cases e
theorem dv_ixOO {i : Nat} {x : Str} {px p2 : Pos} (hx : PE X (.Name x px) (tVar i)) (ha : DV X a fa) (hb : DV X b fb) (hs1 : PlainIx a := by exact fun _ _ => rfl) (hs2 : PlainIx b := by exact fun _ _ => rfl) : DV X (.Subscript (.Subscript (.Name x px) a p2) b pos) (eIxOO i fa fb) :=
  peMono (pe_ix ix_list (pe_ix ix_list hx ha hs1) hb hs2) fun σ H Q ⟨B, F, ρ, d, E, e, q⟩ => by
    unfold eIxOO at e
    split at e
    · rename_i dss hρ
      obtain ⟨x, e2, e⟩ := bind_some e
      obtain ⟨y, e3, e⟩ := bind_some e
      cases x with
      | int k =>
        obtain ⟨ds, e4, e⟩ := bind_some e
        obtain ⟨n, e5, e6⟩ := bind_some e4
        cases y with
        | int m =>
        obtain ⟨j, e7, e8⟩ := bind_some (show atI ds m = some d from e)
        obtain ⟨l, as, q1, q2, q3, q4, q5, q6⟩ := E.oo i dss hρ
        have hn : n < as.length := by
          rw [q5]
          by_cases z : n < dss.length
          · exact z
          · rw [List.getElem?_eq_none (by omega)] at e6
            cases e6
        have hk : as[n]? = some as[n] := List.getElem?_eq_getElem hn
        obtain ⟨r1, r2, vs, r3, r4⟩ := q6 n _ ds hk e6
        refine ⟨.ref l, q1, B, F, ρ, .int k, E, e2, fun xv F2 H2 G2 rx => ?_⟩
        cases rx
        refine ⟨l, as.map V.ref, k, .ref as[n], rfl, rfl, .inl (.inl (G2.hh _ _ q4)), ?_, B, F2, ρ, .int m, E.grow G2, e3, fun yv F3 H3 G3 ry => ?_⟩
        · unfold atI
          rw [List.length_map, q5, e5]
          show (as.map V.ref)[n]? = _
          rw [List.getElem?_map, hk]
          rfl
        · cases ry
          have GG := G2.trans G3
          obtain ⟨v, w1, w2⟩ := dpGet r4 e8
          exact ⟨as[n], vs, m, v, rfl, rfl, .inl (.inl (GG.hh _ _ r3)), by unfold atI; rw [dpLen r4, e7]; exact w1, q v F3 H3 GG (dpMono GG.ff _ _ w2)⟩
        | _ => cases e
      | _ => cases e
    · cases e
end
end DL

set_option Elab.async false
set_option linter.all false
set_option maxRecDepth 100000
set_option maxHeartbeats 4000000
/-! DLI: an inner list under a name, for one store; own lists lent to a test, to a new list of flat items -/
namespace DL
open PySem PySem.Spec PyProof.Rows L2
/-- y = x[a]; y[b] = e -/
def sAli (i m : Nat) (fa fb f : EV) : ES := fun ρ => match ρ[i]? with
  | some (SC.oo dss) => (fa ρ).bind fun x => match x with
    | .int k => (ixN dss.length k).bind fun n => (dss[n]?).bind fun ds =>
      (f ((ρ.set i (.va (.list (dss.map PyData.list)))).set m (.va (.list ds)))).bind fun d => if flat d = true ∧ m < ρ.length then
        (fb ((ρ.set i (.va (.list (dss.map PyData.list)))).set m (.va (.list ds)))).bind fun y => match y with
          | .int k2 => (ixN ds.length k2).bind fun p => some (.nx ((ρ.set m .un).set i (.oo (dss.set n (ds.set p d)))))
          | _ => none
      else none
    | _ => none
  | _ => none
def bLend (S : List Nat) (f : EB) : EB := fun ρ => f (frz S ρ)
section
variable {X : Cx} {a b c e : Expr} {st1 st2 : Stmt} {sts : List Stmt} {f fa fb : EV} {cb : EB} {u : ES} {pos : Pos}
theorem dt_lend {S : List Nat} (h : DT X e cb) : DT X e (bLend S cb) := ptMono h fun σ H Q ⟨B, F, ρ, d, E, e, q⟩ => by
  obtain ⟨F1, s1, E1, _⟩ := E.frz S
  exact ⟨B, F1, DL.frz S ρ, d, E1, e, fun F2 H2 G => q F H2 ⟨.refl F, s1.trans (G.ff.trans G.fh), G.hh, fun _ _ _ n => n⟩⟩
theorem dss_ali {i m : Nat} (h1 : PS X st1 (tAsg (tOp (rIxL X.K) (tVar i) (tD X.K fa)) (gName m))) (h2 : PS X st2 (tAsg (tD X.K f) (L2.gSub (tVar m) (tD X.K fb) rSetL))) (him : m ≠ i) (hr : DSs X sts u) : DSs X (st1 :: st2 :: sts) (sSeq (sAli i m fa fb f) u) :=
  fun W tk => pssMono (pss_cons h1 (pss_cons h2 (hr W tk))) fun D σ H ⟨F0, B, F, ρ, r, G, E, e, p⟩ => by
    obtain ⟨r1, ee, e'⟩ := bind_some e
    unfold sAli at ee
    split at ee
    · rename_i dss hρ
      obtain ⟨x, e2, ee⟩ := bind_some ee
      cases x with
      | int k =>
        obtain ⟨n, e3, ee⟩ := bind_some ee
        obtain ⟨ds, e4, ee⟩ := bind_some ee
        obtain ⟨d, e5, ee⟩ := bind_some ee
        split at ee
        case isFalse => cases ee
        rename_i hfl
        obtain ⟨hf, hml⟩ := hfl
        obtain ⟨y, e6, ee⟩ := bind_some ee
        cases y with
        | int k2 =>
          obtain ⟨q, e7, ee⟩ := bind_some ee
          cases ee
          obtain ⟨l, as, q1, q2, q3, q4, q5, q6⟩ := E.oo i dss hρ
          have hn : n < as.length := by
            rw [q5]
            by_cases z : n < dss.length
            · exact z
            · rw [List.getElem?_eq_none (by omega)] at e4
              cases e4
          have hk : as[n]? = some as[n] := List.getElem?_eq_getElem hn
          obtain ⟨r1, r2, vs, r3, r4⟩ := q6 n _ ds hk e4
          refine ⟨.ref l, q1, B, F, ρ, .int k, E, e2, fun xv F1 H1 G1 rx => ?_⟩
          cases rx
          refine ⟨l, as.map V.ref, k, .ref as[n], rfl, rfl, .inl (.inl (G1.hh _ _ q4)), ?_, ?_⟩
          · unfold atI
            rw [List.length_map, q5, e3]
            show (as.map V.ref)[n]? = _
            rw [List.getElem?_map, hk]
            rfl
          have E1 := E.grow G1
          have l1 := G1.hh _ _ q4
          have inner : ∀ x ∈ as, ∃ k : Nat, as[k]? = some x := fun x hx => by
            obtain ⟨k, hk, rfl⟩ := List.getElem_of_mem hx
            exact ⟨k, List.getElem?_eq_getElem hk⟩
          have hS : ∀ x ∈ l :: as, ∃ k, AtP H1 σ ρ i k x := fun x hx => by
            rcases List.mem_cons.mp hx with rfl | hx
            · exact ⟨none, .inr ⟨dss, hρ, q1⟩⟩
            · obtain ⟨k, hk⟩ := inner x hx
              exact ⟨some k, dss, l, as, hρ, q1, l1, hk⟩
          have sf : Same F1 (ext F1 H1 (l :: as)) := ext_same fun x hx => by
            obtain ⟨k, p⟩ := hS x hx
            exact (E1.at_ p).1
          have inn : ∀ (k : Nat) (b : Addr) (ds : List PyData), as[k]? = some b → dss[k]? = some ds → ∃ vs, ext F1 H1 (l :: as) b = some (.lst vs) ∧ DpAll X.K (ext F1 H1 (l :: as)) vs ds := fun k b ds e1 e2 => by
            obtain ⟨r1, r2, vs, r3, r4⟩ := q6 k b ds e1 e2
            exact ⟨vs, by rw [ext_in (List.mem_cons_of_mem _ (List.mem_of_getElem? e1))]; exact G1.hh _ _ r3, dpMonoAll (G1.ff.trans sf) _ _ r4⟩
          obtain ⟨s1, E2, _⟩ := E1.give (d := .list (dss.map PyData.list)) q1 hS (.lst (.inl (.inl (by rw [ext_in (by simp)]; exact l1))) (dpRefs q5 inn))
          obtain ⟨vs', w1, w2⟩ := inn n _ ds hk e4
          have E3 : ER X.K B (ext F1 H1 (l :: as)) H1 (σ.set m (some (.ref as[n]))) ((ρ.set i (.va (.list (dss.map PyData.list)))).set m (.va (.list ds))) := E2.setVa (.lst (.inl (.inl w1)) w2)
          show tD X.K f (σ.set m (some (.ref as[n]))) H1 _
          have hm : (σ.set m (some (V.ref as[n])))[m]? = some (some (.ref as[n])) := List.getElem?_set_self (by rw [E.len]; exact hml)
          refine ⟨B, _, _, d, E3, e5, fun v F2 H2 G2 rv => ⟨.ref as[n], hm, B, F2, _, .int k2, E3.grow G2, e6, fun yv F3 H3 G3 ry => ?_⟩⟩
          cases ry
          have G23 := G2.trans G3
          have GB : Grow F1 H1 F1 H3 := ⟨.refl F1, s1.trans (G23.ff.trans G23.fh), G23.hh, fun _ _ _ n => n⟩
          have GG := G1.trans GB
          have r3' := GG.hh _ _ r3
          have E4 : ER X.K B F1 H3 (σ.set m (some (.ref as[n]))) (ρ.set m .un) := setUn (E.grow GG) m _
          refine ⟨as[n], vs, k2, q, rfl, rfl, r3', by rw [dpLen r4]; exact e7, ?_⟩
          obtain ⟨G5, E5⟩ := ooUpd (i := i) (k := n) (dss := dss) (G.trans GG) E4 (by rw [List.getElem?_set_ne him]; exact hρ) (by rw [List.getElem?_set_ne him]; exact q1) (GG.hh _ _ q4) hk (dpSet q (dpMonoAll GG.ff _ _ r4) (flatDp rv hf))
          exact ⟨F0, B, F1, _, r, G5, E5, e', p.mono GG.ff⟩
        | _ => cases ee
      | _ => cases ee
    · cases ee
end
end DL

set_option linter.all false
set_option maxRecDepth 100000
set_option maxHeartbeats 1000000
namespace DL
open PySem PySem.Spec PyProof.Rows L2
/-! ### bounds of ints, by bits -/
class Bd (n : outParam Nat) (i : Int) : Prop where
  lt : i.natAbs < 2 ^ n
theorem Bd.mono {n m : Nat} {i : Int} (h : i.natAbs < 2 ^ n) (l : n ≤ m) : i.natAbs < 2 ^ m := Nat.lt_of_lt_of_le h (Nat.pow_le_pow_right (by decide) l)
instance bd_mul {n m : Nat} {i j : Int} [a : Bd n i] [b : Bd m j] : Bd (n + m) (i * j) := ⟨wide_lt a.lt b.lt⟩
theorem pow_max (n m : Nat) : 2 ^ n + 2 ^ m ≤ 2 ^ (max n m + 1) := by
  have h1 : 2 ^ n ≤ 2 ^ max n m := Nat.pow_le_pow_right (by decide) (Nat.le_max_left _ _)
  have h2 : 2 ^ m ≤ 2 ^ max n m := Nat.pow_le_pow_right (by decide) (Nat.le_max_right _ _)
  rw [Nat.pow_succ]
  omega
instance bd_add {n m : Nat} {i j : Int} [a : Bd n i] [b : Bd m j] : Bd (max n m + 1) (i + j) := ⟨by
  have := a.lt
  have := b.lt
  have := pow_max n m
  omega⟩
instance bd_sub {n m : Nat} {i j : Int} [a : Bd n i] [b : Bd m j] : Bd (max n m + 1) (i - j) := ⟨by
  have := a.lt
  have := b.lt
  have := pow_max n m
  omega⟩
instance bd_neg {n : Nat} {i : Int} [a : Bd n i] : Bd n (-i) := ⟨by
  have := a.lt
  omega⟩
/-- any int, above all a written one -/
instance (priority := 10) bd_lit {i : Int} : Bd (i.natAbs.log2 + 1) i := ⟨Nat.lt_log2_self⟩
theorem mulW {n m : Nat} {i j : Int} (a : i.natAbs < 2 ^ n) (b : j.natAbs < 2 ^ m) (h : n + m + 2 ≤ 1000000) : CMulW i j :=
  wide_mul (a := n + 1) (b := m + 1) (Bd.mono a (Nat.le_succ _)) (Bd.mono b (Nat.le_succ _)) (Nat.succ_pos _) (Nat.succ_pos _) (by omega)
/-! ### the operators at known data -/
theorem gMul_b {n m : Nat} {i j : Int} [a : Bd n i] [b : Bd m j] (h : n + m + 2 ≤ 1000000) : gMul (.int i) (.int j) = some (.int (i * j)) := if_pos (mulW a.lt b.lt h)
theorem gAdd_i {i j : Int} : gAdd (.int i) (.int j) = some (.int (i + j)) := rfl
theorem gSub_i {i j : Int} : gSub (.int i) (.int j) = some (.int (i - j)) := rfl
theorem gNeg_i {i : Int} : gNeg (.int i) = some (.int (-i)) := rfl
theorem gLt_i {i j : Int} : gLt (.int i) (.int j) = some (.bool (decide (i < j))) := rfl
theorem gLe_i {i j : Int} : gLe (.int i) (.int j) = some (.bool (decide (i ≤ j))) := rfl
theorem gGt_i {i j : Int} : gGt (.int i) (.int j) = some (.bool (decide (j < i))) := rfl
theorem gGe_i {i j : Int} : gGe (.int i) (.int j) = some (.bool (decide (j ≤ i))) := rfl
theorem gEq_i {i j : Int} : gEq (.int i) (.int j) = some (.bool (decide (i = j))) := by
  show some (PyData.bool (i == j)) = _
  rw [Bool.beq_eq_decide_eq]
theorem gNe_i {i j : Int} : gNe (.int i) (.int j) = some (.bool (!decide (i = j))) := by
  show some (PyData.bool (!(i == j))) = _
  rw [Bool.beq_eq_decide_eq]
theorem gMod_p {i j : Int} (h : 0 < j) : gMod (.int i) (.int j) = some (.int (i % j)) := by
  show (if j ≠ 0 then some (PyData.int (i.fmod j)) else none) = _
  rw [if_pos (by omega), Int.fmod_eq_emod_of_nonneg _ (by omega)]
theorem gFdiv_p {i j : Int} (h : 0 < j) (h2 : j.natAbs.log2 < 9000) : gFdiv (.int i) (.int j) = some (.int (i / j)) := by
  show (if CDivA i j then some (PyData.int (i.fdiv j)) else none) = _
  rw [if_pos ⟨by omega, h2⟩, Int.fdiv_eq_ediv_of_nonneg _ (by omega)]
/-- a sequence: a tuple (true) or a list -/
def sq (k : Bool) (l : List PyData) : PyData := match k with
  | true => .tuple l
  | false => .list l
theorem gIx_sq {k : Bool} {l : List PyData} {i : Int} : gIx (sq k l) (.int i) = atI l i := by cases k <;> rfl
theorem sq_t {l : List PyData} : PyData.tuple l = sq true l := rfl
theorem sq_l {l : List PyData} : PyData.list l = sq false l := rfl
theorem gIx_t {l : List PyData} {i : Int} : gIx (.tuple l) (.int i) = atI l i := rfl
theorem gIx_l {l : List PyData} {i : Int} : gIx (.list l) (.int i) = atI l i := rfl
section
variable {α : Type} {a b c d e f g : α} {l : List α}
theorem atI_nat' {l : List α} {i : Nat} : atI l (i : Int) = l[i]? := by
  unfold atI ixN
  rw [if_pos (Int.natCast_nonneg i)]
  by_cases h : i < l.length
  · rw [if_pos (by omega)]
    rfl
  · rw [if_neg (by omega)]
    rw [List.getElem?_eq_none (by omega)]
    rfl
theorem at0 : atI (a :: l) 0 = some a := atI_nat' (i := 0)
theorem at1 : atI (a :: b :: l) 1 = some b := atI_nat' (i := 1)
theorem at2 : atI (a :: b :: c :: l) 2 = some c := atI_nat' (i := 2)
theorem at3 : atI (a :: b :: c :: d :: l) 3 = some d := atI_nat' (i := 3)
theorem at4 : atI (a :: b :: c :: d :: e :: l) 4 = some e := atI_nat' (i := 4)
theorem at6 : atI (a :: b :: c :: d :: e :: f :: g :: l) 6 = some g := atI_nat' (i := 6)
theorem at7 {h : α} : atI (a :: b :: c :: d :: e :: f :: g :: h :: l) 7 = some h := atI_nat' (i := 7)
theorem at8 {h i : α} : atI (a :: b :: c :: d :: e :: f :: g :: h :: i :: l) 8 = some i := atI_nat' (i := 8)
theorem at9 {h i j : α} : atI (a :: b :: c :: d :: e :: f :: g :: h :: i :: j :: l) 9 = some j := atI_nat' (i := 9)
theorem at10 {h i j k : α} : atI (a :: b :: c :: d :: e :: f :: g :: h :: i :: j :: k :: l) 10 = some k := atI_nat' (i := 10)
theorem at11 {h i j k m : α} : atI (a :: b :: c :: d :: e :: f :: g :: h :: i :: j :: k :: m :: l) 11 = some m := atI_nat' (i := 11)
theorem at12 {h i j k m n : α} : atI (a :: b :: c :: d :: e :: f :: g :: h :: i :: j :: k :: m :: n :: l) 12 = some n := atI_nat' (i := 12)
theorem at13 {h i j k m n o : α} : atI (a :: b :: c :: d :: e :: f :: g :: h :: i :: j :: k :: m :: n :: o :: l) 13 = some o := atI_nat' (i := 13)
theorem at14 {h i j k m n o p : α} : atI (a :: b :: c :: d :: e :: f :: g :: h :: i :: j :: k :: m :: n :: o :: p :: l) 14 = some p := atI_nat' (i := 14)
theorem at15 {h i j k m n o p q : α} : atI (a :: b :: c :: d :: e :: f :: g :: h :: i :: j :: k :: m :: n :: o :: p :: q :: l) 15 = some q := atI_nat' (i := 15)
theorem at5 : atI (a :: b :: c :: d :: e :: f :: l) 5 = some f := atI_nat' (i := 5)
end
end DL

set_option linter.all false
set_option maxRecDepth 100000
set_option maxHeartbeats 1000000
namespace DL
open PySem PySem.Spec PyProof.Rows L2
/-! ### sequences, rows and tables -/
section
variable {k j : Bool} {l m : List PyData}
theorem len_sq : mLen [sq k l] = some (.int l.length) := by cases k <;> rfl
theorem tup_sq : mTuple [sq k l] = some (sq true l) := by cases k <;> rfl
theorem lst_sq : mList [sq k l] = some l := by cases k <;> rfl
theorem seq_sq : seqOf (sq k l) = some l := by cases k <;> rfl
theorem isTup_sq : isT .tuple (sq k l) = some k := by cases k <;> rfl
theorem isLst_sq : isT .list (sq k l) = some (!k) := by cases k <;> rfl
end
structure V3 where
  x : Int
  y : Int
  z : Int
  deriving DecidableEq
theorem V3.ext' {u v : V3} (h1 : u.x = v.x) (h2 : u.y = v.y) (h3 : u.z = v.z) : u = v := by
  cases u
  cases v
  cases h1
  cases h2
  cases h3
  rfl
def rw3 (k : Bool) (v : V3) : PyData := sq k [.int v.x, .int v.y, .int v.z]
structure M3 where
  a : V3
  b : V3
  c : V3
  deriving DecidableEq
def tb (j k : Bool) (t : M3) : PyData := sq j [rw3 k t.a, rw3 k t.b, rw3 k t.c]
section
variable {k j k' j' : Bool} {u v w : V3} {s t : M3} {a b c : Int}
theorem row_t : PyData.tuple [.int a, .int b, .int c] = rw3 true ⟨a, b, c⟩ := rfl
theorem tab_t : PyData.tuple [rw3 k u, rw3 k v, rw3 k w] = tb true k ⟨u, v, w⟩ := rfl
theorem ix_r0 : gIx (rw3 k v) (.int 0) = some (.int v.x) := by cases k <;> rfl
theorem ix_r1 : gIx (rw3 k v) (.int 1) = some (.int v.y) := by cases k <;> rfl
theorem ix_r2 : gIx (rw3 k v) (.int 2) = some (.int v.z) := by cases k <;> rfl
theorem ix_t0 : gIx (tb j k t) (.int 0) = some (rw3 k t.a) := by cases j <;> rfl
theorem ix_t1 : gIx (tb j k t) (.int 1) = some (rw3 k t.b) := by cases j <;> rfl
theorem ix_t2 : gIx (tb j k t) (.int 2) = some (rw3 k t.c) := by cases j <;> rfl
theorem len_r : mLen [rw3 k v] = some (.int 3) := by cases k <;> rfl
theorem len_tb : mLen [tb j k t] = some (.int 3) := by cases j <;> rfl
theorem tup_r : mTuple [rw3 k v] = some (rw3 true v) := by cases k <;> rfl
theorem tup_tb : mTuple [tb j k t] = some (tb true k t) := by cases j <;> rfl
theorem lst_r : mList [rw3 k v] = some [.int v.x, .int v.y, .int v.z] := by cases k <;> rfl
theorem seq_r : seqOf (rw3 k v) = some [.int v.x, .int v.y, .int v.z] := by cases k <;> rfl
theorem seq_tb : seqOf (tb j k t) = some [rw3 k t.a, rw3 k t.b, rw3 k t.c] := by cases j <;> rfl
theorem isTup_r : isT .tuple (rw3 k v) = some k := by cases k <;> rfl
theorem isTup_tb : isT .tuple (tb j k t) = some j := by cases j <;> rfl
theorem eq_r : gEq (rw3 true u) (rw3 true v) = some (.bool (decide (u = v))) := by
  show some (PyData.bool (u.x == v.x && (u.y == v.y && (u.z == v.z && true)))) = _
  refine congrArg (fun b => some (PyData.bool b)) ?_
  rw [Bool.eq_iff_iff]
  simp only [Bool.and_eq_true, beq_iff_eq, decide_eq_true_eq, and_true]
  exact ⟨fun ⟨h1, h2, h3⟩ => V3.ext' h1 h2 h3, fun h => by subst h; exact ⟨rfl, rfl, rfl⟩⟩
theorem ne_r : gNe (rw3 true u) (rw3 true v) = some (.bool (!decide (u = v))) := by
  have h : gEq (rw3 true u) (rw3 true v) = some (.bool (decide (u = v))) := eq_r
  have h2 : some (PyData.bool (PyData.eqv (rw3 true u) (rw3 true v))) = some (.bool (decide (u = v))) := h
  have h3 : PyData.eqv (rw3 true u) (rw3 true v) = decide (u = v) := by
    injection h2 with h2
    injection h2
  show some (PyData.bool (!PyData.eqv (rw3 true u) (rw3 true v))) = _
  rw [h3]
theorem eqv_r : PyData.eqv (rw3 true u) (rw3 true v) = decide (u = v) := by
  have h : gEq (rw3 true u) (rw3 true v) = some (.bool (decide (u = v))) := eq_r
  have h2 : some (PyData.bool (PyData.eqv (rw3 true u) (rw3 true v))) = some (.bool (decide (u = v))) := h
  injection h2 with h2
  injection h2
theorem eqv_tb : PyData.eqv (tb true true s) (tb true true t) = decide (s = t) := by
  show (PyData.eqv (rw3 true s.a) (rw3 true t.a) && (PyData.eqv (rw3 true s.b) (rw3 true t.b) && (PyData.eqv (rw3 true s.c) (rw3 true t.c) && true))) = _
  rw [eqv_r, eqv_r, eqv_r, Bool.eq_iff_iff]
  simp only [Bool.and_eq_true, decide_eq_true_eq, and_true]
  cases s
  cases t
  simp
theorem eq_tb : gEq (tb true true s) (tb true true t) = some (.bool (decide (s = t))) := by
  show some (PyData.bool (PyData.eqv (tb true true s) (tb true true t))) = _
  rw [eqv_tb]
theorem ne_tb : gNe (tb true true s) (tb true true t) = some (.bool (!decide (s = t))) := by
  show some (PyData.bool (!PyData.eqv (tb true true s) (tb true true t))) = _
  rw [eqv_tb]
end
theorem p62 : (2 : Int) ^ 62 = 4611686018427387904 := by decide +kernel
theorem rg1_nat (n : Nat) (h : n < 4611686018427387904) : rg1 (.int n) = some (rng 0 n) := by
  unfold rg1
  simp only [p62]
  rw [cIf_pos ⟨by omega, by omega⟩, Int.toNat_natCast]
theorem rg1_3 : rg1 (.int 3) = some [.int 0, .int 1, .int 2] := rg1_nat 3 (by decide)
theorem rg2_lit (i j : Int) (h : -4611686018427387904 ≤ i) (h2 : i < 4611686018427387904) (h3 : -4611686018427387904 ≤ j) (h4 : j < 4611686018427387904) : rg2 (.int i) (.int j) = some (rng i (j - i).toNat) := by
  unfold rg2
  simp only [p62]
  rw [cIf_pos ⟨h, h2, h3, h4⟩]
theorem seq_l {l : List PyData} : seqOf (.list l) = some l := rfl
theorem seq_t {l : List PyData} : seqOf (.tuple l) = some l := rfl
theorem tup_l {l : List PyData} : mTuple [.list l] = some (.tuple l) := rfl
theorem tup_t {l : List PyData} : mTuple [.tuple l] = some (.tuple l) := rfl
theorem lst_l {l : List PyData} : mList [.list l] = some l := rfl
theorem lst_t {l : List PyData} : mList [.tuple l] = some l := rfl
theorem len_l {l : List PyData} : mLen [.list l] = some (.int l.length) := rfl
theorem len_t {l : List PyData} : mLen [.tuple l] = some (.int l.length) := rfl
theorem cut_pos {α : Type} {l : List α} {a b : Int} (ha : 0 ≤ a) (hb : 0 ≤ b) : cutD l (some a) (some b) = (l.drop a.toNat).take (b.toNat - a.toNat) := by
  obtain ⟨i, rfl⟩ : ∃ i : Nat, a = i := ⟨a.toNat, by omega⟩
  obtain ⟨j, rfl⟩ : ∃ i : Nat, b = i := ⟨b.toNat, by omega⟩
  unfold cutD
  rw [HT.sIx_nat, HT.sIx_nat, Int.toNat_natCast, Int.toNat_natCast]
  apply List.ext_getElem?
  intro k
  simp only [List.getElem?_take, List.getElem?_drop]
  by_cases h : k < j - i
  · by_cases h2 : i + k < l.length
    · rw [if_pos h, if_pos (by omega), show min i l.length = i by omega]
    · rw [if_pos h, List.getElem?_eq_none (by omega : l.length ≤ i + k)]
      by_cases h3 : k < min j l.length - min i l.length
      · omega
      · rw [if_neg h3]
  · rw [if_neg h, if_neg (by omega)]
theorem cut_from {α : Type} {l : List α} {a : Int} (ha : 0 ≤ a) : cutD l (some a) none = l.drop a.toNat := by
  obtain ⟨i, rfl⟩ : ∃ i : Nat, a = i := ⟨a.toNat, by omega⟩
  unfold cutD
  rw [HT.sIx_nat, HT.sIx_none, Int.toNat_natCast]
  apply List.ext_getElem?
  intro k
  simp only [List.getElem?_take, List.getElem?_drop]
  by_cases h2 : i + k < l.length
  · rw [if_pos (by omega), show min i l.length = i by omega]
  · rw [List.getElem?_eq_none (by omega : l.length ≤ i + k)]
    by_cases h3 : k < l.length - min i l.length
    · omega
    · rw [if_neg h3]
theorem cut_to {α : Type} {l : List α} {b : Int} (hb : 0 ≤ b) : cutD l none (some b) = l.take b.toNat := by
  obtain ⟨j, rfl⟩ : ∃ i : Nat, b = i := ⟨b.toNat, by omega⟩
  unfold cutD
  rw [HT.sIx_nat, HT.sIx_none, Int.toNat_natCast]
  apply List.ext_getElem?
  intro k
  simp only [List.getElem?_take, List.getElem?_drop]
  by_cases h : k < j
  · by_cases h2 : k < l.length
    · rw [if_pos h, if_pos (by omega), Nat.zero_add]
    · rw [if_pos h, List.getElem?_eq_none (by omega : l.length ≤ k)]
      rw [if_neg (by omega)]
  · rw [if_neg h, if_neg (by omega)]
theorem gSl_l {l : List PyData} {lo hi : Option Int} : gSl (.list l) lo hi = some (.list (cutD l lo hi)) := rfl
/-! ### the mathematics of rows and tables -/
namespace V3
def add (u v : V3) : V3 := ⟨u.x + v.x, u.y + v.y, u.z + v.z⟩
def sub (u v : V3) : V3 := ⟨u.x - v.x, u.y - v.y, u.z - v.z⟩
def smul (n : Int) (v : V3) : V3 := ⟨n * v.x, n * v.y, n * v.z⟩
def dot (u v : V3) : Int := u.x * v.x + u.y * v.y + u.z * v.z
def cross (u v : V3) : V3 := ⟨u.y * v.z - u.z * v.y, u.z * v.x - u.x * v.z, u.x * v.y - u.y * v.x⟩
end V3
namespace M3
def im (t : M3) (v : V3) : V3 := ⟨t.a.dot v, t.b.dot v, t.c.dot v⟩
def tr (t : M3) : M3 := ⟨⟨t.a.x, t.b.x, t.c.x⟩, ⟨t.a.y, t.b.y, t.c.y⟩, ⟨t.a.z, t.b.z, t.c.z⟩⟩
def mul (s t : M3) : M3 := ⟨⟨s.a.dot t.tr.a, s.a.dot t.tr.b, s.a.dot t.tr.c⟩, ⟨s.b.dot t.tr.a, s.b.dot t.tr.b, s.b.dot t.tr.c⟩, ⟨s.c.dot t.tr.a, s.c.dot t.tr.b, s.c.dot t.tr.c⟩⟩
def det (t : M3) : Int := t.a.dot (t.b.cross t.c)
def trace (t : M3) : Int := t.a.x + t.b.y + t.c.z
def adj (t : M3) : M3 := tr ⟨t.b.cross t.c, t.c.cross t.a, t.a.cross t.b⟩
def one : M3 := ⟨⟨1, 0, 0⟩, ⟨0, 1, 0⟩, ⟨0, 0, 1⟩⟩
end M3
/-! ### bounds of rows and tables -/
class BV (n : outParam Nat) (v : V3) : Prop where
  x : v.x.natAbs < 2 ^ n
  y : v.y.natAbs < 2 ^ n
  z : v.z.natAbs < 2 ^ n
class BM (n : outParam Nat) (t : M3) : Prop where
  a : BV n t.a
  b : BV n t.b
  c : BV n t.c
section
variable {n m : Nat} {u v : V3} {s t : M3} {i : Int}
instance bvx [h : BV n v] : Bd n v.x := ⟨h.x⟩
instance bvy [h : BV n v] : Bd n v.y := ⟨h.y⟩
instance bvz [h : BV n v] : Bd n v.z := ⟨h.z⟩
instance bma [h : BM n t] : BV n t.a := h.a
instance bmb [h : BM n t] : BV n t.b := h.b
instance bmc [h : BM n t] : BV n t.c := h.c
theorem BV.mono (h : BV n v) (l : n ≤ m) : BV m v := ⟨Bd.mono h.x l, Bd.mono h.y l, Bd.mono h.z l⟩
theorem BM.mono (h : BM n t) (l : n ≤ m) : BM m t := ⟨h.a.mono l, h.b.mono l, h.c.mono l⟩
theorem Bd.up (h : Bd n i) (l : n ≤ m) : Bd m i := ⟨Bd.mono h.lt l⟩
instance bv_add [a : BV n u] [b : BV m v] : BV (max n m + 1) (u.add v) := ⟨(inferInstance : Bd _ (u.x + v.x)).lt, (inferInstance : Bd _ (u.y + v.y)).lt, (inferInstance : Bd _ (u.z + v.z)).lt⟩
instance bv_sub [a : BV n u] [b : BV m v] : BV (max n m + 1) (u.sub v) := ⟨(inferInstance : Bd _ (u.x - v.x)).lt, (inferInstance : Bd _ (u.y - v.y)).lt, (inferInstance : Bd _ (u.z - v.z)).lt⟩
instance bv_smul [a : Bd n i] [b : BV m v] : BV (n + m) (v.smul i) := ⟨(inferInstance : Bd _ (i * v.x)).lt, (inferInstance : Bd _ (i * v.y)).lt, (inferInstance : Bd _ (i * v.z)).lt⟩
theorem maxs (a : Nat) : max (max a a + 1) a + 1 = a + 2 := by omega
theorem maxs1 (a : Nat) : max a a + 1 = a + 1 := by omega
instance bd_dot [a : BV n u] [b : BV m v] : Bd (n + m + 2) (u.dot v) := ⟨by
  have h : Bd _ (u.x * v.x + u.y * v.y + u.z * v.z) := inferInstance
  have h2 := h.lt
  rw [maxs] at h2
  exact h2⟩
instance bv_cross [a : BV n u] [b : BV m v] : BV (n + m + 1) (u.cross v) := ⟨by
  have h : Bd _ (u.y * v.z - u.z * v.y) := inferInstance
  have h2 := h.lt
  rw [maxs1] at h2
  exact h2, by
  have h : Bd _ (u.z * v.x - u.x * v.z) := inferInstance
  have h2 := h.lt
  rw [maxs1] at h2
  exact h2, by
  have h : Bd _ (u.x * v.y - u.y * v.x) := inferInstance
  have h2 := h.lt
  rw [maxs1] at h2
  exact h2⟩
instance bv_im [a : BM n t] [b : BV m v] : BV (n + m + 2) (t.im v) := ⟨(inferInstance : Bd _ (t.a.dot v)).lt, (inferInstance : Bd _ (t.b.dot v)).lt, (inferInstance : Bd _ (t.c.dot v)).lt⟩
instance bm_tr [a : BM n t] : BM n t.tr := ⟨⟨a.a.x, a.b.x, a.c.x⟩, ⟨a.a.y, a.b.y, a.c.y⟩, ⟨a.a.z, a.b.z, a.c.z⟩⟩
instance bm_mul [a : BM n s] [b : BM m t] : BM (n + m + 2) (s.mul t) :=
  ⟨⟨(inferInstance : Bd _ (s.a.dot t.tr.a)).lt, (inferInstance : Bd _ (s.a.dot t.tr.b)).lt, (inferInstance : Bd _ (s.a.dot t.tr.c)).lt⟩,
   ⟨(inferInstance : Bd _ (s.b.dot t.tr.a)).lt, (inferInstance : Bd _ (s.b.dot t.tr.b)).lt, (inferInstance : Bd _ (s.b.dot t.tr.c)).lt⟩,
   ⟨(inferInstance : Bd _ (s.c.dot t.tr.a)).lt, (inferInstance : Bd _ (s.c.dot t.tr.b)).lt, (inferInstance : Bd _ (s.c.dot t.tr.c)).lt⟩⟩
instance bd_det [a : BM n t] : Bd (n + (n + n + 1) + 2) t.det := (inferInstance : Bd _ (t.a.dot (t.b.cross t.c)))
instance bm_mk [a : BV n u] [b : BV n v] {w : V3} [c : BV n w] : BM n ⟨u, v, w⟩ := ⟨a, b, c⟩
instance bm_adj [a : BM n t] : BM (n + n + 1) t.adj := (inferInstance : BM _ (M3.tr ⟨t.b.cross t.c, t.c.cross t.a, t.a.cross t.b⟩))
end
theorem sSeq_eq {f g : ES} {ρ ρ' : Rho} (h : f ρ = some (.nx ρ')) : sSeq f g ρ = g ρ' := by
  unfold sSeq
  rw [h]
  rfl
theorem sSeq_rt {f g : ES} {ρ : Rho} {d : PyData} (h : f ρ = some (.rt d)) : sSeq f g ρ = some (.rt d) := by
  unfold sSeq
  rw [h]
  rfl
theorem run_rt {k : Nat} {u : ES} {ds : List PyData} {d : PyData} (h : u (ds.map SC.va ++ List.replicate k SC.un) = some (.rt d)) : runD k u ds = some d := by
  unfold runD
  rw [h]
  rfl
/-! ### forms: six numbers -/
structure F6 where
  a : Int
  b : Int
  c : Int
  p : Int
  q : Int
  r : Int
  deriving DecidableEq
def fm (k : Bool) (f : F6) : PyData := sq k [.int f.a, .int f.b, .int f.c, .int f.p, .int f.q, .int f.r]
theorem F6.ext' {f g : F6} (h1 : f.a = g.a) (h2 : f.b = g.b) (h3 : f.c = g.c) (h4 : f.p = g.p) (h5 : f.q = g.q) (h6 : f.r = g.r) : f = g := by
  cases f
  cases g
  cases h1
  cases h2
  cases h3
  cases h4
  cases h5
  cases h6
  rfl
section
variable {k j : Bool} {f g : F6} {a b c p q r : Int} {v : V3}
theorem fm_t : PyData.tuple [.int a, .int b, .int c, .int p, .int q, .int r] = fm true ⟨a, b, c, p, q, r⟩ := rfl
theorem ix_f0 : gIx (fm k f) (.int 0) = some (.int f.a) := by cases k <;> rfl
theorem ix_f1 : gIx (fm k f) (.int 1) = some (.int f.b) := by cases k <;> rfl
theorem ix_f2 : gIx (fm k f) (.int 2) = some (.int f.c) := by cases k <;> rfl
theorem ix_f3 : gIx (fm k f) (.int 3) = some (.int f.p) := by cases k <;> rfl
theorem ix_f4 : gIx (fm k f) (.int 4) = some (.int f.q) := by cases k <;> rfl
theorem ix_f5 : gIx (fm k f) (.int 5) = some (.int f.r) := by cases k <;> rfl
theorem len_f : mLen [fm k f] = some (.int 6) := by cases k <;> rfl
theorem tup_f : mTuple [fm k f] = some (fm true f) := by cases k <;> rfl
theorem lst_f : mList [fm k f] = some [.int f.a, .int f.b, .int f.c, .int f.p, .int f.q, .int f.r] := by cases k <;> rfl
theorem seq_f : seqOf (fm k f) = some [.int f.a, .int f.b, .int f.c, .int f.p, .int f.q, .int f.r] := by cases k <;> rfl
theorem isTup_f : isT .tuple (fm k f) = some k := by cases k <;> rfl
theorem eqv_f : PyData.eqv (fm true f) (fm true g) = decide (f = g) := by
  show (f.a == g.a && (f.b == g.b && (f.c == g.c && (f.p == g.p && (f.q == g.q && (f.r == g.r && true)))))) = _
  rw [Bool.eq_iff_iff]
  simp only [Bool.and_eq_true, beq_iff_eq, decide_eq_true_eq, and_true]
  exact ⟨fun ⟨h1, h2, h3, h4, h5, h6⟩ => F6.ext' h1 h2 h3 h4 h5 h6, fun h => by subst h; exact ⟨rfl, rfl, rfl, rfl, rfl, rfl⟩⟩
theorem eq_f : gEq (fm true f) (fm true g) = some (.bool (decide (f = g))) := by
  show some (PyData.bool (PyData.eqv (fm true f) (fm true g))) = _
  rw [eqv_f]
theorem ne_f : gNe (fm true f) (fm true g) = some (.bool (!decide (f = g))) := by
  show some (PyData.bool (!PyData.eqv (fm true f) (fm true g))) = _
  rw [eqv_f]
/-- unpacking -/
theorem un_f {h : List PyData → Rho → Option Rho} {ρ : Rho} : gTp 6 h (fm k f) ρ = h [.int f.a, .int f.b, .int f.c, .int f.p, .int f.q, .int f.r] ρ := by cases k <;> rfl
theorem un_r {h : List PyData → Rho → Option Rho} {ρ : Rho} : gTp 3 h (rw3 k v) ρ = h [.int v.x, .int v.y, .int v.z] ρ := by cases k <;> rfl
end
namespace F6
def gram (f : F6) : M3 := ⟨⟨f.a, f.r, f.q⟩, ⟨f.r, f.b, f.p⟩, ⟨f.q, f.p, f.c⟩⟩
def val (f : F6) (v : V3) : Int := f.a * v.x * v.x + f.b * v.y * v.y + f.c * v.z * v.z + 2 * (f.p * v.y * v.z + f.q * v.x * v.z + f.r * v.x * v.y)
def pair (f : F6) (u v : V3) : Int := (f.a * u.x + f.r * u.y + f.q * u.z) * v.x + (f.r * u.x + f.b * u.y + f.p * u.z) * v.y + (f.q * u.x + f.p * u.y + f.c * u.z) * v.z
end F6
class BF (n : outParam Nat) (f : F6) : Prop where
  a : f.a.natAbs < 2 ^ n
  b : f.b.natAbs < 2 ^ n
  c : f.c.natAbs < 2 ^ n
  p : f.p.natAbs < 2 ^ n
  q : f.q.natAbs < 2 ^ n
  r : f.r.natAbs < 2 ^ n
section
variable {n m : Nat} {f : F6}
instance bfa [h : BF n f] : Bd n f.a := ⟨h.a⟩
instance bfb [h : BF n f] : Bd n f.b := ⟨h.b⟩
instance bfc [h : BF n f] : Bd n f.c := ⟨h.c⟩
instance bfp [h : BF n f] : Bd n f.p := ⟨h.p⟩
instance bfq [h : BF n f] : Bd n f.q := ⟨h.q⟩
instance bfr [h : BF n f] : Bd n f.r := ⟨h.r⟩
instance bm_gram [h : BF n f] : BM n f.gram := ⟨⟨h.a, h.r, h.q⟩, ⟨h.r, h.b, h.p⟩, ⟨h.q, h.p, h.c⟩⟩
theorem BF.mono (h : BF n f) (l : n ≤ m) : BF m f := ⟨Bd.mono h.a l, Bd.mono h.b l, Bd.mono h.c l, Bd.mono h.p l, Bd.mono h.q l, Bd.mono h.r l⟩
end
end DL

set_option Elab.async false
set_option linter.all false
set_option maxRecDepth 100000
set_option maxHeartbeats 4000000
namespace W
open PySem PySem.Spec PyProof.Rows L2 DL
def top (i : Nat) : Stmt := PySem.Challenge.pw_fewfounders_k01_inverse_and_powers.main.body.getD i (.Pass ⟨0, 0, 0, 0⟩)
section
variable {P : Program} {w : World} {K : PySem.W.Frag} {mg : Str → Option Value} {base : Heap}
def c_IDLE : PyData := (PyData.tuple [(PyData.tuple [(PyData.int 1), (PyData.int 0), (PyData.int 0)]), (PyData.tuple [(PyData.int 0), (PyData.int 1), (PyData.int 0)]), (PyData.tuple [(PyData.int 0), (PyData.int 0), (PyData.int 1)])])
abbrev s_times : Stmt := top 35
noncomputable def b_times : ES := (sRet (eTup (aCons (eBin gMul (eVar 0) (eBin gIx (eVar 1) (eC (.int 0)))) (aCons (eBin gMul (eVar 0) (eBin gIx (eVar 1) (eC (.int 1)))) (aCons (eBin gMul (eVar 0) (eBin gIx (eVar 1) (eC (.int 2)))) aNil)))))
noncomputable def m_times : List PyData → Option PyData := runD 0 b_times
abbrev N_times : List Str := ["number", "row"]
theorem ok_times (F : Fd K mg "times" s_times) : Def P w K mg base "times" 1 2 m_times := by
  have sc : FnScope N_times ["number", "row"] (defScope s_times) := ⟨rfl, rfl, rfl, by decide +kernel, rfl, by decide +kernel, by decide +kernel⟩
  refine F.mk sc rfl rfl (fun _ _ _ _ _ _ us hl => match us, hl with | [_, _], _ => rfl) fun cdv A outer s H E hr => ?_
  exact (dss_one (ds_ret (dv_tup (da_cons (dv_bin o_mul (dv_var (pv 0)) (dv_ix ix_g (dv_var (pv 1)) dv_int)) (da_cons (dv_bin o_mul (dv_var (pv 0)) (dv_ix ix_g (dv_var (pv 1)) dv_int)) (da_cons (dv_bin o_mul (dv_var (pv 0)) (dv_ix ix_g (dv_var (pv 1)) dv_int)) da_nil))))))
abbrev s_dot : Stmt := top 36
noncomputable def b_dot : ES := (sRet (eBin gAdd (eBin gAdd (eBin gMul (eBin gIx (eVar 0) (eC (.int 0))) (eBin gIx (eVar 1) (eC (.int 0)))) (eBin gMul (eBin gIx (eVar 0) (eC (.int 1))) (eBin gIx (eVar 1) (eC (.int 1))))) (eBin gMul (eBin gIx (eVar 0) (eC (.int 2))) (eBin gIx (eVar 1) (eC (.int 2))))))
noncomputable def m_dot : List PyData → Option PyData := runD 0 b_dot
abbrev N_dot : List Str := ["one", "two"]
theorem ok_dot (F : Fd K mg "dot" s_dot) : Def P w K mg base "dot" 1 2 m_dot := by
  have sc : FnScope N_dot ["one", "two"] (defScope s_dot) := ⟨rfl, rfl, rfl, by decide +kernel, rfl, by decide +kernel, by decide +kernel⟩
  refine F.mk sc rfl rfl (fun _ _ _ _ _ _ us hl => match us, hl with | [_, _], _ => rfl) fun cdv A outer s H E hr => ?_
  exact (dss_one (ds_ret (dv_bin o_add (dv_bin o_add (dv_bin o_mul (dv_ix ix_g (dv_var (pv 0)) dv_int) (dv_ix ix_g (dv_var (pv 1)) dv_int)) (dv_bin o_mul (dv_ix ix_g (dv_var (pv 0)) dv_int) (dv_ix ix_g (dv_var (pv 1)) dv_int))) (dv_bin o_mul (dv_ix ix_g (dv_var (pv 0)) dv_int) (dv_ix ix_g (dv_var (pv 1)) dv_int)))))
abbrev s_cross : Stmt := top 37
noncomputable def b_cross : ES := (sRet (eTup (aCons (eBin gSub (eBin gMul (eBin gIx (eVar 0) (eC (.int 1))) (eBin gIx (eVar 1) (eC (.int 2)))) (eBin gMul (eBin gIx (eVar 0) (eC (.int 2))) (eBin gIx (eVar 1) (eC (.int 1))))) (aCons (eBin gSub (eBin gMul (eBin gIx (eVar 0) (eC (.int 2))) (eBin gIx (eVar 1) (eC (.int 0)))) (eBin gMul (eBin gIx (eVar 0) (eC (.int 0))) (eBin gIx (eVar 1) (eC (.int 2))))) (aCons (eBin gSub (eBin gMul (eBin gIx (eVar 0) (eC (.int 0))) (eBin gIx (eVar 1) (eC (.int 1)))) (eBin gMul (eBin gIx (eVar 0) (eC (.int 1))) (eBin gIx (eVar 1) (eC (.int 0))))) aNil)))))
noncomputable def m_cross : List PyData → Option PyData := runD 0 b_cross
abbrev N_cross : List Str := ["one", "two"]
theorem ok_cross (F : Fd K mg "cross" s_cross) : Def P w K mg base "cross" 1 2 m_cross := by
  have sc : FnScope N_cross ["one", "two"] (defScope s_cross) := ⟨rfl, rfl, rfl, by decide +kernel, rfl, by decide +kernel, by decide +kernel⟩
  refine F.mk sc rfl rfl (fun _ _ _ _ _ _ us hl => match us, hl with | [_, _], _ => rfl) fun cdv A outer s H E hr => ?_
  exact (dss_one (ds_ret (dv_tup (da_cons (dv_bin o_sub (dv_bin o_mul (dv_ix ix_g (dv_var (pv 0)) dv_int) (dv_ix ix_g (dv_var (pv 1)) dv_int)) (dv_bin o_mul (dv_ix ix_g (dv_var (pv 0)) dv_int) (dv_ix ix_g (dv_var (pv 1)) dv_int))) (da_cons (dv_bin o_sub (dv_bin o_mul (dv_ix ix_g (dv_var (pv 0)) dv_int) (dv_ix ix_g (dv_var (pv 1)) dv_int)) (dv_bin o_mul (dv_ix ix_g (dv_var (pv 0)) dv_int) (dv_ix ix_g (dv_var (pv 1)) dv_int))) (da_cons (dv_bin o_sub (dv_bin o_mul (dv_ix ix_g (dv_var (pv 0)) dv_int) (dv_ix ix_g (dv_var (pv 1)) dv_int)) (dv_bin o_mul (dv_ix ix_g (dv_var (pv 0)) dv_int) (dv_ix ix_g (dv_var (pv 1)) dv_int))) da_nil))))))
abbrev s_transpose : Stmt := top 40
noncomputable def b_transpose : ES := (sRet (eAll mTuple (aCons (eOfF (fComp (iRg1 (eC (.int 3))) (gNm 1) bYes (eTup (aCons (eBin gIx (eBin gIx (eVar 0) (eC (.int 0))) (eVar 1)) (aCons (eBin gIx (eBin gIx (eVar 0) (eC (.int 1))) (eVar 1)) (aCons (eBin gIx (eBin gIx (eVar 0) (eC (.int 2))) (eVar 1)) aNil)))) [1])) aNil)))
noncomputable def m_transpose : List PyData → Option PyData := runD 1 b_transpose
abbrev N_transpose : List Str := ["table", "k"]
theorem ok_transpose (F : Fd K mg "transpose" s_transpose) (z_range : mg "range" = none) (z_tuple : mg "tuple" = none) : Def P w K mg base "transpose" 1 1 m_transpose := by
  have sc : FnScope N_transpose ["table"] (defScope s_transpose) := ⟨rfl, rfl, rfl, by decide +kernel, rfl, by decide +kernel, by decide +kernel⟩
  refine F.mk sc rfl rfl (fun _ _ _ _ _ _ us hl => match us, hl with | [_], _ => rfl) fun cdv A outer s H E hr => ?_
  exact (dss_one (ds_ret (dv_ty c_tuple (by rfl) z_tuple (by decide +kernel) (da_cons (dv_ofF (df_comp (own := [("k", 1)]) rfl sc.nd (di_rg1 (by rfl) z_range dv_int) (blkOk_by (N := N_transpose) (sc := defScope s_transpose) (by decide +kernel)) (fun _ _ _ _ _ => (dg_name (pg_name (i := 1) sc.nd rfl (by first | exact Or.inl rfl | exact Or.inr rfl)))) (fun _ _ _ _ _ => dx_nil) (fun _ _ _ _ _ => (dv_tup (da_cons (dv_ix ix_g (dv_ix ix_g (dv_var (pv 0)) dv_int) (dv_var (pv 1))) (da_cons (dv_ix ix_g (dv_ix ix_g (dv_var (pv 0)) dv_int) (dv_var (pv 1))) (da_cons (dv_ix ix_g (dv_ix ix_g (dv_var (pv 0)) dv_int) (dv_var (pv 1))) da_nil))))))) da_nil))))
abbrev s_product : Stmt := top 41
noncomputable def b_product : ES := (sSeq (sSet 2 (eCall m_transpose (aCons (eVar 1) aNil))) (sRet (eAll mTuple (aCons (eOfF (fComp (iSeq (eVar 0)) (gNm 3) bYes (eTup (aCons (eCall m_dot (aCons (eVar 3) (aCons (eBin gIx (eVar 2) (eC (.int 0))) aNil))) (aCons (eCall m_dot (aCons (eVar 3) (aCons (eBin gIx (eVar 2) (eC (.int 1))) aNil))) (aCons (eCall m_dot (aCons (eVar 3) (aCons (eBin gIx (eVar 2) (eC (.int 2))) aNil))) aNil)))) [3])) aNil))))
noncomputable def m_product : List PyData → Option PyData := runD 2 b_product
abbrev N_product : List Str := ["one", "two", "sides", "line"]
theorem ok_product (F : Fd K mg "product" s_product) (d_transpose : Def P w K mg base "transpose" 1 1 m_transpose) (d_dot : Def P w K mg base "dot" 1 2 m_dot) (z_tuple : mg "tuple" = none) : Def P w K mg base "product" 2 2 m_product := by
  have sc : FnScope N_product ["one", "two"] (defScope s_product) := ⟨rfl, rfl, rfl, by decide +kernel, rfl, by decide +kernel, by decide +kernel⟩
  refine F.mk sc rfl rfl (fun _ _ _ _ _ _ us hl => match us, hl with | [_, _], _ => rfl) fun cdv A outer s H E hr => ?_
  exact (dss_cons (ds_set (i := 2) sc.nd rfl (by first | exact Or.inl rfl | exact Or.inr rfl) (dv_callD d_transpose hr (da_cons (dv_var (pv 1)) da_nil))) (dss_one (ds_ret (dv_ty c_tuple (by rfl) z_tuple (by decide +kernel) (da_cons (dv_ofF (df_comp (own := [("line", 3)]) rfl sc.nd (di_seq (dv_var (pv 0))) (blkOk_by (N := N_product) (sc := defScope s_product) (by decide +kernel)) (fun _ _ _ _ _ => (dg_name (pg_name (i := 3) sc.nd rfl (by first | exact Or.inl rfl | exact Or.inr rfl)))) (fun _ _ _ _ _ => dx_nil) (fun _ _ _ _ _ => (dv_tup (da_cons (dv_callD d_dot hr (da_cons (dv_var (pv 3)) (da_cons (dv_ix ix_g (dv_var (pv 2)) dv_int) da_nil))) (da_cons (dv_callD d_dot hr (da_cons (dv_var (pv 3)) (da_cons (dv_ix ix_g (dv_var (pv 2)) dv_int) da_nil))) (da_cons (dv_callD d_dot hr (da_cons (dv_var (pv 3)) (da_cons (dv_ix ix_g (dv_var (pv 2)) dv_int) da_nil))) da_nil))))))) da_nil)))))
abbrev s_determinant : Stmt := top 42
noncomputable def b_determinant : ES := (sRet (eCall m_dot (aCons (eBin gIx (eVar 0) (eC (.int 0))) (aCons (eCall m_cross (aCons (eBin gIx (eVar 0) (eC (.int 1))) (aCons (eBin gIx (eVar 0) (eC (.int 2))) aNil))) aNil))))
noncomputable def m_determinant : List PyData → Option PyData := runD 0 b_determinant
abbrev N_determinant : List Str := ["table"]
theorem ok_determinant (F : Fd K mg "determinant" s_determinant) (d_cross : Def P w K mg base "cross" 1 2 m_cross) (d_dot : Def P w K mg base "dot" 1 2 m_dot) : Def P w K mg base "determinant" 2 1 m_determinant := by
  have sc : FnScope N_determinant ["table"] (defScope s_determinant) := ⟨rfl, rfl, rfl, by decide +kernel, rfl, by decide +kernel, by decide +kernel⟩
  refine F.mk sc rfl rfl (fun _ _ _ _ _ _ us hl => match us, hl with | [_], _ => rfl) fun cdv A outer s H E hr => ?_
  exact (dss_one (ds_ret (dv_callD d_dot hr (da_cons (dv_ix ix_g (dv_var (pv 0)) dv_int) (da_cons (dv_callD d_cross hr (da_cons (dv_ix ix_g (dv_var (pv 0)) dv_int) (da_cons (dv_ix ix_g (dv_var (pv 0)) dv_int) da_nil))) da_nil)))))
abbrev s_columns : Stmt := top 43
noncomputable def b_columns : ES := (sRet (eCall m_transpose (aCons (eTup (aCons (eVar 0) (aCons (eVar 1) (aCons (eVar 2) aNil)))) aNil)))
noncomputable def m_columns : List PyData → Option PyData := runD 0 b_columns
abbrev N_columns : List Str := ["one", "two", "three"]
theorem ok_columns (F : Fd K mg "columns" s_columns) (d_transpose : Def P w K mg base "transpose" 1 1 m_transpose) : Def P w K mg base "columns" 2 3 m_columns := by
  have sc : FnScope N_columns ["one", "two", "three"] (defScope s_columns) := ⟨rfl, rfl, rfl, by decide +kernel, rfl, by decide +kernel, by decide +kernel⟩
  refine F.mk sc rfl rfl (fun _ _ _ _ _ _ us hl => match us, hl with | [_, _, _], _ => rfl) fun cdv A outer s H E hr => ?_
  exact (dss_one (ds_ret (dv_callD d_transpose hr (da_cons (dv_tup (da_cons (dv_var (pv 0)) (da_cons (dv_var (pv 1)) (da_cons (dv_var (pv 2)) da_nil)))) da_nil))))
abbrev s_adjugate : Stmt := top 44
noncomputable def b_adjugate : ES := (sRet (eCall m_columns (aCons (eCall m_cross (aCons (eBin gIx (eVar 0) (eC (.int 1))) (aCons (eBin gIx (eVar 0) (eC (.int 2))) aNil))) (aCons (eCall m_cross (aCons (eBin gIx (eVar 0) (eC (.int 2))) (aCons (eBin gIx (eVar 0) (eC (.int 0))) aNil))) (aCons (eCall m_cross (aCons (eBin gIx (eVar 0) (eC (.int 0))) (aCons (eBin gIx (eVar 0) (eC (.int 1))) aNil))) aNil)))))
noncomputable def m_adjugate : List PyData → Option PyData := runD 0 b_adjugate
abbrev N_adjugate : List Str := ["table"]
theorem ok_adjugate (F : Fd K mg "adjugate" s_adjugate) (d_cross : Def P w K mg base "cross" 1 2 m_cross) (d_columns : Def P w K mg base "columns" 2 3 m_columns) : Def P w K mg base "adjugate" 3 1 m_adjugate := by
  have sc : FnScope N_adjugate ["table"] (defScope s_adjugate) := ⟨rfl, rfl, rfl, by decide +kernel, rfl, by decide +kernel, by decide +kernel⟩
  refine F.mk sc rfl rfl (fun _ _ _ _ _ _ us hl => match us, hl with | [_], _ => rfl) fun cdv A outer s H E hr => ?_
  exact (dss_one (ds_ret (dv_callD d_columns hr (da_cons (dv_callD d_cross hr (da_cons (dv_ix ix_g (dv_var (pv 0)) dv_int) (da_cons (dv_ix ix_g (dv_var (pv 0)) dv_int) da_nil))) (da_cons (dv_callD d_cross hr (da_cons (dv_ix ix_g (dv_var (pv 0)) dv_int) (da_cons (dv_ix ix_g (dv_var (pv 0)) dv_int) da_nil))) (da_cons (dv_callD d_cross hr (da_cons (dv_ix ix_g (dv_var (pv 0)) dv_int) (da_cons (dv_ix ix_g (dv_var (pv 0)) dv_int) da_nil))) da_nil))))))
abbrev s_inverse : Stmt := top 45
noncomputable def b_inverse : ES := (sSeq (sSet 1 (eCall m_determinant (aCons (eVar 0) aNil))) (sSeq (sIf (bAnd (bVal (eBin gNe (eVar 1) (eC (.int 1)))) (bVal (eBin gNe (eVar 1) (eUn gNeg (eC (.int 1)))))) (sRaise "NoInverse" "determinant" (eVar 1)) sNx) (sRet (eAll mTuple (aCons (eOfF (fComp (iSeq (eCall m_adjugate (aCons (eVar 0) aNil))) (gNm 2) bYes (eCall m_times (aCons (eVar 1) (aCons (eVar 2) aNil))) [2])) aNil)))))
noncomputable def x_inverse : List PyData → Option XR := runX 2 b_inverse
noncomputable def m_inverse : List PyData → Option PyData := fun ds => (x_inverse ds).bind vOf
abbrev N_inverse : List Str := ["table", "sign", "line"]
theorem okx_inverse (F : Fd K mg "inverse" s_inverse) (d_determinant : Def P w K mg base "determinant" 2 1 m_determinant) (d_adjugate : Def P w K mg base "adjugate" 3 1 m_adjugate) (d_times : Def P w K mg base "times" 1 2 m_times) (z_tuple : mg "tuple" = none) (x_NoInverse : XCls P w K mg base "NoInverse" "determinant") : DefX P w K mg base "inverse" 4 1 x_inverse := by
  have sc : FnScope N_inverse ["table"] (defScope s_inverse) := ⟨rfl, rfl, rfl, by decide +kernel, rfl, by decide +kernel, by decide +kernel⟩
  refine F.mkX sc rfl rfl (fun _ _ _ _ _ _ us hl => match us, hl with | [_], _ => rfl) fun cdv A outer s H E hr => ?_
  exact (dss_cons (ds_set (i := 1) sc.nd rfl (by first | exact Or.inl rfl | exact Or.inr rfl) (dv_callD d_determinant hr (da_cons (dv_var (pv 0)) da_nil))) (dss_cons (ds_if (dt_w (dw_and (dt_cmp (o_ne hr.units) (dv_var (pv 1)) dv_int) (dw_and1 (dt_cmp (o_ne hr.units) (dv_var (pv 1)) (dv_un u_neg dv_int))))) (dss_one (ds_raise (k := 1) rfl x_NoInverse (hr.mono (by decide)) (dv_var (pv 1)) (by rfl))) dss_nil) (dss_one (ds_ret (dv_ty c_tuple (by rfl) z_tuple (by decide +kernel) (da_cons (dv_ofF (df_comp (own := [("line", 2)]) rfl sc.nd (di_seq (dv_callD d_adjugate hr (da_cons (dv_var (pv 0)) da_nil))) (blkOk_by (N := N_inverse) (sc := defScope s_inverse) (by decide +kernel)) (fun _ _ _ _ _ => (dg_name (pg_name (i := 2) sc.nd rfl (by first | exact Or.inl rfl | exact Or.inr rfl)))) (fun _ _ _ _ _ => dx_nil) (fun _ _ _ _ _ => (dv_callD d_times hr (da_cons (dv_var (pv 1)) (da_cons (dv_var (pv 2)) da_nil)))))) da_nil))))))
abbrev s_power : Stmt := top 46
noncomputable def b_power : ES := (sSeq (sSet 2 (eC c_IDLE)) (sSeq (sSet 3 (eCall m_product (aCons (eVar 0) (aCons (eC c_IDLE) aNil)))) (sSeq (sSet 4 (eVar 1)) (sSeq (sWhile (bVal (eBin gGt (eVar 4) (eC (.int 0)))) (sSeq (sIf (bVal (eBin gEq (eBin gMod (eVar 4) (eC (.int 2))) (eC (.int 1)))) (sSet 2 (eCall m_product (aCons (eVar 2) (aCons (eVar 3) aNil)))) sNx) (sSeq (sSet 3 (eCall m_product (aCons (eVar 3) (aCons (eVar 3) aNil)))) (sSet 4 (eBin gFdiv (eVar 4) (eC (.int 2))))))) (sRet (eVar 2))))))
noncomputable def m_power : List PyData → Option PyData := runD 3 b_power
abbrev N_power : List Str := ["table", "exponent", "result", "factor", "rest"]
theorem ok_power (F : Fd K mg "power" s_power) (d_product : Def P w K mg base "product" 2 2 m_product) (k_IDLE : Gk K mg "IDLE" c_IDLE) : Def P w K mg base "power" 3 2 m_power := by
  have sc : FnScope N_power ["table", "exponent"] (defScope s_power) := ⟨rfl, rfl, rfl, by decide +kernel, rfl, by decide +kernel, by decide +kernel⟩
  refine F.mk sc rfl rfl (fun _ _ _ _ _ _ us hl => match us, hl with | [_, _], _ => rfl) fun cdv A outer s H E hr => ?_
  exact (dss_cons (ds_set (i := 2) sc.nd rfl (by first | exact Or.inl rfl | exact Or.inr rfl) (dv_glob (by rfl) k_IDLE)) (dss_cons (ds_set (i := 3) sc.nd rfl (by first | exact Or.inl rfl | exact Or.inr rfl) (dv_callD d_product hr (da_cons (dv_var (pv 0)) (da_cons (dv_glob (by rfl) k_IDLE) da_nil)))) (dss_cons (ds_set (i := 4) sc.nd rfl (by first | exact Or.inl rfl | exact Or.inr rfl) (dv_var (pv 1))) (dss_cons (ds_while PassesOwn.never (dt_cmp o_gt (dv_var (pv 4)) dv_int) (dss_cons (ds_if (dt_cmp (o_eq hr.units) (dv_bin o_mod (dv_var (pv 4)) dv_int) dv_int) (dss_one (ds_set (i := 2) sc.nd rfl (by first | exact Or.inl rfl | exact Or.inr rfl) (dv_callD d_product hr (da_cons (dv_var (pv 2)) (da_cons (dv_var (pv 3)) da_nil))))) dss_nil) (dss_cons (ds_set (i := 3) sc.nd rfl (by first | exact Or.inl rfl | exact Or.inr rfl) (dv_callD d_product hr (da_cons (dv_var (pv 3)) (da_cons (dv_var (pv 3)) da_nil)))) (dss_one (ds_set (i := 4) sc.nd rfl (by first | exact Or.inl rfl | exact Or.inr rfl) (dv_bin o_fdiv (dv_var (pv 4)) dv_int)))))) (dss_one (ds_ret (dv_var (pv 2))))))))
abbrev s__law_whole : Stmt := top 48
noncomputable def b__law_whole : ES := (sRet (eAnd (eIs Ty.int (eVar 0)) (eUn gNot (eIs Ty.bool (eVar 0)))))
noncomputable def m__law_whole : List PyData → Option PyData := runD 0 b__law_whole
abbrev N__law_whole : List Str := ["told"]
theorem ok__law_whole (F : Fd K mg "_law_whole" s__law_whole) (z_isinstance : mg "isinstance" = none) (z_bool : mg "bool" = none) (z_int : mg "int" = none) : Def P w K mg base "_law_whole" 1 1 m__law_whole := by
  have sc : FnScope N__law_whole ["told"] (defScope s__law_whole) := ⟨rfl, rfl, rfl, by decide +kernel, rfl, by decide +kernel, by decide +kernel⟩
  refine F.mk sc rfl rfl (fun _ _ _ _ _ _ us hl => match us, hl with | [_], _ => rfl) fun cdv A outer s H E hr => ?_
  exact (dss_one (ds_ret (dv_and (dv_isi (T := Ty.int) (by rfl) z_isinstance rfl (by rfl) z_int (by decide +kernel) (dv_var (pv 0))) (dv_one (dv_not (dv_isi (T := Ty.bool) (by rfl) z_isinstance rfl (by rfl) z_bool (by decide +kernel) (dv_var (pv 0))))))))
abbrev s__law_is_row : Stmt := top 49
noncomputable def b__law_is_row : ES := (sSeq (sIf (bOr (bNot (bVal (eIs Ty.tuple (eVar 0)))) (bVal (eBin gNe (eAll mLen (aCons (eVar 0) aNil)) (eVar 1)))) (sRet (eC (.bool false))) sNx) (sSeq (sFor (iSeq (eVar 0)) (gNm 2) (sIf (bNot (bVal (eCall m__law_whole (aCons (eVar 2) aNil)))) (sRet (eC (.bool false))) sNx)) (sRet (eC (.bool true)))))
noncomputable def m__law_is_row : List PyData → Option PyData := runD 1 b__law_is_row
abbrev N__law_is_row : List Str := ["told", "many", "number"]
theorem ok__law_is_row (F : Fd K mg "_law_is_row" s__law_is_row) (d__law_whole : Def P w K mg base "_law_whole" 1 1 m__law_whole) (z_len : mg "len" = none) (z_isinstance : mg "isinstance" = none) (z_tuple : mg "tuple" = none) : Def P w K mg base "_law_is_row" 2 2 m__law_is_row := by
  have sc : FnScope N__law_is_row ["told", "many"] (defScope s__law_is_row) := ⟨rfl, rfl, rfl, by decide +kernel, rfl, by decide +kernel, by decide +kernel⟩
  refine F.mk sc rfl rfl (fun _ _ _ _ _ _ us hl => match us, hl with | [_, _], _ => rfl) fun cdv A outer s H E hr => ?_
  exact (dss_cons (ds_if (dt_w (dw_or (dt_not (dt_val (dv_isi (T := Ty.tuple) (by rfl) z_isinstance rfl (by rfl) z_tuple (by decide +kernel) (dv_var (pv 0))))) (dw_or1 (dt_cmp (o_ne hr.units) (dv_blt c_len (by rfl) z_len (by decide +kernel) (da_cons (dv_var (pv 0)) da_nil)) (dv_var (pv 1)))))) (dss_one (ds_ret dv_bl)) dss_nil) (dss_cons (ds_for PassesOwn.never rfl (di_seq (dv_var (pv 0))) (dg_name (pg_name (i := 2) sc.nd rfl (by first | exact Or.inl rfl | exact Or.inr rfl))) (dss_one (ds_if (dt_not (dt_val (dv_callD d__law_whole hr (da_cons (dv_var (pv 2)) da_nil)))) (dss_one (ds_ret dv_bl)) dss_nil))) (dss_one (ds_ret dv_bl))))
abbrev s__law_is_table : Stmt := top 50
noncomputable def b__law_is_table : ES := (sSeq (sIf (bOr (bNot (bVal (eIs Ty.tuple (eVar 0)))) (bVal (eBin gNe (eAll mLen (aCons (eVar 0) aNil)) (eC (.int 3))))) (sRet (eC (.bool false))) sNx) (sSeq (sFor (iSeq (eVar 0)) (gNm 1) (sIf (bNot (bVal (eCall m__law_is_row (aCons (eVar 1) (aCons (eC (.int 3)) aNil))))) (sRet (eC (.bool false))) sNx)) (sRet (eC (.bool true)))))
noncomputable def m__law_is_table : List PyData → Option PyData := runD 1 b__law_is_table
abbrev N__law_is_table : List Str := ["told", "line"]
theorem ok__law_is_table (F : Fd K mg "_law_is_table" s__law_is_table) (d__law_is_row : Def P w K mg base "_law_is_row" 2 2 m__law_is_row) (z_len : mg "len" = none) (z_isinstance : mg "isinstance" = none) (z_tuple : mg "tuple" = none) : Def P w K mg base "_law_is_table" 3 1 m__law_is_table := by
  have sc : FnScope N__law_is_table ["told"] (defScope s__law_is_table) := ⟨rfl, rfl, rfl, by decide +kernel, rfl, by decide +kernel, by decide +kernel⟩
  refine F.mk sc rfl rfl (fun _ _ _ _ _ _ us hl => match us, hl with | [_], _ => rfl) fun cdv A outer s H E hr => ?_
  exact (dss_cons (ds_if (dt_w (dw_or (dt_not (dt_val (dv_isi (T := Ty.tuple) (by rfl) z_isinstance rfl (by rfl) z_tuple (by decide +kernel) (dv_var (pv 0))))) (dw_or1 (dt_cmp (o_ne hr.units) (dv_blt c_len (by rfl) z_len (by decide +kernel) (da_cons (dv_var (pv 0)) da_nil)) dv_int)))) (dss_one (ds_ret dv_bl)) dss_nil) (dss_cons (ds_for PassesOwn.never rfl (di_seq (dv_var (pv 0))) (dg_name (pg_name (i := 1) sc.nd rfl (by first | exact Or.inl rfl | exact Or.inr rfl))) (dss_one (ds_if (dt_not (dt_val (dv_callD d__law_is_row hr (da_cons (dv_var (pv 1)) (da_cons dv_int da_nil))))) (dss_one (ds_ret dv_bl)) dss_nil))) (dss_one (ds_ret dv_bl))))
abbrev s__law_cell : Stmt := top 51
noncomputable def b__law_cell : ES := (sSeq (sIf (bVal (eBin gLt (eVar 1) (eAll mLen (aCons (eVar 0) aNil)))) (sRet (eBin gIx (eVar 0) (eVar 1))) sNx) (sSeq (sSet 2 (eC (.int 17))) (sSeq (sFor (iSeq (eVar 0)) (gNm 3) (sSet 2 (eBin gMod (eAll mInt (aCons (eBin gAdd (eBin gMul (eVar 2) (eC (.int 31))) (eBin gMod (eAll mInt (aCons (eVar 3) aNil)) (eC (.int 1000003)))) aNil)) (eC (.int 1000003))))) (sRet (eBin gMod (eAll mInt (aCons (eBin gMul (eBin gMul (eBin gAdd (eVar 2) (eC (.int 7))) (eBin gAdd (eVar 1) (eC (.int 3)))) (eC (.int 69621))) aNil)) (eC (.int 2147483647)))))))
noncomputable def m__law_cell : List PyData → Option PyData := runD 2 b__law_cell
abbrev N__law_cell : List Str := ["script", "k", "seed", "cell"]
theorem ok__law_cell (F : Fd K mg "_law_cell" s__law_cell) (z_len : mg "len" = none) (z_int : mg "int" = none) : Def P w K mg base "_law_cell" 1 2 m__law_cell := by
  have sc : FnScope N__law_cell ["script", "k"] (defScope s__law_cell) := ⟨rfl, rfl, rfl, by decide +kernel, rfl, by decide +kernel, by decide +kernel⟩
  refine F.mk sc rfl rfl (fun _ _ _ _ _ _ us hl => match us, hl with | [_, _], _ => rfl) fun cdv A outer s H E hr => ?_
  exact (dss_cons (ds_if (dt_cmp o_lt (dv_var (pv 1)) (dv_blt c_len (by rfl) z_len (by decide +kernel) (da_cons (dv_var (pv 0)) da_nil))) (dss_one (ds_ret (dv_ix ix_g (dv_var (pv 0)) (dv_var (pv 1))))) dss_nil) (dss_cons (ds_set (i := 2) sc.nd rfl (by first | exact Or.inl rfl | exact Or.inr rfl) dv_int) (dss_cons (ds_for PassesOwn.never rfl (di_seq (dv_var (pv 0))) (dg_name (pg_name (i := 3) sc.nd rfl (by first | exact Or.inl rfl | exact Or.inr rfl))) (dss_one (ds_set (i := 2) sc.nd rfl (by first | exact Or.inl rfl | exact Or.inr rfl) (dv_bin o_mod (dv_ty c_int (by rfl) z_int (by decide +kernel) (da_cons (dv_bin o_add (dv_bin o_mul (dv_var (pv 2)) dv_int) (dv_bin o_mod (dv_ty c_int (by rfl) z_int (by decide +kernel) (da_cons (dv_var (pv 3)) da_nil)) dv_int)) da_nil)) dv_int)))) (dss_one (ds_ret (dv_bin o_mod (dv_ty c_int (by rfl) z_int (by decide +kernel) (da_cons (dv_bin o_mul (dv_bin o_mul (dv_bin o_add (dv_var (pv 2)) dv_int) (dv_bin o_add (dv_var (pv 1)) dv_int)) dv_int) da_nil)) dv_int))))))
abbrev s__law_digits : Stmt := top 52
noncomputable def b__law_digits : ES := (sSeq (sOwn 2 aNil) (sSeq (sSet 3 (eAll mInt (aCons (eVar 0) aNil))) (sSeq (sIf (bVal (eBin gGe (eVar 3) (eBin gPow (eC (.int 10)) (eC (.int 18))))) (sSeq (sSet 3 (eBin gSub (eVar 3) (eBin gPow (eC (.int 10)) (eC (.int 18))))) (sSeq (sFor (iSeq (eVar 1)) (gNm 4) (sSeq (sApp 2 (eBin gMod (eAll mInt (aCons (eVar 3) aNil)) (eVar 4))) (sSet 3 (eBin gFdiv (eAll mInt (aCons (eVar 3) aNil)) (eVar 4))))) (sFrz [2] (sRet (eVar 2))))) sNx) (sSeq (sSet 5 (eBin gMod (eAll mInt (aCons (eVar 3) aNil)) (eC (.int 2147483629)))) (sSeq (sFor (iRg1 (eAll mLen (aCons (eVar 1) aNil))) (gNm 6) (sSeq (sSet 5 (eBin gMod (eAll mInt (aCons (eBin gAdd (eBin gAdd (eBin gMul (eVar 5) (eC (.int 48271))) (eBin gMul (eC (.int 974711)) (eVar 6))) (eC (.int 12345))) aNil)) (eC (.int 2147483647)))) (sSeq (sSet 7 (eBin gMod (eAll mInt (aCons (eBin gMul (eVar 5) (eBin gAdd (eBin gFdiv (eVar 5) (eC (.int 65537))) (eC (.int 3)))) aNil)) (eC (.int 2147483629)))) (sApp 2 (eBin gMod (eBin gFdiv (eVar 7) (eC (.int 19))) (eBin gIx (eVar 1) (eVar 6))))))) (sFrz [2] (sRet (eVar 2))))))))
noncomputable def m__law_digits : List PyData → Option PyData := runD 6 b__law_digits
abbrev N__law_digits : List Str := ["cell", "limits", "row", "rest", "limit", "seed", "k", "twice"]
theorem ok__law_digits (F : Fd K mg "_law_digits" s__law_digits) (z_int : mg "int" = none) (z_range : mg "range" = none) (z_len : mg "len" = none) : Def P w K mg base "_law_digits" 1 2 m__law_digits := by
  have sc : FnScope N__law_digits ["cell", "limits"] (defScope s__law_digits) := ⟨rfl, rfl, rfl, by decide +kernel, rfl, by decide +kernel, by decide +kernel⟩
  refine F.mk sc rfl rfl (fun _ _ _ _ _ _ us hl => match us, hl with | [_, _], _ => rfl) fun cdv A outer s H E hr => ?_
  exact (dss_cons (ds_own (i := 2) sc.nd rfl (by first | exact Or.inl rfl | exact Or.inr rfl) (df_lst da_nil)) (dss_cons (ds_set (i := 3) sc.nd rfl (by first | exact Or.inl rfl | exact Or.inr rfl) (dv_ty c_int (by rfl) z_int (by decide +kernel) (da_cons (dv_var (pv 0)) da_nil))) (dss_cons (ds_if (dt_cmp o_ge (dv_var (pv 3)) (dv_bin o_pow dv_int dv_int)) (dss_cons (ds_set (i := 3) sc.nd rfl (by first | exact Or.inl rfl | exact Or.inr rfl) (dv_bin o_sub (dv_var (pv 3)) (dv_bin o_pow dv_int dv_int))) (dss_cons (ds_for PassesOwn.never rfl (di_seq (dv_var (pv 1))) (dg_name (pg_name (i := 4) sc.nd rfl (by first | exact Or.inl rfl | exact Or.inr rfl))) (dss_cons (ds_app (i := 2) (pv 2) (dv_bin o_mod (dv_ty c_int (by rfl) z_int (by decide +kernel) (da_cons (dv_var (pv 3)) da_nil)) (dv_var (pv 4)))) (dss_one (ds_set (i := 3) sc.nd rfl (by first | exact Or.inl rfl | exact Or.inr rfl) (dv_bin o_fdiv (dv_ty c_int (by rfl) z_int (by decide +kernel) (da_cons (dv_var (pv 3)) da_nil)) (dv_var (pv 4))))))) (dss_one (ds_frz (S := [2]) (ds_ret (dv_var (pv 2))))))) dss_nil) (dss_cons (ds_set (i := 5) sc.nd rfl (by first | exact Or.inl rfl | exact Or.inr rfl) (dv_bin o_mod (dv_ty c_int (by rfl) z_int (by decide +kernel) (da_cons (dv_var (pv 3)) da_nil)) dv_int)) (dss_cons (ds_for PassesOwn.never rfl (di_rg1 (by rfl) z_range (dv_blt c_len (by rfl) z_len (by decide +kernel) (da_cons (dv_var (pv 1)) da_nil))) (dg_name (pg_name (i := 6) sc.nd rfl (by first | exact Or.inl rfl | exact Or.inr rfl))) (dss_cons (ds_set (i := 5) sc.nd rfl (by first | exact Or.inl rfl | exact Or.inr rfl) (dv_bin o_mod (dv_ty c_int (by rfl) z_int (by decide +kernel) (da_cons (dv_bin o_add (dv_bin o_add (dv_bin o_mul (dv_var (pv 5)) dv_int) (dv_bin o_mul dv_int (dv_var (pv 6)))) dv_int) da_nil)) dv_int)) (dss_cons (ds_set (i := 7) sc.nd rfl (by first | exact Or.inl rfl | exact Or.inr rfl) (dv_bin o_mod (dv_ty c_int (by rfl) z_int (by decide +kernel) (da_cons (dv_bin o_mul (dv_var (pv 5)) (dv_bin o_add (dv_bin o_fdiv (dv_var (pv 5)) dv_int) dv_int)) da_nil)) dv_int)) (dss_one (ds_app (i := 2) (pv 2) (dv_bin o_mod (dv_bin o_fdiv (dv_var (pv 7)) dv_int) (dv_ix ix_g (dv_var (pv 1)) (dv_var (pv 6))))))))) (dss_one (ds_frz (S := [2]) (ds_ret (dv_var (pv 2))))))))))
abbrev s__law_number : Stmt := top 53
noncomputable def b__law_number : ES := (sSeq (sSet 1 (eCall m__law_digits (aCons (eVar 0) (aCons (eOfF (aCons (eC (.int 8)) (aCons (eC (.int 2)) (aCons (eC (.int 100000)) (aCons (eC (.int 100000)) (aCons (eC (.int 100000)) (aCons (eC (.int 100000)) (aCons (eC (.int 100000)) (aCons (eC (.int 100000)) aNil))))))))) aNil)))) (sSeq (sSet 2 (eBin gMod (eAll mInt (aCons (eBin gIx (eVar 1) (eC (.int 2))) aNil)) (eBin gIx (eOfF (aCons (eC (.int 1)) (aCons (eC (.int 4)) (aCons (eC (.int 4)) (aCons (eC (.int 31)) (aCons (eC (.int 31)) (aCons (eC (.int 100000)) (aCons (eC (.int 100000)) (aCons (eC (.int 100000)) aNil))))))))) (eBin gIx (eVar 1) (eC (.int 0)))))) (sSeq (sIf (bVal (eBin gEq (eBin gIx (eVar 1) (eC (.int 0))) (eC (.int 6)))) (sSet 2 (eBin gAdd (eBin gMul (eBin gIx (eVar 1) (eC (.int 2))) (eC (.int 100000))) (eBin gIx (eVar 1) (eC (.int 3))))) sNx) (sSeq (sIf (bVal (eBin gEq (eBin gIx (eVar 1) (eC (.int 0))) (eC (.int 7)))) (sFor (iSeq (eSl (eVar 1) (oSome (eC (.int 3))) oNone)) (gNm 3) (sSet 2 (eBin gAdd (eBin gMul (eVar 2) (eC (.int 100000))) (eVar 3)))) sNx) (sRet (eBin gMul (eVar 2) (eBin gSub (eC (.int 1)) (eBin gMul (eC (.int 2)) (eBin gIx (eVar 1) (eC (.int 1)))))))))))
noncomputable def m__law_number : List PyData → Option PyData := runD 3 b__law_number
abbrev N__law_number : List Str := ["cell", "row", "number", "digit"]
theorem ok__law_number (F : Fd K mg "_law_number" s__law_number) (d__law_digits : Def P w K mg base "_law_digits" 1 2 m__law_digits) (z_int : mg "int" = none) : Def P w K mg base "_law_number" 2 1 m__law_number := by
  have sc : FnScope N__law_number ["cell"] (defScope s__law_number) := ⟨rfl, rfl, rfl, by decide +kernel, rfl, by decide +kernel, by decide +kernel⟩
  refine F.mk sc rfl rfl (fun _ _ _ _ _ _ us hl => match us, hl with | [_], _ => rfl) fun cdv A outer s H E hr => ?_
  exact (dss_cons (ds_set (i := 1) sc.nd rfl (by first | exact Or.inl rfl | exact Or.inr rfl) (dv_callD d__law_digits hr (da_cons (dv_var (pv 0)) (da_cons (dv_ofF (df_lst (da_cons dv_int (da_cons dv_int (da_cons dv_int (da_cons dv_int (da_cons dv_int (da_cons dv_int (da_cons dv_int (da_cons dv_int da_nil)))))))))) da_nil)))) (dss_cons (ds_set (i := 2) sc.nd rfl (by first | exact Or.inl rfl | exact Or.inr rfl) (dv_bin o_mod (dv_ty c_int (by rfl) z_int (by decide +kernel) (da_cons (dv_ix ix_g (dv_var (pv 1)) dv_int) da_nil)) (dv_ix ix_g (dv_ofF (df_lst (da_cons dv_int (da_cons dv_int (da_cons dv_int (da_cons dv_int (da_cons dv_int (da_cons dv_int (da_cons dv_int (da_cons dv_int da_nil)))))))))) (dv_ix ix_g (dv_var (pv 1)) dv_int)))) (dss_cons (ds_if (dt_cmp (o_eq hr.units) (dv_ix ix_g (dv_var (pv 1)) dv_int) dv_int) (dss_one (ds_set (i := 2) sc.nd rfl (by first | exact Or.inl rfl | exact Or.inr rfl) (dv_bin o_add (dv_bin o_mul (dv_ix ix_g (dv_var (pv 1)) dv_int) dv_int) (dv_ix ix_g (dv_var (pv 1)) dv_int)))) dss_nil) (dss_cons (ds_if (dt_cmp (o_eq hr.units) (dv_ix ix_g (dv_var (pv 1)) dv_int) dv_int) (dss_one (ds_for PassesOwn.never rfl (di_seq (dv_sl (dv_var (pv 1)) (do_some dv_int) do_none)) (dg_name (pg_name (i := 3) sc.nd rfl (by first | exact Or.inl rfl | exact Or.inr rfl))) (dss_one (ds_set (i := 2) sc.nd rfl (by first | exact Or.inl rfl | exact Or.inr rfl) (dv_bin o_add (dv_bin o_mul (dv_var (pv 2)) dv_int) (dv_var (pv 3))))))) dss_nil) (dss_one (ds_ret (dv_bin o_mul (dv_var (pv 2)) (dv_bin o_sub dv_int (dv_bin o_mul dv_int (dv_ix ix_g (dv_var (pv 1)) dv_int))))))))))
abbrev s__law_dot : Stmt := top 54
noncomputable def b__law_dot : ES := (sRet (eBin gAdd (eBin gAdd (eBin gMul (eBin gIx (eVar 0) (eC (.int 0))) (eBin gIx (eVar 1) (eC (.int 0)))) (eBin gMul (eBin gIx (eVar 0) (eC (.int 1))) (eBin gIx (eVar 1) (eC (.int 1))))) (eBin gMul (eBin gIx (eVar 0) (eC (.int 2))) (eBin gIx (eVar 1) (eC (.int 2))))))
noncomputable def m__law_dot : List PyData → Option PyData := runD 0 b__law_dot
abbrev N__law_dot : List Str := ["one", "two"]
theorem ok__law_dot (F : Fd K mg "_law_dot" s__law_dot) : Def P w K mg base "_law_dot" 1 2 m__law_dot := by
  have sc : FnScope N__law_dot ["one", "two"] (defScope s__law_dot) := ⟨rfl, rfl, rfl, by decide +kernel, rfl, by decide +kernel, by decide +kernel⟩
  refine F.mk sc rfl rfl (fun _ _ _ _ _ _ us hl => match us, hl with | [_, _], _ => rfl) fun cdv A outer s H E hr => ?_
  exact (dss_one (ds_ret (dv_bin o_add (dv_bin o_add (dv_bin o_mul (dv_ix ix_g (dv_var (pv 0)) dv_int) (dv_ix ix_g (dv_var (pv 1)) dv_int)) (dv_bin o_mul (dv_ix ix_g (dv_var (pv 0)) dv_int) (dv_ix ix_g (dv_var (pv 1)) dv_int))) (dv_bin o_mul (dv_ix ix_g (dv_var (pv 0)) dv_int) (dv_ix ix_g (dv_var (pv 1)) dv_int)))))
abbrev s__law_cross : Stmt := top 55
noncomputable def b__law_cross : ES := (sRet (eTup (aCons (eBin gSub (eBin gMul (eBin gIx (eVar 0) (eC (.int 1))) (eBin gIx (eVar 1) (eC (.int 2)))) (eBin gMul (eBin gIx (eVar 0) (eC (.int 2))) (eBin gIx (eVar 1) (eC (.int 1))))) (aCons (eBin gSub (eBin gMul (eBin gIx (eVar 0) (eC (.int 2))) (eBin gIx (eVar 1) (eC (.int 0)))) (eBin gMul (eBin gIx (eVar 0) (eC (.int 0))) (eBin gIx (eVar 1) (eC (.int 2))))) (aCons (eBin gSub (eBin gMul (eBin gIx (eVar 0) (eC (.int 0))) (eBin gIx (eVar 1) (eC (.int 1)))) (eBin gMul (eBin gIx (eVar 0) (eC (.int 1))) (eBin gIx (eVar 1) (eC (.int 0))))) aNil)))))
noncomputable def m__law_cross : List PyData → Option PyData := runD 0 b__law_cross
abbrev N__law_cross : List Str := ["one", "two"]
theorem ok__law_cross (F : Fd K mg "_law_cross" s__law_cross) : Def P w K mg base "_law_cross" 1 2 m__law_cross := by
  have sc : FnScope N__law_cross ["one", "two"] (defScope s__law_cross) := ⟨rfl, rfl, rfl, by decide +kernel, rfl, by decide +kernel, by decide +kernel⟩
  refine F.mk sc rfl rfl (fun _ _ _ _ _ _ us hl => match us, hl with | [_, _], _ => rfl) fun cdv A outer s H E hr => ?_
  exact (dss_one (ds_ret (dv_tup (da_cons (dv_bin o_sub (dv_bin o_mul (dv_ix ix_g (dv_var (pv 0)) dv_int) (dv_ix ix_g (dv_var (pv 1)) dv_int)) (dv_bin o_mul (dv_ix ix_g (dv_var (pv 0)) dv_int) (dv_ix ix_g (dv_var (pv 1)) dv_int))) (da_cons (dv_bin o_sub (dv_bin o_mul (dv_ix ix_g (dv_var (pv 0)) dv_int) (dv_ix ix_g (dv_var (pv 1)) dv_int)) (dv_bin o_mul (dv_ix ix_g (dv_var (pv 0)) dv_int) (dv_ix ix_g (dv_var (pv 1)) dv_int))) (da_cons (dv_bin o_sub (dv_bin o_mul (dv_ix ix_g (dv_var (pv 0)) dv_int) (dv_ix ix_g (dv_var (pv 1)) dv_int)) (dv_bin o_mul (dv_ix ix_g (dv_var (pv 0)) dv_int) (dv_ix ix_g (dv_var (pv 1)) dv_int))) da_nil))))))
abbrev s__law_times : Stmt := top 56
noncomputable def b__law_times : ES := (sRet (eTup (aCons (eBin gMul (eVar 0) (eBin gIx (eVar 1) (eC (.int 0)))) (aCons (eBin gMul (eVar 0) (eBin gIx (eVar 1) (eC (.int 1)))) (aCons (eBin gMul (eVar 0) (eBin gIx (eVar 1) (eC (.int 2)))) aNil)))))
noncomputable def m__law_times : List PyData → Option PyData := runD 0 b__law_times
abbrev N__law_times : List Str := ["number", "row"]
theorem ok__law_times (F : Fd K mg "_law_times" s__law_times) : Def P w K mg base "_law_times" 1 2 m__law_times := by
  have sc : FnScope N__law_times ["number", "row"] (defScope s__law_times) := ⟨rfl, rfl, rfl, by decide +kernel, rfl, by decide +kernel, by decide +kernel⟩
  refine F.mk sc rfl rfl (fun _ _ _ _ _ _ us hl => match us, hl with | [_, _], _ => rfl) fun cdv A outer s H E hr => ?_
  exact (dss_one (ds_ret (dv_tup (da_cons (dv_bin o_mul (dv_var (pv 0)) (dv_ix ix_g (dv_var (pv 1)) dv_int)) (da_cons (dv_bin o_mul (dv_var (pv 0)) (dv_ix ix_g (dv_var (pv 1)) dv_int)) (da_cons (dv_bin o_mul (dv_var (pv 0)) (dv_ix ix_g (dv_var (pv 1)) dv_int)) da_nil))))))
abbrev s__law_turned : Stmt := top 57
noncomputable def b__law_turned : ES := (sRet (eAll mTuple (aCons (eOfF (fComp (iRg1 (eC (.int 3))) (gNm 1) bYes (eTup (aCons (eBin gIx (eBin gIx (eVar 0) (eC (.int 0))) (eVar 1)) (aCons (eBin gIx (eBin gIx (eVar 0) (eC (.int 1))) (eVar 1)) (aCons (eBin gIx (eBin gIx (eVar 0) (eC (.int 2))) (eVar 1)) aNil)))) [1])) aNil)))
noncomputable def m__law_turned : List PyData → Option PyData := runD 1 b__law_turned
abbrev N__law_turned : List Str := ["table", "k"]
theorem ok__law_turned (F : Fd K mg "_law_turned" s__law_turned) (z_range : mg "range" = none) (z_tuple : mg "tuple" = none) : Def P w K mg base "_law_turned" 1 1 m__law_turned := by
  have sc : FnScope N__law_turned ["table"] (defScope s__law_turned) := ⟨rfl, rfl, rfl, by decide +kernel, rfl, by decide +kernel, by decide +kernel⟩
  refine F.mk sc rfl rfl (fun _ _ _ _ _ _ us hl => match us, hl with | [_], _ => rfl) fun cdv A outer s H E hr => ?_
  exact (dss_one (ds_ret (dv_ty c_tuple (by rfl) z_tuple (by decide +kernel) (da_cons (dv_ofF (df_comp (own := [("k", 1)]) rfl sc.nd (di_rg1 (by rfl) z_range dv_int) (blkOk_by (N := N__law_turned) (sc := defScope s__law_turned) (by decide +kernel)) (fun _ _ _ _ _ => (dg_name (pg_name (i := 1) sc.nd rfl (by first | exact Or.inl rfl | exact Or.inr rfl)))) (fun _ _ _ _ _ => dx_nil) (fun _ _ _ _ _ => (dv_tup (da_cons (dv_ix ix_g (dv_ix ix_g (dv_var (pv 0)) dv_int) (dv_var (pv 1))) (da_cons (dv_ix ix_g (dv_ix ix_g (dv_var (pv 0)) dv_int) (dv_var (pv 1))) (da_cons (dv_ix ix_g (dv_ix ix_g (dv_var (pv 0)) dv_int) (dv_var (pv 1))) da_nil))))))) da_nil))))
abbrev s__law_product : Stmt := top 58
noncomputable def b__law_product : ES := (sSeq (sSet 2 (eCall m__law_turned (aCons (eVar 1) aNil))) (sRet (eAll mTuple (aCons (eOfF (fComp (iSeq (eVar 0)) (gNm 3) bYes (eTup (aCons (eCall m__law_dot (aCons (eVar 3) (aCons (eBin gIx (eVar 2) (eC (.int 0))) aNil))) (aCons (eCall m__law_dot (aCons (eVar 3) (aCons (eBin gIx (eVar 2) (eC (.int 1))) aNil))) (aCons (eCall m__law_dot (aCons (eVar 3) (aCons (eBin gIx (eVar 2) (eC (.int 2))) aNil))) aNil)))) [3])) aNil))))
noncomputable def m__law_product : List PyData → Option PyData := runD 2 b__law_product
abbrev N__law_product : List Str := ["one", "two", "sides", "line"]
theorem ok__law_product (F : Fd K mg "_law_product" s__law_product) (d__law_turned : Def P w K mg base "_law_turned" 1 1 m__law_turned) (d__law_dot : Def P w K mg base "_law_dot" 1 2 m__law_dot) (z_tuple : mg "tuple" = none) : Def P w K mg base "_law_product" 2 2 m__law_product := by
  have sc : FnScope N__law_product ["one", "two"] (defScope s__law_product) := ⟨rfl, rfl, rfl, by decide +kernel, rfl, by decide +kernel, by decide +kernel⟩
  refine F.mk sc rfl rfl (fun _ _ _ _ _ _ us hl => match us, hl with | [_, _], _ => rfl) fun cdv A outer s H E hr => ?_
  exact (dss_cons (ds_set (i := 2) sc.nd rfl (by first | exact Or.inl rfl | exact Or.inr rfl) (dv_callD d__law_turned hr (da_cons (dv_var (pv 1)) da_nil))) (dss_one (ds_ret (dv_ty c_tuple (by rfl) z_tuple (by decide +kernel) (da_cons (dv_ofF (df_comp (own := [("line", 3)]) rfl sc.nd (di_seq (dv_var (pv 0))) (blkOk_by (N := N__law_product) (sc := defScope s__law_product) (by decide +kernel)) (fun _ _ _ _ _ => (dg_name (pg_name (i := 3) sc.nd rfl (by first | exact Or.inl rfl | exact Or.inr rfl)))) (fun _ _ _ _ _ => dx_nil) (fun _ _ _ _ _ => (dv_tup (da_cons (dv_callD d__law_dot hr (da_cons (dv_var (pv 3)) (da_cons (dv_ix ix_g (dv_var (pv 2)) dv_int) da_nil))) (da_cons (dv_callD d__law_dot hr (da_cons (dv_var (pv 3)) (da_cons (dv_ix ix_g (dv_var (pv 2)) dv_int) da_nil))) (da_cons (dv_callD d__law_dot hr (da_cons (dv_var (pv 3)) (da_cons (dv_ix ix_g (dv_var (pv 2)) dv_int) da_nil))) da_nil))))))) da_nil)))))
abbrev s__law_determinant : Stmt := top 59
noncomputable def b__law_determinant : ES := (sRet (eCall m__law_dot (aCons (eBin gIx (eVar 0) (eC (.int 0))) (aCons (eCall m__law_cross (aCons (eBin gIx (eVar 0) (eC (.int 1))) (aCons (eBin gIx (eVar 0) (eC (.int 2))) aNil))) aNil))))
noncomputable def m__law_determinant : List PyData → Option PyData := runD 0 b__law_determinant
abbrev N__law_determinant : List Str := ["table"]
theorem ok__law_determinant (F : Fd K mg "_law_determinant" s__law_determinant) (d__law_cross : Def P w K mg base "_law_cross" 1 2 m__law_cross) (d__law_dot : Def P w K mg base "_law_dot" 1 2 m__law_dot) : Def P w K mg base "_law_determinant" 2 1 m__law_determinant := by
  have sc : FnScope N__law_determinant ["table"] (defScope s__law_determinant) := ⟨rfl, rfl, rfl, by decide +kernel, rfl, by decide +kernel, by decide +kernel⟩
  refine F.mk sc rfl rfl (fun _ _ _ _ _ _ us hl => match us, hl with | [_], _ => rfl) fun cdv A outer s H E hr => ?_
  exact (dss_one (ds_ret (dv_callD d__law_dot hr (da_cons (dv_ix ix_g (dv_var (pv 0)) dv_int) (da_cons (dv_callD d__law_cross hr (da_cons (dv_ix ix_g (dv_var (pv 0)) dv_int) (da_cons (dv_ix ix_g (dv_var (pv 0)) dv_int) da_nil))) da_nil)))))
abbrev s__law_same_number : Stmt := top 60
noncomputable def b__law_same_number : ES := (sRet (eAnd (eCall m__law_whole (aCons (eVar 0) aNil)) (eBin gEq (eVar 0) (eVar 1))))
noncomputable def m__law_same_number : List PyData → Option PyData := runD 0 b__law_same_number
abbrev N__law_same_number : List Str := ["told", "due"]
theorem ok__law_same_number (F : Fd K mg "_law_same_number" s__law_same_number) (d__law_whole : Def P w K mg base "_law_whole" 1 1 m__law_whole) : Def P w K mg base "_law_same_number" 2 2 m__law_same_number := by
  have sc : FnScope N__law_same_number ["told", "due"] (defScope s__law_same_number) := ⟨rfl, rfl, rfl, by decide +kernel, rfl, by decide +kernel, by decide +kernel⟩
  refine F.mk sc rfl rfl (fun _ _ _ _ _ _ us hl => match us, hl with | [_, _], _ => rfl) fun cdv A outer s H E hr => ?_
  exact (dss_one (ds_ret (dv_and (dv_callD d__law_whole hr (da_cons (dv_var (pv 0)) da_nil)) (dv_one (dv_cmp (o_eq hr.units) (dv_var (pv 0)) (dv_var (pv 1)))))))
abbrev s__law_same_table : Stmt := top 61
noncomputable def b__law_same_table : ES := (sRet (eAnd (eCall m__law_is_table (aCons (eVar 0) aNil)) (eBin gEq (eVar 0) (eVar 1))))
noncomputable def m__law_same_table : List PyData → Option PyData := runD 0 b__law_same_table
abbrev N__law_same_table : List Str := ["told", "due"]
theorem ok__law_same_table (F : Fd K mg "_law_same_table" s__law_same_table) (d__law_is_table : Def P w K mg base "_law_is_table" 3 1 m__law_is_table) : Def P w K mg base "_law_same_table" 4 2 m__law_same_table := by
  have sc : FnScope N__law_same_table ["told", "due"] (defScope s__law_same_table) := ⟨rfl, rfl, rfl, by decide +kernel, rfl, by decide +kernel, by decide +kernel⟩
  refine F.mk sc rfl rfl (fun _ _ _ _ _ _ us hl => match us, hl with | [_, _], _ => rfl) fun cdv A outer s H E hr => ?_
  exact (dss_one (ds_ret (dv_and (dv_callD d__law_is_table hr (da_cons (dv_var (pv 0)) da_nil)) (dv_one (dv_cmp (o_eq hr.units) (dv_var (pv 0)) (dv_var (pv 1)))))))
abbrev s__law_handed : Stmt := top 62
noncomputable def b__law_handed : ES := (sSeq (sIf (bVal (eBin gEq (eVar 1) (eC (.int 0)))) (sRet (eAll mTuple (aCons (eVar 0) aNil))) sNx) (sRet (eOfF (fComp (iSeq (eVar 0)) (gNm 2) bYes (eVar 2) [2]))))
noncomputable def m__law_handed : List PyData → Option PyData := runD 1 b__law_handed
abbrev N__law_handed : List Str := ["row", "wish", "number"]
theorem ok__law_handed (F : Fd K mg "_law_handed" s__law_handed) (z_tuple : mg "tuple" = none) : Def P w K mg base "_law_handed" 1 2 m__law_handed := by
  have sc : FnScope N__law_handed ["row", "wish"] (defScope s__law_handed) := ⟨rfl, rfl, rfl, by decide +kernel, rfl, by decide +kernel, by decide +kernel⟩
  refine F.mk sc rfl rfl (fun _ _ _ _ _ _ us hl => match us, hl with | [_, _], _ => rfl) fun cdv A outer s H E hr => ?_
  exact (dss_cons (ds_if (dt_cmp (o_eq hr.units) (dv_var (pv 1)) dv_int) (dss_one (ds_ret (dv_ty c_tuple (by rfl) z_tuple (by decide +kernel) (da_cons (dv_var (pv 0)) da_nil)))) dss_nil) (dss_one (ds_ret (dv_ofF (df_comp (own := [("number", 2)]) rfl sc.nd (di_seq (dv_var (pv 0))) (blkOk_by (N := N__law_handed) (sc := defScope s__law_handed) (by decide +kernel)) (fun _ _ _ _ _ => (dg_name (pg_name (i := 2) sc.nd rfl (by first | exact Or.inl rfl | exact Or.inr rfl)))) (fun _ _ _ _ _ => dx_nil) (fun _ _ _ _ _ => (dv_var (pv 2))))))))
abbrev s__law_handed_table : Stmt := top 63
noncomputable def b__law_handed_table : ES := (sSeq (sSetF 2 (fComp (iSeq (eVar 0)) (gNm 3) bYes (eCall m__law_handed (aCons (eVar 3) (aCons (eBin gFdiv (eVar 1) (eC (.int 2))) aNil))) [3])) (sSeq (sIf (bVal (eBin gEq (eBin gMod (eAll mInt (aCons (eVar 1) aNil)) (eC (.int 2))) (eC (.int 0)))) (sRet (eAll mTuple (aCons (eVar 2) aNil))) sNx) (sRet (eVar 2))))
noncomputable def m__law_handed_table : List PyData → Option PyData := runD 2 b__law_handed_table
abbrev N__law_handed_table : List Str := ["table", "wish", "lines", "line"]
theorem ok__law_handed_table (F : Fd K mg "_law_handed_table" s__law_handed_table) (d__law_handed : Def P w K mg base "_law_handed" 1 2 m__law_handed) (z_int : mg "int" = none) (z_tuple : mg "tuple" = none) : Def P w K mg base "_law_handed_table" 2 2 m__law_handed_table := by
  have sc : FnScope N__law_handed_table ["table", "wish"] (defScope s__law_handed_table) := ⟨rfl, rfl, rfl, by decide +kernel, rfl, by decide +kernel, by decide +kernel⟩
  refine F.mk sc rfl rfl (fun _ _ _ _ _ _ us hl => match us, hl with | [_, _], _ => rfl) fun cdv A outer s H E hr => ?_
  exact (dss_cons (ds_lcV (i := 2) (own := [("line", 3)]) rfl sc.nd rfl rfl (sw_true rfl rfl rfl (by decide +kernel)) (di_seq (dv_var (pv 0))) (blkOk_by (N := N__law_handed_table) (sc := defScope s__law_handed_table) (by decide +kernel)) (fun _ _ _ _ _ => (dg_name (pg_name (i := 3) sc.nd rfl (by first | exact Or.inl rfl | exact Or.inr rfl)))) (fun _ _ _ _ _ => dx_nil) (fun _ _ _ _ _ => (dv_callD d__law_handed hr (da_cons (dv_var (pv 3)) (da_cons (dv_bin o_fdiv (dv_var (pv 1)) dv_int) da_nil))))) (dss_cons (ds_if (dt_cmp (o_eq hr.units) (dv_bin o_mod (dv_ty c_int (by rfl) z_int (by decide +kernel) (da_cons (dv_var (pv 1)) da_nil)) dv_int) dv_int) (dss_one (ds_ret (dv_ty c_tuple (by rfl) z_tuple (by decide +kernel) (da_cons (dv_var (pv 2)) da_nil)))) dss_nil) (dss_one (ds_ret (dv_var (pv 2))))))
abbrev s__law_stayed : Stmt := top 64
noncomputable def b__law_stayed : ES := (sRet (eAnd (eBin gEq (eAll mLen (aCons (eVar 0) aNil)) (eC (.int 3))) (eBin gEq (eAll mTuple (aCons (eOfF (fComp (iSeq (eVar 0)) (gNm 2) bYes (eAll mTuple (aCons (eVar 2) aNil)) [2])) aNil)) (eVar 1))))
noncomputable def m__law_stayed : List PyData → Option PyData := runD 1 b__law_stayed
abbrev N__law_stayed : List Str := ["handed", "table", "line"]
theorem ok__law_stayed (F : Fd K mg "_law_stayed" s__law_stayed) (z_tuple : mg "tuple" = none) (z_len : mg "len" = none) : Def P w K mg base "_law_stayed" 1 2 m__law_stayed := by
  have sc : FnScope N__law_stayed ["handed", "table"] (defScope s__law_stayed) := ⟨rfl, rfl, rfl, by decide +kernel, rfl, by decide +kernel, by decide +kernel⟩
  refine F.mk sc rfl rfl (fun _ _ _ _ _ _ us hl => match us, hl with | [_, _], _ => rfl) fun cdv A outer s H E hr => ?_
  exact (dss_one (ds_ret (dv_and (dv_cmp (o_eq hr.units) (dv_blt c_len (by rfl) z_len (by decide +kernel) (da_cons (dv_var (pv 0)) da_nil)) dv_int) (dv_one (dv_cmp (o_eq hr.units) (dv_ty c_tuple (by rfl) z_tuple (by decide +kernel) (da_cons (dv_ofF (df_comp (own := [("line", 2)]) rfl sc.nd (di_seq (dv_var (pv 0))) (blkOk_by (N := N__law_stayed) (sc := defScope s__law_stayed) (by decide +kernel)) (fun _ _ _ _ _ => (dg_name (pg_name (i := 2) sc.nd rfl (by first | exact Or.inl rfl | exact Or.inr rfl)))) (fun _ _ _ _ _ => dx_nil) (fun _ _ _ _ _ => (dv_ty c_tuple (by rfl) z_tuple (by decide +kernel) (da_cons (dv_var (pv 2)) da_nil))))) da_nil)) (dv_var (pv 1)))))))
abbrev s__law_factor : Stmt := top 65
noncomputable def b__law_factor : ES := (sSeq (sSet 2 (eCall m__law_digits (aCons (eVar 0) (aCons (eOfF (aCons (eC (.int 3)) (aCons (eC (.int 3)) (aCons (eC (.int 2)) (aCons (eC (.int 6)) (aCons (eC (.int 2)) (aCons (eC (.int 2)) (aCons (eC (.int 2)) aNil)))))))) aNil)))) (sSeq (sOwnO 3 (ffCons (aCons (eC (.int 1)) (aCons (eC (.int 0)) (aCons (eC (.int 0)) aNil))) (ffCons (aCons (eC (.int 0)) (aCons (eC (.int 1)) (aCons (eC (.int 0)) aNil))) (ffCons (aCons (eC (.int 0)) (aCons (eC (.int 0)) (aCons (eC (.int 1)) aNil))) ffNil)))) (sSeq (sIf (bVal (eBin gLt (eBin gIx (eVar 2) (eC (.int 0))) (eC (.int 2)))) (sSeq (sAli 3 4 (eBin gIx (eVar 2) (eC (.int 1))) (eBin gMod (eAll mInt (aCons (eBin gAdd (eBin gAdd (eBin gIx (eVar 2) (eC (.int 1))) (eC (.int 1))) (eBin gIx (eVar 2) (eC (.int 2)))) aNil)) (eC (.int 3))) (eVar 1)) (sFrz [3] (sRet (eAll mTuple (aCons (eOfF (fComp (iSeq (eVar 3)) (gNm 4) bYes (eAll mTuple (aCons (eVar 4) aNil)) [4])) aNil))))) sNx) (sSeq (sSet 5 (eBin gIx (eOfF (aCons (eTup (aCons (eC (.int 0)) (aCons (eC (.int 1)) (aCons (eC (.int 2)) aNil)))) (aCons (eTup (aCons (eC (.int 0)) (aCons (eC (.int 2)) (aCons (eC (.int 1)) aNil)))) (aCons (eTup (aCons (eC (.int 1)) (aCons (eC (.int 0)) (aCons (eC (.int 2)) aNil)))) (aCons (eTup (aCons (eC (.int 1)) (aCons (eC (.int 2)) (aCons (eC (.int 0)) aNil)))) (aCons (eTup (aCons (eC (.int 2)) (aCons (eC (.int 0)) (aCons (eC (.int 1)) aNil)))) (aCons (eTup (aCons (eC (.int 2)) (aCons (eC (.int 1)) (aCons (eC (.int 0)) aNil)))) aNil))))))) (eBin gIx (eVar 2) (eC (.int 3))))) (sFrz [3] (sRet (eAll mTuple (aCons (eOfF (fComp (iRg1 (eC (.int 3))) (gNm 6) bYes (eCall m__law_times (aCons (eBin gSub (eC (.int 1)) (eBin gMul (eC (.int 2)) (eBin gIx (eVar 2) (eBin gAdd (eC (.int 4)) (eVar 6))))) (aCons (eBin gIx (eVar 3) (eBin gIx (eVar 5) (eVar 6))) aNil))) [6])) aNil))))))))
noncomputable def m__law_factor : List PyData → Option PyData := runD 5 b__law_factor
abbrev N__law_factor : List Str := ["cell", "number", "row", "lines", "line", "order", "k"]
theorem ok__law_factor (F : Fd K mg "_law_factor" s__law_factor) (d__law_digits : Def P w K mg base "_law_digits" 1 2 m__law_digits) (d__law_times : Def P w K mg base "_law_times" 1 2 m__law_times) (z_int : mg "int" = none) (z_tuple : mg "tuple" = none) (z_range : mg "range" = none) : Def P w K mg base "_law_factor" 2 2 m__law_factor := by
  have sc : FnScope N__law_factor ["cell", "number"] (defScope s__law_factor) := ⟨rfl, rfl, rfl, by decide +kernel, rfl, by decide +kernel, by decide +kernel⟩
  refine F.mk sc rfl rfl (fun _ _ _ _ _ _ us hl => match us, hl with | [_, _], _ => rfl) fun cdv A outer s H E hr => ?_
  exact (dss_cons (ds_set (i := 2) sc.nd rfl (by first | exact Or.inl rfl | exact Or.inr rfl) (dv_callD d__law_digits hr (da_cons (dv_var (pv 0)) (da_cons (dv_ofF (df_lst (da_cons dv_int (da_cons dv_int (da_cons dv_int (da_cons dv_int (da_cons dv_int (da_cons dv_int (da_cons dv_int da_nil))))))))) da_nil)))) (dss_cons (ds_ownO (i := 3) sc.nd rfl (by first | exact Or.inl rfl | exact Or.inr rfl) (dff_lst (daf_cons (df_lst (da_cons dv_int (da_cons dv_int (da_cons dv_int da_nil)))) (daf_cons (df_lst (da_cons dv_int (da_cons dv_int (da_cons dv_int da_nil)))) (daf_cons (df_lst (da_cons dv_int (da_cons dv_int (da_cons dv_int da_nil)))) daf_nil))))) (dss_cons (ds_if (dt_cmp o_lt (dv_ix ix_g (dv_var (pv 2)) dv_int) dv_int) (dss_ali (ps_set (i := 4) sc.nd rfl (by first | exact Or.inl rfl | exact Or.inr rfl) (pe_ix ix_list (pv 3) (dv_ix ix_g (dv_var (pv 2)) dv_int) (by exact fun _ _ => rfl))) (ps_asg (dv_var (pv 1)) (pg_sub (pv 4) (dv_bin o_mod (dv_ty c_int (by rfl) z_int (by decide +kernel) (da_cons (dv_bin o_add (dv_bin o_add (dv_ix ix_g (dv_var (pv 2)) dv_int) dv_int) (dv_ix ix_g (dv_var (pv 2)) dv_int)) da_nil)) dv_int) set_list)) (by decide) (dss_one (ds_frz (S := [3]) (ds_ret (dv_ty c_tuple (by rfl) z_tuple (by decide +kernel) (da_cons (dv_ofF (df_comp (own := [("line", 4)]) rfl sc.nd (di_seq (dv_var (pv 3))) (blkOk_by (N := N__law_factor) (sc := defScope s__law_factor) (by decide +kernel)) (fun _ _ _ _ _ => (dg_name (pg_name (i := 4) sc.nd rfl (by first | exact Or.inl rfl | exact Or.inr rfl)))) (fun _ _ _ _ _ => dx_nil) (fun _ _ _ _ _ => (dv_ty c_tuple (by rfl) z_tuple (by decide +kernel) (da_cons (dv_var (pv 4)) da_nil))))) da_nil)))))) dss_nil) (dss_cons (ds_set (i := 5) sc.nd rfl (by first | exact Or.inl rfl | exact Or.inr rfl) (dv_ix ix_g (dv_ofF (df_lst (da_cons (dv_tup (da_cons dv_int (da_cons dv_int (da_cons dv_int da_nil)))) (da_cons (dv_tup (da_cons dv_int (da_cons dv_int (da_cons dv_int da_nil)))) (da_cons (dv_tup (da_cons dv_int (da_cons dv_int (da_cons dv_int da_nil)))) (da_cons (dv_tup (da_cons dv_int (da_cons dv_int (da_cons dv_int da_nil)))) (da_cons (dv_tup (da_cons dv_int (da_cons dv_int (da_cons dv_int da_nil)))) (da_cons (dv_tup (da_cons dv_int (da_cons dv_int (da_cons dv_int da_nil)))) da_nil)))))))) (dv_ix ix_g (dv_var (pv 2)) dv_int))) (dss_one (ds_frz (S := [3]) (ds_ret (dv_ty c_tuple (by rfl) z_tuple (by decide +kernel) (da_cons (dv_ofF (df_comp (own := [("k", 6)]) rfl sc.nd (di_rg1 (by rfl) z_range dv_int) (blkOk_by (N := N__law_factor) (sc := defScope s__law_factor) (by decide +kernel)) (fun _ _ _ _ _ => (dg_name (pg_name (i := 6) sc.nd rfl (by first | exact Or.inl rfl | exact Or.inr rfl)))) (fun _ _ _ _ _ => dx_nil) (fun _ _ _ _ _ => (dv_callD d__law_times hr (da_cons (dv_bin o_sub dv_int (dv_bin o_mul dv_int (dv_ix ix_g (dv_var (pv 2)) (dv_bin o_add dv_int (dv_var (pv 6)))))) (da_cons (dv_ix ix_g (dv_var (pv 3)) (dv_ix ix_g (dv_var (pv 5)) (dv_var (pv 6)))) da_nil)))))) da_nil)))))))))
abbrev s__law_unimodular : Stmt := top 66
noncomputable def b__law_unimodular : ES := (sSeq (sSet 2 (eTup (aCons (eTup (aCons (eC (.int 1)) (aCons (eC (.int 0)) (aCons (eC (.int 0)) aNil)))) (aCons (eTup (aCons (eC (.int 0)) (aCons (eC (.int 1)) (aCons (eC (.int 0)) aNil)))) (aCons (eTup (aCons (eC (.int 0)) (aCons (eC (.int 0)) (aCons (eC (.int 1)) aNil)))) aNil))))) (sSeq (sFor (iRg1 (eVar 1)) (gNm 3) (sSeq (sSet 4 (eCall m__law_factor (aCons (eCall m__law_cell (aCons (eVar 0) (aCons (eBin gAdd (eC (.int 1)) (eBin gMul (eC (.int 2)) (eVar 3))) aNil))) (aCons (eCall m__law_number (aCons (eCall m__law_cell (aCons (eVar 0) (aCons (eBin gAdd (eC (.int 2)) (eBin gMul (eC (.int 2)) (eVar 3))) aNil))) aNil)) aNil)))) (sSet 2 (eCall m__law_product (aCons (eVar 2) (aCons (eVar 4) aNil)))))) (sRet (eVar 2))))
noncomputable def m__law_unimodular : List PyData → Option PyData := runD 3 b__law_unimodular
abbrev N__law_unimodular : List Str := ["script", "many", "table", "k", "factor"]
theorem ok__law_unimodular (F : Fd K mg "_law_unimodular" s__law_unimodular) (d__law_cell : Def P w K mg base "_law_cell" 1 2 m__law_cell) (d__law_number : Def P w K mg base "_law_number" 2 1 m__law_number) (d__law_factor : Def P w K mg base "_law_factor" 2 2 m__law_factor) (d__law_product : Def P w K mg base "_law_product" 2 2 m__law_product) (z_range : mg "range" = none) : Def P w K mg base "_law_unimodular" 3 2 m__law_unimodular := by
  have sc : FnScope N__law_unimodular ["script", "many"] (defScope s__law_unimodular) := ⟨rfl, rfl, rfl, by decide +kernel, rfl, by decide +kernel, by decide +kernel⟩
  refine F.mk sc rfl rfl (fun _ _ _ _ _ _ us hl => match us, hl with | [_, _], _ => rfl) fun cdv A outer s H E hr => ?_
  exact (dss_cons (ds_set (i := 2) sc.nd rfl (by first | exact Or.inl rfl | exact Or.inr rfl) (dv_tup (da_cons (dv_tup (da_cons dv_int (da_cons dv_int (da_cons dv_int da_nil)))) (da_cons (dv_tup (da_cons dv_int (da_cons dv_int (da_cons dv_int da_nil)))) (da_cons (dv_tup (da_cons dv_int (da_cons dv_int (da_cons dv_int da_nil)))) da_nil))))) (dss_cons (ds_for PassesOwn.never rfl (di_rg1 (by rfl) z_range (dv_var (pv 1))) (dg_name (pg_name (i := 3) sc.nd rfl (by first | exact Or.inl rfl | exact Or.inr rfl))) (dss_cons (ds_set (i := 4) sc.nd rfl (by first | exact Or.inl rfl | exact Or.inr rfl) (dv_callD d__law_factor hr (da_cons (dv_callD d__law_cell hr (da_cons (dv_var (pv 0)) (da_cons (dv_bin o_add dv_int (dv_bin o_mul dv_int (dv_var (pv 3)))) da_nil))) (da_cons (dv_callD d__law_number hr (da_cons (dv_callD d__law_cell hr (da_cons (dv_var (pv 0)) (da_cons (dv_bin o_add dv_int (dv_bin o_mul dv_int (dv_var (pv 3)))) da_nil))) da_nil)) da_nil)))) (dss_one (ds_set (i := 2) sc.nd rfl (by first | exact Or.inl rfl | exact Or.inr rfl) (dv_callD d__law_product hr (da_cons (dv_var (pv 2)) (da_cons (dv_var (pv 4)) da_nil))))))) (dss_one (ds_ret (dv_var (pv 2))))))
abbrev s__law_other : Stmt := top 67
noncomputable def b__law_other : ES := (sSeq (sOwnO 3 (ffComp (iSeq (eVar 0)) (gNm 6) bYes (fAll mList (aCons (eVar 6) aNil)) [6])) (sSeq (sSet 4 (eBin gIx (eVar 2) (eC (.int 1)))) (sSeq (sSet 5 (eBin gIx (eVar 2) (eC (.int 2)))) (sSeq (sIf (bVal (eBin gEq (eBin gIx (eVar 2) (eC (.int 0))) (eC (.int 0)))) (sPutF 3 (eVar 4) (fAll mList (aCons (eCall m__law_times (aCons (eBin gIx (eVar 1) (eC (.int 9))) (aCons (eBin gIx (eVar 0) (eVar 4)) aNil))) aNil))) sNx) (sSeq (sIf (bVal (eBin gEq (eBin gIx (eVar 2) (eC (.int 0))) (eC (.int 1)))) (sSeq (sAli 3 6 (eVar 4) (eVar 5) (eBin gAdd (eBin gIx (eVar 6) (eVar 5)) (eBin gIx (eVar 1) (eC (.int 9))))) sNx) sNx) (sSeq (sIf (bVal (eBin gEq (eBin gIx (eVar 2) (eC (.int 0))) (eC (.int 2)))) (sOwnO 3 (ffComp (iSeq (eVar 0)) (gNm 6) bYes (fComp (iSeq (eVar 6)) (gNm 7) bYes (eUn gNeg (eVar 7)) [7]) [6])) sNx) (sSeq (sIf (bVal (eBin gEq (eBin gIx (eVar 2) (eC (.int 0))) (eC (.int 3)))) (sPutF 3 (eVar 4) (fAll mList (aCons (eBin gIx (eVar 0) (eVar 5)) aNil))) sNx) (sSeq (sIf (bVal (eBin gGt (eBin gIx (eVar 2) (eC (.int 0))) (eC (.int 3)))) (sOwnO 3 (ffCons (fSl (eVar 1) (oSome (eC (.int 0))) (oSome (eC (.int 3)))) (ffCons (fSl (eVar 1) (oSome (eC (.int 3))) (oSome (eC (.int 6)))) (ffCons (fSl (eVar 1) (oSome (eC (.int 6))) (oSome (eC (.int 9)))) ffNil)))) sNx) (sSeq (sIf (bVal (eBin gEq (eBin gIx (eVar 2) (eC (.int 0))) (eC (.int 5)))) (sFrz [3] (sOwnO 3 (ffComp (iSeq (eVar 3)) (gNm 6) bYes (fComp (iSeq (eVar 6)) (gNm 7) bYes (eBin gSub (eBin gMod (eAll mInt (aCons (eVar 7) aNil)) (eC (.int 3))) (eC (.int 1))) [7]) [6]))) sNx) (sSeq (sIf (bVal (eBin gEq (eBin gIx (eVar 2) (eC (.int 0))) (eC (.int 6)))) (sPutF 3 (eC (.int 2)) (fComp (iRg1 (eC (.int 3))) (gNm 8) bYes (eBin gAdd (eBin gMul (eBin gIx (eVar 1) (eC (.int 6))) (eIxOO 3 (eC (.int 0)) (eVar 8))) (eBin gMul (eBin gIx (eVar 1) (eC (.int 7))) (eIxOO 3 (eC (.int 1)) (eVar 8)))) [8])) sNx) (sFrz [3] (sRet (eAll mTuple (aCons (eOfF (fComp (iSeq (eVar 3)) (gNm 6) bYes (eAll mTuple (aCons (eVar 6) aNil)) [6])) aNil))))))))))))))
noncomputable def m__law_other : List PyData → Option PyData := runD 6 b__law_other
abbrev N__law_other : List Str := ["table", "numbers", "digits", "lines", "i", "j", "line", "number", "k"]
theorem ok__law_other (F : Fd K mg "_law_other" s__law_other) (d__law_times : Def P w K mg base "_law_times" 1 2 m__law_times) (z_list : mg "list" = none) (z_int : mg "int" = none) (z_range : mg "range" = none) (z_tuple : mg "tuple" = none) : Def P w K mg base "_law_other" 2 3 m__law_other := by
  have sc : FnScope N__law_other ["table", "numbers", "digits"] (defScope s__law_other) := ⟨rfl, rfl, rfl, by decide +kernel, rfl, by decide +kernel, by decide +kernel⟩
  refine F.mk sc rfl rfl (fun _ _ _ _ _ _ us hl => match us, hl with | [_, _, _], _ => rfl) fun cdv A outer s H E hr => ?_
  exact (dss_cons (ds_ownO (i := 3) sc.nd rfl (by first | exact Or.inl rfl | exact Or.inr rfl) (dff_comp (own := [("line", 6)]) rfl sc.nd (di_seq (dv_var (pv 0))) (blkOk_by (N := N__law_other) (sc := defScope s__law_other) (by decide +kernel)) (fun _ _ _ _ _ => (dg_name (pg_name (i := 6) sc.nd rfl (by first | exact Or.inl rfl | exact Or.inr rfl)))) (fun _ _ _ _ _ => dx_nil) (fun _ _ _ _ _ => (df_ty c_list (by rfl) z_list (by decide +kernel) (da_cons (dv_var (pv 6)) da_nil))))) (dss_cons (ds_set (i := 4) sc.nd rfl (by first | exact Or.inl rfl | exact Or.inr rfl) (dv_ix ix_g (dv_var (pv 2)) dv_int)) (dss_cons (ds_set (i := 5) sc.nd rfl (by first | exact Or.inl rfl | exact Or.inr rfl) (dv_ix ix_g (dv_var (pv 2)) dv_int)) (dss_cons (ds_if (dt_cmp (o_eq hr.units) (dv_ix ix_g (dv_var (pv 2)) dv_int) dv_int) (dss_one (ds_putF (dv_var (pv 4)) (df_ty c_list (by rfl) z_list (by decide +kernel) (da_cons (dv_callD d__law_times hr (da_cons (dv_ix ix_g (dv_var (pv 1)) dv_int) (da_cons (dv_ix ix_g (dv_var (pv 0)) (dv_var (pv 4))) da_nil))) da_nil)) (hgs := pg_sub (pv 3) (dv_var (pv 4)) set_list))) dss_nil) (dss_cons (ds_if (dt_cmp (o_eq hr.units) (dv_ix ix_g (dv_var (pv 2)) dv_int) dv_int) (dss_ali (ps_set (i := 6) sc.nd rfl (by first | exact Or.inl rfl | exact Or.inr rfl) (pe_ix ix_list (pv 3) (dv_var (pv 4)) (by exact fun _ _ => rfl))) (ps_asg (dv_bin o_add (dv_ix ix_g (dv_var (pv 6)) (dv_var (pv 5))) (dv_ix ix_g (dv_var (pv 1)) dv_int)) (pg_sub (pv 6) (dv_var (pv 5)) set_list)) (by decide) dss_nil) dss_nil) (dss_cons (ds_if (dt_cmp (o_eq hr.units) (dv_ix ix_g (dv_var (pv 2)) dv_int) dv_int) (dss_one (ds_ownO (i := 3) sc.nd rfl (by first | exact Or.inl rfl | exact Or.inr rfl) (dff_comp (own := [("line", 6)]) rfl sc.nd (di_seq (dv_var (pv 0))) (blkOk_by (N := N__law_other) (sc := defScope s__law_other) (by decide +kernel)) (fun _ _ _ _ _ => (dg_name (pg_name (i := 6) sc.nd rfl (by first | exact Or.inl rfl | exact Or.inr rfl)))) (fun _ _ _ _ _ => dx_nil) (fun _ _ _ _ _ => (df_comp (own := [("number", 7)]) rfl sc.nd (di_seq (dv_var (pv 6))) (blkOk_by (N := N__law_other) (sc := _) (by kernel_rfl)) (fun _ _ _ _ _ => (dg_name (pg_name (i := 7) sc.nd rfl (by first | exact Or.inl rfl | exact Or.inr rfl)))) (fun _ _ _ _ _ => dx_nil) (fun _ _ _ _ _ => (dv_un u_neg (dv_var (pv 7))))))))) dss_nil) (dss_cons (ds_if (dt_cmp (o_eq hr.units) (dv_ix ix_g (dv_var (pv 2)) dv_int) dv_int) (dss_one (ds_putF (dv_var (pv 4)) (df_ty c_list (by rfl) z_list (by decide +kernel) (da_cons (dv_ix ix_g (dv_var (pv 0)) (dv_var (pv 5))) da_nil)) (hgs := pg_sub (pv 3) (dv_var (pv 4)) set_list))) dss_nil) (dss_cons (ds_if (dt_cmp o_gt (dv_ix ix_g (dv_var (pv 2)) dv_int) dv_int) (dss_one (ds_ownO (i := 3) sc.nd rfl (by first | exact Or.inl rfl | exact Or.inr rfl) (dff_lst (daf_cons (df_sl (dv_var (pv 1)) (do_some dv_int) (do_some dv_int)) (daf_cons (df_sl (dv_var (pv 1)) (do_some dv_int) (do_some dv_int)) (daf_cons (df_sl (dv_var (pv 1)) (do_some dv_int) (do_some dv_int)) daf_nil)))))) dss_nil) (dss_cons (ds_if (dt_cmp (o_eq hr.units) (dv_ix ix_g (dv_var (pv 2)) dv_int) dv_int) (dss_one (ds_frz (S := [3]) (ds_ownO (i := 3) sc.nd rfl (by first | exact Or.inl rfl | exact Or.inr rfl) (dff_comp (own := [("line", 6)]) rfl sc.nd (di_seq (dv_var (pv 3))) (blkOk_by (N := N__law_other) (sc := defScope s__law_other) (by decide +kernel)) (fun _ _ _ _ _ => (dg_name (pg_name (i := 6) sc.nd rfl (by first | exact Or.inl rfl | exact Or.inr rfl)))) (fun _ _ _ _ _ => dx_nil) (fun _ _ _ _ _ => (df_comp (own := [("number", 7)]) rfl sc.nd (di_seq (dv_var (pv 6))) (blkOk_by (N := N__law_other) (sc := _) (by kernel_rfl)) (fun _ _ _ _ _ => (dg_name (pg_name (i := 7) sc.nd rfl (by first | exact Or.inl rfl | exact Or.inr rfl)))) (fun _ _ _ _ _ => dx_nil) (fun _ _ _ _ _ => (dv_bin o_sub (dv_bin o_mod (dv_ty c_int (by rfl) z_int (by decide +kernel) (da_cons (dv_var (pv 7)) da_nil)) dv_int) dv_int)))))))) dss_nil) (dss_cons (ds_if (dt_cmp (o_eq hr.units) (dv_ix ix_g (dv_var (pv 2)) dv_int) dv_int) (dss_one (ds_putF dv_int (df_comp (own := [("k", 8)]) rfl sc.nd (di_rg1 (by rfl) z_range dv_int) (blkOk_by (N := N__law_other) (sc := defScope s__law_other) (by decide +kernel)) (fun _ _ _ _ _ => (dg_name (pg_name (i := 8) sc.nd rfl (by first | exact Or.inl rfl | exact Or.inr rfl)))) (fun _ _ _ _ _ => dx_nil) (fun _ _ _ _ _ => (dv_bin o_add (dv_bin o_mul (dv_ix ix_g (dv_var (pv 1)) dv_int) (dv_ixOO (pv 3) dv_int (dv_var (pv 8)))) (dv_bin o_mul (dv_ix ix_g (dv_var (pv 1)) dv_int) (dv_ixOO (pv 3) dv_int (dv_var (pv 8))))))) (hgs := pg_sub (pv 3) dv_int set_list))) dss_nil) (dss_one (ds_frz (S := [3]) (ds_ret (dv_ty c_tuple (by rfl) z_tuple (by decide +kernel) (da_cons (dv_ofF (df_comp (own := [("line", 6)]) rfl sc.nd (di_seq (dv_var (pv 3))) (blkOk_by (N := N__law_other) (sc := defScope s__law_other) (by decide +kernel)) (fun _ _ _ _ _ => (dg_name (pg_name (i := 6) sc.nd rfl (by first | exact Or.inl rfl | exact Or.inr rfl)))) (fun _ _ _ _ _ => dx_nil) (fun _ _ _ _ _ => (dv_ty c_tuple (by rfl) z_tuple (by decide +kernel) (da_cons (dv_var (pv 6)) da_nil))))) da_nil)))))))))))))))
abbrev s__law_inverse : Stmt := top 68
noncomputable def b__law_inverse : ES := (sSeq (sTry 1 (fun c => decide (c ∈ (["NoInverse"] : List Str))) (sRetX (xLst1 (eC (.bool true)) (xCall x_inverse (aCons (eVar 0) aNil)))) (sSeqH (sSetH 2 (eIsC fun c => List.lookup c ([("NoInverse", false)] : List (Str × Bool)))) (sIfH (bAndH (bValH (eIsC fun c => List.lookup c ([("NoInverse", true)] : List (Str × Bool)))) (bAndH (bValH (eIsC fun c => List.lookup c ([("NoInverse", true)] : List (Str × Bool)))) (bNotH (bValH (fun _ => (eVar 2)))))) (sRetH (eLstH (aConsH (fun _ => (eC (.bool false))) (aConsH (eFld "NoInverse" "determinant") aNilH)))) sNxH))) (sRet (eOfF (aCons (eC (.bool false)) (aCons (eC .none) aNil)))))
noncomputable def m__law_inverse : List PyData → Option PyData := runD 2 b__law_inverse
abbrev N__law_inverse : List Str := ["handed", "e", "named"]
theorem ok__law_inverse (F : Fd K mg "_law_inverse" s__law_inverse) (dx_inverse : DefX P w K mg base "inverse" 4 1 x_inverse) (z_isinstance : mg "isinstance" = none) (z_ValueError : mg "ValueError" = none) (q_NothingToRedo : mg "NothingToRedo" = some (.ref (He.ga K "NothingToRedo"))) (q_NothingToUndo : mg "NothingToUndo" = some (.ref (He.ga K "NothingToUndo"))) (q_BadQuestion : mg "BadQuestion" = some (.ref (He.ga K "BadQuestion"))) (q_BadPart : mg "BadPart" = some (.ref (He.ga K "BadPart"))) (q_BadModulus : mg "BadModulus" = some (.ref (He.ga K "BadModulus"))) (q_BadWorth : mg "BadWorth" = some (.ref (He.ga K "BadWorth"))) (q_BadText : mg "BadText" = some (.ref (He.ga K "BadText"))) (q_NoCycle : mg "NoCycle" = some (.ref (He.ga K "NoCycle"))) (q_NotPell : mg "NotPell" = some (.ref (He.ga K "NotPell"))) (q_NotIdle : mg "NotIdle" = some (.ref (He.ga K "NotIdle"))) (q_BadStep : mg "BadStep" = some (.ref (He.ga K "BadStep"))) (q_EndlessChamber : mg "EndlessChamber" = some (.ref (He.ga K "EndlessChamber"))) (q_MovesRest : mg "MovesRest" = some (.ref (He.ga K "MovesRest"))) (q_TooManyRests : mg "TooManyRests" = some (.ref (He.ga K "TooManyRests"))) (q_BadClaim : mg "BadClaim" = some (.ref (He.ga K "BadClaim"))) (q_NoRest : mg "NoRest" = some (.ref (He.ga K "NoRest"))) (q_NotHome : mg "NotHome" = some (.ref (He.ga K "NotHome"))) (q_NotKeeper : mg "NotKeeper" = some (.ref (He.ga K "NotKeeper"))) (q_BadWord : mg "BadWord" = some (.ref (He.ga K "BadWord"))) (q_OffSide : mg "OffSide" = some (.ref (He.ga K "OffSide"))) (q_NotInLand : mg "NotInLand" = some (.ref (He.ga K "NotInLand"))) (q_BadRay : mg "BadRay" = some (.ref (He.ga K "BadRay"))) (q_BadStart : mg "BadStart" = some (.ref (He.ga K "BadStart"))) (q_TooDeep : mg "TooDeep" = some (.ref (He.ga K "TooDeep"))) (q_NoMirror : mg "NoMirror" = some (.ref (He.ga K "NoMirror"))) (q_NotNull : mg "NotNull" = some (.ref (He.ga K "NotNull"))) (q_NotPositive : mg "NotPositive" = some (.ref (He.ga K "NotPositive"))) (q_NotNegative : mg "NotNegative" = some (.ref (He.ga K "NotNegative"))) (q_NotOneMinus : mg "NotOneMinus" = some (.ref (He.ga K "NotOneMinus"))) (q_BadForm : mg "BadForm" = some (.ref (He.ga K "BadForm"))) (q_ZeroBottom : mg "ZeroBottom" = some (.ref (He.ga K "ZeroBottom"))) (q_NoInverse : mg "NoInverse" = some (.ref (He.ga K "NoInverse"))) (q_FewError : mg "FewError" = some (.ref (He.ga K "FewError"))) (x_NoInverse : XCls P w K mg base "NoInverse" "determinant") (t__law_inverse_0 : TabA K ["ZeroBottom", "BadForm", "NotOneMinus", "NotNegative", "NotPositive", "NotNull", "NoMirror", "TooDeep", "BadStart", "BadRay", "NotInLand", "OffSide", "BadWord", "NotKeeper", "NotHome", "NoRest", "BadClaim", "TooManyRests", "MovesRest", "EndlessChamber", "BadStep", "NotIdle", "NotPell", "NoCycle", "BadText", "BadWorth", "BadModulus", "BadPart", "BadQuestion", "NothingToUndo", "NothingToRedo"] ([("NoInverse", false)] : List (Str × Bool))) (t__law_inverse_1 : Tab1 K (.t "ValueError") ([("NoInverse", true)] : List (Str × Bool))) (t__law_inverse_2 : Tab1 K (.c "NoInverse") ([("NoInverse", true)] : List (Str × Bool))) (e__law_inverse_0 : TabE K "FewError" ["NoInverse"]) : Def P w K mg base "_law_inverse" 5 1 m__law_inverse := by
  have sc : FnScope N__law_inverse ["handed"] (defScope s__law_inverse) := ⟨rfl, rfl, rfl, by decide +kernel, rfl, by decide +kernel, by decide +kernel⟩
  refine F.mk sc rfl rfl (fun _ _ _ _ _ _ us hl => match us, hl with | [_], _ => rfl) fun cdv A outer s H E hr => ?_
  exact (dss_cons (ds_try (i := 1) (fun c => decide (c ∈ (["NoInverse"] : List Str))) rfl rfl sc.nd rfl rfl ⟨by rfl, by decide, .inl q_FewError⟩ e__law_inverse_0 (fun pn xe po => (dss_one (ds_retX (dvx_lst1 dv_bl (dvx_call dx_inverse hr (da_cons (dv_var (pv 0)) da_nil)))))) (fun a oe cls d pn hz hf => (dssh_cons (dsh_set (j := 2) sc.nd rfl (by first | exact Or.inl rfl | exact Or.inr rfl) (show (2 : Nat) ≠ 1 by decide) (dvh_isT (t := fun c => List.lookup c ([("NoInverse", false)] : List (Str × Bool))) (by rfl) z_isinstance (pn_cons (pe_cls (by rfl) q_ZeroBottom) (pn_cons (pe_cls (by rfl) q_BadForm) (pn_cons (pe_cls (by rfl) q_NotOneMinus) (pn_cons (pe_cls (by rfl) q_NotNegative) (pn_cons (pe_cls (by rfl) q_NotPositive) (pn_cons (pe_cls (by rfl) q_NotNull) (pn_cons (pe_cls (by rfl) q_NoMirror) (pn_cons (pe_cls (by rfl) q_TooDeep) (pn_cons (pe_cls (by rfl) q_BadStart) (pn_cons (pe_cls (by rfl) q_BadRay) (pn_cons (pe_cls (by rfl) q_NotInLand) (pn_cons (pe_cls (by rfl) q_OffSide) (pn_cons (pe_cls (by rfl) q_BadWord) (pn_cons (pe_cls (by rfl) q_NotKeeper) (pn_cons (pe_cls (by rfl) q_NotHome) (pn_cons (pe_cls (by rfl) q_NoRest) (pn_cons (pe_cls (by rfl) q_BadClaim) (pn_cons (pe_cls (by rfl) q_TooManyRests) (pn_cons (pe_cls (by rfl) q_MovesRest) (pn_cons (pe_cls (by rfl) q_EndlessChamber) (pn_cons (pe_cls (by rfl) q_BadStep) (pn_cons (pe_cls (by rfl) q_NotIdle) (pn_cons (pe_cls (by rfl) q_NotPell) (pn_cons (pe_cls (by rfl) q_NoCycle) (pn_cons (pe_cls (by rfl) q_BadText) (pn_cons (pe_cls (by rfl) q_BadWorth) (pn_cons (pe_cls (by rfl) q_BadModulus) (pn_cons (pe_cls (by rfl) q_BadPart) (pn_cons (pe_cls (by rfl) q_BadQuestion) (pn_cons (pe_cls (by rfl) q_NothingToUndo) (pn_cons (pe_cls (by rfl) q_NothingToRedo) pn_nil))))))))))))))))))))))))))))))) t__law_inverse_0 hz hf (pv 1) (hl := by show 31 ≤ sizeLine; decide))) (dssh_one (dsh_if (dth_w (dwh_and (dth_val (dvh_is1 (t := fun c => List.lookup c ([("NoInverse", true)] : List (Str × Bool))) (by rfl) z_isinstance (pe_cls (by rfl) q_NoInverse) t__law_inverse_2 hz hf (pv 1))) (dwh_and (dth_val (dvh_is1 (t := fun c => List.lookup c ([("NoInverse", true)] : List (Str × Bool))) (by rfl) z_isinstance (pe_bltn (v := .ty "ValueError") (by rfl) z_ValueError (by decide +kernel) rfl (by decide) (by decide)) t__law_inverse_1 hz hf (pv 1))) (dwh_and1 (dth_not (dth_val (dvh_of (dv_var (pv 2))))))))) (dssh_one (dsh_ret (dvh_lst (dah_cons (dvh_of dv_bl) (dah_cons (dvh_fld x_NoInverse hz hf (pv 1)) dah_nil))))) dssh_nil))))) (dss_one (ds_ret (dv_ofF (df_lst (da_cons dv_bl (da_cons dv_non da_nil)))))))
abbrev s__law_inverse_right : Stmt := top 69
noncomputable def b__law_inverse_right : ES := (sSeq (sSet 2 (eTup (aCons (eTup (aCons (eC (.int 1)) (aCons (eC (.int 0)) (aCons (eC (.int 0)) aNil)))) (aCons (eTup (aCons (eC (.int 0)) (aCons (eC (.int 1)) (aCons (eC (.int 0)) aNil)))) (aCons (eTup (aCons (eC (.int 0)) (aCons (eC (.int 0)) (aCons (eC (.int 1)) aNil)))) aNil))))) (sSeq (sSet 3 (eCall m__law_handed_table (aCons (eVar 0) (aCons (eVar 1) aNil)))) (sSeq (sSet 4 (eCall m__law_inverse (aCons (eVar 3) aNil))) (sSeq (sSet 5 (eCall m__law_inverse (aCons (eVar 3) aNil))) (sSeq (sIf (bNot (bVal (eCall m__law_stayed (aCons (eVar 3) (aCons (eVar 0) aNil))))) (sRet (eC (.bool false))) sNx) (sSeq (sSet 6 (eCall m__law_determinant (aCons (eVar 0) aNil))) (sSeq (sIf (bAnd (bVal (eBin gNe (eVar 6) (eC (.int 1)))) (bVal (eBin gNe (eVar 6) (eUn gNeg (eC (.int 1)))))) (sSeq (sSet 7 (eAnd (eBin gIsB (eBin gIx (eVar 4) (eC (.int 0))) (eC (.bool false))) (eCall m__law_same_number (aCons (eBin gIx (eVar 4) (eC (.int 1))) (aCons (eVar 6) aNil))))) (sRet (eAnd (eVar 7) (eAnd (eBin gIsB (eBin gIx (eVar 5) (eC (.int 0))) (eC (.bool false))) (eCall m__law_same_number (aCons (eBin gIx (eVar 5) (eC (.int 1))) (aCons (eVar 6) aNil))))))) sNx) (sSeq (sIf (bOr (bVal (eBin gIsB (eBin gIx (eVar 4) (eC (.int 0))) (eC (.bool false)))) (bOr (bVal (eBin gIsB (eBin gIx (eVar 5) (eC (.int 0))) (eC (.bool false)))) (bNot (bVal (eCall m__law_is_table (aCons (eBin gIx (eVar 4) (eC (.int 1))) aNil)))))) (sRet (eC (.bool false))) sNx) (sSeq (sSet 8 (eBin gIx (eVar 4) (eC (.int 1)))) (sSeq (sIf (bOr (bVal (eBin gNe (eCall m__law_product (aCons (eVar 0) (aCons (eVar 8) aNil))) (eVar 2))) (bVal (eBin gNe (eCall m__law_product (aCons (eVar 8) (aCons (eVar 0) aNil))) (eVar 2)))) (sRet (eC (.bool false))) sNx) (sSeq (sSet 9 (eCall m__law_inverse (aCons (eCall m__law_handed_table (aCons (eVar 8) (aCons (eBin gSub (eC (.int 3)) (eVar 1)) aNil))) aNil))) (sRet (eAnd (eBin gIsB (eBin gIx (eVar 9) (eC (.int 0))) (eC (.bool true))) (eAnd (eCall m__law_same_table (aCons (eBin gIx (eVar 9) (eC (.int 1))) (aCons (eVar 0) aNil))) (eCall m__law_same_table (aCons (eBin gIx (eVar 5) (eC (.int 1))) (aCons (eVar 8) aNil)))))))))))))))))
noncomputable def m__law_inverse_right : List PyData → Option PyData := runD 8 b__law_inverse_right
abbrev N__law_inverse_right : List Str := ["table", "wish", "idle", "handed", "answer", "again", "whole", "right", "told", "back"]
theorem ok__law_inverse_right (F : Fd K mg "_law_inverse_right" s__law_inverse_right) (d__law_handed_table : Def P w K mg base "_law_handed_table" 2 2 m__law_handed_table) (d__law_inverse : Def P w K mg base "_law_inverse" 5 1 m__law_inverse) (d__law_stayed : Def P w K mg base "_law_stayed" 1 2 m__law_stayed) (d__law_determinant : Def P w K mg base "_law_determinant" 2 1 m__law_determinant) (d__law_same_number : Def P w K mg base "_law_same_number" 2 2 m__law_same_number) (d__law_is_table : Def P w K mg base "_law_is_table" 3 1 m__law_is_table) (d__law_product : Def P w K mg base "_law_product" 2 2 m__law_product) (d__law_same_table : Def P w K mg base "_law_same_table" 4 2 m__law_same_table) : Def P w K mg base "_law_inverse_right" 6 2 m__law_inverse_right := by
  have sc : FnScope N__law_inverse_right ["table", "wish"] (defScope s__law_inverse_right) := ⟨rfl, rfl, rfl, by decide +kernel, rfl, by decide +kernel, by decide +kernel⟩
  refine F.mk sc rfl rfl (fun _ _ _ _ _ _ us hl => match us, hl with | [_, _], _ => rfl) fun cdv A outer s H E hr => ?_
  exact (dss_cons (ds_set (i := 2) sc.nd rfl (by first | exact Or.inl rfl | exact Or.inr rfl) (dv_tup (da_cons (dv_tup (da_cons dv_int (da_cons dv_int (da_cons dv_int da_nil)))) (da_cons (dv_tup (da_cons dv_int (da_cons dv_int (da_cons dv_int da_nil)))) (da_cons (dv_tup (da_cons dv_int (da_cons dv_int (da_cons dv_int da_nil)))) da_nil))))) (dss_cons (ds_set (i := 3) sc.nd rfl (by first | exact Or.inl rfl | exact Or.inr rfl) (dv_callD d__law_handed_table hr (da_cons (dv_var (pv 0)) (da_cons (dv_var (pv 1)) da_nil)))) (dss_cons (ds_set (i := 4) sc.nd rfl (by first | exact Or.inl rfl | exact Or.inr rfl) (dv_callD d__law_inverse hr (da_cons (dv_var (pv 3)) da_nil))) (dss_cons (ds_set (i := 5) sc.nd rfl (by first | exact Or.inl rfl | exact Or.inr rfl) (dv_callD d__law_inverse hr (da_cons (dv_var (pv 3)) da_nil))) (dss_cons (ds_if (dt_not (dt_val (dv_callD d__law_stayed hr (da_cons (dv_var (pv 3)) (da_cons (dv_var (pv 0)) da_nil))))) (dss_one (ds_ret dv_bl)) dss_nil) (dss_cons (ds_set (i := 6) sc.nd rfl (by first | exact Or.inl rfl | exact Or.inr rfl) (dv_callD d__law_determinant hr (da_cons (dv_var (pv 0)) da_nil))) (dss_cons (ds_if (dt_w (dw_and (dt_cmp (o_ne hr.units) (dv_var (pv 6)) dv_int) (dw_and1 (dt_cmp (o_ne hr.units) (dv_var (pv 6)) (dv_un u_neg dv_int))))) (dss_cons (ds_set (i := 7) sc.nd rfl (by first | exact Or.inl rfl | exact Or.inr rfl) (dv_and (dv_cmp o_isB (dv_ix ix_g (dv_var (pv 4)) dv_int) dv_bl) (dv_one (dv_callD d__law_same_number hr (da_cons (dv_ix ix_g (dv_var (pv 4)) dv_int) (da_cons (dv_var (pv 6)) da_nil)))))) (dss_one (ds_ret (dv_and (dv_var (pv 7)) (dv_and (dv_cmp o_isB (dv_ix ix_g (dv_var (pv 5)) dv_int) dv_bl) (dv_one (dv_callD d__law_same_number hr (da_cons (dv_ix ix_g (dv_var (pv 5)) dv_int) (da_cons (dv_var (pv 6)) da_nil))))))))) dss_nil) (dss_cons (ds_if (dt_w (dw_or (dt_cmp o_isB (dv_ix ix_g (dv_var (pv 4)) dv_int) dv_bl) (dw_or (dt_cmp o_isB (dv_ix ix_g (dv_var (pv 5)) dv_int) dv_bl) (dw_or1 (dt_not (dt_val (dv_callD d__law_is_table hr (da_cons (dv_ix ix_g (dv_var (pv 4)) dv_int) da_nil)))))))) (dss_one (ds_ret dv_bl)) dss_nil) (dss_cons (ds_set (i := 8) sc.nd rfl (by first | exact Or.inl rfl | exact Or.inr rfl) (dv_ix ix_g (dv_var (pv 4)) dv_int)) (dss_cons (ds_if (dt_w (dw_or (dt_cmp (o_ne hr.units) (dv_callD d__law_product hr (da_cons (dv_var (pv 0)) (da_cons (dv_var (pv 8)) da_nil))) (dv_var (pv 2))) (dw_or1 (dt_cmp (o_ne hr.units) (dv_callD d__law_product hr (da_cons (dv_var (pv 8)) (da_cons (dv_var (pv 0)) da_nil))) (dv_var (pv 2)))))) (dss_one (ds_ret dv_bl)) dss_nil) (dss_cons (ds_set (i := 9) sc.nd rfl (by first | exact Or.inl rfl | exact Or.inr rfl) (dv_callD d__law_inverse hr (da_cons (dv_callD d__law_handed_table hr (da_cons (dv_var (pv 8)) (da_cons (dv_bin o_sub dv_int (dv_var (pv 1))) da_nil))) da_nil))) (dss_one (ds_ret (dv_and (dv_cmp o_isB (dv_ix ix_g (dv_var (pv 9)) dv_int) dv_bl) (dv_and (dv_callD d__law_same_table hr (da_cons (dv_ix ix_g (dv_var (pv 9)) dv_int) (da_cons (dv_var (pv 0)) da_nil))) (dv_one (dv_callD d__law_same_table hr (da_cons (dv_ix ix_g (dv_var (pv 5)) dv_int) (da_cons (dv_var (pv 8)) da_nil)))))))))))))))))))
abbrev s__law_power : Stmt := top 70
noncomputable def b__law_power : ES := (sSeq (sSet 2 (eTup (aCons (eTup (aCons (eC (.int 1)) (aCons (eC (.int 0)) (aCons (eC (.int 0)) aNil)))) (aCons (eTup (aCons (eC (.int 0)) (aCons (eC (.int 1)) (aCons (eC (.int 0)) aNil)))) (aCons (eTup (aCons (eC (.int 0)) (aCons (eC (.int 0)) (aCons (eC (.int 1)) aNil)))) aNil))))) (sSeq (sFor (iRg1 (eVar 1)) (gNm 3) (sSet 2 (eCall m__law_product (aCons (eVar 2) (aCons (eVar 0) aNil))))) (sRet (eVar 2))))
noncomputable def m__law_power : List PyData → Option PyData := runD 2 b__law_power
abbrev N__law_power : List Str := ["table", "exponent", "whole", "k"]
theorem ok__law_power (F : Fd K mg "_law_power" s__law_power) (d__law_product : Def P w K mg base "_law_product" 2 2 m__law_product) (z_range : mg "range" = none) : Def P w K mg base "_law_power" 3 2 m__law_power := by
  have sc : FnScope N__law_power ["table", "exponent"] (defScope s__law_power) := ⟨rfl, rfl, rfl, by decide +kernel, rfl, by decide +kernel, by decide +kernel⟩
  refine F.mk sc rfl rfl (fun _ _ _ _ _ _ us hl => match us, hl with | [_, _], _ => rfl) fun cdv A outer s H E hr => ?_
  exact (dss_cons (ds_set (i := 2) sc.nd rfl (by first | exact Or.inl rfl | exact Or.inr rfl) (dv_tup (da_cons (dv_tup (da_cons dv_int (da_cons dv_int (da_cons dv_int da_nil)))) (da_cons (dv_tup (da_cons dv_int (da_cons dv_int (da_cons dv_int da_nil)))) (da_cons (dv_tup (da_cons dv_int (da_cons dv_int (da_cons dv_int da_nil)))) da_nil))))) (dss_cons (ds_for PassesOwn.never rfl (di_rg1 (by rfl) z_range (dv_var (pv 1))) (dg_name (pg_name (i := 3) sc.nd rfl (by first | exact Or.inl rfl | exact Or.inr rfl))) (dss_one (ds_set (i := 2) sc.nd rfl (by first | exact Or.inl rfl | exact Or.inr rfl) (dv_callD d__law_product hr (da_cons (dv_var (pv 2)) (da_cons (dv_var (pv 0)) da_nil)))))) (dss_one (ds_ret (dv_var (pv 2))))))
abbrev s__law_power_right : Stmt := top 71
noncomputable def b__law_power_right : ES := (sSeq (sSet 3 (eCall m__law_handed_table (aCons (eVar 0) (aCons (eVar 2) aNil)))) (sSeq (sSet 4 (eCall m__law_same_table (aCons (eCall m_power (aCons (eVar 3) (aCons (eVar 1) aNil))) (aCons (eCall m__law_power (aCons (eVar 0) (aCons (eVar 1) aNil))) aNil)))) (sSeq (sSet 4 (eAnd (eVar 4) (eCall m__law_same_table (aCons (eCall m_power (aCons (eVar 3) (aCons (eC (.int 0)) aNil))) (aCons (eTup (aCons (eTup (aCons (eC (.int 1)) (aCons (eC (.int 0)) (aCons (eC (.int 0)) aNil)))) (aCons (eTup (aCons (eC (.int 0)) (aCons (eC (.int 1)) (aCons (eC (.int 0)) aNil)))) (aCons (eTup (aCons (eC (.int 0)) (aCons (eC (.int 0)) (aCons (eC (.int 1)) aNil)))) aNil)))) aNil))))) (sRet (eAnd (eVar 4) (eAnd (eCall m__law_same_table (aCons (eCall m_power (aCons (eVar 3) (aCons (eC (.int 1)) aNil))) (aCons (eVar 0) aNil))) (eCall m__law_stayed (aCons (eVar 3) (aCons (eVar 0) aNil)))))))))
noncomputable def m__law_power_right : List PyData → Option PyData := runD 2 b__law_power_right
abbrev N__law_power_right : List Str := ["table", "exponent", "wish", "handed", "right"]
theorem ok__law_power_right (F : Fd K mg "_law_power_right" s__law_power_right) (d__law_handed_table : Def P w K mg base "_law_handed_table" 2 2 m__law_handed_table) (d__law_power : Def P w K mg base "_law_power" 3 2 m__law_power) (d_power : Def P w K mg base "power" 3 2 m_power) (d__law_same_table : Def P w K mg base "_law_same_table" 4 2 m__law_same_table) (d__law_stayed : Def P w K mg base "_law_stayed" 1 2 m__law_stayed) : Def P w K mg base "_law_power_right" 5 3 m__law_power_right := by
  have sc : FnScope N__law_power_right ["table", "exponent", "wish"] (defScope s__law_power_right) := ⟨rfl, rfl, rfl, by decide +kernel, rfl, by decide +kernel, by decide +kernel⟩
  refine F.mk sc rfl rfl (fun _ _ _ _ _ _ us hl => match us, hl with | [_, _, _], _ => rfl) fun cdv A outer s H E hr => ?_
  exact (dss_cons (ds_set (i := 3) sc.nd rfl (by first | exact Or.inl rfl | exact Or.inr rfl) (dv_callD d__law_handed_table hr (da_cons (dv_var (pv 0)) (da_cons (dv_var (pv 2)) da_nil)))) (dss_cons (ds_set (i := 4) sc.nd rfl (by first | exact Or.inl rfl | exact Or.inr rfl) (dv_callD d__law_same_table hr (da_cons (dv_callD d_power hr (da_cons (dv_var (pv 3)) (da_cons (dv_var (pv 1)) da_nil))) (da_cons (dv_callD d__law_power hr (da_cons (dv_var (pv 0)) (da_cons (dv_var (pv 1)) da_nil))) da_nil)))) (dss_cons (ds_set (i := 4) sc.nd rfl (by first | exact Or.inl rfl | exact Or.inr rfl) (dv_and (dv_var (pv 4)) (dv_one (dv_callD d__law_same_table hr (da_cons (dv_callD d_power hr (da_cons (dv_var (pv 3)) (da_cons dv_int da_nil))) (da_cons (dv_tup (da_cons (dv_tup (da_cons dv_int (da_cons dv_int (da_cons dv_int da_nil)))) (da_cons (dv_tup (da_cons dv_int (da_cons dv_int (da_cons dv_int da_nil)))) (da_cons (dv_tup (da_cons dv_int (da_cons dv_int (da_cons dv_int da_nil)))) da_nil)))) da_nil)))))) (dss_one (ds_ret (dv_and (dv_var (pv 4)) (dv_and (dv_callD d__law_same_table hr (da_cons (dv_callD d_power hr (da_cons (dv_var (pv 3)) (da_cons dv_int da_nil))) (da_cons (dv_var (pv 0)) da_nil))) (dv_one (dv_callD d__law_stayed hr (da_cons (dv_var (pv 3)) (da_cons (dv_var (pv 0)) da_nil)))))))))))
abbrev s_law : Stmt := top 72
noncomputable def b_law : ES := (sSeq (sSet 1 (eCall m__law_digits (aCons (eCall m__law_cell (aCons (eVar 0) (aCons (eC (.int 0)) aNil))) (aCons (eOfF (aCons (eC (.int 7)) (aCons (eC (.int 7)) (aCons (eC (.int 3)) (aCons (eC (.int 3)) (aCons (eC (.int 4)) (aCons (eC (.int 4)) (aCons (eC (.int 2)) (aCons (eC (.int 6)) (aCons (eC (.int 13)) (aCons (eC (.int 201)) aNil))))))))))) aNil)))) (sSeq (sSet 2 (eCall m__law_unimodular (aCons (eVar 0) (aCons (eBin gIx (eVar 1) (eC (.int 0))) aNil)))) (sSeq (sSetF 3 (fComp (iRg2 (eC (.int 13)) (eC (.int 23))) (gNm 6) bYes (eCall m__law_number (aCons (eCall m__law_cell (aCons (eVar 0) (aCons (eVar 6) aNil))) aNil)) [6])) (sSeq (sSet 4 (eCall m__law_other (aCons (eVar 2) (aCons (eVar 3) (aCons (eSl (eVar 1) (oSome (eC (.int 1))) (oSome (eC (.int 4)))) aNil))))) (sSeq (sSet 5 (eBin gIx (eVar 1) (eC (.int 8)))) (sSeq (sIf (bVal (eBin gEq (eBin gIx (eVar 1) (eC (.int 7))) (eC (.int 0)))) (sSet 5 (eBin gIx (eVar 1) (eC (.int 9)))) sNx) (sSeq (sIf (bVal (eBin gEq (eBin gIx (eVar 1) (eC (.int 7))) (eC (.int 1)))) (sSet 5 (eBin gSub (eC (.int 200)) (eBin gIx (eVar 1) (eC (.int 8))))) sNx) (sSeq (sIf (bNot (bVal (eCall m__law_same_table (aCons (eC c_IDLE) (aCons (eTup (aCons (eTup (aCons (eC (.int 1)) (aCons (eC (.int 0)) (aCons (eC (.int 0)) aNil)))) (aCons (eTup (aCons (eC (.int 0)) (aCons (eC (.int 1)) (aCons (eC (.int 0)) aNil)))) (aCons (eTup (aCons (eC (.int 0)) (aCons (eC (.int 0)) (aCons (eC (.int 1)) aNil)))) aNil)))) aNil))))) (sRet (eC (.bool false))) sNx) (sSeq (sIf (bOr (bNot (bVal (eCall m__law_inverse_right (aCons (eVar 2) (aCons (eBin gIx (eVar 1) (eC (.int 4))) aNil))))) (bNot (bVal (eCall m__law_inverse_right (aCons (eVar 4) (aCons (eBin gIx (eVar 1) (eC (.int 5))) aNil)))))) (sRet (eC (.bool false))) sNx) (sRet (eCall m__law_power_right (aCons (eBin gIx (eOfF (aCons (eVar 2) (aCons (eVar 4) aNil))) (eBin gIx (eVar 1) (eC (.int 6)))) (aCons (eVar 5) (aCons (eBin gIx (eVar 1) (eC (.int 4))) aNil))))))))))))))
noncomputable def m_law : List PyData → Option PyData := runD 6 b_law
abbrev N_law : List Str := ["script", "shape", "table", "numbers", "other", "exponent", "k"]
theorem ok_law (F : Fd K mg "law" s_law) (d__law_cell : Def P w K mg base "_law_cell" 1 2 m__law_cell) (d__law_digits : Def P w K mg base "_law_digits" 1 2 m__law_digits) (d__law_unimodular : Def P w K mg base "_law_unimodular" 3 2 m__law_unimodular) (d__law_number : Def P w K mg base "_law_number" 2 1 m__law_number) (d__law_other : Def P w K mg base "_law_other" 2 3 m__law_other) (d__law_same_table : Def P w K mg base "_law_same_table" 4 2 m__law_same_table) (d__law_inverse_right : Def P w K mg base "_law_inverse_right" 6 2 m__law_inverse_right) (d__law_power_right : Def P w K mg base "_law_power_right" 5 3 m__law_power_right) (z_range : mg "range" = none) (k_IDLE : Gk K mg "IDLE" c_IDLE) : Def P w K mg base "law" 7 1 m_law := by
  have sc : FnScope N_law ["script"] (defScope s_law) := ⟨rfl, rfl, rfl, by decide +kernel, rfl, by decide +kernel, by decide +kernel⟩
  refine F.mk sc rfl rfl (fun _ _ _ _ _ _ us hl => match us, hl with | [_], _ => rfl) fun cdv A outer s H E hr => ?_
  exact (dss_cons (ds_set (i := 1) sc.nd rfl (by first | exact Or.inl rfl | exact Or.inr rfl) (dv_callD d__law_digits hr (da_cons (dv_callD d__law_cell hr (da_cons (dv_var (pv 0)) (da_cons dv_int da_nil))) (da_cons (dv_ofF (df_lst (da_cons dv_int (da_cons dv_int (da_cons dv_int (da_cons dv_int (da_cons dv_int (da_cons dv_int (da_cons dv_int (da_cons dv_int (da_cons dv_int (da_cons dv_int da_nil)))))))))))) da_nil)))) (dss_cons (ds_set (i := 2) sc.nd rfl (by first | exact Or.inl rfl | exact Or.inr rfl) (dv_callD d__law_unimodular hr (da_cons (dv_var (pv 0)) (da_cons (dv_ix ix_g (dv_var (pv 1)) dv_int) da_nil)))) (dss_cons (ds_lcV (i := 3) (own := [("k", 6)]) rfl sc.nd rfl rfl (sw_true rfl rfl rfl (by decide +kernel)) (di_rg2 (by rfl) z_range dv_int dv_int) (blkOk_by (N := N_law) (sc := defScope s_law) (by decide +kernel)) (fun _ _ _ _ _ => (dg_name (pg_name (i := 6) sc.nd rfl (by first | exact Or.inl rfl | exact Or.inr rfl)))) (fun _ _ _ _ _ => dx_nil) (fun _ _ _ _ _ => (dv_callD d__law_number hr (da_cons (dv_callD d__law_cell hr (da_cons (dv_var (pv 0)) (da_cons (dv_var (pv 6)) da_nil))) da_nil)))) (dss_cons (ds_set (i := 4) sc.nd rfl (by first | exact Or.inl rfl | exact Or.inr rfl) (dv_callD d__law_other hr (da_cons (dv_var (pv 2)) (da_cons (dv_var (pv 3)) (da_cons (dv_sl (dv_var (pv 1)) (do_some dv_int) (do_some dv_int)) da_nil))))) (dss_cons (ds_set (i := 5) sc.nd rfl (by first | exact Or.inl rfl | exact Or.inr rfl) (dv_ix ix_g (dv_var (pv 1)) dv_int)) (dss_cons (ds_if (dt_cmp (o_eq hr.units) (dv_ix ix_g (dv_var (pv 1)) dv_int) dv_int) (dss_one (ds_set (i := 5) sc.nd rfl (by first | exact Or.inl rfl | exact Or.inr rfl) (dv_ix ix_g (dv_var (pv 1)) dv_int))) dss_nil) (dss_cons (ds_if (dt_cmp (o_eq hr.units) (dv_ix ix_g (dv_var (pv 1)) dv_int) dv_int) (dss_one (ds_set (i := 5) sc.nd rfl (by first | exact Or.inl rfl | exact Or.inr rfl) (dv_bin o_sub dv_int (dv_ix ix_g (dv_var (pv 1)) dv_int)))) dss_nil) (dss_cons (ds_if (dt_not (dt_val (dv_callD d__law_same_table hr (da_cons (dv_glob (by rfl) k_IDLE) (da_cons (dv_tup (da_cons (dv_tup (da_cons dv_int (da_cons dv_int (da_cons dv_int da_nil)))) (da_cons (dv_tup (da_cons dv_int (da_cons dv_int (da_cons dv_int da_nil)))) (da_cons (dv_tup (da_cons dv_int (da_cons dv_int (da_cons dv_int da_nil)))) da_nil)))) da_nil))))) (dss_one (ds_ret dv_bl)) dss_nil) (dss_cons (ds_if (dt_w (dw_or (dt_not (dt_val (dv_callD d__law_inverse_right hr (da_cons (dv_var (pv 2)) (da_cons (dv_ix ix_g (dv_var (pv 1)) dv_int) da_nil))))) (dw_or1 (dt_not (dt_val (dv_callD d__law_inverse_right hr (da_cons (dv_var (pv 4)) (da_cons (dv_ix ix_g (dv_var (pv 1)) dv_int) da_nil)))))))) (dss_one (ds_ret dv_bl)) dss_nil) (dss_one (ds_ret (dv_callD d__law_power_right hr (da_cons (dv_ix ix_g (dv_ofF (df_lst (da_cons (dv_var (pv 2)) (da_cons (dv_var (pv 4)) da_nil)))) (dv_ix ix_g (dv_var (pv 1)) dv_int)) (da_cons (dv_var (pv 5)) (da_cons (dv_ix ix_g (dv_var (pv 1)) dv_int) da_nil)))))))))))))))
theorem fn_law {fa : Addr} {fd : FuncData} (F0 : FnP K "law" s_law fa fd) (d__law_cell : Def P w K mg base "_law_cell" 1 2 m__law_cell) (d__law_digits : Def P w K mg base "_law_digits" 1 2 m__law_digits) (d__law_unimodular : Def P w K mg base "_law_unimodular" 3 2 m__law_unimodular) (d__law_number : Def P w K mg base "_law_number" 2 1 m__law_number) (d__law_other : Def P w K mg base "_law_other" 2 3 m__law_other) (d__law_same_table : Def P w K mg base "_law_same_table" 4 2 m__law_same_table) (d__law_inverse_right : Def P w K mg base "_law_inverse_right" 6 2 m__law_inverse_right) (d__law_power_right : Def P w K mg base "_law_power_right" 5 3 m__law_power_right) (z_range : mg "range" = none) (k_IDLE : Gk K mg "IDLE" c_IDLE) : FnOk P w K mg base CX0 7 fa fd ["script"] (spD K 1 m_law) := by
  have sc : FnScope N_law ["script"] (defScope s_law) := ⟨rfl, rfl, rfl, by decide +kernel, rfl, by decide +kernel, by decide +kernel⟩
  refine fnOk F0 sc rfl rfl fun cdv A outer s H E hr => ?_
  exact (dss_cons (ds_set (i := 1) sc.nd rfl (by first | exact Or.inl rfl | exact Or.inr rfl) (dv_callD d__law_digits hr (da_cons (dv_callD d__law_cell hr (da_cons (dv_var (pv 0)) (da_cons dv_int da_nil))) (da_cons (dv_ofF (df_lst (da_cons dv_int (da_cons dv_int (da_cons dv_int (da_cons dv_int (da_cons dv_int (da_cons dv_int (da_cons dv_int (da_cons dv_int (da_cons dv_int (da_cons dv_int da_nil)))))))))))) da_nil)))) (dss_cons (ds_set (i := 2) sc.nd rfl (by first | exact Or.inl rfl | exact Or.inr rfl) (dv_callD d__law_unimodular hr (da_cons (dv_var (pv 0)) (da_cons (dv_ix ix_g (dv_var (pv 1)) dv_int) da_nil)))) (dss_cons (ds_lcV (i := 3) (own := [("k", 6)]) rfl sc.nd rfl rfl (sw_true rfl rfl rfl (by decide +kernel)) (di_rg2 (by rfl) z_range dv_int dv_int) (blkOk_by (N := N_law) (sc := defScope s_law) (by decide +kernel)) (fun _ _ _ _ _ => (dg_name (pg_name (i := 6) sc.nd rfl (by first | exact Or.inl rfl | exact Or.inr rfl)))) (fun _ _ _ _ _ => dx_nil) (fun _ _ _ _ _ => (dv_callD d__law_number hr (da_cons (dv_callD d__law_cell hr (da_cons (dv_var (pv 0)) (da_cons (dv_var (pv 6)) da_nil))) da_nil)))) (dss_cons (ds_set (i := 4) sc.nd rfl (by first | exact Or.inl rfl | exact Or.inr rfl) (dv_callD d__law_other hr (da_cons (dv_var (pv 2)) (da_cons (dv_var (pv 3)) (da_cons (dv_sl (dv_var (pv 1)) (do_some dv_int) (do_some dv_int)) da_nil))))) (dss_cons (ds_set (i := 5) sc.nd rfl (by first | exact Or.inl rfl | exact Or.inr rfl) (dv_ix ix_g (dv_var (pv 1)) dv_int)) (dss_cons (ds_if (dt_cmp (o_eq hr.units) (dv_ix ix_g (dv_var (pv 1)) dv_int) dv_int) (dss_one (ds_set (i := 5) sc.nd rfl (by first | exact Or.inl rfl | exact Or.inr rfl) (dv_ix ix_g (dv_var (pv 1)) dv_int))) dss_nil) (dss_cons (ds_if (dt_cmp (o_eq hr.units) (dv_ix ix_g (dv_var (pv 1)) dv_int) dv_int) (dss_one (ds_set (i := 5) sc.nd rfl (by first | exact Or.inl rfl | exact Or.inr rfl) (dv_bin o_sub dv_int (dv_ix ix_g (dv_var (pv 1)) dv_int)))) dss_nil) (dss_cons (ds_if (dt_not (dt_val (dv_callD d__law_same_table hr (da_cons (dv_glob (by rfl) k_IDLE) (da_cons (dv_tup (da_cons (dv_tup (da_cons dv_int (da_cons dv_int (da_cons dv_int da_nil)))) (da_cons (dv_tup (da_cons dv_int (da_cons dv_int (da_cons dv_int da_nil)))) (da_cons (dv_tup (da_cons dv_int (da_cons dv_int (da_cons dv_int da_nil)))) da_nil)))) da_nil))))) (dss_one (ds_ret dv_bl)) dss_nil) (dss_cons (ds_if (dt_w (dw_or (dt_not (dt_val (dv_callD d__law_inverse_right hr (da_cons (dv_var (pv 2)) (da_cons (dv_ix ix_g (dv_var (pv 1)) dv_int) da_nil))))) (dw_or1 (dt_not (dt_val (dv_callD d__law_inverse_right hr (da_cons (dv_var (pv 4)) (da_cons (dv_ix ix_g (dv_var (pv 1)) dv_int) da_nil)))))))) (dss_one (ds_ret dv_bl)) dss_nil) (dss_one (ds_ret (dv_callD d__law_power_right hr (da_cons (dv_ix ix_g (dv_ofF (df_lst (da_cons (dv_var (pv 2)) (da_cons (dv_var (pv 4)) da_nil)))) (dv_ix ix_g (dv_var (pv 1)) dv_int)) (da_cons (dv_var (pv 5)) (da_cons (dv_ix ix_g (dv_var (pv 1)) dv_int) da_nil)))))))))))))))
end
end W

set_option linter.all false
set_option maxRecDepth 100000
set_option maxHeartbeats 2000000
namespace DL
open PySem
theorem rng_zero (lo : Int) : rng lo 0 = [] := rfl
theorem rng_succ (lo : Int) (n : Nat) : rng lo (n + 1) = .int lo :: rng (lo + 1) n := by
  unfold rng
  rw [List.range_succ_eq_map, List.map_cons, List.map_map]
  congr 1
  · simp
  · apply List.map_congr_left
    intro i _
    simp only [Function.comp]
    congr 1
    omega
/-- digits below their limits -/
def inD : List Int → List Int → Prop
  | [], [] => True
  | d :: ds, l :: ls => 0 ≤ d ∧ d < l ∧ inD ds ls
  | _, _ => False
theorem inD_len : ∀ {ds ls : List Int}, inD ds ls → ds.length = ls.length
  | [], [], _ => rfl
  | _ :: _, _ :: _, h => congrArg (· + 1) (inD_len h.2.2)
  | [], _ :: _, h => h.elim
  | _ :: _, [], h => h.elim
theorem inD_cons {ds ls : List Int} {l : Int} (h : inD ds (l :: ls)) : ∃ d r, ds = d :: r ∧ 0 ≤ d ∧ d < l ∧ inD r ls := by
  cases ds with
  | nil => exact h.elim
  | cons d r => exact ⟨d, r, rfl, h⟩
theorem inD_nil {ds : List Int} (h : inD ds []) : ds = [] := by
  cases ds with
  | nil => rfl
  | cons d r => exact h.elim
end DL
namespace DL
open PySem L2
/-! ### the greatest common divisor by steps -/
theorem half_mod {y r : Nat} {m : Nat} (hr : 0 < r) (h1 : r < y) (h : y < 2 * m) : y % r < m := by
  by_cases c : 2 * r ≤ y
  · have := Nat.mod_lt y hr
    omega
  · rw [Nat.mod_eq_sub_mod (by omega), Nat.mod_eq_of_lt (by omega)]
    omega
theorem abs_nat (a : Int) : (if a < 0 then -a else a) = (a.natAbs : Int) := by split <;> omega
theorem gcd_lt {x y n : Nat} (hx : x < n) (hy : y < n) : x.gcd y < n := by
  by_cases h : x = 0
  · subst h
    rw [Nat.gcd_zero_left]
    exact hy
  · exact Nat.lt_of_le_of_lt (Nat.gcd_le_left y (by omega)) hx
theorem emod_nat (x y : Nat) : (x : Int) % (y : Int) = ((x % y : Nat) : Int) := rfl
def V3.cont (v : V3) : Int := (((v.x.natAbs.gcd v.y.natAbs).gcd v.z.natAbs : Nat) : Int)
def V3.prim (v : V3) : V3 := if v.cont = 0 then ⟨0, 0, 0⟩ else ⟨v.x / v.cont, v.y / v.cont, v.z / v.cont⟩
theorem V3.cont_zero {v : V3} (h : v.cont = 0) : v = ⟨0, 0, 0⟩ := by
  unfold V3.cont at h
  have h1 : (v.x.natAbs.gcd v.y.natAbs).gcd v.z.natAbs = 0 := by omega
  obtain ⟨h2, h3⟩ := Nat.gcd_eq_zero_iff.mp h1
  obtain ⟨h4, h5⟩ := Nat.gcd_eq_zero_iff.mp h2
  exact V3.ext' (by show v.x = 0; omega) (by show v.y = 0; omega) (by show v.z = 0; omega)
theorem V3.cont_lt {n : Nat} {v : V3} (h : BV n v) : (v.x.natAbs.gcd v.y.natAbs).gcd v.z.natAbs < 2 ^ n := gcd_lt (gcd_lt h.x h.y) h.z
theorem V3.cont_pos {v : V3} (h : ¬ v.cont = 0) : 0 < v.cont := by
  unfold V3.cont at h ⊢
  omega
theorem log_lt {n : Nat} {i : Int} (h : i.natAbs < 2 ^ n) (l : n < 8999) : i.natAbs.log2 < 9000 := by
  have h2 : i.natAbs < 2 ^ (n + 1) := Nat.lt_of_lt_of_le h (Nat.pow_le_pow_right (by decide) (Nat.le_succ _))
  exact Nat.lt_of_lt_of_le (PySem.Flt.log2_lt_of (Nat.succ_pos _) h2) (by omega)
theorem ix30 : ixN 3 0 = some 0 := by decide
theorem ix31 : ixN 3 1 = some 1 := by decide
theorem ix32 : ixN 3 2 = some 2 := by decide
end DL
namespace W
open PySem DL L2
section
variable {n m o : Nat} {j k l : Bool} {u v w : V3} {s t : M3} {i : Int}

theorem v_times [Bd n i] [BV m v] (h : n + m + 2 ≤ 1000000) : m_times [.int i, rw3 k v] = some (rw3 true (v.smul i)) := by
  simp only [m_times, b_times, runD, List.map_cons, List.map_nil, List.replicate_zero, List.replicate_succ, List.cons_append, List.nil_append, List.append_nil, sRet, sRetN, sNx, sSeq, sSet, sSetF, sOwn, sTo, gsCons, gsNil, sPar, sPar3, eChain, sExp, sApp, sPut, sIf, sFrz, frz, frz1, List.foldl_cons, List.foldl_nil, eBin, eUn, eVar, eC, eAnd, eOr, eIf, eLend, flat, eIxO, eOfF, eTup, eAll, fAll, eCall, eIs, eSl, fSl, oNone, oSome, aNil, aCons, bVal, bAnd, bOr, bNot, bYes, blOf, gNot, iSeq, iRg1, iRg2, seq_l, seq_t, tup_l, tup_t, lst_l, lst_t, len_l, len_t, gIx_l, gIx_t, gNm, wipeR, List.getElem?_cons_zero, List.getElem?_cons_succ, List.set_cons_zero, List.set_cons_succ, Option.bind_some, Option.bind_none, Option.map_some, Option.map_none, if_true, if_false, decide_true, decide_false, Bool.not_true, Bool.not_false, Bool.false_eq_true, reduceIte, gAdd_i, gSub_i, gNeg_i, gLt_i, gLe_i, gGt_i, gGe_i, gEq_i, gNe_i, gMul_b, gMod_p, gFdiv_p, Nat.reduceAdd, Nat.reduceMul, Nat.reduceLeDiff, at0, at1, at2, at3, at4, at5, at6, at7, at8, at9, at10, at11, at12, at13, at14, at15, gSl_l, cut_pos, cut_from, cut_to, Int.reduceToNat, List.drop_succ_cons, List.drop_zero, List.take_succ_cons, List.take_zero, List.take_nil, Nat.reduceSub, Int.reduceAdd, Int.reduceSub, Int.reduceMul, Int.reduceMod, Int.reduceDiv, Int.reduceNeg, List.length_cons, List.length_nil, Nat.zero_add, fComp, compL, rg1_3, mInt, mAbs, mGcd, mMax2, mMin2, mMax3, mMin3, mIsqrt, isT, ix_r0, ix_r1, ix_r2, h]
  rfl

theorem v_dot [BV n u] [BV m v] (h : n + m + 2 ≤ 1000000) : m_dot [rw3 k u, rw3 l v] = some (.int (u.dot v)) := by
  simp only [m_dot, b_dot, runD, List.map_cons, List.map_nil, List.replicate_zero, List.replicate_succ, List.cons_append, List.nil_append, List.append_nil, sRet, sRetN, sNx, sSeq, sSet, sSetF, sOwn, sTo, gsCons, gsNil, sPar, sPar3, eChain, sExp, sApp, sPut, sIf, sFrz, frz, frz1, List.foldl_cons, List.foldl_nil, eBin, eUn, eVar, eC, eAnd, eOr, eIf, eLend, flat, eIxO, eOfF, eTup, eAll, fAll, eCall, eIs, eSl, fSl, oNone, oSome, aNil, aCons, bVal, bAnd, bOr, bNot, bYes, blOf, gNot, iSeq, iRg1, iRg2, seq_l, seq_t, tup_l, tup_t, lst_l, lst_t, len_l, len_t, gIx_l, gIx_t, gNm, wipeR, List.getElem?_cons_zero, List.getElem?_cons_succ, List.set_cons_zero, List.set_cons_succ, Option.bind_some, Option.bind_none, Option.map_some, Option.map_none, if_true, if_false, decide_true, decide_false, Bool.not_true, Bool.not_false, Bool.false_eq_true, reduceIte, gAdd_i, gSub_i, gNeg_i, gLt_i, gLe_i, gGt_i, gGe_i, gEq_i, gNe_i, gMul_b, gMod_p, gFdiv_p, Nat.reduceAdd, Nat.reduceMul, Nat.reduceLeDiff, at0, at1, at2, at3, at4, at5, at6, at7, at8, at9, at10, at11, at12, at13, at14, at15, gSl_l, cut_pos, cut_from, cut_to, Int.reduceToNat, List.drop_succ_cons, List.drop_zero, List.take_succ_cons, List.take_zero, List.take_nil, Nat.reduceSub, Int.reduceAdd, Int.reduceSub, Int.reduceMul, Int.reduceMod, Int.reduceDiv, Int.reduceNeg, List.length_cons, List.length_nil, Nat.zero_add, fComp, compL, rg1_3, mInt, mAbs, mGcd, mMax2, mMin2, mMax3, mMin3, mIsqrt, isT, ix_r0, ix_r1, ix_r2, h]
  rfl

theorem v_cross [BV n u] [BV m v] (h : n + m + 2 ≤ 1000000) : m_cross [rw3 k u, rw3 l v] = some (rw3 true (u.cross v)) := by
  simp only [m_cross, b_cross, runD, List.map_cons, List.map_nil, List.replicate_zero, List.replicate_succ, List.cons_append, List.nil_append, List.append_nil, sRet, sRetN, sNx, sSeq, sSet, sSetF, sOwn, sTo, gsCons, gsNil, sPar, sPar3, eChain, sExp, sApp, sPut, sIf, sFrz, frz, frz1, List.foldl_cons, List.foldl_nil, eBin, eUn, eVar, eC, eAnd, eOr, eIf, eLend, flat, eIxO, eOfF, eTup, eAll, fAll, eCall, eIs, eSl, fSl, oNone, oSome, aNil, aCons, bVal, bAnd, bOr, bNot, bYes, blOf, gNot, iSeq, iRg1, iRg2, seq_l, seq_t, tup_l, tup_t, lst_l, lst_t, len_l, len_t, gIx_l, gIx_t, gNm, wipeR, List.getElem?_cons_zero, List.getElem?_cons_succ, List.set_cons_zero, List.set_cons_succ, Option.bind_some, Option.bind_none, Option.map_some, Option.map_none, if_true, if_false, decide_true, decide_false, Bool.not_true, Bool.not_false, Bool.false_eq_true, reduceIte, gAdd_i, gSub_i, gNeg_i, gLt_i, gLe_i, gGt_i, gGe_i, gEq_i, gNe_i, gMul_b, gMod_p, gFdiv_p, Nat.reduceAdd, Nat.reduceMul, Nat.reduceLeDiff, at0, at1, at2, at3, at4, at5, at6, at7, at8, at9, at10, at11, at12, at13, at14, at15, gSl_l, cut_pos, cut_from, cut_to, Int.reduceToNat, List.drop_succ_cons, List.drop_zero, List.take_succ_cons, List.take_zero, List.take_nil, Nat.reduceSub, Int.reduceAdd, Int.reduceSub, Int.reduceMul, Int.reduceMod, Int.reduceDiv, Int.reduceNeg, List.length_cons, List.length_nil, Nat.zero_add, fComp, compL, rg1_3, mInt, mAbs, mGcd, mMax2, mMin2, mMax3, mMin3, mIsqrt, isT, ix_r0, ix_r1, ix_r2, h]
  rfl

theorem v_transpose : m_transpose [tb j k t] = some (tb true true t.tr) := by
  simp only [m_transpose, b_transpose, runD, List.map_cons, List.map_nil, List.replicate_zero, List.replicate_succ, List.cons_append, List.nil_append, List.append_nil, sRet, sRetN, sNx, sSeq, sSet, sSetF, sOwn, sTo, gsCons, gsNil, sPar, sPar3, eChain, sExp, sApp, sPut, sIf, sFrz, frz, frz1, List.foldl_cons, List.foldl_nil, eBin, eUn, eVar, eC, eAnd, eOr, eIf, eLend, flat, eIxO, eOfF, eTup, eAll, fAll, eCall, eIs, eSl, fSl, oNone, oSome, aNil, aCons, bVal, bAnd, bOr, bNot, bYes, blOf, gNot, iSeq, iRg1, iRg2, seq_l, seq_t, tup_l, tup_t, lst_l, lst_t, len_l, len_t, gIx_l, gIx_t, gNm, wipeR, List.getElem?_cons_zero, List.getElem?_cons_succ, List.set_cons_zero, List.set_cons_succ, Option.bind_some, Option.bind_none, Option.map_some, Option.map_none, if_true, if_false, decide_true, decide_false, Bool.not_true, Bool.not_false, Bool.false_eq_true, reduceIte, gAdd_i, gSub_i, gNeg_i, gLt_i, gLe_i, gGt_i, gGe_i, gEq_i, gNe_i, gMul_b, gMod_p, gFdiv_p, Nat.reduceAdd, Nat.reduceMul, Nat.reduceLeDiff, at0, at1, at2, at3, at4, at5, at6, at7, at8, at9, at10, at11, at12, at13, at14, at15, gSl_l, cut_pos, cut_from, cut_to, Int.reduceToNat, List.drop_succ_cons, List.drop_zero, List.take_succ_cons, List.take_zero, List.take_nil, Nat.reduceSub, Int.reduceAdd, Int.reduceSub, Int.reduceMul, Int.reduceMod, Int.reduceDiv, Int.reduceNeg, List.length_cons, List.length_nil, Nat.zero_add, fComp, compL, rg1_3, mInt, mAbs, mGcd, mMax2, mMin2, mMax3, mMin3, mIsqrt, isT, ix_r0, ix_r1, ix_r2, ix_t0, ix_t1, ix_t2]
  rfl

theorem v_product {j' k' : Bool} [BM n s] [BM m t] (h : n + m + 2 ≤ 1000000) : m_product [tb j k s, tb j' k' t] = some (tb true true (s.mul t)) := by
  simp only [m_product, b_product, runD, List.map_cons, List.map_nil, List.replicate_zero, List.replicate_succ, List.cons_append, List.nil_append, List.append_nil, sRet, sRetN, sNx, sSeq, sSet, sSetF, sOwn, sTo, gsCons, gsNil, sPar, sPar3, eChain, sExp, sApp, sPut, sIf, sFrz, frz, frz1, List.foldl_cons, List.foldl_nil, eBin, eUn, eVar, eC, eAnd, eOr, eIf, eLend, flat, eIxO, eOfF, eTup, eAll, fAll, eCall, eIs, eSl, fSl, oNone, oSome, aNil, aCons, bVal, bAnd, bOr, bNot, bYes, blOf, gNot, iSeq, iRg1, iRg2, seq_l, seq_t, tup_l, tup_t, lst_l, lst_t, len_l, len_t, gIx_l, gIx_t, gNm, wipeR, List.getElem?_cons_zero, List.getElem?_cons_succ, List.set_cons_zero, List.set_cons_succ, Option.bind_some, Option.bind_none, Option.map_some, Option.map_none, if_true, if_false, decide_true, decide_false, Bool.not_true, Bool.not_false, Bool.false_eq_true, reduceIte, gAdd_i, gSub_i, gNeg_i, gLt_i, gLe_i, gGt_i, gGe_i, gEq_i, gNe_i, gMul_b, gMod_p, gFdiv_p, Nat.reduceAdd, Nat.reduceMul, Nat.reduceLeDiff, at0, at1, at2, at3, at4, at5, at6, at7, at8, at9, at10, at11, at12, at13, at14, at15, gSl_l, cut_pos, cut_from, cut_to, Int.reduceToNat, List.drop_succ_cons, List.drop_zero, List.take_succ_cons, List.take_zero, List.take_nil, Nat.reduceSub, Int.reduceAdd, Int.reduceSub, Int.reduceMul, Int.reduceMod, Int.reduceDiv, Int.reduceNeg, List.length_cons, List.length_nil, Nat.zero_add, fComp, compL, rg1_3, mInt, mAbs, mGcd, mMax2, mMin2, mMax3, mMin3, mIsqrt, isT, ix_r0, ix_r1, ix_r2, ix_t0, ix_t1, ix_t2, v_transpose, v_dot, seq_tb, h]
  rfl

theorem v_determinant [BM n t] (h : n + (n + n + 1) + 2 ≤ 1000000) : m_determinant [tb j k t] = some (.int t.det) := by
  simp only [m_determinant, b_determinant, runD, List.map_cons, List.map_nil, List.replicate_zero, List.replicate_succ, List.cons_append, List.nil_append, List.append_nil, sRet, sRetN, sNx, sSeq, sSet, sSetF, sOwn, sTo, gsCons, gsNil, sPar, sPar3, eChain, sExp, sApp, sPut, sIf, sFrz, frz, frz1, List.foldl_cons, List.foldl_nil, eBin, eUn, eVar, eC, eAnd, eOr, eIf, eLend, flat, eIxO, eOfF, eTup, eAll, fAll, eCall, eIs, eSl, fSl, oNone, oSome, aNil, aCons, bVal, bAnd, bOr, bNot, bYes, blOf, gNot, iSeq, iRg1, iRg2, seq_l, seq_t, tup_l, tup_t, lst_l, lst_t, len_l, len_t, gIx_l, gIx_t, gNm, wipeR, List.getElem?_cons_zero, List.getElem?_cons_succ, List.set_cons_zero, List.set_cons_succ, Option.bind_some, Option.bind_none, Option.map_some, Option.map_none, if_true, if_false, decide_true, decide_false, Bool.not_true, Bool.not_false, Bool.false_eq_true, reduceIte, gAdd_i, gSub_i, gNeg_i, gLt_i, gLe_i, gGt_i, gGe_i, gEq_i, gNe_i, gMul_b, gMod_p, gFdiv_p, Nat.reduceAdd, Nat.reduceMul, Nat.reduceLeDiff, at0, at1, at2, at3, at4, at5, at6, at7, at8, at9, at10, at11, at12, at13, at14, at15, gSl_l, cut_pos, cut_from, cut_to, Int.reduceToNat, List.drop_succ_cons, List.drop_zero, List.take_succ_cons, List.take_zero, List.take_nil, Nat.reduceSub, Int.reduceAdd, Int.reduceSub, Int.reduceMul, Int.reduceMod, Int.reduceDiv, Int.reduceNeg, List.length_cons, List.length_nil, Nat.zero_add, fComp, compL, rg1_3, mInt, mAbs, mGcd, mMax2, mMin2, mMax3, mMin3, mIsqrt, isT, ix_t0, ix_t1, ix_t2, v_dot, v_cross, h, show n + n + 2 ≤ 1000000 by omega]
  rfl

theorem v_columns : m_columns [rw3 k u, rw3 k v, rw3 k w] = some (tb true true (M3.tr ⟨u, v, w⟩)) := by
  simp only [m_columns, b_columns, runD, List.map_cons, List.map_nil, List.replicate_zero, List.replicate_succ, List.cons_append, List.nil_append, List.append_nil, sRet, sRetN, sNx, sSeq, sSet, sSetF, sOwn, sTo, gsCons, gsNil, sPar, sPar3, eChain, sExp, sApp, sPut, sIf, sFrz, frz, frz1, List.foldl_cons, List.foldl_nil, eBin, eUn, eVar, eC, eAnd, eOr, eIf, eLend, flat, eIxO, eOfF, eTup, eAll, fAll, eCall, eIs, eSl, fSl, oNone, oSome, aNil, aCons, bVal, bAnd, bOr, bNot, bYes, blOf, gNot, iSeq, iRg1, iRg2, seq_l, seq_t, tup_l, tup_t, lst_l, lst_t, len_l, len_t, gIx_l, gIx_t, gNm, wipeR, List.getElem?_cons_zero, List.getElem?_cons_succ, List.set_cons_zero, List.set_cons_succ, Option.bind_some, Option.bind_none, Option.map_some, Option.map_none, if_true, if_false, decide_true, decide_false, Bool.not_true, Bool.not_false, Bool.false_eq_true, reduceIte, gAdd_i, gSub_i, gNeg_i, gLt_i, gLe_i, gGt_i, gGe_i, gEq_i, gNe_i, gMul_b, gMod_p, gFdiv_p, Nat.reduceAdd, Nat.reduceMul, Nat.reduceLeDiff, at0, at1, at2, at3, at4, at5, at6, at7, at8, at9, at10, at11, at12, at13, at14, at15, gSl_l, cut_pos, cut_from, cut_to, Int.reduceToNat, List.drop_succ_cons, List.drop_zero, List.take_succ_cons, List.take_zero, List.take_nil, Nat.reduceSub, Int.reduceAdd, Int.reduceSub, Int.reduceMul, Int.reduceMod, Int.reduceDiv, Int.reduceNeg, List.length_cons, List.length_nil, Nat.zero_add, fComp, compL, rg1_3, mInt, mAbs, mGcd, mMax2, mMin2, mMax3, mMin3, mIsqrt, isT, tab_t, v_transpose]

theorem v_adjugate [BM n t] (h : n + n + 2 ≤ 1000000) : m_adjugate [tb j k t] = some (tb true true t.adj) := by
  simp only [m_adjugate, b_adjugate, runD, List.map_cons, List.map_nil, List.replicate_zero, List.replicate_succ, List.cons_append, List.nil_append, List.append_nil, sRet, sRetN, sNx, sSeq, sSet, sSetF, sOwn, sTo, gsCons, gsNil, sPar, sPar3, eChain, sExp, sApp, sPut, sIf, sFrz, frz, frz1, List.foldl_cons, List.foldl_nil, eBin, eUn, eVar, eC, eAnd, eOr, eIf, eLend, flat, eIxO, eOfF, eTup, eAll, fAll, eCall, eIs, eSl, fSl, oNone, oSome, aNil, aCons, bVal, bAnd, bOr, bNot, bYes, blOf, gNot, iSeq, iRg1, iRg2, seq_l, seq_t, tup_l, tup_t, lst_l, lst_t, len_l, len_t, gIx_l, gIx_t, gNm, wipeR, List.getElem?_cons_zero, List.getElem?_cons_succ, List.set_cons_zero, List.set_cons_succ, Option.bind_some, Option.bind_none, Option.map_some, Option.map_none, if_true, if_false, decide_true, decide_false, Bool.not_true, Bool.not_false, Bool.false_eq_true, reduceIte, gAdd_i, gSub_i, gNeg_i, gLt_i, gLe_i, gGt_i, gGe_i, gEq_i, gNe_i, gMul_b, gMod_p, gFdiv_p, Nat.reduceAdd, Nat.reduceMul, Nat.reduceLeDiff, at0, at1, at2, at3, at4, at5, at6, at7, at8, at9, at10, at11, at12, at13, at14, at15, gSl_l, cut_pos, cut_from, cut_to, Int.reduceToNat, List.drop_succ_cons, List.drop_zero, List.take_succ_cons, List.take_zero, List.take_nil, Nat.reduceSub, Int.reduceAdd, Int.reduceSub, Int.reduceMul, Int.reduceMod, Int.reduceDiv, Int.reduceNeg, List.length_cons, List.length_nil, Nat.zero_add, fComp, compL, rg1_3, mInt, mAbs, mGcd, mMax2, mMin2, mMax3, mMin3, mIsqrt, isT, ix_t0, ix_t1, ix_t2, v_cross, v_columns, h]
  rfl

theorem w_dot [BV n u] [BV m v] (h : n + m + 2 ≤ 1000000) : m__law_dot [rw3 k u, rw3 l v] = some (.int (u.dot v)) := by
  simp only [m__law_dot, b__law_dot, runD, List.map_cons, List.map_nil, List.replicate_zero, List.replicate_succ, List.cons_append, List.nil_append, List.append_nil, sRet, sRetN, sNx, sSeq, sSet, sSetF, sOwn, sTo, gsCons, gsNil, sPar, sPar3, eChain, sExp, sApp, sPut, sIf, sFrz, frz, frz1, List.foldl_cons, List.foldl_nil, eBin, eUn, eVar, eC, eAnd, eOr, eIf, eLend, flat, eIxO, eOfF, eTup, eAll, fAll, eCall, eIs, eSl, fSl, oNone, oSome, aNil, aCons, bVal, bAnd, bOr, bNot, bYes, blOf, gNot, iSeq, iRg1, iRg2, seq_l, seq_t, tup_l, tup_t, lst_l, lst_t, len_l, len_t, gIx_l, gIx_t, gNm, wipeR, List.getElem?_cons_zero, List.getElem?_cons_succ, List.set_cons_zero, List.set_cons_succ, Option.bind_some, Option.bind_none, Option.map_some, Option.map_none, if_true, if_false, decide_true, decide_false, Bool.not_true, Bool.not_false, Bool.false_eq_true, reduceIte, gAdd_i, gSub_i, gNeg_i, gLt_i, gLe_i, gGt_i, gGe_i, gEq_i, gNe_i, gMul_b, gMod_p, gFdiv_p, Nat.reduceAdd, Nat.reduceMul, Nat.reduceLeDiff, at0, at1, at2, at3, at4, at5, at6, at7, at8, at9, at10, at11, at12, at13, at14, at15, gSl_l, cut_pos, cut_from, cut_to, Int.reduceToNat, List.drop_succ_cons, List.drop_zero, List.take_succ_cons, List.take_zero, List.take_nil, Nat.reduceSub, Int.reduceAdd, Int.reduceSub, Int.reduceMul, Int.reduceMod, Int.reduceDiv, Int.reduceNeg, List.length_cons, List.length_nil, Nat.zero_add, fComp, compL, rg1_3, mInt, mAbs, mGcd, mMax2, mMin2, mMax3, mMin3, mIsqrt, isT, ix_r0, ix_r1, ix_r2, h]
  rfl

theorem w_cross [BV n u] [BV m v] (h : n + m + 2 ≤ 1000000) : m__law_cross [rw3 k u, rw3 l v] = some (rw3 true (u.cross v)) := by
  simp only [m__law_cross, b__law_cross, runD, List.map_cons, List.map_nil, List.replicate_zero, List.replicate_succ, List.cons_append, List.nil_append, List.append_nil, sRet, sRetN, sNx, sSeq, sSet, sSetF, sOwn, sTo, gsCons, gsNil, sPar, sPar3, eChain, sExp, sApp, sPut, sIf, sFrz, frz, frz1, List.foldl_cons, List.foldl_nil, eBin, eUn, eVar, eC, eAnd, eOr, eIf, eLend, flat, eIxO, eOfF, eTup, eAll, fAll, eCall, eIs, eSl, fSl, oNone, oSome, aNil, aCons, bVal, bAnd, bOr, bNot, bYes, blOf, gNot, iSeq, iRg1, iRg2, seq_l, seq_t, tup_l, tup_t, lst_l, lst_t, len_l, len_t, gIx_l, gIx_t, gNm, wipeR, List.getElem?_cons_zero, List.getElem?_cons_succ, List.set_cons_zero, List.set_cons_succ, Option.bind_some, Option.bind_none, Option.map_some, Option.map_none, if_true, if_false, decide_true, decide_false, Bool.not_true, Bool.not_false, Bool.false_eq_true, reduceIte, gAdd_i, gSub_i, gNeg_i, gLt_i, gLe_i, gGt_i, gGe_i, gEq_i, gNe_i, gMul_b, gMod_p, gFdiv_p, Nat.reduceAdd, Nat.reduceMul, Nat.reduceLeDiff, at0, at1, at2, at3, at4, at5, at6, at7, at8, at9, at10, at11, at12, at13, at14, at15, gSl_l, cut_pos, cut_from, cut_to, Int.reduceToNat, List.drop_succ_cons, List.drop_zero, List.take_succ_cons, List.take_zero, List.take_nil, Nat.reduceSub, Int.reduceAdd, Int.reduceSub, Int.reduceMul, Int.reduceMod, Int.reduceDiv, Int.reduceNeg, List.length_cons, List.length_nil, Nat.zero_add, fComp, compL, rg1_3, mInt, mAbs, mGcd, mMax2, mMin2, mMax3, mMin3, mIsqrt, isT, ix_r0, ix_r1, ix_r2, h]
  rfl

theorem w_times [Bd n i] [BV m v] (h : n + m + 2 ≤ 1000000) : m__law_times [.int i, rw3 k v] = some (rw3 true (v.smul i)) := by
  simp only [m__law_times, b__law_times, runD, List.map_cons, List.map_nil, List.replicate_zero, List.replicate_succ, List.cons_append, List.nil_append, List.append_nil, sRet, sRetN, sNx, sSeq, sSet, sSetF, sOwn, sTo, gsCons, gsNil, sPar, sPar3, eChain, sExp, sApp, sPut, sIf, sFrz, frz, frz1, List.foldl_cons, List.foldl_nil, eBin, eUn, eVar, eC, eAnd, eOr, eIf, eLend, flat, eIxO, eOfF, eTup, eAll, fAll, eCall, eIs, eSl, fSl, oNone, oSome, aNil, aCons, bVal, bAnd, bOr, bNot, bYes, blOf, gNot, iSeq, iRg1, iRg2, seq_l, seq_t, tup_l, tup_t, lst_l, lst_t, len_l, len_t, gIx_l, gIx_t, gNm, wipeR, List.getElem?_cons_zero, List.getElem?_cons_succ, List.set_cons_zero, List.set_cons_succ, Option.bind_some, Option.bind_none, Option.map_some, Option.map_none, if_true, if_false, decide_true, decide_false, Bool.not_true, Bool.not_false, Bool.false_eq_true, reduceIte, gAdd_i, gSub_i, gNeg_i, gLt_i, gLe_i, gGt_i, gGe_i, gEq_i, gNe_i, gMul_b, gMod_p, gFdiv_p, Nat.reduceAdd, Nat.reduceMul, Nat.reduceLeDiff, at0, at1, at2, at3, at4, at5, at6, at7, at8, at9, at10, at11, at12, at13, at14, at15, gSl_l, cut_pos, cut_from, cut_to, Int.reduceToNat, List.drop_succ_cons, List.drop_zero, List.take_succ_cons, List.take_zero, List.take_nil, Nat.reduceSub, Int.reduceAdd, Int.reduceSub, Int.reduceMul, Int.reduceMod, Int.reduceDiv, Int.reduceNeg, List.length_cons, List.length_nil, Nat.zero_add, fComp, compL, rg1_3, mInt, mAbs, mGcd, mMax2, mMin2, mMax3, mMin3, mIsqrt, isT, ix_r0, ix_r1, ix_r2, h]
  rfl

theorem w_turned : m__law_turned [tb j k t] = some (tb true true t.tr) := by
  simp only [m__law_turned, b__law_turned, runD, List.map_cons, List.map_nil, List.replicate_zero, List.replicate_succ, List.cons_append, List.nil_append, List.append_nil, sRet, sRetN, sNx, sSeq, sSet, sSetF, sOwn, sTo, gsCons, gsNil, sPar, sPar3, eChain, sExp, sApp, sPut, sIf, sFrz, frz, frz1, List.foldl_cons, List.foldl_nil, eBin, eUn, eVar, eC, eAnd, eOr, eIf, eLend, flat, eIxO, eOfF, eTup, eAll, fAll, eCall, eIs, eSl, fSl, oNone, oSome, aNil, aCons, bVal, bAnd, bOr, bNot, bYes, blOf, gNot, iSeq, iRg1, iRg2, seq_l, seq_t, tup_l, tup_t, lst_l, lst_t, len_l, len_t, gIx_l, gIx_t, gNm, wipeR, List.getElem?_cons_zero, List.getElem?_cons_succ, List.set_cons_zero, List.set_cons_succ, Option.bind_some, Option.bind_none, Option.map_some, Option.map_none, if_true, if_false, decide_true, decide_false, Bool.not_true, Bool.not_false, Bool.false_eq_true, reduceIte, gAdd_i, gSub_i, gNeg_i, gLt_i, gLe_i, gGt_i, gGe_i, gEq_i, gNe_i, gMul_b, gMod_p, gFdiv_p, Nat.reduceAdd, Nat.reduceMul, Nat.reduceLeDiff, at0, at1, at2, at3, at4, at5, at6, at7, at8, at9, at10, at11, at12, at13, at14, at15, gSl_l, cut_pos, cut_from, cut_to, Int.reduceToNat, List.drop_succ_cons, List.drop_zero, List.take_succ_cons, List.take_zero, List.take_nil, Nat.reduceSub, Int.reduceAdd, Int.reduceSub, Int.reduceMul, Int.reduceMod, Int.reduceDiv, Int.reduceNeg, List.length_cons, List.length_nil, Nat.zero_add, fComp, compL, rg1_3, mInt, mAbs, mGcd, mMax2, mMin2, mMax3, mMin3, mIsqrt, isT, ix_r0, ix_r1, ix_r2, ix_t0, ix_t1, ix_t2]
  rfl

theorem w_product {j' k' : Bool} [BM n s] [BM m t] (h : n + m + 2 ≤ 1000000) : m__law_product [tb j k s, tb j' k' t] = some (tb true true (s.mul t)) := by
  simp only [m__law_product, b__law_product, runD, List.map_cons, List.map_nil, List.replicate_zero, List.replicate_succ, List.cons_append, List.nil_append, List.append_nil, sRet, sRetN, sNx, sSeq, sSet, sSetF, sOwn, sTo, gsCons, gsNil, sPar, sPar3, eChain, sExp, sApp, sPut, sIf, sFrz, frz, frz1, List.foldl_cons, List.foldl_nil, eBin, eUn, eVar, eC, eAnd, eOr, eIf, eLend, flat, eIxO, eOfF, eTup, eAll, fAll, eCall, eIs, eSl, fSl, oNone, oSome, aNil, aCons, bVal, bAnd, bOr, bNot, bYes, blOf, gNot, iSeq, iRg1, iRg2, seq_l, seq_t, tup_l, tup_t, lst_l, lst_t, len_l, len_t, gIx_l, gIx_t, gNm, wipeR, List.getElem?_cons_zero, List.getElem?_cons_succ, List.set_cons_zero, List.set_cons_succ, Option.bind_some, Option.bind_none, Option.map_some, Option.map_none, if_true, if_false, decide_true, decide_false, Bool.not_true, Bool.not_false, Bool.false_eq_true, reduceIte, gAdd_i, gSub_i, gNeg_i, gLt_i, gLe_i, gGt_i, gGe_i, gEq_i, gNe_i, gMul_b, gMod_p, gFdiv_p, Nat.reduceAdd, Nat.reduceMul, Nat.reduceLeDiff, at0, at1, at2, at3, at4, at5, at6, at7, at8, at9, at10, at11, at12, at13, at14, at15, gSl_l, cut_pos, cut_from, cut_to, Int.reduceToNat, List.drop_succ_cons, List.drop_zero, List.take_succ_cons, List.take_zero, List.take_nil, Nat.reduceSub, Int.reduceAdd, Int.reduceSub, Int.reduceMul, Int.reduceMod, Int.reduceDiv, Int.reduceNeg, List.length_cons, List.length_nil, Nat.zero_add, fComp, compL, rg1_3, mInt, mAbs, mGcd, mMax2, mMin2, mMax3, mMin3, mIsqrt, isT, ix_r0, ix_r1, ix_r2, ix_t0, ix_t1, ix_t2, w_turned, w_dot, seq_tb, h]
  rfl

theorem w_determinant [BM n t] (h : n + (n + n + 1) + 2 ≤ 1000000) : m__law_determinant [tb j k t] = some (.int t.det) := by
  simp only [m__law_determinant, b__law_determinant, runD, List.map_cons, List.map_nil, List.replicate_zero, List.replicate_succ, List.cons_append, List.nil_append, List.append_nil, sRet, sRetN, sNx, sSeq, sSet, sSetF, sOwn, sTo, gsCons, gsNil, sPar, sPar3, eChain, sExp, sApp, sPut, sIf, sFrz, frz, frz1, List.foldl_cons, List.foldl_nil, eBin, eUn, eVar, eC, eAnd, eOr, eIf, eLend, flat, eIxO, eOfF, eTup, eAll, fAll, eCall, eIs, eSl, fSl, oNone, oSome, aNil, aCons, bVal, bAnd, bOr, bNot, bYes, blOf, gNot, iSeq, iRg1, iRg2, seq_l, seq_t, tup_l, tup_t, lst_l, lst_t, len_l, len_t, gIx_l, gIx_t, gNm, wipeR, List.getElem?_cons_zero, List.getElem?_cons_succ, List.set_cons_zero, List.set_cons_succ, Option.bind_some, Option.bind_none, Option.map_some, Option.map_none, if_true, if_false, decide_true, decide_false, Bool.not_true, Bool.not_false, Bool.false_eq_true, reduceIte, gAdd_i, gSub_i, gNeg_i, gLt_i, gLe_i, gGt_i, gGe_i, gEq_i, gNe_i, gMul_b, gMod_p, gFdiv_p, Nat.reduceAdd, Nat.reduceMul, Nat.reduceLeDiff, at0, at1, at2, at3, at4, at5, at6, at7, at8, at9, at10, at11, at12, at13, at14, at15, gSl_l, cut_pos, cut_from, cut_to, Int.reduceToNat, List.drop_succ_cons, List.drop_zero, List.take_succ_cons, List.take_zero, List.take_nil, Nat.reduceSub, Int.reduceAdd, Int.reduceSub, Int.reduceMul, Int.reduceMod, Int.reduceDiv, Int.reduceNeg, List.length_cons, List.length_nil, Nat.zero_add, fComp, compL, rg1_3, mInt, mAbs, mGcd, mMax2, mMin2, mMax3, mMin3, mIsqrt, isT, ix_t0, ix_t1, ix_t2, w_dot, w_cross, h, show n + n + 2 ≤ 1000000 by omega]
  rfl

theorem w_whole : m__law_whole [.int i] = some (.bool true) := rfl

theorem is_row_go {K N c : SC} : ∀ l : List Int, ∃ c', forL (gNm 2) (sIf (bNot (bVal (eCall m__law_whole (aCons (eVar 2) aNil)))) (sRet (eC (.bool false))) sNx) (l.map PyData.int) [K, N, c] = some (.nx [K, N, c'])
  | [] => ⟨c, rfl⟩
  | x :: l => by
    obtain ⟨c', e⟩ := is_row_go (K := K) (N := N) (c := .va (.int x)) l
    refine ⟨c', ?_⟩
    simp only [List.map_cons, forL, runD, List.map_cons, List.map_nil, List.replicate_zero, List.replicate_succ, List.cons_append, List.nil_append, List.append_nil, sRet, sRetN, sNx, sSeq, sSet, sSetF, sOwn, sTo, gsCons, gsNil, sPar, sPar3, eChain, sExp, sApp, sPut, sIf, sFrz, frz, frz1, List.foldl_cons, List.foldl_nil, eBin, eUn, eVar, eC, eAnd, eOr, eIf, eLend, flat, eIxO, eOfF, eTup, eAll, fAll, eCall, eIs, eSl, fSl, oNone, oSome, aNil, aCons, bVal, bAnd, bOr, bNot, bYes, blOf, gNot, iSeq, iRg1, iRg2, seq_l, seq_t, tup_l, tup_t, lst_l, lst_t, len_l, len_t, gIx_l, gIx_t, gNm, wipeR, List.getElem?_cons_zero, List.getElem?_cons_succ, List.set_cons_zero, List.set_cons_succ, Option.bind_some, Option.bind_none, Option.map_some, Option.map_none, if_true, if_false, decide_true, decide_false, Bool.not_true, Bool.not_false, Bool.false_eq_true, reduceIte, gAdd_i, gSub_i, gNeg_i, gLt_i, gLe_i, gGt_i, gGe_i, gEq_i, gNe_i, gMul_b, gMod_p, gFdiv_p, Nat.reduceAdd, Nat.reduceMul, Nat.reduceLeDiff, at0, at1, at2, at3, at4, at5, at6, at7, at8, at9, at10, at11, at12, at13, at14, at15, gSl_l, cut_pos, cut_from, cut_to, Int.reduceToNat, List.drop_succ_cons, List.drop_zero, List.take_succ_cons, List.take_zero, List.take_nil, Nat.reduceSub, Int.reduceAdd, Int.reduceSub, Int.reduceMul, Int.reduceMod, Int.reduceDiv, Int.reduceNeg, List.length_cons, List.length_nil, Nat.zero_add, fComp, compL, rg1_3, mInt, mAbs, mGcd, mMax2, mMin2, mMax3, mMin3, mIsqrt, isT, w_whole]
    exact e
/-- a tuple of so many whole numbers -/
theorem w_is_row_g {l : List Int} {n : Nat} (h : l.length = n) : m__law_is_row [.tuple (l.map .int), .int n] = some (.bool true) := by
  obtain ⟨c', e⟩ := is_row_go (K := .va (.tuple (l.map .int))) (N := .va (.int n)) (c := .un) l
  simp only [m__law_is_row, b__law_is_row, runD, List.map_cons, List.map_nil, List.replicate_zero, List.replicate_succ, List.cons_append, List.nil_append, List.append_nil, sRet, sRetN, sNx, sSeq, sSet, sSetF, sOwn, sTo, gsCons, gsNil, sPar, sPar3, eChain, sExp, sApp, sPut, sIf, sFrz, frz, frz1, List.foldl_cons, List.foldl_nil, eBin, eUn, eVar, eC, eAnd, eOr, eIf, eLend, flat, eIxO, eOfF, eTup, eAll, fAll, eCall, eIs, eSl, fSl, oNone, oSome, aNil, aCons, bVal, bAnd, bOr, bNot, bYes, blOf, gNot, iSeq, iRg1, iRg2, seq_l, seq_t, tup_l, tup_t, lst_l, lst_t, len_l, len_t, gIx_l, gIx_t, gNm, wipeR, List.getElem?_cons_zero, List.getElem?_cons_succ, List.set_cons_zero, List.set_cons_succ, Option.bind_some, Option.bind_none, Option.map_some, Option.map_none, if_true, if_false, decide_true, decide_false, Bool.not_true, Bool.not_false, Bool.false_eq_true, reduceIte, gAdd_i, gSub_i, gNeg_i, gLt_i, gLe_i, gGt_i, gGe_i, gEq_i, gNe_i, gMul_b, gMod_p, gFdiv_p, Nat.reduceAdd, Nat.reduceMul, Nat.reduceLeDiff, at0, at1, at2, at3, at4, at5, at6, at7, at8, at9, at10, at11, at12, at13, at14, at15, gSl_l, cut_pos, cut_from, cut_to, Int.reduceToNat, List.drop_succ_cons, List.drop_zero, List.take_succ_cons, List.take_zero, List.take_nil, Nat.reduceSub, Int.reduceAdd, Int.reduceSub, Int.reduceMul, Int.reduceMod, Int.reduceDiv, Int.reduceNeg, List.length_cons, List.length_nil, Nat.zero_add, fComp, compL, rg1_3, mInt, mAbs, mGcd, mMax2, mMin2, mMax3, mMin3, mIsqrt, isT, List.length_map, h, sFor, e]
theorem w_is_row : m__law_is_row [rw3 k v, .int 3] = some (.bool k) := by
  simp only [m__law_is_row, b__law_is_row, runD, List.map_cons, List.map_nil, List.replicate_zero, List.replicate_succ, List.cons_append, List.nil_append, List.append_nil, sRet, sRetN, sNx, sSeq, sSet, sSetF, sOwn, sTo, gsCons, gsNil, sPar, sPar3, eChain, sExp, sApp, sPut, sIf, sFrz, frz, frz1, List.foldl_cons, List.foldl_nil, eBin, eUn, eVar, eC, eAnd, eOr, eIf, eLend, flat, eIxO, eOfF, eTup, eAll, fAll, eCall, eIs, eSl, fSl, oNone, oSome, aNil, aCons, bVal, bAnd, bOr, bNot, bYes, blOf, gNot, iSeq, iRg1, iRg2, seq_l, seq_t, tup_l, tup_t, lst_l, lst_t, len_l, len_t, gIx_l, gIx_t, gNm, wipeR, List.getElem?_cons_zero, List.getElem?_cons_succ, List.set_cons_zero, List.set_cons_succ, Option.bind_some, Option.bind_none, Option.map_some, Option.map_none, if_true, if_false, decide_true, decide_false, Bool.not_true, Bool.not_false, Bool.false_eq_true, reduceIte, gAdd_i, gSub_i, gNeg_i, gLt_i, gLe_i, gGt_i, gGe_i, gEq_i, gNe_i, gMul_b, gMod_p, gFdiv_p, Nat.reduceAdd, Nat.reduceMul, Nat.reduceLeDiff, at0, at1, at2, at3, at4, at5, at6, at7, at8, at9, at10, at11, at12, at13, at14, at15, gSl_l, cut_pos, cut_from, cut_to, Int.reduceToNat, List.drop_succ_cons, List.drop_zero, List.take_succ_cons, List.take_zero, List.take_nil, Nat.reduceSub, Int.reduceAdd, Int.reduceSub, Int.reduceMul, Int.reduceMod, Int.reduceDiv, Int.reduceNeg, List.length_cons, List.length_nil, Nat.zero_add, fComp, compL, rg1_3, mInt, mAbs, mGcd, mMax2, mMin2, mMax3, mMin3, mIsqrt, isT, isTup_r, len_r]
  cases k
  · rfl
  · rfl

theorem w_is_table : m__law_is_table [tb j k t] = some (.bool (j && k)) := by
  simp only [m__law_is_table, b__law_is_table, runD, List.map_cons, List.map_nil, List.replicate_zero, List.replicate_succ, List.cons_append, List.nil_append, List.append_nil, sRet, sRetN, sNx, sSeq, sSet, sSetF, sOwn, sTo, gsCons, gsNil, sPar, sPar3, eChain, sExp, sApp, sPut, sIf, sFrz, frz, frz1, List.foldl_cons, List.foldl_nil, eBin, eUn, eVar, eC, eAnd, eOr, eIf, eLend, flat, eIxO, eOfF, eTup, eAll, fAll, eCall, eIs, eSl, fSl, oNone, oSome, aNil, aCons, bVal, bAnd, bOr, bNot, bYes, blOf, gNot, iSeq, iRg1, iRg2, seq_l, seq_t, tup_l, tup_t, lst_l, lst_t, len_l, len_t, gIx_l, gIx_t, gNm, wipeR, List.getElem?_cons_zero, List.getElem?_cons_succ, List.set_cons_zero, List.set_cons_succ, Option.bind_some, Option.bind_none, Option.map_some, Option.map_none, if_true, if_false, decide_true, decide_false, Bool.not_true, Bool.not_false, Bool.false_eq_true, reduceIte, gAdd_i, gSub_i, gNeg_i, gLt_i, gLe_i, gGt_i, gGe_i, gEq_i, gNe_i, gMul_b, gMod_p, gFdiv_p, Nat.reduceAdd, Nat.reduceMul, Nat.reduceLeDiff, at0, at1, at2, at3, at4, at5, at6, at7, at8, at9, at10, at11, at12, at13, at14, at15, gSl_l, cut_pos, cut_from, cut_to, Int.reduceToNat, List.drop_succ_cons, List.drop_zero, List.take_succ_cons, List.take_zero, List.take_nil, Nat.reduceSub, Int.reduceAdd, Int.reduceSub, Int.reduceMul, Int.reduceMod, Int.reduceDiv, Int.reduceNeg, List.length_cons, List.length_nil, Nat.zero_add, fComp, compL, rg1_3, mInt, mAbs, mGcd, mMax2, mMin2, mMax3, mMin3, mIsqrt, isT, isTup_tb, len_tb]
  cases j
  · rfl
  · simp only [runD, List.map_cons, List.map_nil, List.replicate_zero, List.replicate_succ, List.cons_append, List.nil_append, List.append_nil, sRet, sRetN, sNx, sSeq, sSet, sSetF, sOwn, sTo, gsCons, gsNil, sPar, sPar3, eChain, sExp, sApp, sPut, sIf, sFrz, frz, frz1, List.foldl_cons, List.foldl_nil, eBin, eUn, eVar, eC, eAnd, eOr, eIf, eLend, flat, eIxO, eOfF, eTup, eAll, fAll, eCall, eIs, eSl, fSl, oNone, oSome, aNil, aCons, bVal, bAnd, bOr, bNot, bYes, blOf, gNot, iSeq, iRg1, iRg2, seq_l, seq_t, tup_l, tup_t, lst_l, lst_t, len_l, len_t, gIx_l, gIx_t, gNm, wipeR, List.getElem?_cons_zero, List.getElem?_cons_succ, List.set_cons_zero, List.set_cons_succ, Option.bind_some, Option.bind_none, Option.map_some, Option.map_none, if_true, if_false, decide_true, decide_false, Bool.not_true, Bool.not_false, Bool.false_eq_true, reduceIte, gAdd_i, gSub_i, gNeg_i, gLt_i, gLe_i, gGt_i, gGe_i, gEq_i, gNe_i, gMul_b, gMod_p, gFdiv_p, Nat.reduceAdd, Nat.reduceMul, Nat.reduceLeDiff, at0, at1, at2, at3, at4, at5, at6, at7, at8, at9, at10, at11, at12, at13, at14, at15, gSl_l, cut_pos, cut_from, cut_to, Int.reduceToNat, List.drop_succ_cons, List.drop_zero, List.take_succ_cons, List.take_zero, List.take_nil, Nat.reduceSub, Int.reduceAdd, Int.reduceSub, Int.reduceMul, Int.reduceMod, Int.reduceDiv, Int.reduceNeg, List.length_cons, List.length_nil, Nat.zero_add, fComp, compL, rg1_3, mInt, mAbs, mGcd, mMax2, mMin2, mMax3, mMin3, mIsqrt, isT, seq_tb, forL, w_is_row, sFor]
    cases k <;> rfl

theorem w_same_table : m__law_same_table [tb true true s, tb true true t] = some (.bool (decide (s = t))) := by
  simp only [m__law_same_table, b__law_same_table, runD, List.map_cons, List.map_nil, List.replicate_zero, List.replicate_succ, List.cons_append, List.nil_append, List.append_nil, sRet, sRetN, sNx, sSeq, sSet, sSetF, sOwn, sTo, gsCons, gsNil, sPar, sPar3, eChain, sExp, sApp, sPut, sIf, sFrz, frz, frz1, List.foldl_cons, List.foldl_nil, eBin, eUn, eVar, eC, eAnd, eOr, eIf, eLend, flat, eIxO, eOfF, eTup, eAll, fAll, eCall, eIs, eSl, fSl, oNone, oSome, aNil, aCons, bVal, bAnd, bOr, bNot, bYes, blOf, gNot, iSeq, iRg1, iRg2, seq_l, seq_t, tup_l, tup_t, lst_l, lst_t, len_l, len_t, gIx_l, gIx_t, gNm, wipeR, List.getElem?_cons_zero, List.getElem?_cons_succ, List.set_cons_zero, List.set_cons_succ, Option.bind_some, Option.bind_none, Option.map_some, Option.map_none, if_true, if_false, decide_true, decide_false, Bool.not_true, Bool.not_false, Bool.false_eq_true, reduceIte, gAdd_i, gSub_i, gNeg_i, gLt_i, gLe_i, gGt_i, gGe_i, gEq_i, gNe_i, gMul_b, gMod_p, gFdiv_p, Nat.reduceAdd, Nat.reduceMul, Nat.reduceLeDiff, at0, at1, at2, at3, at4, at5, at6, at7, at8, at9, at10, at11, at12, at13, at14, at15, gSl_l, cut_pos, cut_from, cut_to, Int.reduceToNat, List.drop_succ_cons, List.drop_zero, List.take_succ_cons, List.take_zero, List.take_nil, Nat.reduceSub, Int.reduceAdd, Int.reduceSub, Int.reduceMul, Int.reduceMod, Int.reduceDiv, Int.reduceNeg, List.length_cons, List.length_nil, Nat.zero_add, fComp, compL, rg1_3, mInt, mAbs, mGcd, mMax2, mMin2, mMax3, mMin3, mIsqrt, isT, w_is_table, eq_tb, Bool.and_true]

theorem w_same_number {a b : Int} : m__law_same_number [.int a, .int b] = some (.bool (decide (a = b))) := by
  simp only [m__law_same_number, b__law_same_number, runD, List.map_cons, List.map_nil, List.replicate_zero, List.replicate_succ, List.cons_append, List.nil_append, List.append_nil, sRet, sRetN, sNx, sSeq, sSet, sSetF, sOwn, sTo, gsCons, gsNil, sPar, sPar3, eChain, sExp, sApp, sPut, sIf, sFrz, frz, frz1, List.foldl_cons, List.foldl_nil, eBin, eUn, eVar, eC, eAnd, eOr, eIf, eLend, flat, eIxO, eOfF, eTup, eAll, fAll, eCall, eIs, eSl, fSl, oNone, oSome, aNil, aCons, bVal, bAnd, bOr, bNot, bYes, blOf, gNot, iSeq, iRg1, iRg2, seq_l, seq_t, tup_l, tup_t, lst_l, lst_t, len_l, len_t, gIx_l, gIx_t, gNm, wipeR, List.getElem?_cons_zero, List.getElem?_cons_succ, List.set_cons_zero, List.set_cons_succ, Option.bind_some, Option.bind_none, Option.map_some, Option.map_none, if_true, if_false, decide_true, decide_false, Bool.not_true, Bool.not_false, Bool.false_eq_true, reduceIte, gAdd_i, gSub_i, gNeg_i, gLt_i, gLe_i, gGt_i, gGe_i, gEq_i, gNe_i, gMul_b, gMod_p, gFdiv_p, Nat.reduceAdd, Nat.reduceMul, Nat.reduceLeDiff, at0, at1, at2, at3, at4, at5, at6, at7, at8, at9, at10, at11, at12, at13, at14, at15, gSl_l, cut_pos, cut_from, cut_to, Int.reduceToNat, List.drop_succ_cons, List.drop_zero, List.take_succ_cons, List.take_zero, List.take_nil, Nat.reduceSub, Int.reduceAdd, Int.reduceSub, Int.reduceMul, Int.reduceMod, Int.reduceDiv, Int.reduceNeg, List.length_cons, List.length_nil, Nat.zero_add, fComp, compL, rg1_3, mInt, mAbs, mGcd, mMax2, mMin2, mMax3, mMin3, mIsqrt, isT, w_whole]

theorem w_handed : m__law_handed [rw3 k v, .int i] = some (rw3 (decide (i = 0)) v) := by
  simp only [m__law_handed, b__law_handed, runD, List.map_cons, List.map_nil, List.replicate_zero, List.replicate_succ, List.cons_append, List.nil_append, List.append_nil, sRet, sRetN, sNx, sSeq, sSet, sSetF, sOwn, sTo, gsCons, gsNil, sPar, sPar3, eChain, sExp, sApp, sPut, sIf, sFrz, frz, frz1, List.foldl_cons, List.foldl_nil, eBin, eUn, eVar, eC, eAnd, eOr, eIf, eLend, flat, eIxO, eOfF, eTup, eAll, fAll, eCall, eIs, eSl, fSl, oNone, oSome, aNil, aCons, bVal, bAnd, bOr, bNot, bYes, blOf, gNot, iSeq, iRg1, iRg2, seq_l, seq_t, tup_l, tup_t, lst_l, lst_t, len_l, len_t, gIx_l, gIx_t, gNm, wipeR, List.getElem?_cons_zero, List.getElem?_cons_succ, List.set_cons_zero, List.set_cons_succ, Option.bind_some, Option.bind_none, Option.map_some, Option.map_none, if_true, if_false, decide_true, decide_false, Bool.not_true, Bool.not_false, Bool.false_eq_true, reduceIte, gAdd_i, gSub_i, gNeg_i, gLt_i, gLe_i, gGt_i, gGe_i, gEq_i, gNe_i, gMul_b, gMod_p, gFdiv_p, Nat.reduceAdd, Nat.reduceMul, Nat.reduceLeDiff, at0, at1, at2, at3, at4, at5, at6, at7, at8, at9, at10, at11, at12, at13, at14, at15, gSl_l, cut_pos, cut_from, cut_to, Int.reduceToNat, List.drop_succ_cons, List.drop_zero, List.take_succ_cons, List.take_zero, List.take_nil, Nat.reduceSub, Int.reduceAdd, Int.reduceSub, Int.reduceMul, Int.reduceMod, Int.reduceDiv, Int.reduceNeg, List.length_cons, List.length_nil, Nat.zero_add, fComp, compL, rg1_3, mInt, mAbs, mGcd, mMax2, mMin2, mMax3, mMin3, mIsqrt, isT, tup_r, seq_r]
  by_cases h : i = 0
  · simp only [h, runD, List.map_cons, List.map_nil, List.replicate_zero, List.replicate_succ, List.cons_append, List.nil_append, List.append_nil, sRet, sRetN, sNx, sSeq, sSet, sSetF, sOwn, sTo, gsCons, gsNil, sPar, sPar3, eChain, sExp, sApp, sPut, sIf, sFrz, frz, frz1, List.foldl_cons, List.foldl_nil, eBin, eUn, eVar, eC, eAnd, eOr, eIf, eLend, flat, eIxO, eOfF, eTup, eAll, fAll, eCall, eIs, eSl, fSl, oNone, oSome, aNil, aCons, bVal, bAnd, bOr, bNot, bYes, blOf, gNot, iSeq, iRg1, iRg2, seq_l, seq_t, tup_l, tup_t, lst_l, lst_t, len_l, len_t, gIx_l, gIx_t, gNm, wipeR, List.getElem?_cons_zero, List.getElem?_cons_succ, List.set_cons_zero, List.set_cons_succ, Option.bind_some, Option.bind_none, Option.map_some, Option.map_none, if_true, if_false, decide_true, decide_false, Bool.not_true, Bool.not_false, Bool.false_eq_true, reduceIte, gAdd_i, gSub_i, gNeg_i, gLt_i, gLe_i, gGt_i, gGe_i, gEq_i, gNe_i, gMul_b, gMod_p, gFdiv_p, Nat.reduceAdd, Nat.reduceMul, Nat.reduceLeDiff, at0, at1, at2, at3, at4, at5, at6, at7, at8, at9, at10, at11, at12, at13, at14, at15, gSl_l, cut_pos, cut_from, cut_to, Int.reduceToNat, List.drop_succ_cons, List.drop_zero, List.take_succ_cons, List.take_zero, List.take_nil, Nat.reduceSub, Int.reduceAdd, Int.reduceSub, Int.reduceMul, Int.reduceMod, Int.reduceDiv, Int.reduceNeg, List.length_cons, List.length_nil, Nat.zero_add, fComp, compL, rg1_3, mInt, mAbs, mGcd, mMax2, mMin2, mMax3, mMin3, mIsqrt, isT, decide_true, tup_r]
  · simp only [h, runD, List.map_cons, List.map_nil, List.replicate_zero, List.replicate_succ, List.cons_append, List.nil_append, List.append_nil, sRet, sRetN, sNx, sSeq, sSet, sSetF, sOwn, sTo, gsCons, gsNil, sPar, sPar3, eChain, sExp, sApp, sPut, sIf, sFrz, frz, frz1, List.foldl_cons, List.foldl_nil, eBin, eUn, eVar, eC, eAnd, eOr, eIf, eLend, flat, eIxO, eOfF, eTup, eAll, fAll, eCall, eIs, eSl, fSl, oNone, oSome, aNil, aCons, bVal, bAnd, bOr, bNot, bYes, blOf, gNot, iSeq, iRg1, iRg2, seq_l, seq_t, tup_l, tup_t, lst_l, lst_t, len_l, len_t, gIx_l, gIx_t, gNm, wipeR, List.getElem?_cons_zero, List.getElem?_cons_succ, List.set_cons_zero, List.set_cons_succ, Option.bind_some, Option.bind_none, Option.map_some, Option.map_none, if_true, if_false, decide_true, decide_false, Bool.not_true, Bool.not_false, Bool.false_eq_true, reduceIte, gAdd_i, gSub_i, gNeg_i, gLt_i, gLe_i, gGt_i, gGe_i, gEq_i, gNe_i, gMul_b, gMod_p, gFdiv_p, Nat.reduceAdd, Nat.reduceMul, Nat.reduceLeDiff, at0, at1, at2, at3, at4, at5, at6, at7, at8, at9, at10, at11, at12, at13, at14, at15, gSl_l, cut_pos, cut_from, cut_to, Int.reduceToNat, List.drop_succ_cons, List.drop_zero, List.take_succ_cons, List.take_zero, List.take_nil, Nat.reduceSub, Int.reduceAdd, Int.reduceSub, Int.reduceMul, Int.reduceMod, Int.reduceDiv, Int.reduceNeg, List.length_cons, List.length_nil, Nat.zero_add, fComp, compL, rg1_3, mInt, mAbs, mGcd, mMax2, mMin2, mMax3, mMin3, mIsqrt, isT, decide_false, seq_r]
    rfl
theorem comp_id {g : Rho} (h0 : ∀ d, ∃ ρ1, gNm 2 d g = some ρ1 ∧ ρ1[2]? = some (.va d)) : ∀ ds : List PyData, compL (gNm 2) bYes (eVar 2) g ds = some ds
  | [] => rfl
  | d :: ds => by
    obtain ⟨ρ1, h1, h2⟩ := h0 d
    simp only [compL, h1, Option.bind_some, bYes, if_true, eVar, h2, comp_id h0 ds]
theorem w_handed_g {l : List PyData} (hl : l.length ≤ 1000000) : m__law_handed [sq k l, .int i] = some (sq (decide (i = 0)) l) := by
  have e := comp_id (g := [.va (sq k l), .va (.int i), .un]) (fun d => ⟨_, rfl, rfl⟩) l
  simp only [m__law_handed, b__law_handed, runD, List.map_cons, List.map_nil, List.replicate_zero, List.replicate_succ, List.cons_append, List.nil_append, List.append_nil, sRet, sRetN, sNx, sSeq, sSet, sSetF, sOwn, sTo, gsCons, gsNil, sPar, sPar3, eChain, sExp, sApp, sPut, sIf, sFrz, frz, frz1, List.foldl_cons, List.foldl_nil, eBin, eUn, eVar, eC, eAnd, eOr, eIf, eLend, flat, eIxO, eOfF, eTup, eAll, fAll, eCall, eIs, eSl, fSl, oNone, oSome, aNil, aCons, bVal, bAnd, bOr, bNot, bYes, blOf, gNot, iSeq, iRg1, iRg2, seq_l, seq_t, tup_l, tup_t, lst_l, lst_t, len_l, len_t, gIx_l, gIx_t, gNm, wipeR, List.getElem?_cons_zero, List.getElem?_cons_succ, List.set_cons_zero, List.set_cons_succ, Option.bind_some, Option.bind_none, Option.map_some, Option.map_none, if_true, if_false, decide_true, decide_false, Bool.not_true, Bool.not_false, Bool.false_eq_true, reduceIte, gAdd_i, gSub_i, gNeg_i, gLt_i, gLe_i, gGt_i, gGe_i, gEq_i, gNe_i, gMul_b, gMod_p, gFdiv_p, Nat.reduceAdd, Nat.reduceMul, Nat.reduceLeDiff, at0, at1, at2, at3, at4, at5, at6, at7, at8, at9, at10, at11, at12, at13, at14, at15, gSl_l, cut_pos, cut_from, cut_to, Int.reduceToNat, List.drop_succ_cons, List.drop_zero, List.take_succ_cons, List.take_zero, List.take_nil, Nat.reduceSub, Int.reduceAdd, Int.reduceSub, Int.reduceMul, Int.reduceMod, Int.reduceDiv, Int.reduceNeg, List.length_cons, List.length_nil, Nat.zero_add, fComp, compL, rg1_3, mInt, mAbs, mGcd, mMax2, mMin2, mMax3, mMin3, mIsqrt, isT, tup_sq, seq_sq, show l.length ≤ 16000000 by omega]
  by_cases h : i = 0
  · simp only [h, runD, List.map_cons, List.map_nil, List.replicate_zero, List.replicate_succ, List.cons_append, List.nil_append, List.append_nil, sRet, sRetN, sNx, sSeq, sSet, sSetF, sOwn, sTo, gsCons, gsNil, sPar, sPar3, eChain, sExp, sApp, sPut, sIf, sFrz, frz, frz1, List.foldl_cons, List.foldl_nil, eBin, eUn, eVar, eC, eAnd, eOr, eIf, eLend, flat, eIxO, eOfF, eTup, eAll, fAll, eCall, eIs, eSl, fSl, oNone, oSome, aNil, aCons, bVal, bAnd, bOr, bNot, bYes, blOf, gNot, iSeq, iRg1, iRg2, seq_l, seq_t, tup_l, tup_t, lst_l, lst_t, len_l, len_t, gIx_l, gIx_t, gNm, wipeR, List.getElem?_cons_zero, List.getElem?_cons_succ, List.set_cons_zero, List.set_cons_succ, Option.bind_some, Option.bind_none, Option.map_some, Option.map_none, if_true, if_false, decide_true, decide_false, Bool.not_true, Bool.not_false, Bool.false_eq_true, reduceIte, gAdd_i, gSub_i, gNeg_i, gLt_i, gLe_i, gGt_i, gGe_i, gEq_i, gNe_i, gMul_b, gMod_p, gFdiv_p, Nat.reduceAdd, Nat.reduceMul, Nat.reduceLeDiff, at0, at1, at2, at3, at4, at5, at6, at7, at8, at9, at10, at11, at12, at13, at14, at15, gSl_l, cut_pos, cut_from, cut_to, Int.reduceToNat, List.drop_succ_cons, List.drop_zero, List.take_succ_cons, List.take_zero, List.take_nil, Nat.reduceSub, Int.reduceAdd, Int.reduceSub, Int.reduceMul, Int.reduceMod, Int.reduceDiv, Int.reduceNeg, List.length_cons, List.length_nil, Nat.zero_add, fComp, compL, rg1_3, mInt, mAbs, mGcd, mMax2, mMin2, mMax3, mMin3, mIsqrt, isT, tup_sq]
  · simp only [h, runD, List.map_cons, List.map_nil, List.replicate_zero, List.replicate_succ, List.cons_append, List.nil_append, List.append_nil, sRet, sRetN, sNx, sSeq, sSet, sSetF, sOwn, sTo, gsCons, gsNil, sPar, sPar3, eChain, sExp, sApp, sPut, sIf, sFrz, frz, frz1, List.foldl_cons, List.foldl_nil, eBin, eUn, eVar, eC, eAnd, eOr, eIf, eLend, flat, eIxO, eOfF, eTup, eAll, fAll, eCall, eIs, eSl, fSl, oNone, oSome, aNil, aCons, bVal, bAnd, bOr, bNot, bYes, blOf, gNot, iSeq, iRg1, iRg2, seq_l, seq_t, tup_l, tup_t, lst_l, lst_t, len_l, len_t, gIx_l, gIx_t, gNm, wipeR, List.getElem?_cons_zero, List.getElem?_cons_succ, List.set_cons_zero, List.set_cons_succ, Option.bind_some, Option.bind_none, Option.map_some, Option.map_none, if_true, if_false, decide_true, decide_false, Bool.not_true, Bool.not_false, Bool.false_eq_true, reduceIte, gAdd_i, gSub_i, gNeg_i, gLt_i, gLe_i, gGt_i, gGe_i, gEq_i, gNe_i, gMul_b, gMod_p, gFdiv_p, Nat.reduceAdd, Nat.reduceMul, Nat.reduceLeDiff, at0, at1, at2, at3, at4, at5, at6, at7, at8, at9, at10, at11, at12, at13, at14, at15, gSl_l, cut_pos, cut_from, cut_to, Int.reduceToNat, List.drop_succ_cons, List.drop_zero, List.take_succ_cons, List.take_zero, List.take_nil, Nat.reduceSub, Int.reduceAdd, Int.reduceSub, Int.reduceMul, Int.reduceMod, Int.reduceDiv, Int.reduceNeg, List.length_cons, List.length_nil, Nat.zero_add, fComp, compL, rg1_3, mInt, mAbs, mGcd, mMax2, mMin2, mMax3, mMin3, mIsqrt, isT, seq_sq, e, show l.length ≤ 16000000 by omega]
    rfl

theorem w_handed_table : m__law_handed_table [tb j k t, .int i] = some (tb (decide (i % 2 = 0)) (decide (i / 2 = 0)) t) := by
  simp only [m__law_handed_table, b__law_handed_table, runD, List.map_cons, List.map_nil, List.replicate_zero, List.replicate_succ, List.cons_append, List.nil_append, List.append_nil, sRet, sRetN, sNx, sSeq, sSet, sSetF, sOwn, sTo, gsCons, gsNil, sPar, sPar3, eChain, sExp, sApp, sPut, sIf, sFrz, frz, frz1, List.foldl_cons, List.foldl_nil, eBin, eUn, eVar, eC, eAnd, eOr, eIf, eLend, flat, eIxO, eOfF, eTup, eAll, fAll, eCall, eIs, eSl, fSl, oNone, oSome, aNil, aCons, bVal, bAnd, bOr, bNot, bYes, blOf, gNot, iSeq, iRg1, iRg2, seq_l, seq_t, tup_l, tup_t, lst_l, lst_t, len_l, len_t, gIx_l, gIx_t, gNm, wipeR, List.getElem?_cons_zero, List.getElem?_cons_succ, List.set_cons_zero, List.set_cons_succ, Option.bind_some, Option.bind_none, Option.map_some, Option.map_none, if_true, if_false, decide_true, decide_false, Bool.not_true, Bool.not_false, Bool.false_eq_true, reduceIte, gAdd_i, gSub_i, gNeg_i, gLt_i, gLe_i, gGt_i, gGe_i, gEq_i, gNe_i, gMul_b, gMod_p, gFdiv_p, Nat.reduceAdd, Nat.reduceMul, Nat.reduceLeDiff, at0, at1, at2, at3, at4, at5, at6, at7, at8, at9, at10, at11, at12, at13, at14, at15, gSl_l, cut_pos, cut_from, cut_to, Int.reduceToNat, List.drop_succ_cons, List.drop_zero, List.take_succ_cons, List.take_zero, List.take_nil, Nat.reduceSub, Int.reduceAdd, Int.reduceSub, Int.reduceMul, Int.reduceMod, Int.reduceDiv, Int.reduceNeg, List.length_cons, List.length_nil, Nat.zero_add, fComp, compL, rg1_3, mInt, mAbs, mGcd, mMax2, mMin2, mMax3, mMin3, mIsqrt, isT, seq_tb, gFdiv_p (show (0 : Int) < 2 by decide) (show (2 : Int).natAbs.log2 < 9000 by decide), gMod_p (show (0 : Int) < 2 by decide), w_handed]
  by_cases h : i % 2 = 0
  · simp only [h, runD, List.map_cons, List.map_nil, List.replicate_zero, List.replicate_succ, List.cons_append, List.nil_append, List.append_nil, sRet, sRetN, sNx, sSeq, sSet, sSetF, sOwn, sTo, gsCons, gsNil, sPar, sPar3, eChain, sExp, sApp, sPut, sIf, sFrz, frz, frz1, List.foldl_cons, List.foldl_nil, eBin, eUn, eVar, eC, eAnd, eOr, eIf, eLend, flat, eIxO, eOfF, eTup, eAll, fAll, eCall, eIs, eSl, fSl, oNone, oSome, aNil, aCons, bVal, bAnd, bOr, bNot, bYes, blOf, gNot, iSeq, iRg1, iRg2, seq_l, seq_t, tup_l, tup_t, lst_l, lst_t, len_l, len_t, gIx_l, gIx_t, gNm, wipeR, List.getElem?_cons_zero, List.getElem?_cons_succ, List.set_cons_zero, List.set_cons_succ, Option.bind_some, Option.bind_none, Option.map_some, Option.map_none, if_true, if_false, decide_true, decide_false, Bool.not_true, Bool.not_false, Bool.false_eq_true, reduceIte, gAdd_i, gSub_i, gNeg_i, gLt_i, gLe_i, gGt_i, gGe_i, gEq_i, gNe_i, gMul_b, gMod_p, gFdiv_p, Nat.reduceAdd, Nat.reduceMul, Nat.reduceLeDiff, at0, at1, at2, at3, at4, at5, at6, at7, at8, at9, at10, at11, at12, at13, at14, at15, gSl_l, cut_pos, cut_from, cut_to, Int.reduceToNat, List.drop_succ_cons, List.drop_zero, List.take_succ_cons, List.take_zero, List.take_nil, Nat.reduceSub, Int.reduceAdd, Int.reduceSub, Int.reduceMul, Int.reduceMod, Int.reduceDiv, Int.reduceNeg, List.length_cons, List.length_nil, Nat.zero_add, fComp, compL, rg1_3, mInt, mAbs, mGcd, mMax2, mMin2, mMax3, mMin3, mIsqrt, isT, decide_true]
    rfl
  · simp only [h, runD, List.map_cons, List.map_nil, List.replicate_zero, List.replicate_succ, List.cons_append, List.nil_append, List.append_nil, sRet, sRetN, sNx, sSeq, sSet, sSetF, sOwn, sTo, gsCons, gsNil, sPar, sPar3, eChain, sExp, sApp, sPut, sIf, sFrz, frz, frz1, List.foldl_cons, List.foldl_nil, eBin, eUn, eVar, eC, eAnd, eOr, eIf, eLend, flat, eIxO, eOfF, eTup, eAll, fAll, eCall, eIs, eSl, fSl, oNone, oSome, aNil, aCons, bVal, bAnd, bOr, bNot, bYes, blOf, gNot, iSeq, iRg1, iRg2, seq_l, seq_t, tup_l, tup_t, lst_l, lst_t, len_l, len_t, gIx_l, gIx_t, gNm, wipeR, List.getElem?_cons_zero, List.getElem?_cons_succ, List.set_cons_zero, List.set_cons_succ, Option.bind_some, Option.bind_none, Option.map_some, Option.map_none, if_true, if_false, decide_true, decide_false, Bool.not_true, Bool.not_false, Bool.false_eq_true, reduceIte, gAdd_i, gSub_i, gNeg_i, gLt_i, gLe_i, gGt_i, gGe_i, gEq_i, gNe_i, gMul_b, gMod_p, gFdiv_p, Nat.reduceAdd, Nat.reduceMul, Nat.reduceLeDiff, at0, at1, at2, at3, at4, at5, at6, at7, at8, at9, at10, at11, at12, at13, at14, at15, gSl_l, cut_pos, cut_from, cut_to, Int.reduceToNat, List.drop_succ_cons, List.drop_zero, List.take_succ_cons, List.take_zero, List.take_nil, Nat.reduceSub, Int.reduceAdd, Int.reduceSub, Int.reduceMul, Int.reduceMod, Int.reduceDiv, Int.reduceNeg, List.length_cons, List.length_nil, Nat.zero_add, fComp, compL, rg1_3, mInt, mAbs, mGcd, mMax2, mMin2, mMax3, mMin3, mIsqrt, isT, decide_false]
    rfl

theorem w_stayed : m__law_stayed [tb j k t, tb true true s] = some (.bool (decide (t = s))) := by
  simp only [m__law_stayed, b__law_stayed, runD, List.map_cons, List.map_nil, List.replicate_zero, List.replicate_succ, List.cons_append, List.nil_append, List.append_nil, sRet, sRetN, sNx, sSeq, sSet, sSetF, sOwn, sTo, gsCons, gsNil, sPar, sPar3, eChain, sExp, sApp, sPut, sIf, sFrz, frz, frz1, List.foldl_cons, List.foldl_nil, eBin, eUn, eVar, eC, eAnd, eOr, eIf, eLend, flat, eIxO, eOfF, eTup, eAll, fAll, eCall, eIs, eSl, fSl, oNone, oSome, aNil, aCons, bVal, bAnd, bOr, bNot, bYes, blOf, gNot, iSeq, iRg1, iRg2, seq_l, seq_t, tup_l, tup_t, lst_l, lst_t, len_l, len_t, gIx_l, gIx_t, gNm, wipeR, List.getElem?_cons_zero, List.getElem?_cons_succ, List.set_cons_zero, List.set_cons_succ, Option.bind_some, Option.bind_none, Option.map_some, Option.map_none, if_true, if_false, decide_true, decide_false, Bool.not_true, Bool.not_false, Bool.false_eq_true, reduceIte, gAdd_i, gSub_i, gNeg_i, gLt_i, gLe_i, gGt_i, gGe_i, gEq_i, gNe_i, gMul_b, gMod_p, gFdiv_p, Nat.reduceAdd, Nat.reduceMul, Nat.reduceLeDiff, at0, at1, at2, at3, at4, at5, at6, at7, at8, at9, at10, at11, at12, at13, at14, at15, gSl_l, cut_pos, cut_from, cut_to, Int.reduceToNat, List.drop_succ_cons, List.drop_zero, List.take_succ_cons, List.take_zero, List.take_nil, Nat.reduceSub, Int.reduceAdd, Int.reduceSub, Int.reduceMul, Int.reduceMod, Int.reduceDiv, Int.reduceNeg, List.length_cons, List.length_nil, Nat.zero_add, fComp, compL, rg1_3, mInt, mAbs, mGcd, mMax2, mMin2, mMax3, mMin3, mIsqrt, isT, seq_tb, len_tb, tup_r, decide_true, tab_t, eq_tb]

end

theorem w_cell_go (K : PyData) : ∀ (ns : List Int) (s : Int) (sc : PyData) (c : SC), 0 ≤ s → s < 1000003 → ∃ s' c', 0 ≤ s' ∧ s' < 1000003 ∧
    forL (gNm 3) (sSet 2 (eBin gMod (eAll mInt (aCons (eBin gAdd (eBin gMul (eVar 2) (eC (.int 31))) (eBin gMod (eAll mInt (aCons (eVar 3) aNil)) (eC (.int 1000003)))) aNil)) (eC (.int 1000003)))) (ns.map PyData.int) [.va sc, .va K, .va (.int s), c] = some (.nx [.va sc, .va K, .va (.int s'), c'])
  | [], s, sc, c, h1, h2 => ⟨s, c, h1, h2, rfl⟩
  | n :: ns, s, sc, c, h1, h2 => by
    haveI : Bd 20 s := ⟨by omega⟩
    obtain ⟨s', c', q1, q2, q3⟩ := w_cell_go K ns ((s * 31 + n % 1000003) % 1000003) sc (.va (.int n)) (by omega) (by omega)
    refine ⟨s', c', q1, q2, ?_⟩
    rw [List.map_cons]
    simp (config := {decide := true}) only [forL, runD, List.map_cons, List.map_nil, List.replicate_zero, List.replicate_succ, List.cons_append, List.nil_append, List.append_nil, sRet, sRetN, sNx, sSeq, sSet, sSetF, sOwn, sTo, gsCons, gsNil, sPar, sPar3, eChain, sExp, sApp, sPut, sIf, sFrz, frz, frz1, List.foldl_cons, List.foldl_nil, eBin, eUn, eVar, eC, eAnd, eOr, eIf, eLend, flat, eIxO, eOfF, eTup, eAll, fAll, eCall, eIs, eSl, fSl, oNone, oSome, aNil, aCons, bVal, bAnd, bOr, bNot, bYes, blOf, gNot, iSeq, iRg1, iRg2, seq_l, seq_t, tup_l, tup_t, lst_l, lst_t, len_l, len_t, gIx_l, gIx_t, gNm, wipeR, List.getElem?_cons_zero, List.getElem?_cons_succ, List.set_cons_zero, List.set_cons_succ, Option.bind_some, Option.bind_none, Option.map_some, Option.map_none, if_true, if_false, decide_true, decide_false, Bool.not_true, Bool.not_false, Bool.false_eq_true, reduceIte, gAdd_i, gSub_i, gNeg_i, gLt_i, gLe_i, gGt_i, gGe_i, gEq_i, gNe_i, gMul_b, gMod_p, gFdiv_p, Nat.reduceAdd, Nat.reduceMul, Nat.reduceLeDiff, at0, at1, at2, at3, at4, at5, at6, at7, at8, at9, at10, at11, at12, at13, at14, at15, gSl_l, cut_pos, cut_from, cut_to, Int.reduceToNat, List.drop_succ_cons, List.drop_zero, List.take_succ_cons, List.take_zero, List.take_nil, Nat.reduceSub, Int.reduceAdd, Int.reduceSub, Int.reduceMul, Int.reduceMod, Int.reduceDiv, Int.reduceNeg, List.length_cons, List.length_nil, Nat.zero_add, fComp, compL, rg1_3, mInt, mAbs, mGcd, mMax2, mMin2, mMax3, mMin3, mIsqrt, isT]
    exact q3
theorem w_cell (ns : List Int) (k : Int) (hk : 0 ≤ k) (hk2 : k < 1000) : ∃ c, m__law_cell [.list (ns.map .int), .int k] = some (.int c) := by
  by_cases h : k < ns.length
  · obtain ⟨i, rfl⟩ : ∃ i : Nat, k = i := ⟨k.toNat, by omega⟩
    have hi : i < ns.length := by omega
    have e : atI (ns.map PyData.int) (i : Int) = some (.int ns[i]) := by
      rw [atI_nat', List.getElem?_map, List.getElem?_eq_getElem hi]
      rfl
    refine ⟨ns[i], ?_⟩
    simp only [m__law_cell, b__law_cell, runD, List.map_cons, List.map_nil, List.replicate_zero, List.replicate_succ, List.cons_append, List.nil_append, List.append_nil, sRet, sRetN, sNx, sSeq, sSet, sSetF, sOwn, sTo, gsCons, gsNil, sPar, sPar3, eChain, sExp, sApp, sPut, sIf, sFrz, frz, frz1, List.foldl_cons, List.foldl_nil, eBin, eUn, eVar, eC, eAnd, eOr, eIf, eLend, flat, eIxO, eOfF, eTup, eAll, fAll, eCall, eIs, eSl, fSl, oNone, oSome, aNil, aCons, bVal, bAnd, bOr, bNot, bYes, blOf, gNot, iSeq, iRg1, iRg2, seq_l, seq_t, tup_l, tup_t, lst_l, lst_t, len_l, len_t, gIx_l, gIx_t, gNm, wipeR, List.getElem?_cons_zero, List.getElem?_cons_succ, List.set_cons_zero, List.set_cons_succ, Option.bind_some, Option.bind_none, Option.map_some, Option.map_none, if_true, if_false, decide_true, decide_false, Bool.not_true, Bool.not_false, Bool.false_eq_true, reduceIte, gAdd_i, gSub_i, gNeg_i, gLt_i, gLe_i, gGt_i, gGe_i, gEq_i, gNe_i, gMul_b, gMod_p, gFdiv_p, Nat.reduceAdd, Nat.reduceMul, Nat.reduceLeDiff, at0, at1, at2, at3, at4, at5, at6, at7, at8, at9, at10, at11, at12, at13, at14, at15, gSl_l, cut_pos, cut_from, cut_to, Int.reduceToNat, List.drop_succ_cons, List.drop_zero, List.take_succ_cons, List.take_zero, List.take_nil, Nat.reduceSub, Int.reduceAdd, Int.reduceSub, Int.reduceMul, Int.reduceMod, Int.reduceDiv, Int.reduceNeg, List.length_cons, List.length_nil, Nat.zero_add, fComp, compL, rg1_3, mInt, mAbs, mGcd, mMax2, mMin2, mMax3, mMin3, mIsqrt, isT, List.length_map, h, decide_true, e]
  · obtain ⟨s, c, h1, h2, h3⟩ := w_cell_go (.int k) ns 17 (.list (ns.map .int)) .un (by decide) (by decide)
    haveI : Bd 21 (s + 7) := ⟨by omega⟩
    haveI : Bd 11 (k + 3) := ⟨by omega⟩
    refine ⟨(s + 7) * (k + 3) * 69621 % 2147483647, ?_⟩
    simp (config := {decide := true}) only [m__law_cell, b__law_cell, runD, List.map_cons, List.map_nil, List.replicate_zero, List.replicate_succ, List.cons_append, List.nil_append, List.append_nil, sRet, sRetN, sNx, sSeq, sSet, sSetF, sOwn, sTo, gsCons, gsNil, sPar, sPar3, eChain, sExp, sApp, sPut, sIf, sFrz, frz, frz1, List.foldl_cons, List.foldl_nil, eBin, eUn, eVar, eC, eAnd, eOr, eIf, eLend, flat, eIxO, eOfF, eTup, eAll, fAll, eCall, eIs, eSl, fSl, oNone, oSome, aNil, aCons, bVal, bAnd, bOr, bNot, bYes, blOf, gNot, iSeq, iRg1, iRg2, seq_l, seq_t, tup_l, tup_t, lst_l, lst_t, len_l, len_t, gIx_l, gIx_t, gNm, wipeR, List.getElem?_cons_zero, List.getElem?_cons_succ, List.set_cons_zero, List.set_cons_succ, Option.bind_some, Option.bind_none, Option.map_some, Option.map_none, if_true, if_false, decide_true, decide_false, Bool.not_true, Bool.not_false, Bool.false_eq_true, reduceIte, gAdd_i, gSub_i, gNeg_i, gLt_i, gLe_i, gGt_i, gGe_i, gEq_i, gNe_i, gMul_b, gMod_p, gFdiv_p, Nat.reduceAdd, Nat.reduceMul, Nat.reduceLeDiff, at0, at1, at2, at3, at4, at5, at6, at7, at8, at9, at10, at11, at12, at13, at14, at15, gSl_l, cut_pos, cut_from, cut_to, Int.reduceToNat, List.drop_succ_cons, List.drop_zero, List.take_succ_cons, List.take_zero, List.take_nil, Nat.reduceSub, Int.reduceAdd, Int.reduceSub, Int.reduceMul, Int.reduceMod, Int.reduceDiv, Int.reduceNeg, List.length_cons, List.length_nil, Nat.zero_add, fComp, compL, rg1_3, mInt, mAbs, mGcd, mMax2, mMin2, mMax3, mMin3, mIsqrt, isT, List.length_map, h, decide_false, sFor, h3]

theorem gPow_18 : gPow (.int 10) (.int 18) = some (.int 1000000000000000000) := by
  show (if CPow 10 18 then some (PyData.int (10 ^ (18 : Int).toNat)) else none) = _
  rw [if_pos (by decide +kernel)]
  rfl
/-! digits -/
noncomputable abbrev bodyA : ES := sSeq (sApp 2 (eBin gMod (eAll mInt (aCons (eVar 3) aNil)) (eVar 4))) (sSet 3 (eBin gFdiv (eAll mInt (aCons (eVar 3) aNil)) (eVar 4)))
noncomputable abbrev bodyB : ES := sSeq (sSet 5 (eBin gMod (eAll mInt (aCons (eBin gAdd (eBin gAdd (eBin gMul (eVar 5) (eC (.int 48271))) (eBin gMul (eC (.int 974711)) (eVar 6))) (eC (.int 12345))) aNil)) (eC (.int 2147483647)))) (sSeq (sSet 7 (eBin gMod (eAll mInt (aCons (eBin gMul (eVar 5) (eBin gAdd (eBin gFdiv (eVar 5) (eC (.int 65537))) (eC (.int 3)))) aNil)) (eC (.int 2147483629)))) (sApp 2 (eBin gMod (eBin gFdiv (eVar 7) (eC (.int 19))) (eBin gIx (eVar 1) (eVar 6)))))
theorem log_small {l : Int} (h : 0 < l) (h2 : l < 18446744073709551616) : l.natAbs.log2 < 9000 := by
  have : l.natAbs < 2 ^ 64 := by omega
  exact Nat.lt_of_lt_of_le (PySem.Flt.log2_lt_of (by decide) this) (by decide)
theorem digA (c ls : PyData) (x y z : SC) : ∀ (L : List Int) (acc : List PyData) (r : Int) (w : SC), (∀ l ∈ L, 0 < l ∧ l < 18446744073709551616) → acc.length + L.length ≤ 10000 → ∃ (ds : List Int) (r' : Int) (w' : SC), inD ds L ∧
    forL (gNm 4) bodyA (L.map PyData.int) [.va c, .va ls, .ow acc, .va (.int r), w, x, y, z] = some (.nx [.va c, .va ls, .ow (acc ++ ds.map PyData.int), .va (.int r'), w', x, y, z])
  | [], acc, r, w, _, _ => ⟨[], r, w, trivial, by simp only [List.map_nil, List.append_nil, forL]⟩
  | l :: L, acc, r, w, hL, hl => by
    obtain ⟨p1, p2⟩ := hL l List.mem_cons_self
    rw [List.length_cons] at hl
    obtain ⟨ds, r', w', q1, q2⟩ := digA c ls x y z L (acc ++ [.int (r % l)]) (r / l) (.va (.int l)) (fun k hk => hL k (List.mem_cons_of_mem _ hk)) (by rw [List.length_append]; simp; omega)
    refine ⟨r % l :: ds, r', w', ⟨Int.emod_nonneg _ (by omega), Int.emod_lt_of_pos _ p1, q1⟩, ?_⟩
    rw [List.map_cons]
    simp (config := {decide := true}) only [forL, runD, List.map_cons, List.map_nil, List.replicate_zero, List.replicate_succ, List.cons_append, List.nil_append, List.append_nil, sRet, sRetN, sNx, sSeq, sSet, sSetF, sOwn, sTo, gsCons, gsNil, sPar, sPar3, eChain, sExp, sApp, sPut, sIf, sFrz, frz, frz1, List.foldl_cons, List.foldl_nil, eBin, eUn, eVar, eC, eAnd, eOr, eIf, eLend, flat, eIxO, eOfF, eTup, eAll, fAll, eCall, eIs, eSl, fSl, oNone, oSome, aNil, aCons, bVal, bAnd, bOr, bNot, bYes, blOf, gNot, iSeq, iRg1, iRg2, seq_l, seq_t, tup_l, tup_t, lst_l, lst_t, len_l, len_t, gIx_l, gIx_t, gNm, wipeR, List.getElem?_cons_zero, List.getElem?_cons_succ, List.set_cons_zero, List.set_cons_succ, Option.bind_some, Option.bind_none, Option.map_some, Option.map_none, if_true, if_false, decide_true, decide_false, Bool.not_true, Bool.not_false, Bool.false_eq_true, reduceIte, gAdd_i, gSub_i, gNeg_i, gLt_i, gLe_i, gGt_i, gGe_i, gEq_i, gNe_i, gMul_b, gMod_p, gFdiv_p, Nat.reduceAdd, Nat.reduceMul, Nat.reduceLeDiff, at0, at1, at2, at3, at4, at5, at6, at7, at8, at9, at10, at11, at12, at13, at14, at15, gSl_l, cut_pos, cut_from, cut_to, Int.reduceToNat, List.drop_succ_cons, List.drop_zero, List.take_succ_cons, List.take_zero, List.take_nil, Nat.reduceSub, Int.reduceAdd, Int.reduceSub, Int.reduceMul, Int.reduceMod, Int.reduceDiv, Int.reduceNeg, List.length_cons, List.length_nil, Nat.zero_add, fComp, compL, rg1_3, mInt, mAbs, mGcd, mMax2, mMin2, mMax3, mMin3, mIsqrt, isT, bodyA, p1, log_small p1 p2, show acc.length < 16000000 by omega]
    rw [q2, List.append_assoc]
    rfl
theorem bd31 {x : Int} : Bd 31 (x % 2147483647) := ⟨by omega⟩
theorem digB (c : PyData) (L : List Int) (hL : ∀ l ∈ L, 0 < l ∧ l < 18446744073709551616) (hl : L.length ≤ 1000) (r w : SC) : ∀ (m i : Nat) (acc : List PyData) (s : Int) (k t : SC), i + m = L.length → acc.length = i → 0 ≤ s → s < 2147483647 → ∃ (ds : List Int) (s' k' t' : SC), inD ds (L.drop i) ∧
    forL (gNm 6) bodyB (rng i m) [.va c, .va (.list (L.map PyData.int)), .ow acc, r, w, .va (.int s), k, t] = some (.nx [.va c, .va (.list (L.map PyData.int)), .ow (acc ++ ds.map PyData.int), r, w, s', k', t'])
  | 0, i, acc, s, k, t, h1, h2, h3, h4 => ⟨[], _, _, _, by rw [List.drop_eq_nil_of_le (by omega)]; trivial, by rw [rng_zero]; simp only [List.map_nil, List.append_nil, forL]; rfl⟩
  | m + 1, i, acc, s, k, t, h1, h2, h3, h4 => by
    have hi : i < L.length := by omega
    obtain ⟨p1, p2⟩ := hL L[i] (List.getElem_mem hi)
    generalize es : (s * 48271 + 974711 * (i : Int) + 12345) % 2147483647 = s1
    have b1 : 0 ≤ s1 ∧ s1 < 2147483647 := by omega
    obtain ⟨ds, s', k', t', q1, q2⟩ := digB c L hL hl r w m (i + 1) (acc ++ [.int (s1 * (s1 / 65537 + 3) % 2147483629 / 19 % L[i])]) s1 (.va (.int i)) (.va (.int (s1 * (s1 / 65537 + 3) % 2147483629))) (by omega) (by simp [h2]) b1.1 b1.2
    refine ⟨s1 * (s1 / 65537 + 3) % 2147483629 / 19 % L[i] :: ds, s', k', t', ?_, ?_⟩
    · rw [List.drop_eq_getElem_cons hi]
      exact ⟨Int.emod_nonneg _ (by omega), Int.emod_lt_of_pos _ p1, q1⟩
    · haveI : Bd 31 s := ⟨by omega⟩
      haveI : Bd 10 (i : Int) := ⟨by omega⟩
      haveI : Bd 31 s1 := ⟨by omega⟩
      haveI : Bd 31 (s1 / 65537 + 3) := ⟨by omega⟩
      have e : atI (L.map PyData.int) (i : Int) = some (.int L[i]) := by
        rw [atI_nat', List.getElem?_map, List.getElem?_eq_getElem hi]
        rfl
      rw [rng_succ]
      simp (config := {decide := true}) only [forL, runD, List.map_cons, List.map_nil, List.replicate_zero, List.replicate_succ, List.cons_append, List.nil_append, List.append_nil, sRet, sRetN, sNx, sSeq, sSet, sSetF, sOwn, sTo, gsCons, gsNil, sPar, sPar3, eChain, sExp, sApp, sPut, sIf, sFrz, frz, frz1, List.foldl_cons, List.foldl_nil, eBin, eUn, eVar, eC, eAnd, eOr, eIf, eLend, flat, eIxO, eOfF, eTup, eAll, fAll, eCall, eIs, eSl, fSl, oNone, oSome, aNil, aCons, bVal, bAnd, bOr, bNot, bYes, blOf, gNot, iSeq, iRg1, iRg2, seq_l, seq_t, tup_l, tup_t, lst_l, lst_t, len_l, len_t, gIx_l, gIx_t, gNm, wipeR, List.getElem?_cons_zero, List.getElem?_cons_succ, List.set_cons_zero, List.set_cons_succ, Option.bind_some, Option.bind_none, Option.map_some, Option.map_none, if_true, if_false, decide_true, decide_false, Bool.not_true, Bool.not_false, Bool.false_eq_true, reduceIte, gAdd_i, gSub_i, gNeg_i, gLt_i, gLe_i, gGt_i, gGe_i, gEq_i, gNe_i, gMul_b, gMod_p, gFdiv_p, Nat.reduceAdd, Nat.reduceMul, Nat.reduceLeDiff, at0, at1, at2, at3, at4, at5, at6, at7, at8, at9, at10, at11, at12, at13, at14, at15, gSl_l, cut_pos, cut_from, cut_to, Int.reduceToNat, List.drop_succ_cons, List.drop_zero, List.take_succ_cons, List.take_zero, List.take_nil, Nat.reduceSub, Int.reduceAdd, Int.reduceSub, Int.reduceMul, Int.reduceMod, Int.reduceDiv, Int.reduceNeg, List.length_cons, List.length_nil, Nat.zero_add, fComp, compL, rg1_3, mInt, mAbs, mGcd, mMax2, mMin2, mMax3, mMin3, mIsqrt, isT, bodyB, es, e, p1, log_small p1 p2, show acc.length < 16000000 by omega]
      rw [show (i : Int) + 1 = ((i + 1 : Nat) : Int) by omega, q2, List.append_assoc]
      rfl
theorem w_digits (c : Int) (L : List Int) (hL : ∀ l ∈ L, 0 < l ∧ l < 18446744073709551616) (hl : L.length ≤ 1000) : ∃ ds, inD ds L ∧ m__law_digits [.int c, .list (L.map .int)] = some (.list (ds.map .int)) := by
  by_cases h : 1000000000000000000 ≤ c
  · obtain ⟨ds, r', w', q1, q2⟩ := digA (.int c) (.list (L.map .int)) .un .un .un L [] (c - 1000000000000000000) .un hL (by simp; omega)
    refine ⟨ds, q1, ?_⟩
    simp (config := {decide := true}) only [m__law_digits, b__law_digits, runD, List.map_cons, List.map_nil, List.replicate_zero, List.replicate_succ, List.cons_append, List.nil_append, List.append_nil, sRet, sRetN, sNx, sSeq, sSet, sSetF, sOwn, sTo, gsCons, gsNil, sPar, sPar3, eChain, sExp, sApp, sPut, sIf, sFrz, frz, frz1, List.foldl_cons, List.foldl_nil, eBin, eUn, eVar, eC, eAnd, eOr, eIf, eLend, flat, eIxO, eOfF, eTup, eAll, fAll, eCall, eIs, eSl, fSl, oNone, oSome, aNil, aCons, bVal, bAnd, bOr, bNot, bYes, blOf, gNot, iSeq, iRg1, iRg2, seq_l, seq_t, tup_l, tup_t, lst_l, lst_t, len_l, len_t, gIx_l, gIx_t, gNm, wipeR, List.getElem?_cons_zero, List.getElem?_cons_succ, List.set_cons_zero, List.set_cons_succ, Option.bind_some, Option.bind_none, Option.map_some, Option.map_none, if_true, if_false, decide_true, decide_false, Bool.not_true, Bool.not_false, Bool.false_eq_true, reduceIte, gAdd_i, gSub_i, gNeg_i, gLt_i, gLe_i, gGt_i, gGe_i, gEq_i, gNe_i, gMul_b, gMod_p, gFdiv_p, Nat.reduceAdd, Nat.reduceMul, Nat.reduceLeDiff, at0, at1, at2, at3, at4, at5, at6, at7, at8, at9, at10, at11, at12, at13, at14, at15, gSl_l, cut_pos, cut_from, cut_to, Int.reduceToNat, List.drop_succ_cons, List.drop_zero, List.take_succ_cons, List.take_zero, List.take_nil, Nat.reduceSub, Int.reduceAdd, Int.reduceSub, Int.reduceMul, Int.reduceMod, Int.reduceDiv, Int.reduceNeg, List.length_cons, List.length_nil, Nat.zero_add, fComp, compL, rg1_3, mInt, mAbs, mGcd, mMax2, mMin2, mMax3, mMin3, mIsqrt, isT, gPow_18, h, sFor, q2]
  · obtain ⟨ds, s', k', t', q1, q2⟩ := digB (.int c) L hL hl (.va (.int c)) .un L.length 0 [] (c % 2147483629) .un .un (by omega) rfl (by omega) (by omega)
    refine ⟨ds, q1, ?_⟩
    change forL (gNm 6) bodyB (rng 0 L.length) _ = _ at q2
    have e : rg1 (.int ((L.map PyData.int).length : Nat)) = some (rng 0 L.length) := by
      rw [List.length_map]
      exact rg1_nat _ (by omega)
    simp (config := {decide := true}) only [m__law_digits, b__law_digits, runD, List.map_cons, List.map_nil, List.replicate_zero, List.replicate_succ, List.cons_append, List.nil_append, List.append_nil, sRet, sRetN, sNx, sSeq, sSet, sSetF, sOwn, sTo, gsCons, gsNil, sPar, sPar3, eChain, sExp, sApp, sPut, sIf, sFrz, frz, frz1, List.foldl_cons, List.foldl_nil, eBin, eUn, eVar, eC, eAnd, eOr, eIf, eLend, flat, eIxO, eOfF, eTup, eAll, fAll, eCall, eIs, eSl, fSl, oNone, oSome, aNil, aCons, bVal, bAnd, bOr, bNot, bYes, blOf, gNot, iSeq, iRg1, iRg2, seq_l, seq_t, tup_l, tup_t, lst_l, lst_t, len_l, len_t, gIx_l, gIx_t, gNm, wipeR, List.getElem?_cons_zero, List.getElem?_cons_succ, List.set_cons_zero, List.set_cons_succ, Option.bind_some, Option.bind_none, Option.map_some, Option.map_none, if_true, if_false, decide_true, decide_false, Bool.not_true, Bool.not_false, Bool.false_eq_true, reduceIte, gAdd_i, gSub_i, gNeg_i, gLt_i, gLe_i, gGt_i, gGe_i, gEq_i, gNe_i, gMul_b, gMod_p, gFdiv_p, Nat.reduceAdd, Nat.reduceMul, Nat.reduceLeDiff, at0, at1, at2, at3, at4, at5, at6, at7, at8, at9, at10, at11, at12, at13, at14, at15, gSl_l, cut_pos, cut_from, cut_to, Int.reduceToNat, List.drop_succ_cons, List.drop_zero, List.take_succ_cons, List.take_zero, List.take_nil, Nat.reduceSub, Int.reduceAdd, Int.reduceSub, Int.reduceMul, Int.reduceMod, Int.reduceDiv, Int.reduceNeg, List.length_cons, List.length_nil, Nat.zero_add, fComp, compL, rg1_3, mInt, mAbs, mGcd, mMax2, mMin2, mMax3, mMin3, mIsqrt, isT, gPow_18, h, sFor, e, q2]

/-! a number -/
theorem six {d : Int} (h : 0 ≤ d) (h2 : d < 8) : d = 0 ∨ d = 1 ∨ d = 2 ∨ d = 3 ∨ d = 4 ∨ d = 5 ∨ d = 6 ∨ d = 7 := by omega
theorem w_number (c : Int) : ∃ n, Bd 103 n ∧ m__law_number [.int c] = some (.int n) := by
  obtain ⟨ds, q1, q2⟩ := w_digits c [8, 2, 100000, 100000, 100000, 100000, 100000, 100000] (by decide) (by decide)
  obtain ⟨d0, r, rfl, a0, b0, q1⟩ := inD_cons q1
  obtain ⟨d1, r, rfl, a1, b1, q1⟩ := inD_cons q1
  obtain ⟨d2, r, rfl, a2, b2, q1⟩ := inD_cons q1
  obtain ⟨d3, r, rfl, a3, b3, q1⟩ := inD_cons q1
  obtain ⟨d4, r, rfl, a4, b4, q1⟩ := inD_cons q1
  obtain ⟨d5, r, rfl, a5, b5, q1⟩ := inD_cons q1
  obtain ⟨d6, r, rfl, a6, b6, q1⟩ := inD_cons q1
  obtain ⟨d7, r, rfl, a7, b7, q1⟩ := inD_cons q1
  obtain rfl := inD_nil q1
  simp only [List.map_cons, List.map_nil] at q2
  haveI : Bd 1 d1 := ⟨by omega⟩
  haveI : Bd 17 d2 := ⟨by omega⟩
  haveI : Bd 17 d3 := ⟨by omega⟩
  haveI : Bd 17 d4 := ⟨by omega⟩
  haveI : Bd 17 d5 := ⟨by omega⟩
  haveI : Bd 17 d6 := ⟨by omega⟩
  haveI : Bd 17 d7 := ⟨by omega⟩
  have fin : ∀ x : Int, Bd 101 x → ∃ n, Bd 103 n ∧ x * (1 - 2 * d1) = n := fun x h => ⟨_, ⟨by
    have h1 : (x * (1 - 2 * d1)).natAbs < 2 ^ (101 + 1) := wide_lt h.lt (show (1 - 2 * d1).natAbs < 2 ^ 1 by omega)
    exact Nat.lt_of_lt_of_le h1 (by decide)⟩, rfl⟩
  haveI big : Bd 101 (((((d3 * 100000 + d4) * 100000 + d5) * 100000 + d6) * 100000 + d7)) := ⟨by omega⟩
  have key : ∃ x, Bd 101 x ∧ m__law_number [.int c] = some (.int (x * (1 - 2 * d1))) := by
    rcases six a0 b0 with rfl | rfl | rfl | rfl | rfl | rfl | rfl | rfl
    · haveI : Bd 101 (d2 % 1) := ⟨by omega⟩
      exact ⟨_, this, by simp (config := {decide := true}) only [m__law_number, b__law_number, runD, List.map_cons, List.map_nil, List.replicate_zero, List.replicate_succ, List.cons_append, List.nil_append, List.append_nil, sRet, sRetN, sNx, sSeq, sSet, sSetF, sOwn, sTo, gsCons, gsNil, sPar, sPar3, eChain, sExp, sApp, sPut, sIf, sFrz, frz, frz1, List.foldl_cons, List.foldl_nil, eBin, eUn, eVar, eC, eAnd, eOr, eIf, eLend, flat, eIxO, eOfF, eTup, eAll, fAll, eCall, eIs, eSl, fSl, oNone, oSome, aNil, aCons, bVal, bAnd, bOr, bNot, bYes, blOf, gNot, iSeq, iRg1, iRg2, seq_l, seq_t, tup_l, tup_t, lst_l, lst_t, len_l, len_t, gIx_l, gIx_t, gNm, wipeR, List.getElem?_cons_zero, List.getElem?_cons_succ, List.set_cons_zero, List.set_cons_succ, Option.bind_some, Option.bind_none, Option.map_some, Option.map_none, if_true, if_false, decide_true, decide_false, Bool.not_true, Bool.not_false, Bool.false_eq_true, reduceIte, gAdd_i, gSub_i, gNeg_i, gLt_i, gLe_i, gGt_i, gGe_i, gEq_i, gNe_i, gMul_b, gMod_p, gFdiv_p, Nat.reduceAdd, Nat.reduceMul, Nat.reduceLeDiff, at0, at1, at2, at3, at4, at5, at6, at7, at8, at9, at10, at11, at12, at13, at14, at15, gSl_l, cut_pos, cut_from, cut_to, Int.reduceToNat, List.drop_succ_cons, List.drop_zero, List.take_succ_cons, List.take_zero, List.take_nil, Nat.reduceSub, Int.reduceAdd, Int.reduceSub, Int.reduceMul, Int.reduceMod, Int.reduceDiv, Int.reduceNeg, List.length_cons, List.length_nil, Nat.zero_add, fComp, compL, rg1_3, mInt, mAbs, mGcd, mMax2, mMin2, mMax3, mMin3, mIsqrt, isT, q2]⟩
    · haveI : Bd 101 (d2 % 4) := ⟨by omega⟩
      exact ⟨_, this, by simp (config := {decide := true}) only [m__law_number, b__law_number, runD, List.map_cons, List.map_nil, List.replicate_zero, List.replicate_succ, List.cons_append, List.nil_append, List.append_nil, sRet, sRetN, sNx, sSeq, sSet, sSetF, sOwn, sTo, gsCons, gsNil, sPar, sPar3, eChain, sExp, sApp, sPut, sIf, sFrz, frz, frz1, List.foldl_cons, List.foldl_nil, eBin, eUn, eVar, eC, eAnd, eOr, eIf, eLend, flat, eIxO, eOfF, eTup, eAll, fAll, eCall, eIs, eSl, fSl, oNone, oSome, aNil, aCons, bVal, bAnd, bOr, bNot, bYes, blOf, gNot, iSeq, iRg1, iRg2, seq_l, seq_t, tup_l, tup_t, lst_l, lst_t, len_l, len_t, gIx_l, gIx_t, gNm, wipeR, List.getElem?_cons_zero, List.getElem?_cons_succ, List.set_cons_zero, List.set_cons_succ, Option.bind_some, Option.bind_none, Option.map_some, Option.map_none, if_true, if_false, decide_true, decide_false, Bool.not_true, Bool.not_false, Bool.false_eq_true, reduceIte, gAdd_i, gSub_i, gNeg_i, gLt_i, gLe_i, gGt_i, gGe_i, gEq_i, gNe_i, gMul_b, gMod_p, gFdiv_p, Nat.reduceAdd, Nat.reduceMul, Nat.reduceLeDiff, at0, at1, at2, at3, at4, at5, at6, at7, at8, at9, at10, at11, at12, at13, at14, at15, gSl_l, cut_pos, cut_from, cut_to, Int.reduceToNat, List.drop_succ_cons, List.drop_zero, List.take_succ_cons, List.take_zero, List.take_nil, Nat.reduceSub, Int.reduceAdd, Int.reduceSub, Int.reduceMul, Int.reduceMod, Int.reduceDiv, Int.reduceNeg, List.length_cons, List.length_nil, Nat.zero_add, fComp, compL, rg1_3, mInt, mAbs, mGcd, mMax2, mMin2, mMax3, mMin3, mIsqrt, isT, q2]⟩
    · haveI : Bd 101 (d2 % 4) := ⟨by omega⟩
      exact ⟨_, this, by simp (config := {decide := true}) only [m__law_number, b__law_number, runD, List.map_cons, List.map_nil, List.replicate_zero, List.replicate_succ, List.cons_append, List.nil_append, List.append_nil, sRet, sRetN, sNx, sSeq, sSet, sSetF, sOwn, sTo, gsCons, gsNil, sPar, sPar3, eChain, sExp, sApp, sPut, sIf, sFrz, frz, frz1, List.foldl_cons, List.foldl_nil, eBin, eUn, eVar, eC, eAnd, eOr, eIf, eLend, flat, eIxO, eOfF, eTup, eAll, fAll, eCall, eIs, eSl, fSl, oNone, oSome, aNil, aCons, bVal, bAnd, bOr, bNot, bYes, blOf, gNot, iSeq, iRg1, iRg2, seq_l, seq_t, tup_l, tup_t, lst_l, lst_t, len_l, len_t, gIx_l, gIx_t, gNm, wipeR, List.getElem?_cons_zero, List.getElem?_cons_succ, List.set_cons_zero, List.set_cons_succ, Option.bind_some, Option.bind_none, Option.map_some, Option.map_none, if_true, if_false, decide_true, decide_false, Bool.not_true, Bool.not_false, Bool.false_eq_true, reduceIte, gAdd_i, gSub_i, gNeg_i, gLt_i, gLe_i, gGt_i, gGe_i, gEq_i, gNe_i, gMul_b, gMod_p, gFdiv_p, Nat.reduceAdd, Nat.reduceMul, Nat.reduceLeDiff, at0, at1, at2, at3, at4, at5, at6, at7, at8, at9, at10, at11, at12, at13, at14, at15, gSl_l, cut_pos, cut_from, cut_to, Int.reduceToNat, List.drop_succ_cons, List.drop_zero, List.take_succ_cons, List.take_zero, List.take_nil, Nat.reduceSub, Int.reduceAdd, Int.reduceSub, Int.reduceMul, Int.reduceMod, Int.reduceDiv, Int.reduceNeg, List.length_cons, List.length_nil, Nat.zero_add, fComp, compL, rg1_3, mInt, mAbs, mGcd, mMax2, mMin2, mMax3, mMin3, mIsqrt, isT, q2]⟩
    · haveI : Bd 101 (d2 % 31) := ⟨by omega⟩
      exact ⟨_, this, by simp (config := {decide := true}) only [m__law_number, b__law_number, runD, List.map_cons, List.map_nil, List.replicate_zero, List.replicate_succ, List.cons_append, List.nil_append, List.append_nil, sRet, sRetN, sNx, sSeq, sSet, sSetF, sOwn, sTo, gsCons, gsNil, sPar, sPar3, eChain, sExp, sApp, sPut, sIf, sFrz, frz, frz1, List.foldl_cons, List.foldl_nil, eBin, eUn, eVar, eC, eAnd, eOr, eIf, eLend, flat, eIxO, eOfF, eTup, eAll, fAll, eCall, eIs, eSl, fSl, oNone, oSome, aNil, aCons, bVal, bAnd, bOr, bNot, bYes, blOf, gNot, iSeq, iRg1, iRg2, seq_l, seq_t, tup_l, tup_t, lst_l, lst_t, len_l, len_t, gIx_l, gIx_t, gNm, wipeR, List.getElem?_cons_zero, List.getElem?_cons_succ, List.set_cons_zero, List.set_cons_succ, Option.bind_some, Option.bind_none, Option.map_some, Option.map_none, if_true, if_false, decide_true, decide_false, Bool.not_true, Bool.not_false, Bool.false_eq_true, reduceIte, gAdd_i, gSub_i, gNeg_i, gLt_i, gLe_i, gGt_i, gGe_i, gEq_i, gNe_i, gMul_b, gMod_p, gFdiv_p, Nat.reduceAdd, Nat.reduceMul, Nat.reduceLeDiff, at0, at1, at2, at3, at4, at5, at6, at7, at8, at9, at10, at11, at12, at13, at14, at15, gSl_l, cut_pos, cut_from, cut_to, Int.reduceToNat, List.drop_succ_cons, List.drop_zero, List.take_succ_cons, List.take_zero, List.take_nil, Nat.reduceSub, Int.reduceAdd, Int.reduceSub, Int.reduceMul, Int.reduceMod, Int.reduceDiv, Int.reduceNeg, List.length_cons, List.length_nil, Nat.zero_add, fComp, compL, rg1_3, mInt, mAbs, mGcd, mMax2, mMin2, mMax3, mMin3, mIsqrt, isT, q2]⟩
    · haveI : Bd 101 (d2 % 31) := ⟨by omega⟩
      exact ⟨_, this, by simp (config := {decide := true}) only [m__law_number, b__law_number, runD, List.map_cons, List.map_nil, List.replicate_zero, List.replicate_succ, List.cons_append, List.nil_append, List.append_nil, sRet, sRetN, sNx, sSeq, sSet, sSetF, sOwn, sTo, gsCons, gsNil, sPar, sPar3, eChain, sExp, sApp, sPut, sIf, sFrz, frz, frz1, List.foldl_cons, List.foldl_nil, eBin, eUn, eVar, eC, eAnd, eOr, eIf, eLend, flat, eIxO, eOfF, eTup, eAll, fAll, eCall, eIs, eSl, fSl, oNone, oSome, aNil, aCons, bVal, bAnd, bOr, bNot, bYes, blOf, gNot, iSeq, iRg1, iRg2, seq_l, seq_t, tup_l, tup_t, lst_l, lst_t, len_l, len_t, gIx_l, gIx_t, gNm, wipeR, List.getElem?_cons_zero, List.getElem?_cons_succ, List.set_cons_zero, List.set_cons_succ, Option.bind_some, Option.bind_none, Option.map_some, Option.map_none, if_true, if_false, decide_true, decide_false, Bool.not_true, Bool.not_false, Bool.false_eq_true, reduceIte, gAdd_i, gSub_i, gNeg_i, gLt_i, gLe_i, gGt_i, gGe_i, gEq_i, gNe_i, gMul_b, gMod_p, gFdiv_p, Nat.reduceAdd, Nat.reduceMul, Nat.reduceLeDiff, at0, at1, at2, at3, at4, at5, at6, at7, at8, at9, at10, at11, at12, at13, at14, at15, gSl_l, cut_pos, cut_from, cut_to, Int.reduceToNat, List.drop_succ_cons, List.drop_zero, List.take_succ_cons, List.take_zero, List.take_nil, Nat.reduceSub, Int.reduceAdd, Int.reduceSub, Int.reduceMul, Int.reduceMod, Int.reduceDiv, Int.reduceNeg, List.length_cons, List.length_nil, Nat.zero_add, fComp, compL, rg1_3, mInt, mAbs, mGcd, mMax2, mMin2, mMax3, mMin3, mIsqrt, isT, q2]⟩
    · haveI : Bd 101 (d2 % 100000) := ⟨by omega⟩
      exact ⟨_, this, by simp (config := {decide := true}) only [m__law_number, b__law_number, runD, List.map_cons, List.map_nil, List.replicate_zero, List.replicate_succ, List.cons_append, List.nil_append, List.append_nil, sRet, sRetN, sNx, sSeq, sSet, sSetF, sOwn, sTo, gsCons, gsNil, sPar, sPar3, eChain, sExp, sApp, sPut, sIf, sFrz, frz, frz1, List.foldl_cons, List.foldl_nil, eBin, eUn, eVar, eC, eAnd, eOr, eIf, eLend, flat, eIxO, eOfF, eTup, eAll, fAll, eCall, eIs, eSl, fSl, oNone, oSome, aNil, aCons, bVal, bAnd, bOr, bNot, bYes, blOf, gNot, iSeq, iRg1, iRg2, seq_l, seq_t, tup_l, tup_t, lst_l, lst_t, len_l, len_t, gIx_l, gIx_t, gNm, wipeR, List.getElem?_cons_zero, List.getElem?_cons_succ, List.set_cons_zero, List.set_cons_succ, Option.bind_some, Option.bind_none, Option.map_some, Option.map_none, if_true, if_false, decide_true, decide_false, Bool.not_true, Bool.not_false, Bool.false_eq_true, reduceIte, gAdd_i, gSub_i, gNeg_i, gLt_i, gLe_i, gGt_i, gGe_i, gEq_i, gNe_i, gMul_b, gMod_p, gFdiv_p, Nat.reduceAdd, Nat.reduceMul, Nat.reduceLeDiff, at0, at1, at2, at3, at4, at5, at6, at7, at8, at9, at10, at11, at12, at13, at14, at15, gSl_l, cut_pos, cut_from, cut_to, Int.reduceToNat, List.drop_succ_cons, List.drop_zero, List.take_succ_cons, List.take_zero, List.take_nil, Nat.reduceSub, Int.reduceAdd, Int.reduceSub, Int.reduceMul, Int.reduceMod, Int.reduceDiv, Int.reduceNeg, List.length_cons, List.length_nil, Nat.zero_add, fComp, compL, rg1_3, mInt, mAbs, mGcd, mMax2, mMin2, mMax3, mMin3, mIsqrt, isT, q2]⟩
    · haveI : Bd 101 (d2 * 100000 + d3) := ⟨by omega⟩
      exact ⟨_, this, by simp (config := {decide := true}) only [m__law_number, b__law_number, runD, List.map_cons, List.map_nil, List.replicate_zero, List.replicate_succ, List.cons_append, List.nil_append, List.append_nil, sRet, sRetN, sNx, sSeq, sSet, sSetF, sOwn, sTo, gsCons, gsNil, sPar, sPar3, eChain, sExp, sApp, sPut, sIf, sFrz, frz, frz1, List.foldl_cons, List.foldl_nil, eBin, eUn, eVar, eC, eAnd, eOr, eIf, eLend, flat, eIxO, eOfF, eTup, eAll, fAll, eCall, eIs, eSl, fSl, oNone, oSome, aNil, aCons, bVal, bAnd, bOr, bNot, bYes, blOf, gNot, iSeq, iRg1, iRg2, seq_l, seq_t, tup_l, tup_t, lst_l, lst_t, len_l, len_t, gIx_l, gIx_t, gNm, wipeR, List.getElem?_cons_zero, List.getElem?_cons_succ, List.set_cons_zero, List.set_cons_succ, Option.bind_some, Option.bind_none, Option.map_some, Option.map_none, if_true, if_false, decide_true, decide_false, Bool.not_true, Bool.not_false, Bool.false_eq_true, reduceIte, gAdd_i, gSub_i, gNeg_i, gLt_i, gLe_i, gGt_i, gGe_i, gEq_i, gNe_i, gMul_b, gMod_p, gFdiv_p, Nat.reduceAdd, Nat.reduceMul, Nat.reduceLeDiff, at0, at1, at2, at3, at4, at5, at6, at7, at8, at9, at10, at11, at12, at13, at14, at15, gSl_l, cut_pos, cut_from, cut_to, Int.reduceToNat, List.drop_succ_cons, List.drop_zero, List.take_succ_cons, List.take_zero, List.take_nil, Nat.reduceSub, Int.reduceAdd, Int.reduceSub, Int.reduceMul, Int.reduceMod, Int.reduceDiv, Int.reduceNeg, List.length_cons, List.length_nil, Nat.zero_add, fComp, compL, rg1_3, mInt, mAbs, mGcd, mMax2, mMin2, mMax3, mMin3, mIsqrt, isT, q2]⟩
    · have hx : Bd 101 (((((d2 % 100000 * 100000 + d3) * 100000 + d4) * 100000 + d5) * 100000 + d6) * 100000 + d7) := ⟨by omega⟩
      haveI : Bd 101 (((((d2 % 100000 * 100000 + d3) * 100000 + d4) * 100000 + d5) * 100000 + d6)) := ⟨by omega⟩
      haveI : Bd 101 (((((d2 % 100000 * 100000 + d3) * 100000 + d4) * 100000 + d5))) := ⟨by omega⟩
      haveI : Bd 101 (((((d2 % 100000 * 100000 + d3) * 100000 + d4)))) := ⟨by omega⟩
      haveI : Bd 101 (((((d2 % 100000 * 100000 + d3))))) := ⟨by omega⟩
      haveI : Bd 101 (d2 % 100000) := ⟨by omega⟩
      exact ⟨_, hx, by simp (config := {decide := true}) only [m__law_number, b__law_number, runD, List.map_cons, List.map_nil, List.replicate_zero, List.replicate_succ, List.cons_append, List.nil_append, List.append_nil, sRet, sRetN, sNx, sSeq, sSet, sSetF, sOwn, sTo, gsCons, gsNil, sPar, sPar3, eChain, sExp, sApp, sPut, sIf, sFrz, frz, frz1, List.foldl_cons, List.foldl_nil, eBin, eUn, eVar, eC, eAnd, eOr, eIf, eLend, flat, eIxO, eOfF, eTup, eAll, fAll, eCall, eIs, eSl, fSl, oNone, oSome, aNil, aCons, bVal, bAnd, bOr, bNot, bYes, blOf, gNot, iSeq, iRg1, iRg2, seq_l, seq_t, tup_l, tup_t, lst_l, lst_t, len_l, len_t, gIx_l, gIx_t, gNm, wipeR, List.getElem?_cons_zero, List.getElem?_cons_succ, List.set_cons_zero, List.set_cons_succ, Option.bind_some, Option.bind_none, Option.map_some, Option.map_none, if_true, if_false, decide_true, decide_false, Bool.not_true, Bool.not_false, Bool.false_eq_true, reduceIte, gAdd_i, gSub_i, gNeg_i, gLt_i, gLe_i, gGt_i, gGe_i, gEq_i, gNe_i, gMul_b, gMod_p, gFdiv_p, Nat.reduceAdd, Nat.reduceMul, Nat.reduceLeDiff, at0, at1, at2, at3, at4, at5, at6, at7, at8, at9, at10, at11, at12, at13, at14, at15, gSl_l, cut_pos, cut_from, cut_to, Int.reduceToNat, List.drop_succ_cons, List.drop_zero, List.take_succ_cons, List.take_zero, List.take_nil, Nat.reduceSub, Int.reduceAdd, Int.reduceSub, Int.reduceMul, Int.reduceMod, Int.reduceDiv, Int.reduceNeg, List.length_cons, List.length_nil, Nat.zero_add, fComp, compL, rg1_3, mInt, mAbs, mGcd, mMax2, mMin2, mMax3, mMin3, mIsqrt, isT, q2, sFor, forL]⟩
  obtain ⟨x, hx, e⟩ := key
  obtain ⟨n, hn, rfl⟩ := fin x hx
  exact ⟨_, hn, e⟩

section
variable {n m : Nat} {j k l : Bool} {u v w : V3} {s t : M3} {i : Int}

end
/-- n ints below 2 ^ 103 -/
def Nums (n : Nat) (l : List Int) : Prop := l.length = n ∧ ∀ x ∈ l, x.natAbs < 2 ^ 103
theorem Nums.cons {n : Nat} {l : List Int} (h : Nums (n + 1) l) : ∃ x r, l = x :: r ∧ Bd 103 x ∧ Nums n r := by
  cases l with
  | nil => cases h.1
  | cons x r => exact ⟨x, r, rfl, ⟨h.2 x List.mem_cons_self⟩, Nat.succ.inj h.1, fun y hy => h.2 y (List.mem_cons_of_mem _ hy)⟩
theorem Nums.nil {l : List Int} (h : Nums 0 l) : l = [] := List.length_eq_zero_iff.mp h.1
end W

set_option linter.all false
set_option maxRecDepth 100000
set_option maxHeartbeats 4000000
/-! MP: tables of three rows: products, inverse, powers -/
namespace DL
namespace M3
theorem ext' {s t : M3} (h1 : s.a.x = t.a.x) (h2 : s.a.y = t.a.y) (h3 : s.a.z = t.a.z) (h4 : s.b.x = t.b.x) (h5 : s.b.y = t.b.y) (h6 : s.b.z = t.b.z) (h7 : s.c.x = t.c.x) (h8 : s.c.y = t.c.y) (h9 : s.c.z = t.c.z) : s = t := by
  obtain ⟨⟨a, b, c⟩, ⟨d, e, f⟩, ⟨g, h, i⟩⟩ := s
  obtain ⟨⟨a', b', c'⟩, ⟨d', e', f'⟩, ⟨g', h', i'⟩⟩ := t
  cases h1; cases h2; cases h3; cases h4; cases h5; cases h6; cases h7; cases h8; cases h9
  rfl
def sm (n : Int) (t : M3) : M3 := ⟨t.a.smul n, t.b.smul n, t.c.smul n⟩
def inv (t : M3) : M3 := t.adj.sm t.det
def pw (t : M3) : Nat → M3
  | 0 => one
  | n + 1 => (pw t n).mul t
theorem mul_assoc (s t u : M3) : (s.mul t).mul u = s.mul (t.mul u) := by refine ext' ?_ ?_ ?_ ?_ ?_ ?_ ?_ ?_ ?_ <;> simp only [M3.mul, M3.tr, M3.adj, M3.one, M3.det, M3.sm, V3.dot, V3.cross, V3.smul] <;> grind
theorem one_mul (t : M3) : one.mul t = t := by refine ext' ?_ ?_ ?_ ?_ ?_ ?_ ?_ ?_ ?_ <;> simp only [M3.mul, M3.tr, M3.adj, M3.one, M3.det, M3.sm, V3.dot, V3.cross, V3.smul] <;> grind
theorem mul_one (t : M3) : t.mul one = t := by refine ext' ?_ ?_ ?_ ?_ ?_ ?_ ?_ ?_ ?_ <;> simp only [M3.mul, M3.tr, M3.adj, M3.one, M3.det, M3.sm, V3.dot, V3.cross, V3.smul] <;> grind
theorem mul_adj (t : M3) : t.mul t.adj = one.sm t.det := by refine ext' ?_ ?_ ?_ ?_ ?_ ?_ ?_ ?_ ?_ <;> simp only [M3.mul, M3.tr, M3.adj, M3.one, M3.det, M3.sm, V3.dot, V3.cross, V3.smul] <;> grind
theorem adj_mul (t : M3) : t.adj.mul t = one.sm t.det := by refine ext' ?_ ?_ ?_ ?_ ?_ ?_ ?_ ?_ ?_ <;> simp only [M3.mul, M3.tr, M3.adj, M3.one, M3.det, M3.sm, V3.dot, V3.cross, V3.smul] <;> grind
theorem adj_adj (t : M3) : t.adj.adj = t.sm t.det := by refine ext' ?_ ?_ ?_ ?_ ?_ ?_ ?_ ?_ ?_ <;> simp only [M3.mul, M3.tr, M3.adj, M3.one, M3.det, M3.sm, V3.dot, V3.cross, V3.smul] <;> grind
theorem adj_sm (n : Int) (t : M3) : (t.sm n).adj = t.adj.sm (n * n) := by refine ext' ?_ ?_ ?_ ?_ ?_ ?_ ?_ ?_ ?_ <;> simp only [M3.mul, M3.tr, M3.adj, M3.one, M3.det, M3.sm, V3.dot, V3.cross, V3.smul] <;> grind
theorem sm_sm (m n : Int) (t : M3) : (t.sm n).sm m = t.sm (m * n) := by refine ext' ?_ ?_ ?_ ?_ ?_ ?_ ?_ ?_ ?_ <;> simp only [M3.mul, M3.tr, M3.adj, M3.one, M3.det, M3.sm, V3.dot, V3.cross, V3.smul] <;> grind
theorem sm_one (t : M3) : t.sm 1 = t := by refine ext' ?_ ?_ ?_ ?_ ?_ ?_ ?_ ?_ ?_ <;> simp only [M3.mul, M3.tr, M3.adj, M3.one, M3.det, M3.sm, V3.dot, V3.cross, V3.smul] <;> grind
theorem mul_sm (n : Int) (s t : M3) : s.mul (t.sm n) = (s.mul t).sm n := by refine ext' ?_ ?_ ?_ ?_ ?_ ?_ ?_ ?_ ?_ <;> simp only [M3.mul, M3.tr, M3.adj, M3.one, M3.det, M3.sm, V3.dot, V3.cross, V3.smul] <;> grind
theorem sm_mul (n : Int) (s t : M3) : (s.sm n).mul t = (s.mul t).sm n := by refine ext' ?_ ?_ ?_ ?_ ?_ ?_ ?_ ?_ ?_ <;> simp only [M3.mul, M3.tr, M3.adj, M3.one, M3.det, M3.sm, V3.dot, V3.cross, V3.smul] <;> grind
theorem det_sm (n : Int) (t : M3) : (t.sm n).det = n * n * n * t.det := by
  simp only [M3.det, M3.sm, V3.dot, V3.cross, V3.smul]
  grind
theorem det_adj (t : M3) : t.adj.det = t.det * t.det := by
  simp only [M3.det, M3.adj, M3.tr, V3.dot, V3.cross, V3.smul]
  grind
theorem det_mul (s t : M3) : (s.mul t).det = s.det * t.det := by
  simp only [M3.det, M3.mul, M3.tr, V3.dot, V3.cross, V3.smul]
  grind
theorem det_tr (t : M3) : t.tr.det = t.det := by
  simp only [M3.det, M3.tr, V3.dot, V3.cross, V3.smul]
  grind
theorem det_one : one.det = 1 := by decide
section
variable {t : M3} (h : t.det = 1 ∨ t.det = -1)
include h
theorem dd_one : t.det * t.det = 1 := by
  rcases h with h | h <;> rw [h] <;> rfl
theorem mul_inv : t.mul t.inv = one := by
  unfold inv
  rw [mul_sm, mul_adj, sm_sm, dd_one h, sm_one]
theorem inv_mul : t.inv.mul t = one := by
  unfold inv
  rw [sm_mul, adj_mul, sm_sm, dd_one h, sm_one]
theorem det_inv : t.inv.det = t.det := by
  unfold inv
  rw [det_sm, det_adj]
  rcases h with h | h <;> rw [h] <;> rfl
theorem inv_inv : t.inv.inv = t := by
  have e : t.inv.inv = t.inv.adj.sm t.inv.det := rfl
  rw [e, det_inv h]
  unfold inv
  rw [adj_sm, adj_adj, sm_sm, sm_sm, dd_one h]
  rw [show t.det * 1 * t.det = t.det * t.det by rw [Int.mul_one], dd_one h, sm_one]
end
theorem pw_succ' (t : M3) : ∀ n, pw t (n + 1) = t.mul (pw t n)
  | 0 => by show one.mul t = t.mul one; rw [one_mul, mul_one]
  | n + 1 => by
    show (pw t (n + 1)).mul t = _
    rw [pw_succ' t n, mul_assoc, show (pw t n).mul t = pw t (n + 1) from rfl, pw_succ' t n]
theorem pw_two (t : M3) : ∀ n, pw (t.mul t) n = pw t (2 * n)
  | 0 => rfl
  | n + 1 => by
    show (pw (t.mul t) n).mul (t.mul t) = _
    rw [pw_two t n, ← mul_assoc]
    rfl
theorem pw_even (t : M3) {e : Nat} (h : e % 2 = 0) : pw (t.mul t) (e / 2) = pw t e := by
  rw [pw_two]
  congr 1
  omega
theorem pw_odd (t : M3) {e : Nat} (h : e % 2 = 1) : t.mul (pw (t.mul t) (e / 2)) = pw t e := by
  rw [pw_two, ← pw_succ']
  congr 1
  omega
theorem pw_one (t : M3) : pw t 1 = t := one_mul t
end M3
section
variable {n m : Nat} {t : M3} {i : Int}
instance bm_one : BM 1 M3.one := ⟨⟨by decide, by decide, by decide⟩, ⟨by decide, by decide, by decide⟩, ⟨by decide, by decide, by decide⟩⟩
instance bm_sm [a : Bd n i] [b : BM m t] : BM (n + m) (t.sm i) := ⟨bv_smul (v := t.a), bv_smul (v := t.b), bv_smul (v := t.c)⟩
end
end DL

set_option linter.all false
set_option maxRecDepth 100000
set_option maxHeartbeats 4000000
namespace W
open PySem DL L2
section
variable {n m : Nat} {j k l : Bool} {u v w : V3} {s t : M3} {i : Int}
theorem x_inverse_ok [BM n t] (hn : n ≤ 10000) (h : t.det = 1 ∨ t.det = -1) : x_inverse [tb j k t] = some (.val (tb true true t.inv)) := by
  have e1 := v_determinant (j := j) (k := k) (t := t) (n := n) (by omega)
  have e2 := v_adjugate (j := j) (k := k) (t := t) (n := n) (by omega)
  have hd : Bd 1 t.det := ⟨by rcases h with h | h <;> rw [h] <;> decide⟩
  have e3 : ∀ v : V3, BV (n + n + 1) v → m_times [.int t.det, rw3 true v] = some (rw3 true (v.smul t.det)) := fun v hv => v_times (by omega)
  have a1 := e3 t.adj.a (bm_adj (t := t)).a
  have a2 := e3 t.adj.b (bm_adj (t := t)).b
  have a3 := e3 t.adj.c (bm_adj (t := t)).c
  have hdn : (!decide (t.det = 1) && !decide (t.det = -1)) = false := by rcases h with h | h <;> rw [h] <;> rfl
  rcases h with h | h
  · rw [h] at a1 a2 a3 e1
    simp only [x_inverse, b_inverse, runX, runD, List.map_cons, List.map_nil, List.replicate_zero, List.replicate_succ, List.cons_append, List.nil_append, List.append_nil, sRet, sRetN, sNx, sSeq, sSet, sSetF, sOwn, sTo, gsCons, gsNil, sPar, sPar3, eChain, sExp, sApp, sPut, sIf, sFrz, frz, frz1, List.foldl_cons, List.foldl_nil, eBin, eUn, eVar, eC, eAnd, eOr, eIf, eLend, flat, eIxO, eOfF, eTup, eAll, fAll, eCall, eIs, eSl, fSl, oNone, oSome, aNil, aCons, bVal, bAnd, bOr, bNot, bYes, blOf, gNot, iSeq, iRg1, iRg2, seq_l, seq_t, tup_l, tup_t, lst_l, lst_t, len_l, len_t, gIx_l, gIx_t, gNm, wipeR, List.getElem?_cons_zero, List.getElem?_cons_succ, List.set_cons_zero, List.set_cons_succ, Option.bind_some, Option.bind_none, Option.map_some, Option.map_none, if_true, if_false, decide_true, decide_false, Bool.not_true, Bool.not_false, Bool.false_eq_true, reduceIte, gAdd_i, gSub_i, gNeg_i, gLt_i, gLe_i, gGt_i, gGe_i, gEq_i, gNe_i, gMul_b, gMod_p, gFdiv_p, Nat.reduceAdd, Nat.reduceMul, Nat.reduceLeDiff, at0, at1, at2, at3, at4, at5, at6, at7, at8, at9, at10, at11, at12, at13, at14, at15, gSl_l, cut_pos, cut_from, cut_to, Int.reduceToNat, List.drop_succ_cons, List.drop_zero, List.take_succ_cons, List.take_zero, List.take_nil, Nat.reduceSub, Int.reduceAdd, Int.reduceSub, Int.reduceMul, Int.reduceMod, Int.reduceDiv, Int.reduceNeg, List.length_cons, List.length_nil, Nat.zero_add, fComp, compL, rg1_3, mInt, mAbs, mGcd, mMax2, mMin2, mMax3, mMin3, mIsqrt, isT, e1, e2, a1, a2, a3, seq_tb, tab_t]
    rw [show t.inv = ⟨t.adj.a.smul 1, t.adj.b.smul 1, t.adj.c.smul 1⟩ by unfold M3.inv; rw [h]; rfl]
  · rw [h] at a1 a2 a3 e1
    have c1 : ¬ (-1 : Int) = 1 := by decide
    simp only [x_inverse, b_inverse, runX, runD, List.map_cons, List.map_nil, List.replicate_zero, List.replicate_succ, List.cons_append, List.nil_append, List.append_nil, sRet, sRetN, sNx, sSeq, sSet, sSetF, sOwn, sTo, gsCons, gsNil, sPar, sPar3, eChain, sExp, sApp, sPut, sIf, sFrz, frz, frz1, List.foldl_cons, List.foldl_nil, eBin, eUn, eVar, eC, eAnd, eOr, eIf, eLend, flat, eIxO, eOfF, eTup, eAll, fAll, eCall, eIs, eSl, fSl, oNone, oSome, aNil, aCons, bVal, bAnd, bOr, bNot, bYes, blOf, gNot, iSeq, iRg1, iRg2, seq_l, seq_t, tup_l, tup_t, lst_l, lst_t, len_l, len_t, gIx_l, gIx_t, gNm, wipeR, List.getElem?_cons_zero, List.getElem?_cons_succ, List.set_cons_zero, List.set_cons_succ, Option.bind_some, Option.bind_none, Option.map_some, Option.map_none, if_true, if_false, decide_true, decide_false, Bool.not_true, Bool.not_false, Bool.false_eq_true, reduceIte, gAdd_i, gSub_i, gNeg_i, gLt_i, gLe_i, gGt_i, gGe_i, gEq_i, gNe_i, gMul_b, gMod_p, gFdiv_p, Nat.reduceAdd, Nat.reduceMul, Nat.reduceLeDiff, at0, at1, at2, at3, at4, at5, at6, at7, at8, at9, at10, at11, at12, at13, at14, at15, gSl_l, cut_pos, cut_from, cut_to, Int.reduceToNat, List.drop_succ_cons, List.drop_zero, List.take_succ_cons, List.take_zero, List.take_nil, Nat.reduceSub, Int.reduceAdd, Int.reduceSub, Int.reduceMul, Int.reduceMod, Int.reduceDiv, Int.reduceNeg, List.length_cons, List.length_nil, Nat.zero_add, fComp, compL, rg1_3, mInt, mAbs, mGcd, mMax2, mMin2, mMax3, mMin3, mIsqrt, isT, e1, e2, a1, a2, a3, seq_tb, tab_t, c1]
    rw [show t.inv = ⟨t.adj.a.smul (-1), t.adj.b.smul (-1), t.adj.c.smul (-1)⟩ by unfold M3.inv; rw [h]; rfl]
theorem x_inverse_no [BM n t] (hn : n ≤ 10000) (h1 : t.det ≠ 1) (h2 : t.det ≠ -1) : x_inverse [tb j k t] = some (.exc ⟨"NoInverse", "determinant", .int t.det⟩) := by
  have e1 := v_determinant (j := j) (k := k) (t := t) (n := n) (by omega)
  simp only [x_inverse, b_inverse, runX, runD, List.map_cons, List.map_nil, List.replicate_zero, List.replicate_succ, List.cons_append, List.nil_append, List.append_nil, sRet, sRetN, sNx, sSeq, sSet, sSetF, sOwn, sTo, gsCons, gsNil, sPar, sPar3, eChain, sExp, sApp, sPut, sIf, sFrz, frz, frz1, List.foldl_cons, List.foldl_nil, eBin, eUn, eVar, eC, eAnd, eOr, eIf, eLend, flat, eIxO, eOfF, eTup, eAll, fAll, eCall, eIs, eSl, fSl, oNone, oSome, aNil, aCons, bVal, bAnd, bOr, bNot, bYes, blOf, gNot, iSeq, iRg1, iRg2, seq_l, seq_t, tup_l, tup_t, lst_l, lst_t, len_l, len_t, gIx_l, gIx_t, gNm, wipeR, List.getElem?_cons_zero, List.getElem?_cons_succ, List.set_cons_zero, List.set_cons_succ, Option.bind_some, Option.bind_none, Option.map_some, Option.map_none, if_true, if_false, decide_true, decide_false, Bool.not_true, Bool.not_false, Bool.false_eq_true, reduceIte, gAdd_i, gSub_i, gNeg_i, gLt_i, gLe_i, gGt_i, gGe_i, gEq_i, gNe_i, gMul_b, gMod_p, gFdiv_p, Nat.reduceAdd, Nat.reduceMul, Nat.reduceLeDiff, at0, at1, at2, at3, at4, at5, at6, at7, at8, at9, at10, at11, at12, at13, at14, at15, gSl_l, cut_pos, cut_from, cut_to, Int.reduceToNat, List.drop_succ_cons, List.drop_zero, List.take_succ_cons, List.take_zero, List.take_nil, Nat.reduceSub, Int.reduceAdd, Int.reduceSub, Int.reduceMul, Int.reduceMod, Int.reduceDiv, Int.reduceNeg, List.length_cons, List.length_nil, Nat.zero_add, fComp, compL, rg1_3, mInt, mAbs, mGcd, mMax2, mMin2, mMax3, mMin3, mIsqrt, isT, e1, h1, h2, sRaise]
theorem w_inverse_ok [BM n t] (hn : n ≤ 10000) (h : t.det = 1 ∨ t.det = -1) : m__law_inverse [tb j k t] = some (.list [.bool true, tb true true t.inv]) := by
  simp only [m__law_inverse, b__law_inverse, runD, List.map_cons, List.map_nil, List.replicate_zero, List.replicate_succ, List.cons_append, List.nil_append, List.append_nil, sRet, sRetN, sNx, sSeq, sSet, sSetF, sOwn, sTo, gsCons, gsNil, sPar, sPar3, eChain, sExp, sApp, sPut, sIf, sFrz, frz, frz1, List.foldl_cons, List.foldl_nil, eBin, eUn, eVar, eC, eAnd, eOr, eIf, eLend, flat, eIxO, eOfF, eTup, eAll, fAll, eCall, eIs, eSl, fSl, oNone, oSome, aNil, aCons, bVal, bAnd, bOr, bNot, bYes, blOf, gNot, iSeq, iRg1, iRg2, seq_l, seq_t, tup_l, tup_t, lst_l, lst_t, len_l, len_t, gIx_l, gIx_t, gNm, wipeR, List.getElem?_cons_zero, List.getElem?_cons_succ, List.set_cons_zero, List.set_cons_succ, Option.bind_some, Option.bind_none, Option.map_some, Option.map_none, if_true, if_false, decide_true, decide_false, Bool.not_true, Bool.not_false, Bool.false_eq_true, reduceIte, gAdd_i, gSub_i, gNeg_i, gLt_i, gLe_i, gGt_i, gGe_i, gEq_i, gNe_i, gMul_b, gMod_p, gFdiv_p, Nat.reduceAdd, Nat.reduceMul, Nat.reduceLeDiff, at0, at1, at2, at3, at4, at5, at6, at7, at8, at9, at10, at11, at12, at13, at14, at15, gSl_l, cut_pos, cut_from, cut_to, Int.reduceToNat, List.drop_succ_cons, List.drop_zero, List.take_succ_cons, List.take_zero, List.take_nil, Nat.reduceSub, Int.reduceAdd, Int.reduceSub, Int.reduceMul, Int.reduceMod, Int.reduceDiv, Int.reduceNeg, List.length_cons, List.length_nil, Nat.zero_add, fComp, compL, rg1_3, mInt, mAbs, mGcd, mMax2, mMin2, mMax3, mMin3, mIsqrt, isT, sTry, sRetX, xLst1, xCall, x_inverse_ok hn h]
theorem w_inverse_no [BM n t] (hn : n ≤ 10000) (h1 : t.det ≠ 1) (h2 : t.det ≠ -1) : m__law_inverse [tb j k t] = some (.list [.bool false, .int t.det]) := by
  have e1 : decide (("NoInverse" : Str) ∈ (["NoInverse"] : List Str)) = true := by decide
  have e2 : ∀ b : Bool, List.lookup ("NoInverse" : Str) ([("NoInverse", b)] : List (Str × Bool)) = some b := fun b => by cases b <;> decide
  have e3 : (("NoInverse" : Str) = "NoInverse" ∧ ("determinant" : Str) = "determinant") := ⟨rfl, rfl⟩
  simp only [m__law_inverse, b__law_inverse, runD, List.map_cons, List.map_nil, List.replicate_zero, List.replicate_succ, List.cons_append, List.nil_append, List.append_nil, sRet, sRetN, sNx, sSeq, sSet, sSetF, sOwn, sTo, gsCons, gsNil, sPar, sPar3, eChain, sExp, sApp, sPut, sIf, sFrz, frz, frz1, List.foldl_cons, List.foldl_nil, eBin, eUn, eVar, eC, eAnd, eOr, eIf, eLend, flat, eIxO, eOfF, eTup, eAll, fAll, eCall, eIs, eSl, fSl, oNone, oSome, aNil, aCons, bVal, bAnd, bOr, bNot, bYes, blOf, gNot, iSeq, iRg1, iRg2, seq_l, seq_t, tup_l, tup_t, lst_l, lst_t, len_l, len_t, gIx_l, gIx_t, gNm, wipeR, List.getElem?_cons_zero, List.getElem?_cons_succ, List.set_cons_zero, List.set_cons_succ, Option.bind_some, Option.bind_none, Option.map_some, Option.map_none, if_true, if_false, decide_true, decide_false, Bool.not_true, Bool.not_false, Bool.false_eq_true, reduceIte, gAdd_i, gSub_i, gNeg_i, gLt_i, gLe_i, gGt_i, gGe_i, gEq_i, gNe_i, gMul_b, gMod_p, gFdiv_p, Nat.reduceAdd, Nat.reduceMul, Nat.reduceLeDiff, at0, at1, at2, at3, at4, at5, at6, at7, at8, at9, at10, at11, at12, at13, at14, at15, gSl_l, cut_pos, cut_from, cut_to, Int.reduceToNat, List.drop_succ_cons, List.drop_zero, List.take_succ_cons, List.take_zero, List.take_nil, Nat.reduceSub, Int.reduceAdd, Int.reduceSub, Int.reduceMul, Int.reduceMod, Int.reduceDiv, Int.reduceNeg, List.length_cons, List.length_nil, Nat.zero_add, fComp, compL, rg1_3, mInt, mAbs, mGcd, mMax2, mMin2, mMax3, mMin3, mIsqrt, isT, sTry, sRetX, xLst1, xCall, x_inverse_no hn h1 h2, sSeqH, sSetH, sIfH, sRetH, sNxH, eIsC, e1, e2, bAndH, bValH, bNotH, eLstH, aConsH, aNilH, eFld, e3, true_and, and_self, List.length_cons]
  rfl
theorem isB_ff : gIsB (.bool false) (.bool false) = some (.bool true) := rfl
theorem isB_tf : gIsB (.bool true) (.bool false) = some (.bool false) := rfl
theorem isB_tt : gIsB (.bool true) (.bool true) = some (.bool true) := rfl
theorem one_t : tb true true M3.one = tb true true ⟨⟨1, 0, 0⟩, ⟨0, 1, 0⟩, ⟨0, 0, 1⟩⟩ := rfl
theorem w_inverse_right [hb : BM n t] (hn : n ≤ 1000) : m__law_inverse_right [tb true true t, .int i] = some (.bool true) := by
  have e1 := w_determinant (j := true) (k := true) (t := t) (n := n) (by omega)
  by_cases h : t.det = 1 ∨ t.det = -1
  · have hi : BM (3 * n + 3 + (n + n + 1)) t.inv := by
      unfold M3.inv
      haveI : Bd (3 * n + 3) t.det := Bd.up (bd_det (t := t)) (by omega)
      exact bm_sm
    have hi1 : BM (1 + (n + n + 1)) t.inv := by
      unfold M3.inv
      haveI : Bd 1 t.det := ⟨by rcases h with h | h <;> rw [h] <;> decide⟩
      exact bm_sm
    have q1 : ∀ a b : Bool, m__law_inverse [tb a b t] = some (.list [.bool true, tb true true t.inv]) := fun a b => w_inverse_ok (n := n) (by omega) h
    have q2 : ∀ a b : Bool, m__law_inverse [tb a b t.inv] = some (.list [.bool true, tb true true t]) := fun a b => by
      have := w_inverse_ok (j := a) (k := b) (t := t.inv) (n := 1 + (n + n + 1)) (by omega) (by rw [M3.det_inv h]; exact h)
      rw [M3.inv_inv h] at this
      exact this
    have p1 : m__law_product [tb true true t, tb true true t.inv] = some (tb true true M3.one) := by
      have := w_product (j := true) (k := true) (j' := true) (k' := true) (s := t) (t := t.inv) (n := n) (m := 1 + (n + n + 1)) (by omega)
      rw [M3.mul_inv h] at this
      exact this
    have p2 : m__law_product [tb true true t.inv, tb true true t] = some (tb true true M3.one) := by
      have := w_product (j := true) (k := true) (j' := true) (k' := true) (s := t.inv) (t := t) (n := 1 + (n + n + 1)) (m := n) (by omega)
      rw [M3.inv_mul h] at this
      exact this
    have d1 : t.det = 1 ∨ (¬ t.det = 1 ∧ t.det = -1) := by omega
    rcases d1 with d1 | ⟨d0, d1⟩
    · simp only [m__law_inverse_right, b__law_inverse_right, runD, List.map_cons, List.map_nil, List.replicate_zero, List.replicate_succ, List.cons_append, List.nil_append, List.append_nil, sRet, sRetN, sNx, sSeq, sSet, sSetF, sOwn, sTo, gsCons, gsNil, sPar, sPar3, eChain, sExp, sApp, sPut, sIf, sFrz, frz, frz1, List.foldl_cons, List.foldl_nil, eBin, eUn, eVar, eC, eAnd, eOr, eIf, eLend, flat, eIxO, eOfF, eTup, eAll, fAll, eCall, eIs, eSl, fSl, oNone, oSome, aNil, aCons, bVal, bAnd, bOr, bNot, bYes, blOf, gNot, iSeq, iRg1, iRg2, seq_l, seq_t, tup_l, tup_t, lst_l, lst_t, len_l, len_t, gIx_l, gIx_t, gNm, wipeR, List.getElem?_cons_zero, List.getElem?_cons_succ, List.set_cons_zero, List.set_cons_succ, Option.bind_some, Option.bind_none, Option.map_some, Option.map_none, if_true, if_false, decide_true, decide_false, Bool.not_true, Bool.not_false, Bool.false_eq_true, reduceIte, gAdd_i, gSub_i, gNeg_i, gLt_i, gLe_i, gGt_i, gGe_i, gEq_i, gNe_i, gMul_b, gMod_p, gFdiv_p, Nat.reduceAdd, Nat.reduceMul, Nat.reduceLeDiff, at0, at1, at2, at3, at4, at5, at6, at7, at8, at9, at10, at11, at12, at13, at14, at15, gSl_l, cut_pos, cut_from, cut_to, Int.reduceToNat, List.drop_succ_cons, List.drop_zero, List.take_succ_cons, List.take_zero, List.take_nil, Nat.reduceSub, Int.reduceAdd, Int.reduceSub, Int.reduceMul, Int.reduceMod, Int.reduceDiv, Int.reduceNeg, List.length_cons, List.length_nil, Nat.zero_add, fComp, compL, rg1_3, mInt, mAbs, mGcd, mMax2, mMin2, mMax3, mMin3, mIsqrt, isT, w_handed_table, q1, q2, p1, p2, e1, d1, w_stayed, w_is_table, w_same_table, isB_ff, isB_tf, isB_tt, row_t, tab_t, one_t, ne_tb, Bool.and_self]
    · have c1 : ¬ (-1 : Int) = 1 := by decide
      simp only [m__law_inverse_right, b__law_inverse_right, runD, List.map_cons, List.map_nil, List.replicate_zero, List.replicate_succ, List.cons_append, List.nil_append, List.append_nil, sRet, sRetN, sNx, sSeq, sSet, sSetF, sOwn, sTo, gsCons, gsNil, sPar, sPar3, eChain, sExp, sApp, sPut, sIf, sFrz, frz, frz1, List.foldl_cons, List.foldl_nil, eBin, eUn, eVar, eC, eAnd, eOr, eIf, eLend, flat, eIxO, eOfF, eTup, eAll, fAll, eCall, eIs, eSl, fSl, oNone, oSome, aNil, aCons, bVal, bAnd, bOr, bNot, bYes, blOf, gNot, iSeq, iRg1, iRg2, seq_l, seq_t, tup_l, tup_t, lst_l, lst_t, len_l, len_t, gIx_l, gIx_t, gNm, wipeR, List.getElem?_cons_zero, List.getElem?_cons_succ, List.set_cons_zero, List.set_cons_succ, Option.bind_some, Option.bind_none, Option.map_some, Option.map_none, if_true, if_false, decide_true, decide_false, Bool.not_true, Bool.not_false, Bool.false_eq_true, reduceIte, gAdd_i, gSub_i, gNeg_i, gLt_i, gLe_i, gGt_i, gGe_i, gEq_i, gNe_i, gMul_b, gMod_p, gFdiv_p, Nat.reduceAdd, Nat.reduceMul, Nat.reduceLeDiff, at0, at1, at2, at3, at4, at5, at6, at7, at8, at9, at10, at11, at12, at13, at14, at15, gSl_l, cut_pos, cut_from, cut_to, Int.reduceToNat, List.drop_succ_cons, List.drop_zero, List.take_succ_cons, List.take_zero, List.take_nil, Nat.reduceSub, Int.reduceAdd, Int.reduceSub, Int.reduceMul, Int.reduceMod, Int.reduceDiv, Int.reduceNeg, List.length_cons, List.length_nil, Nat.zero_add, fComp, compL, rg1_3, mInt, mAbs, mGcd, mMax2, mMin2, mMax3, mMin3, mIsqrt, isT, w_handed_table, q1, q2, p1, p2, e1, d1, c1, w_stayed, w_is_table, w_same_table, isB_ff, isB_tf, isB_tt, row_t, tab_t, one_t, ne_tb, Bool.and_self]
  · have h1 : t.det ≠ 1 := fun z => h (.inl z)
    have h2 : t.det ≠ -1 := fun z => h (.inr z)
    have q1 : ∀ a b : Bool, m__law_inverse [tb a b t] = some (.list [.bool false, .int t.det]) := fun a b => w_inverse_no (n := n) (by omega) h1 h2
    simp only [m__law_inverse_right, b__law_inverse_right, runD, List.map_cons, List.map_nil, List.replicate_zero, List.replicate_succ, List.cons_append, List.nil_append, List.append_nil, sRet, sRetN, sNx, sSeq, sSet, sSetF, sOwn, sTo, gsCons, gsNil, sPar, sPar3, eChain, sExp, sApp, sPut, sIf, sFrz, frz, frz1, List.foldl_cons, List.foldl_nil, eBin, eUn, eVar, eC, eAnd, eOr, eIf, eLend, flat, eIxO, eOfF, eTup, eAll, fAll, eCall, eIs, eSl, fSl, oNone, oSome, aNil, aCons, bVal, bAnd, bOr, bNot, bYes, blOf, gNot, iSeq, iRg1, iRg2, seq_l, seq_t, tup_l, tup_t, lst_l, lst_t, len_l, len_t, gIx_l, gIx_t, gNm, wipeR, List.getElem?_cons_zero, List.getElem?_cons_succ, List.set_cons_zero, List.set_cons_succ, Option.bind_some, Option.bind_none, Option.map_some, Option.map_none, if_true, if_false, decide_true, decide_false, Bool.not_true, Bool.not_false, Bool.false_eq_true, reduceIte, gAdd_i, gSub_i, gNeg_i, gLt_i, gLe_i, gGt_i, gGe_i, gEq_i, gNe_i, gMul_b, gMod_p, gFdiv_p, Nat.reduceAdd, Nat.reduceMul, Nat.reduceLeDiff, at0, at1, at2, at3, at4, at5, at6, at7, at8, at9, at10, at11, at12, at13, at14, at15, gSl_l, cut_pos, cut_from, cut_to, Int.reduceToNat, List.drop_succ_cons, List.drop_zero, List.take_succ_cons, List.take_zero, List.take_nil, Nat.reduceSub, Int.reduceAdd, Int.reduceSub, Int.reduceMul, Int.reduceMod, Int.reduceDiv, Int.reduceNeg, List.length_cons, List.length_nil, Nat.zero_add, fComp, compL, rg1_3, mInt, mAbs, mGcd, mMax2, mMin2, mMax3, mMin3, mIsqrt, isT, w_handed_table, q1, e1, h1, h2, w_stayed, w_same_number, isB_ff, isB_tf, isB_tt, row_t, tab_t]
end
end W

set_option linter.all false
set_option maxRecDepth 100000
set_option maxHeartbeats 4000000
namespace W
open PySem DL L2
noncomputable abbrev pwC : EB := bVal (eBin gGt (eVar 4) (eC (.int 0)))
noncomputable abbrev pwB : ES := sSeq (sIf (bVal (eBin gEq (eBin gMod (eVar 4) (eC (.int 2))) (eC (.int 1)))) (sSet 2 (eCall m_product (aCons (eVar 2) (aCons (eVar 3) aNil)))) sNx) (sSeq (sSet 3 (eCall m_product (aCons (eVar 3) (aCons (eVar 3) aNil)))) (sSet 4 (eBin gFdiv (eVar 4) (eC (.int 2)))))
theorem two_nat (e : Nat) : (e : Int) / 2 = ((e / 2 : Nat) : Int) := by omega
theorem two_mod (e : Nat) : (e : Int) % 2 = ((e % 2 : Nat) : Int) := by omega
theorem pow_go {x0 x1 : SC} (X L : Nat) (hL : L ≤ 500000) : ∀ (k b c e : Nat) (R F : M3), BM c R → BM b F → e < 2 ^ k → (b + 2) * 2 ^ k = X → c + 2 * X ≤ L + (b + 2) → ∃ F' : SC, whileF pwC pwB (k + 1) [x0, x1, .va (tb true true R), .va (tb true true F), .va (.int (e : Int))] = some (.nx [x0, x1, .va (tb true true (R.mul (F.pw e))), F', .va (.int 0)])
  | 0, b, c, e, R, F, hR, hF, he, hX, hc => by
    have e0 : e = 0 := by omega
    subst e0
    refine ⟨.va (tb true true F), ?_⟩
    simp only [whileF, pwC, runD, List.map_cons, List.map_nil, List.replicate_zero, List.replicate_succ, List.cons_append, List.nil_append, List.append_nil, sRet, sRetN, sNx, sSeq, sSet, sSetF, sOwn, sTo, gsCons, gsNil, sPar, sPar3, eChain, sExp, sApp, sPut, sIf, sFrz, frz, frz1, List.foldl_cons, List.foldl_nil, eBin, eUn, eVar, eC, eAnd, eOr, eIf, eLend, flat, eIxO, eOfF, eTup, eAll, fAll, eCall, eIs, eSl, fSl, oNone, oSome, aNil, aCons, bVal, bAnd, bOr, bNot, bYes, blOf, gNot, iSeq, iRg1, iRg2, seq_l, seq_t, tup_l, tup_t, lst_l, lst_t, len_l, len_t, gIx_l, gIx_t, gNm, wipeR, List.getElem?_cons_zero, List.getElem?_cons_succ, List.set_cons_zero, List.set_cons_succ, Option.bind_some, Option.bind_none, Option.map_some, Option.map_none, if_true, if_false, decide_true, decide_false, Bool.not_true, Bool.not_false, Bool.false_eq_true, reduceIte, gAdd_i, gSub_i, gNeg_i, gLt_i, gLe_i, gGt_i, gGe_i, gEq_i, gNe_i, gMul_b, gMod_p, gFdiv_p, Nat.reduceAdd, Nat.reduceMul, Nat.reduceLeDiff, at0, at1, at2, at3, at4, at5, at6, at7, at8, at9, at10, at11, at12, at13, at14, at15, gSl_l, cut_pos, cut_from, cut_to, Int.reduceToNat, List.drop_succ_cons, List.drop_zero, List.take_succ_cons, List.take_zero, List.take_nil, Nat.reduceSub, Int.reduceAdd, Int.reduceSub, Int.reduceMul, Int.reduceMod, Int.reduceDiv, Int.reduceNeg, List.length_cons, List.length_nil, Nat.zero_add, fComp, compL, rg1_3, mInt, mAbs, mGcd, mMax2, mMin2, mMax3, mMin3, mIsqrt, isT]
    rw [show F.pw 0 = M3.one from rfl, M3.mul_one]
    rfl
  | k + 1, b, c, e, R, F, hR, hF, he, hX, hc => by
    by_cases h0 : e = 0
    · subst h0
      refine ⟨.va (tb true true F), ?_⟩
      rw [whileF]
      simp only [pwC, runD, List.map_cons, List.map_nil, List.replicate_zero, List.replicate_succ, List.cons_append, List.nil_append, List.append_nil, sRet, sRetN, sNx, sSeq, sSet, sSetF, sOwn, sTo, gsCons, gsNil, sPar, sPar3, eChain, sExp, sApp, sPut, sIf, sFrz, frz, frz1, List.foldl_cons, List.foldl_nil, eBin, eUn, eVar, eC, eAnd, eOr, eIf, eLend, flat, eIxO, eOfF, eTup, eAll, fAll, eCall, eIs, eSl, fSl, oNone, oSome, aNil, aCons, bVal, bAnd, bOr, bNot, bYes, blOf, gNot, iSeq, iRg1, iRg2, seq_l, seq_t, tup_l, tup_t, lst_l, lst_t, len_l, len_t, gIx_l, gIx_t, gNm, wipeR, List.getElem?_cons_zero, List.getElem?_cons_succ, List.set_cons_zero, List.set_cons_succ, Option.bind_some, Option.bind_none, Option.map_some, Option.map_none, if_true, if_false, decide_true, decide_false, Bool.not_true, Bool.not_false, Bool.false_eq_true, reduceIte, gAdd_i, gSub_i, gNeg_i, gLt_i, gLe_i, gGt_i, gGe_i, gEq_i, gNe_i, gMul_b, gMod_p, gFdiv_p, Nat.reduceAdd, Nat.reduceMul, Nat.reduceLeDiff, at0, at1, at2, at3, at4, at5, at6, at7, at8, at9, at10, at11, at12, at13, at14, at15, gSl_l, cut_pos, cut_from, cut_to, Int.reduceToNat, List.drop_succ_cons, List.drop_zero, List.take_succ_cons, List.take_zero, List.take_nil, Nat.reduceSub, Int.reduceAdd, Int.reduceSub, Int.reduceMul, Int.reduceMod, Int.reduceDiv, Int.reduceNeg, List.length_cons, List.length_nil, Nat.zero_add, fComp, compL, rg1_3, mInt, mAbs, mGcd, mMax2, mMin2, mMax3, mMin3, mIsqrt, isT]
      rw [show F.pw 0 = M3.one from rfl, M3.mul_one]
      rfl
    · have hp : (0 : Int) < (e : Int) := by omega
      have k1 : 2 ^ (k + 1) = 2 * 2 ^ k := by rw [Nat.pow_succ]; omega
      have k2 : 1 ≤ 2 ^ k := Nat.one_le_two_pow
      have hX' : (b + b + 2 + 2) * 2 ^ k = X := by
        rw [← hX, k1]
        rw [show b + b + 2 + 2 = (b + 2) * 2 by omega, Nat.mul_assoc]
      have hX2 : 2 * (b + 2) ≤ X := by
        have := Nat.mul_le_mul_left (b + b + 2 + 2) k2
        rw [hX'] at this
        omega
      have p1 := v_product (j := true) (k := true) (j' := true) (k' := true) (s := R) (t := F) (n := c) (m := b) (by omega)
      have p2 := v_product (j := true) (k := true) (j' := true) (k' := true) (s := F) (t := F) (n := b) (m := b) (by omega)
      have d := gFdiv_p (i := (e : Int)) (show (0 : Int) < 2 by decide) (show (2 : Int).natAbs.log2 < 9000 by decide)
      have dm := gMod_p (i := (e : Int)) (show (0 : Int) < 2 by decide)
      rw [two_nat] at d
      rw [two_mod] at dm
      rw [whileF]
      by_cases ho : e % 2 = 1
      · obtain ⟨F', q⟩ := pow_go X L hL k (b + b + 2) (c + b + 2) (e / 2) (R.mul F) (F.mul F) inferInstance inferInstance (by omega) hX' (by omega)
        refine ⟨F', ?_⟩
        rw [M3.mul_assoc, M3.pw_odd F ho] at q
        rw [ho] at dm
        simp only [pwC, pwB, runD, List.map_cons, List.map_nil, List.replicate_zero, List.replicate_succ, List.cons_append, List.nil_append, List.append_nil, sRet, sRetN, sNx, sSeq, sSet, sSetF, sOwn, sTo, gsCons, gsNil, sPar, sPar3, eChain, sExp, sApp, sPut, sIf, sFrz, frz, frz1, List.foldl_cons, List.foldl_nil, eBin, eUn, eVar, eC, eAnd, eOr, eIf, eLend, flat, eIxO, eOfF, eTup, eAll, fAll, eCall, eIs, eSl, fSl, oNone, oSome, aNil, aCons, bVal, bAnd, bOr, bNot, bYes, blOf, gNot, iSeq, iRg1, iRg2, seq_l, seq_t, tup_l, tup_t, lst_l, lst_t, len_l, len_t, gIx_l, gIx_t, gNm, wipeR, List.getElem?_cons_zero, List.getElem?_cons_succ, List.set_cons_zero, List.set_cons_succ, Option.bind_some, Option.bind_none, Option.map_some, Option.map_none, if_true, if_false, decide_true, decide_false, Bool.not_true, Bool.not_false, Bool.false_eq_true, reduceIte, gAdd_i, gSub_i, gNeg_i, gLt_i, gLe_i, gGt_i, gGe_i, gEq_i, gNe_i, gMul_b, gMod_p, gFdiv_p, Nat.reduceAdd, Nat.reduceMul, Nat.reduceLeDiff, at0, at1, at2, at3, at4, at5, at6, at7, at8, at9, at10, at11, at12, at13, at14, at15, gSl_l, cut_pos, cut_from, cut_to, Int.reduceToNat, List.drop_succ_cons, List.drop_zero, List.take_succ_cons, List.take_zero, List.take_nil, Nat.reduceSub, Int.reduceAdd, Int.reduceSub, Int.reduceMul, Int.reduceMod, Int.reduceDiv, Int.reduceNeg, List.length_cons, List.length_nil, Nat.zero_add, fComp, compL, rg1_3, mInt, mAbs, mGcd, mMax2, mMin2, mMax3, mMin3, mIsqrt, isT, hp, dm, d, p1, p2, show ((1 : Nat) : Int) = 1 from rfl]
        exact q
      · have he2 : e % 2 = 0 := by omega
        obtain ⟨F', q⟩ := pow_go X L hL k (b + b + 2) c (e / 2) R (F.mul F) hR inferInstance (by omega) hX' (by omega)
        refine ⟨F', ?_⟩
        rw [M3.pw_even F he2] at q
        rw [he2] at dm
        have c01 : ¬ (0 : Int) = 1 := by decide
        simp only [pwC, pwB, runD, List.map_cons, List.map_nil, List.replicate_zero, List.replicate_succ, List.cons_append, List.nil_append, List.append_nil, sRet, sRetN, sNx, sSeq, sSet, sSetF, sOwn, sTo, gsCons, gsNil, sPar, sPar3, eChain, sExp, sApp, sPut, sIf, sFrz, frz, frz1, List.foldl_cons, List.foldl_nil, eBin, eUn, eVar, eC, eAnd, eOr, eIf, eLend, flat, eIxO, eOfF, eTup, eAll, fAll, eCall, eIs, eSl, fSl, oNone, oSome, aNil, aCons, bVal, bAnd, bOr, bNot, bYes, blOf, gNot, iSeq, iRg1, iRg2, seq_l, seq_t, tup_l, tup_t, lst_l, lst_t, len_l, len_t, gIx_l, gIx_t, gNm, wipeR, List.getElem?_cons_zero, List.getElem?_cons_succ, List.set_cons_zero, List.set_cons_succ, Option.bind_some, Option.bind_none, Option.map_some, Option.map_none, if_true, if_false, decide_true, decide_false, Bool.not_true, Bool.not_false, Bool.false_eq_true, reduceIte, gAdd_i, gSub_i, gNeg_i, gLt_i, gLe_i, gGt_i, gGe_i, gEq_i, gNe_i, gMul_b, gMod_p, gFdiv_p, Nat.reduceAdd, Nat.reduceMul, Nat.reduceLeDiff, at0, at1, at2, at3, at4, at5, at6, at7, at8, at9, at10, at11, at12, at13, at14, at15, gSl_l, cut_pos, cut_from, cut_to, Int.reduceToNat, List.drop_succ_cons, List.drop_zero, List.take_succ_cons, List.take_zero, List.take_nil, Nat.reduceSub, Int.reduceAdd, Int.reduceSub, Int.reduceMul, Int.reduceMod, Int.reduceDiv, Int.reduceNeg, List.length_cons, List.length_nil, Nat.zero_add, fComp, compL, rg1_3, mInt, mAbs, mGcd, mMax2, mMin2, mMax3, mMin3, mIsqrt, isT, hp, dm, d, p1, p2, show ((0 : Nat) : Int) = 0 from rfl, c01]
        exact q
theorem idle_c : c_IDLE = tb true true M3.one := rfl
theorem v_power {t : M3} {j k : Bool} [hb : BM 900 t] {e : Nat} (he : e < 256) : m_power [tb j k t, .int (e : Int)] = some (tb true true (t.pw e)) := by
  have p := v_product (j := j) (k := k) (j' := true) (k' := true) (s := t) (t := M3.one) (n := 900) (m := 1) (by omega)
  rw [M3.mul_one] at p
  obtain ⟨F', q⟩ := pow_go (x0 := .va (tb j k t)) (x1 := .va (.int (e : Int))) 230912 500000 (by decide) 8 900 1 e M3.one t inferInstance hb (by omega) (by decide) (by decide)
  rw [M3.one_mul] at q
  have w := sWhile_of q
  simp only [m_power, b_power, runD, List.map_cons, List.map_nil, List.replicate_zero, List.replicate_succ, List.cons_append, List.nil_append, List.append_nil, sRet, sRetN, sNx, sSeq, sSet, sSetF, sOwn, sTo, gsCons, gsNil, sPar, sPar3, eChain, sExp, sApp, sPut, sIf, sFrz, frz, frz1, List.foldl_cons, List.foldl_nil, eBin, eUn, eVar, eC, eAnd, eOr, eIf, eLend, flat, eIxO, eOfF, eTup, eAll, fAll, eCall, eIs, eSl, fSl, oNone, oSome, aNil, aCons, bVal, bAnd, bOr, bNot, bYes, blOf, gNot, iSeq, iRg1, iRg2, seq_l, seq_t, tup_l, tup_t, lst_l, lst_t, len_l, len_t, gIx_l, gIx_t, gNm, wipeR, List.getElem?_cons_zero, List.getElem?_cons_succ, List.set_cons_zero, List.set_cons_succ, Option.bind_some, Option.bind_none, Option.map_some, Option.map_none, if_true, if_false, decide_true, decide_false, Bool.not_true, Bool.not_false, Bool.false_eq_true, reduceIte, gAdd_i, gSub_i, gNeg_i, gLt_i, gLe_i, gGt_i, gGe_i, gEq_i, gNe_i, gMul_b, gMod_p, gFdiv_p, Nat.reduceAdd, Nat.reduceMul, Nat.reduceLeDiff, at0, at1, at2, at3, at4, at5, at6, at7, at8, at9, at10, at11, at12, at13, at14, at15, gSl_l, cut_pos, cut_from, cut_to, Int.reduceToNat, List.drop_succ_cons, List.drop_zero, List.take_succ_cons, List.take_zero, List.take_nil, Nat.reduceSub, Int.reduceAdd, Int.reduceSub, Int.reduceMul, Int.reduceMod, Int.reduceDiv, Int.reduceNeg, List.length_cons, List.length_nil, Nat.zero_add, fComp, compL, rg1_3, mInt, mAbs, mGcd, mMax2, mMin2, mMax3, mMin3, mIsqrt, isT, idle_c, p, w]
/-! the law's own power -/
theorem wpow_go {t : M3} (hb : BM 900 t) {x0 x1 : SC} (x0e : x0 = .va (tb true true t)) : ∀ (m i : Nat) (k0 : SC), i + m ≤ 1000 → BM (1 + 902 * i) (t.pw i) → ∃ k1 : SC, forL (gNm 3) (sSet 2 (eCall m__law_product (aCons (eVar 2) (aCons (eVar 0) aNil)))) (rng i m) [x0, x1, .va (tb true true (t.pw i)), k0] = some (.nx [x0, x1, .va (tb true true (t.pw (i + m))), k1])
  | 0, i, k0, _, _ => ⟨k0, rfl⟩
  | m + 1, i, k0, hi, hB => by
    have p := w_product (j := true) (k := true) (j' := true) (k' := true) (s := t.pw i) (t := t) (n := 1 + 902 * i) (m := 900) (by omega)
    have hB' : BM (1 + 902 * (i + 1)) (t.pw (i + 1)) := BM.mono (bm_mul (s := t.pw i) (t := t)) (by omega)
    obtain ⟨k1, q⟩ := wpow_go hb x0e m (i + 1) (.va (.int (i : Int))) (by omega) hB'
    refine ⟨k1, ?_⟩
    rw [rng_succ, show (i : Int) + 1 = ((i + 1 : Nat) : Int) by omega]
    rw [show i + (m + 1) = i + 1 + m by omega]
    subst x0e
    simp only [forL, runD, List.map_cons, List.map_nil, List.replicate_zero, List.replicate_succ, List.cons_append, List.nil_append, List.append_nil, sRet, sRetN, sNx, sSeq, sSet, sSetF, sOwn, sTo, gsCons, gsNil, sPar, sPar3, eChain, sExp, sApp, sPut, sIf, sFrz, frz, frz1, List.foldl_cons, List.foldl_nil, eBin, eUn, eVar, eC, eAnd, eOr, eIf, eLend, flat, eIxO, eOfF, eTup, eAll, fAll, eCall, eIs, eSl, fSl, oNone, oSome, aNil, aCons, bVal, bAnd, bOr, bNot, bYes, blOf, gNot, iSeq, iRg1, iRg2, seq_l, seq_t, tup_l, tup_t, lst_l, lst_t, len_l, len_t, gIx_l, gIx_t, gNm, wipeR, List.getElem?_cons_zero, List.getElem?_cons_succ, List.set_cons_zero, List.set_cons_succ, Option.bind_some, Option.bind_none, Option.map_some, Option.map_none, if_true, if_false, decide_true, decide_false, Bool.not_true, Bool.not_false, Bool.false_eq_true, reduceIte, gAdd_i, gSub_i, gNeg_i, gLt_i, gLe_i, gGt_i, gGe_i, gEq_i, gNe_i, gMul_b, gMod_p, gFdiv_p, Nat.reduceAdd, Nat.reduceMul, Nat.reduceLeDiff, at0, at1, at2, at3, at4, at5, at6, at7, at8, at9, at10, at11, at12, at13, at14, at15, gSl_l, cut_pos, cut_from, cut_to, Int.reduceToNat, List.drop_succ_cons, List.drop_zero, List.take_succ_cons, List.take_zero, List.take_nil, Nat.reduceSub, Int.reduceAdd, Int.reduceSub, Int.reduceMul, Int.reduceMod, Int.reduceDiv, Int.reduceNeg, List.length_cons, List.length_nil, Nat.zero_add, fComp, compL, rg1_3, mInt, mAbs, mGcd, mMax2, mMin2, mMax3, mMin3, mIsqrt, isT, p]
    exact q
theorem w_power {t : M3} [hb : BM 900 t] {e : Nat} (he : e ≤ 200) : m__law_power [tb true true t, .int (e : Int)] = some (tb true true (t.pw e)) := by
  obtain ⟨k1, q⟩ := wpow_go (t := t) hb (x0 := .va (tb true true t)) (x1 := .va (.int (e : Int))) rfl e 0 .un (by omega) (bm_one : BM 1 M3.one)
  rw [Nat.zero_add] at q
  have r := rg1_nat e (by omega)
  have q' : forL (gNm 3) (sSet 2 (eCall m__law_product (aCons (eVar 2) (aCons (eVar 0) aNil)))) (rng 0 e) [.va (tb true true t), .va (.int (e : Int)), .va (tb true true ⟨⟨1, 0, 0⟩, ⟨0, 1, 0⟩, ⟨0, 0, 1⟩⟩), .un] = _ := q
  simp only [m__law_power, b__law_power, runD, List.map_cons, List.map_nil, List.replicate_zero, List.replicate_succ, List.cons_append, List.nil_append, List.append_nil, sRet, sRetN, sNx, sSeq, sSet, sSetF, sOwn, sTo, gsCons, gsNil, sPar, sPar3, eChain, sExp, sApp, sPut, sIf, sFrz, frz, frz1, List.foldl_cons, List.foldl_nil, eBin, eUn, eVar, eC, eAnd, eOr, eIf, eLend, flat, eIxO, eOfF, eTup, eAll, fAll, eCall, eIs, eSl, fSl, oNone, oSome, aNil, aCons, bVal, bAnd, bOr, bNot, bYes, blOf, gNot, iSeq, iRg1, iRg2, seq_l, seq_t, tup_l, tup_t, lst_l, lst_t, len_l, len_t, gIx_l, gIx_t, gNm, wipeR, List.getElem?_cons_zero, List.getElem?_cons_succ, List.set_cons_zero, List.set_cons_succ, Option.bind_some, Option.bind_none, Option.map_some, Option.map_none, if_true, if_false, decide_true, decide_false, Bool.not_true, Bool.not_false, Bool.false_eq_true, reduceIte, gAdd_i, gSub_i, gNeg_i, gLt_i, gLe_i, gGt_i, gGe_i, gEq_i, gNe_i, gMul_b, gMod_p, gFdiv_p, Nat.reduceAdd, Nat.reduceMul, Nat.reduceLeDiff, at0, at1, at2, at3, at4, at5, at6, at7, at8, at9, at10, at11, at12, at13, at14, at15, gSl_l, cut_pos, cut_from, cut_to, Int.reduceToNat, List.drop_succ_cons, List.drop_zero, List.take_succ_cons, List.take_zero, List.take_nil, Nat.reduceSub, Int.reduceAdd, Int.reduceSub, Int.reduceMul, Int.reduceMod, Int.reduceDiv, Int.reduceNeg, List.length_cons, List.length_nil, Nat.zero_add, fComp, compL, rg1_3, mInt, mAbs, mGcd, mMax2, mMin2, mMax3, mMin3, mIsqrt, isT, row_t, tab_t, sFor, r, q']
theorem w_power_right {t : M3} [hb : BM 900 t] {e : Nat} {i : Int} (he : e ≤ 200) : m__law_power_right [tb true true t, .int (e : Int), .int i] = some (.bool true) := by
  have q0 := fun a b : Bool => v_power (t := t) (j := a) (k := b) (e := 0) (by decide)
  have q1 := fun a b : Bool => v_power (t := t) (j := a) (k := b) (e := 1) (by decide)
  have q2 := fun a b : Bool => v_power (t := t) (j := a) (k := b) (e := e) (by omega)
  have q3 := w_power (t := t) (e := e) he
  rw [M3.pw_one] at q1
  have q0' : ∀ a b : Bool, m_power [tb a b t, .int 0] = some (tb true true ⟨⟨1, 0, 0⟩, ⟨0, 1, 0⟩, ⟨0, 0, 1⟩⟩) := q0
  have q1' : ∀ a b : Bool, m_power [tb a b t, .int 1] = some (tb true true t) := q1
  simp only [m__law_power_right, b__law_power_right, runD, List.map_cons, List.map_nil, List.replicate_zero, List.replicate_succ, List.cons_append, List.nil_append, List.append_nil, sRet, sRetN, sNx, sSeq, sSet, sSetF, sOwn, sTo, gsCons, gsNil, sPar, sPar3, eChain, sExp, sApp, sPut, sIf, sFrz, frz, frz1, List.foldl_cons, List.foldl_nil, eBin, eUn, eVar, eC, eAnd, eOr, eIf, eLend, flat, eIxO, eOfF, eTup, eAll, fAll, eCall, eIs, eSl, fSl, oNone, oSome, aNil, aCons, bVal, bAnd, bOr, bNot, bYes, blOf, gNot, iSeq, iRg1, iRg2, seq_l, seq_t, tup_l, tup_t, lst_l, lst_t, len_l, len_t, gIx_l, gIx_t, gNm, wipeR, List.getElem?_cons_zero, List.getElem?_cons_succ, List.set_cons_zero, List.set_cons_succ, Option.bind_some, Option.bind_none, Option.map_some, Option.map_none, if_true, if_false, decide_true, decide_false, Bool.not_true, Bool.not_false, Bool.false_eq_true, reduceIte, gAdd_i, gSub_i, gNeg_i, gLt_i, gLe_i, gGt_i, gGe_i, gEq_i, gNe_i, gMul_b, gMod_p, gFdiv_p, Nat.reduceAdd, Nat.reduceMul, Nat.reduceLeDiff, at0, at1, at2, at3, at4, at5, at6, at7, at8, at9, at10, at11, at12, at13, at14, at15, gSl_l, cut_pos, cut_from, cut_to, Int.reduceToNat, List.drop_succ_cons, List.drop_zero, List.take_succ_cons, List.take_zero, List.take_nil, Nat.reduceSub, Int.reduceAdd, Int.reduceSub, Int.reduceMul, Int.reduceMod, Int.reduceDiv, Int.reduceNeg, List.length_cons, List.length_nil, Nat.zero_add, fComp, compL, rg1_3, mInt, mAbs, mGcd, mMax2, mMin2, mMax3, mMin3, mIsqrt, isT, w_handed_table, q0', q1', q2, q3, w_same_table, w_stayed, row_t, tab_t]
end W

set_option linter.all false
set_option maxRecDepth 100000
set_option maxHeartbeats 4000000
namespace W
open PySem DL L2
theorem fx {d0 d1 d2 d3 d4 d5 d6 : Int} {n : Int} [bn : Bd 103 n] {c : Int} (q : m__law_digits [.int c, .list [.int 3, .int 3, .int 2, .int 6, .int 2, .int 2, .int 2]] = some (.list [.int d0, .int d1, .int d2, .int d3, .int d4, .int d5, .int d6]))
    (h0 : d0 < 2) (h1 : 0 ≤ d1 ∧ d1 < 3) (h2 : 0 ≤ d2 ∧ d2 < 2) : ∃ f, BM 104 f ∧ m__law_factor [.int c, .int n] = some (tb true true f) := by
  have b0 : (0 : Int).natAbs < 2 ^ 104 := Nat.two_pow_pos 104
  have b1 : (1 : Int).natAbs < 2 ^ 104 := Nat.one_lt_two_pow (by decide)
  have bn : n.natAbs < 2 ^ 104 := Bd.mono bn.lt (by decide)
  have e1 : d1 = 0 ∨ d1 = 1 ∨ d1 = 2 := by omega
  have e2 : d2 = 0 ∨ d2 = 1 := by omega
  rcases e1 with rfl | rfl | rfl <;> rcases e2 with rfl | rfl
  · exact ⟨⟨⟨1, n, 0⟩, ⟨0, 1, 0⟩, ⟨0, 0, 1⟩⟩, ⟨⟨b1, bn, b0⟩, ⟨b0, b1, b0⟩, ⟨b0, b0, b1⟩⟩, by simp (config := {decide := true}) only [m__law_factor, b__law_factor, runD, List.map_cons, List.map_nil, List.replicate_zero, List.replicate_succ, List.cons_append, List.nil_append, List.append_nil, sRet, sRetN, sNx, sSeq, sSet, sSetF, sOwn, sTo, gsCons, gsNil, sPar, sPar3, eChain, sExp, sApp, sPut, sIf, sFrz, frz, frz1, List.foldl_cons, List.foldl_nil, eBin, eUn, eVar, eC, eAnd, eOr, eIf, eLend, flat, eIxO, eOfF, eTup, eAll, fAll, eCall, eIs, eSl, fSl, oNone, oSome, aNil, aCons, bVal, bAnd, bOr, bNot, bYes, blOf, gNot, iSeq, iRg1, iRg2, seq_l, seq_t, tup_l, tup_t, lst_l, lst_t, len_l, len_t, gIx_l, gIx_t, gNm, wipeR, List.getElem?_cons_zero, List.getElem?_cons_succ, List.set_cons_zero, List.set_cons_succ, Option.bind_some, Option.bind_none, Option.map_some, Option.map_none, if_true, if_false, decide_true, decide_false, Bool.not_true, Bool.not_false, Bool.false_eq_true, reduceIte, gAdd_i, gSub_i, gNeg_i, gLt_i, gLe_i, gGt_i, gGe_i, gEq_i, gNe_i, gMul_b, gMod_p, gFdiv_p, Nat.reduceAdd, Nat.reduceMul, Nat.reduceLeDiff, at0, at1, at2, at3, at4, at5, at6, at7, at8, at9, at10, at11, at12, at13, at14, at15, gSl_l, cut_pos, cut_from, cut_to, Int.reduceToNat, List.drop_succ_cons, List.drop_zero, List.take_succ_cons, List.take_zero, List.take_nil, Nat.reduceSub, Int.reduceAdd, Int.reduceSub, Int.reduceMul, Int.reduceMod, Int.reduceDiv, Int.reduceNeg, List.length_cons, List.length_nil, Nat.zero_add, fComp, compL, rg1_3, mInt, mAbs, mGcd, mMax2, mMin2, mMax3, mMin3, mIsqrt, isT, sOwnO, sPut2, sPutF, sAli, bLend, eIxOO, ffNil, ffCons, ffComp, compLL, q, h0, ix30, ix31, ix32]; rfl⟩
  · exact ⟨⟨⟨1, 0, n⟩, ⟨0, 1, 0⟩, ⟨0, 0, 1⟩⟩, ⟨⟨b1, b0, bn⟩, ⟨b0, b1, b0⟩, ⟨b0, b0, b1⟩⟩, by simp (config := {decide := true}) only [m__law_factor, b__law_factor, runD, List.map_cons, List.map_nil, List.replicate_zero, List.replicate_succ, List.cons_append, List.nil_append, List.append_nil, sRet, sRetN, sNx, sSeq, sSet, sSetF, sOwn, sTo, gsCons, gsNil, sPar, sPar3, eChain, sExp, sApp, sPut, sIf, sFrz, frz, frz1, List.foldl_cons, List.foldl_nil, eBin, eUn, eVar, eC, eAnd, eOr, eIf, eLend, flat, eIxO, eOfF, eTup, eAll, fAll, eCall, eIs, eSl, fSl, oNone, oSome, aNil, aCons, bVal, bAnd, bOr, bNot, bYes, blOf, gNot, iSeq, iRg1, iRg2, seq_l, seq_t, tup_l, tup_t, lst_l, lst_t, len_l, len_t, gIx_l, gIx_t, gNm, wipeR, List.getElem?_cons_zero, List.getElem?_cons_succ, List.set_cons_zero, List.set_cons_succ, Option.bind_some, Option.bind_none, Option.map_some, Option.map_none, if_true, if_false, decide_true, decide_false, Bool.not_true, Bool.not_false, Bool.false_eq_true, reduceIte, gAdd_i, gSub_i, gNeg_i, gLt_i, gLe_i, gGt_i, gGe_i, gEq_i, gNe_i, gMul_b, gMod_p, gFdiv_p, Nat.reduceAdd, Nat.reduceMul, Nat.reduceLeDiff, at0, at1, at2, at3, at4, at5, at6, at7, at8, at9, at10, at11, at12, at13, at14, at15, gSl_l, cut_pos, cut_from, cut_to, Int.reduceToNat, List.drop_succ_cons, List.drop_zero, List.take_succ_cons, List.take_zero, List.take_nil, Nat.reduceSub, Int.reduceAdd, Int.reduceSub, Int.reduceMul, Int.reduceMod, Int.reduceDiv, Int.reduceNeg, List.length_cons, List.length_nil, Nat.zero_add, fComp, compL, rg1_3, mInt, mAbs, mGcd, mMax2, mMin2, mMax3, mMin3, mIsqrt, isT, sOwnO, sPut2, sPutF, sAli, bLend, eIxOO, ffNil, ffCons, ffComp, compLL, q, h0, ix30, ix31, ix32]; rfl⟩
  · exact ⟨⟨⟨1, 0, 0⟩, ⟨0, 1, n⟩, ⟨0, 0, 1⟩⟩, ⟨⟨b1, b0, b0⟩, ⟨b0, b1, bn⟩, ⟨b0, b0, b1⟩⟩, by simp (config := {decide := true}) only [m__law_factor, b__law_factor, runD, List.map_cons, List.map_nil, List.replicate_zero, List.replicate_succ, List.cons_append, List.nil_append, List.append_nil, sRet, sRetN, sNx, sSeq, sSet, sSetF, sOwn, sTo, gsCons, gsNil, sPar, sPar3, eChain, sExp, sApp, sPut, sIf, sFrz, frz, frz1, List.foldl_cons, List.foldl_nil, eBin, eUn, eVar, eC, eAnd, eOr, eIf, eLend, flat, eIxO, eOfF, eTup, eAll, fAll, eCall, eIs, eSl, fSl, oNone, oSome, aNil, aCons, bVal, bAnd, bOr, bNot, bYes, blOf, gNot, iSeq, iRg1, iRg2, seq_l, seq_t, tup_l, tup_t, lst_l, lst_t, len_l, len_t, gIx_l, gIx_t, gNm, wipeR, List.getElem?_cons_zero, List.getElem?_cons_succ, List.set_cons_zero, List.set_cons_succ, Option.bind_some, Option.bind_none, Option.map_some, Option.map_none, if_true, if_false, decide_true, decide_false, Bool.not_true, Bool.not_false, Bool.false_eq_true, reduceIte, gAdd_i, gSub_i, gNeg_i, gLt_i, gLe_i, gGt_i, gGe_i, gEq_i, gNe_i, gMul_b, gMod_p, gFdiv_p, Nat.reduceAdd, Nat.reduceMul, Nat.reduceLeDiff, at0, at1, at2, at3, at4, at5, at6, at7, at8, at9, at10, at11, at12, at13, at14, at15, gSl_l, cut_pos, cut_from, cut_to, Int.reduceToNat, List.drop_succ_cons, List.drop_zero, List.take_succ_cons, List.take_zero, List.take_nil, Nat.reduceSub, Int.reduceAdd, Int.reduceSub, Int.reduceMul, Int.reduceMod, Int.reduceDiv, Int.reduceNeg, List.length_cons, List.length_nil, Nat.zero_add, fComp, compL, rg1_3, mInt, mAbs, mGcd, mMax2, mMin2, mMax3, mMin3, mIsqrt, isT, sOwnO, sPut2, sPutF, sAli, bLend, eIxOO, ffNil, ffCons, ffComp, compLL, q, h0, ix30, ix31, ix32]; rfl⟩
  · exact ⟨⟨⟨1, 0, 0⟩, ⟨n, 1, 0⟩, ⟨0, 0, 1⟩⟩, ⟨⟨b1, b0, b0⟩, ⟨bn, b1, b0⟩, ⟨b0, b0, b1⟩⟩, by simp (config := {decide := true}) only [m__law_factor, b__law_factor, runD, List.map_cons, List.map_nil, List.replicate_zero, List.replicate_succ, List.cons_append, List.nil_append, List.append_nil, sRet, sRetN, sNx, sSeq, sSet, sSetF, sOwn, sTo, gsCons, gsNil, sPar, sPar3, eChain, sExp, sApp, sPut, sIf, sFrz, frz, frz1, List.foldl_cons, List.foldl_nil, eBin, eUn, eVar, eC, eAnd, eOr, eIf, eLend, flat, eIxO, eOfF, eTup, eAll, fAll, eCall, eIs, eSl, fSl, oNone, oSome, aNil, aCons, bVal, bAnd, bOr, bNot, bYes, blOf, gNot, iSeq, iRg1, iRg2, seq_l, seq_t, tup_l, tup_t, lst_l, lst_t, len_l, len_t, gIx_l, gIx_t, gNm, wipeR, List.getElem?_cons_zero, List.getElem?_cons_succ, List.set_cons_zero, List.set_cons_succ, Option.bind_some, Option.bind_none, Option.map_some, Option.map_none, if_true, if_false, decide_true, decide_false, Bool.not_true, Bool.not_false, Bool.false_eq_true, reduceIte, gAdd_i, gSub_i, gNeg_i, gLt_i, gLe_i, gGt_i, gGe_i, gEq_i, gNe_i, gMul_b, gMod_p, gFdiv_p, Nat.reduceAdd, Nat.reduceMul, Nat.reduceLeDiff, at0, at1, at2, at3, at4, at5, at6, at7, at8, at9, at10, at11, at12, at13, at14, at15, gSl_l, cut_pos, cut_from, cut_to, Int.reduceToNat, List.drop_succ_cons, List.drop_zero, List.take_succ_cons, List.take_zero, List.take_nil, Nat.reduceSub, Int.reduceAdd, Int.reduceSub, Int.reduceMul, Int.reduceMod, Int.reduceDiv, Int.reduceNeg, List.length_cons, List.length_nil, Nat.zero_add, fComp, compL, rg1_3, mInt, mAbs, mGcd, mMax2, mMin2, mMax3, mMin3, mIsqrt, isT, sOwnO, sPut2, sPutF, sAli, bLend, eIxOO, ffNil, ffCons, ffComp, compLL, q, h0, ix30, ix31, ix32]; rfl⟩
  · exact ⟨⟨⟨1, 0, 0⟩, ⟨0, 1, 0⟩, ⟨n, 0, 1⟩⟩, ⟨⟨b1, b0, b0⟩, ⟨b0, b1, b0⟩, ⟨bn, b0, b1⟩⟩, by simp (config := {decide := true}) only [m__law_factor, b__law_factor, runD, List.map_cons, List.map_nil, List.replicate_zero, List.replicate_succ, List.cons_append, List.nil_append, List.append_nil, sRet, sRetN, sNx, sSeq, sSet, sSetF, sOwn, sTo, gsCons, gsNil, sPar, sPar3, eChain, sExp, sApp, sPut, sIf, sFrz, frz, frz1, List.foldl_cons, List.foldl_nil, eBin, eUn, eVar, eC, eAnd, eOr, eIf, eLend, flat, eIxO, eOfF, eTup, eAll, fAll, eCall, eIs, eSl, fSl, oNone, oSome, aNil, aCons, bVal, bAnd, bOr, bNot, bYes, blOf, gNot, iSeq, iRg1, iRg2, seq_l, seq_t, tup_l, tup_t, lst_l, lst_t, len_l, len_t, gIx_l, gIx_t, gNm, wipeR, List.getElem?_cons_zero, List.getElem?_cons_succ, List.set_cons_zero, List.set_cons_succ, Option.bind_some, Option.bind_none, Option.map_some, Option.map_none, if_true, if_false, decide_true, decide_false, Bool.not_true, Bool.not_false, Bool.false_eq_true, reduceIte, gAdd_i, gSub_i, gNeg_i, gLt_i, gLe_i, gGt_i, gGe_i, gEq_i, gNe_i, gMul_b, gMod_p, gFdiv_p, Nat.reduceAdd, Nat.reduceMul, Nat.reduceLeDiff, at0, at1, at2, at3, at4, at5, at6, at7, at8, at9, at10, at11, at12, at13, at14, at15, gSl_l, cut_pos, cut_from, cut_to, Int.reduceToNat, List.drop_succ_cons, List.drop_zero, List.take_succ_cons, List.take_zero, List.take_nil, Nat.reduceSub, Int.reduceAdd, Int.reduceSub, Int.reduceMul, Int.reduceMod, Int.reduceDiv, Int.reduceNeg, List.length_cons, List.length_nil, Nat.zero_add, fComp, compL, rg1_3, mInt, mAbs, mGcd, mMax2, mMin2, mMax3, mMin3, mIsqrt, isT, sOwnO, sPut2, sPutF, sAli, bLend, eIxOO, ffNil, ffCons, ffComp, compLL, q, h0, ix30, ix31, ix32]; rfl⟩
  · exact ⟨⟨⟨1, 0, 0⟩, ⟨0, 1, 0⟩, ⟨0, n, 1⟩⟩, ⟨⟨b1, b0, b0⟩, ⟨b0, b1, b0⟩, ⟨b0, bn, b1⟩⟩, by simp (config := {decide := true}) only [m__law_factor, b__law_factor, runD, List.map_cons, List.map_nil, List.replicate_zero, List.replicate_succ, List.cons_append, List.nil_append, List.append_nil, sRet, sRetN, sNx, sSeq, sSet, sSetF, sOwn, sTo, gsCons, gsNil, sPar, sPar3, eChain, sExp, sApp, sPut, sIf, sFrz, frz, frz1, List.foldl_cons, List.foldl_nil, eBin, eUn, eVar, eC, eAnd, eOr, eIf, eLend, flat, eIxO, eOfF, eTup, eAll, fAll, eCall, eIs, eSl, fSl, oNone, oSome, aNil, aCons, bVal, bAnd, bOr, bNot, bYes, blOf, gNot, iSeq, iRg1, iRg2, seq_l, seq_t, tup_l, tup_t, lst_l, lst_t, len_l, len_t, gIx_l, gIx_t, gNm, wipeR, List.getElem?_cons_zero, List.getElem?_cons_succ, List.set_cons_zero, List.set_cons_succ, Option.bind_some, Option.bind_none, Option.map_some, Option.map_none, if_true, if_false, decide_true, decide_false, Bool.not_true, Bool.not_false, Bool.false_eq_true, reduceIte, gAdd_i, gSub_i, gNeg_i, gLt_i, gLe_i, gGt_i, gGe_i, gEq_i, gNe_i, gMul_b, gMod_p, gFdiv_p, Nat.reduceAdd, Nat.reduceMul, Nat.reduceLeDiff, at0, at1, at2, at3, at4, at5, at6, at7, at8, at9, at10, at11, at12, at13, at14, at15, gSl_l, cut_pos, cut_from, cut_to, Int.reduceToNat, List.drop_succ_cons, List.drop_zero, List.take_succ_cons, List.take_zero, List.take_nil, Nat.reduceSub, Int.reduceAdd, Int.reduceSub, Int.reduceMul, Int.reduceMod, Int.reduceDiv, Int.reduceNeg, List.length_cons, List.length_nil, Nat.zero_add, fComp, compL, rg1_3, mInt, mAbs, mGcd, mMax2, mMin2, mMax3, mMin3, mIsqrt, isT, sOwnO, sPut2, sPutF, sAli, bLend, eIxOO, ffNil, ffCons, ffComp, compLL, q, h0, ix30, ix31, ix32]; rfl⟩
theorem fx2 {d0 d1 d2 d3 d4 d5 d6 : Int} {n : Int} {c : Int} (q : m__law_digits [.int c, .list [.int 3, .int 3, .int 2, .int 6, .int 2, .int 2, .int 2]] = some (.list [.int d0, .int d1, .int d2, .int d3, .int d4, .int d5, .int d6]))
    (h0 : ¬ d0 < 2) (h3 : 0 ≤ d3 ∧ d3 < 6) (h4 : 0 ≤ d4 ∧ d4 < 2) (h5 : 0 ≤ d5 ∧ d5 < 2) (h6 : 0 ≤ d6 ∧ d6 < 2) : ∃ f, BM 104 f ∧ m__law_factor [.int c, .int n] = some (tb true true f) := by
  haveI s4 : Bd 1 (1 - 2 * d4) := ⟨by omega⟩
  haveI s5 : Bd 1 (1 - 2 * d5) := ⟨by omega⟩
  haveI s6 : Bd 1 (1 - 2 * d6) := ⟨by omega⟩
  haveI : Bd 1 d4 := ⟨by omega⟩
  haveI : Bd 1 d5 := ⟨by omega⟩
  haveI : Bd 1 d6 := ⟨by omega⟩
  haveI v1 : BV 1 ⟨1, 0, 0⟩ := ⟨by decide, by decide, by decide⟩
  haveI v2 : BV 1 ⟨0, 1, 0⟩ := ⟨by decide, by decide, by decide⟩
  haveI v3 : BV 1 ⟨0, 0, 1⟩ := ⟨by decide, by decide, by decide⟩
  have up : ∀ {s : Int} {v : V3}, Bd 1 s → BV 1 v → BV 104 (v.smul s) := fun hs hv => BV.mono bv_smul (by decide)
  have t1 : ∀ s : Int, Bd 1 s → m__law_times [.int s, .list [.int 1, .int 0, .int 0]] = some (rw3 true (V3.smul s ⟨1, 0, 0⟩)) := fun s hs => w_times (k := false) (v := ⟨1, 0, 0⟩) (n := 1) (m := 1) (by decide)
  have t2 : ∀ s : Int, Bd 1 s → m__law_times [.int s, .list [.int 0, .int 1, .int 0]] = some (rw3 true (V3.smul s ⟨0, 1, 0⟩)) := fun s hs => w_times (k := false) (v := ⟨0, 1, 0⟩) (n := 1) (m := 1) (by decide)
  have t3 : ∀ s : Int, Bd 1 s → m__law_times [.int s, .list [.int 0, .int 0, .int 1]] = some (rw3 true (V3.smul s ⟨0, 0, 1⟩)) := fun s hs => w_times (k := false) (v := ⟨0, 0, 1⟩) (n := 1) (m := 1) (by decide)
  have e3 : d3 = 0 ∨ d3 = 1 ∨ d3 = 2 ∨ d3 = 3 ∨ d3 = 4 ∨ d3 = 5 := by omega
  rcases e3 with rfl | rfl | rfl | rfl | rfl | rfl
  · exact ⟨⟨V3.smul (1 - 2 * d4) ⟨1, 0, 0⟩, V3.smul (1 - 2 * d5) ⟨0, 1, 0⟩, V3.smul (1 - 2 * d6) ⟨0, 0, 1⟩⟩, ⟨up s4 v1, up s5 v2, up s6 v3⟩, by simp (config := {decide := true}) only [m__law_factor, b__law_factor, runD, List.map_cons, List.map_nil, List.replicate_zero, List.replicate_succ, List.cons_append, List.nil_append, List.append_nil, sRet, sRetN, sNx, sSeq, sSet, sSetF, sOwn, sTo, gsCons, gsNil, sPar, sPar3, eChain, sExp, sApp, sPut, sIf, sFrz, frz, frz1, List.foldl_cons, List.foldl_nil, eBin, eUn, eVar, eC, eAnd, eOr, eIf, eLend, flat, eIxO, eOfF, eTup, eAll, fAll, eCall, eIs, eSl, fSl, oNone, oSome, aNil, aCons, bVal, bAnd, bOr, bNot, bYes, blOf, gNot, iSeq, iRg1, iRg2, seq_l, seq_t, tup_l, tup_t, lst_l, lst_t, len_l, len_t, gIx_l, gIx_t, gNm, wipeR, List.getElem?_cons_zero, List.getElem?_cons_succ, List.set_cons_zero, List.set_cons_succ, Option.bind_some, Option.bind_none, Option.map_some, Option.map_none, if_true, if_false, decide_true, decide_false, Bool.not_true, Bool.not_false, Bool.false_eq_true, reduceIte, gAdd_i, gSub_i, gNeg_i, gLt_i, gLe_i, gGt_i, gGe_i, gEq_i, gNe_i, gMul_b, gMod_p, gFdiv_p, Nat.reduceAdd, Nat.reduceMul, Nat.reduceLeDiff, at0, at1, at2, at3, at4, at5, at6, at7, at8, at9, at10, at11, at12, at13, at14, at15, gSl_l, cut_pos, cut_from, cut_to, Int.reduceToNat, List.drop_succ_cons, List.drop_zero, List.take_succ_cons, List.take_zero, List.take_nil, Nat.reduceSub, Int.reduceAdd, Int.reduceSub, Int.reduceMul, Int.reduceMod, Int.reduceDiv, Int.reduceNeg, List.length_cons, List.length_nil, Nat.zero_add, fComp, compL, rg1_3, mInt, mAbs, mGcd, mMax2, mMin2, mMax3, mMin3, mIsqrt, isT, sOwnO, sPut2, sPutF, sAli, bLend, eIxOO, ffNil, ffCons, ffComp, compLL, q, h0, t1 _ s4, t2 _ s5, t3 _ s6]; rfl⟩
  · exact ⟨⟨V3.smul (1 - 2 * d4) ⟨1, 0, 0⟩, V3.smul (1 - 2 * d5) ⟨0, 0, 1⟩, V3.smul (1 - 2 * d6) ⟨0, 1, 0⟩⟩, ⟨up s4 v1, up s5 v3, up s6 v2⟩, by simp (config := {decide := true}) only [m__law_factor, b__law_factor, runD, List.map_cons, List.map_nil, List.replicate_zero, List.replicate_succ, List.cons_append, List.nil_append, List.append_nil, sRet, sRetN, sNx, sSeq, sSet, sSetF, sOwn, sTo, gsCons, gsNil, sPar, sPar3, eChain, sExp, sApp, sPut, sIf, sFrz, frz, frz1, List.foldl_cons, List.foldl_nil, eBin, eUn, eVar, eC, eAnd, eOr, eIf, eLend, flat, eIxO, eOfF, eTup, eAll, fAll, eCall, eIs, eSl, fSl, oNone, oSome, aNil, aCons, bVal, bAnd, bOr, bNot, bYes, blOf, gNot, iSeq, iRg1, iRg2, seq_l, seq_t, tup_l, tup_t, lst_l, lst_t, len_l, len_t, gIx_l, gIx_t, gNm, wipeR, List.getElem?_cons_zero, List.getElem?_cons_succ, List.set_cons_zero, List.set_cons_succ, Option.bind_some, Option.bind_none, Option.map_some, Option.map_none, if_true, if_false, decide_true, decide_false, Bool.not_true, Bool.not_false, Bool.false_eq_true, reduceIte, gAdd_i, gSub_i, gNeg_i, gLt_i, gLe_i, gGt_i, gGe_i, gEq_i, gNe_i, gMul_b, gMod_p, gFdiv_p, Nat.reduceAdd, Nat.reduceMul, Nat.reduceLeDiff, at0, at1, at2, at3, at4, at5, at6, at7, at8, at9, at10, at11, at12, at13, at14, at15, gSl_l, cut_pos, cut_from, cut_to, Int.reduceToNat, List.drop_succ_cons, List.drop_zero, List.take_succ_cons, List.take_zero, List.take_nil, Nat.reduceSub, Int.reduceAdd, Int.reduceSub, Int.reduceMul, Int.reduceMod, Int.reduceDiv, Int.reduceNeg, List.length_cons, List.length_nil, Nat.zero_add, fComp, compL, rg1_3, mInt, mAbs, mGcd, mMax2, mMin2, mMax3, mMin3, mIsqrt, isT, sOwnO, sPut2, sPutF, sAli, bLend, eIxOO, ffNil, ffCons, ffComp, compLL, q, h0, t1 _ s4, t3 _ s5, t2 _ s6]; rfl⟩
  · exact ⟨⟨V3.smul (1 - 2 * d4) ⟨0, 1, 0⟩, V3.smul (1 - 2 * d5) ⟨1, 0, 0⟩, V3.smul (1 - 2 * d6) ⟨0, 0, 1⟩⟩, ⟨up s4 v2, up s5 v1, up s6 v3⟩, by simp (config := {decide := true}) only [m__law_factor, b__law_factor, runD, List.map_cons, List.map_nil, List.replicate_zero, List.replicate_succ, List.cons_append, List.nil_append, List.append_nil, sRet, sRetN, sNx, sSeq, sSet, sSetF, sOwn, sTo, gsCons, gsNil, sPar, sPar3, eChain, sExp, sApp, sPut, sIf, sFrz, frz, frz1, List.foldl_cons, List.foldl_nil, eBin, eUn, eVar, eC, eAnd, eOr, eIf, eLend, flat, eIxO, eOfF, eTup, eAll, fAll, eCall, eIs, eSl, fSl, oNone, oSome, aNil, aCons, bVal, bAnd, bOr, bNot, bYes, blOf, gNot, iSeq, iRg1, iRg2, seq_l, seq_t, tup_l, tup_t, lst_l, lst_t, len_l, len_t, gIx_l, gIx_t, gNm, wipeR, List.getElem?_cons_zero, List.getElem?_cons_succ, List.set_cons_zero, List.set_cons_succ, Option.bind_some, Option.bind_none, Option.map_some, Option.map_none, if_true, if_false, decide_true, decide_false, Bool.not_true, Bool.not_false, Bool.false_eq_true, reduceIte, gAdd_i, gSub_i, gNeg_i, gLt_i, gLe_i, gGt_i, gGe_i, gEq_i, gNe_i, gMul_b, gMod_p, gFdiv_p, Nat.reduceAdd, Nat.reduceMul, Nat.reduceLeDiff, at0, at1, at2, at3, at4, at5, at6, at7, at8, at9, at10, at11, at12, at13, at14, at15, gSl_l, cut_pos, cut_from, cut_to, Int.reduceToNat, List.drop_succ_cons, List.drop_zero, List.take_succ_cons, List.take_zero, List.take_nil, Nat.reduceSub, Int.reduceAdd, Int.reduceSub, Int.reduceMul, Int.reduceMod, Int.reduceDiv, Int.reduceNeg, List.length_cons, List.length_nil, Nat.zero_add, fComp, compL, rg1_3, mInt, mAbs, mGcd, mMax2, mMin2, mMax3, mMin3, mIsqrt, isT, sOwnO, sPut2, sPutF, sAli, bLend, eIxOO, ffNil, ffCons, ffComp, compLL, q, h0, t2 _ s4, t1 _ s5, t3 _ s6]; rfl⟩
  · exact ⟨⟨V3.smul (1 - 2 * d4) ⟨0, 1, 0⟩, V3.smul (1 - 2 * d5) ⟨0, 0, 1⟩, V3.smul (1 - 2 * d6) ⟨1, 0, 0⟩⟩, ⟨up s4 v2, up s5 v3, up s6 v1⟩, by simp (config := {decide := true}) only [m__law_factor, b__law_factor, runD, List.map_cons, List.map_nil, List.replicate_zero, List.replicate_succ, List.cons_append, List.nil_append, List.append_nil, sRet, sRetN, sNx, sSeq, sSet, sSetF, sOwn, sTo, gsCons, gsNil, sPar, sPar3, eChain, sExp, sApp, sPut, sIf, sFrz, frz, frz1, List.foldl_cons, List.foldl_nil, eBin, eUn, eVar, eC, eAnd, eOr, eIf, eLend, flat, eIxO, eOfF, eTup, eAll, fAll, eCall, eIs, eSl, fSl, oNone, oSome, aNil, aCons, bVal, bAnd, bOr, bNot, bYes, blOf, gNot, iSeq, iRg1, iRg2, seq_l, seq_t, tup_l, tup_t, lst_l, lst_t, len_l, len_t, gIx_l, gIx_t, gNm, wipeR, List.getElem?_cons_zero, List.getElem?_cons_succ, List.set_cons_zero, List.set_cons_succ, Option.bind_some, Option.bind_none, Option.map_some, Option.map_none, if_true, if_false, decide_true, decide_false, Bool.not_true, Bool.not_false, Bool.false_eq_true, reduceIte, gAdd_i, gSub_i, gNeg_i, gLt_i, gLe_i, gGt_i, gGe_i, gEq_i, gNe_i, gMul_b, gMod_p, gFdiv_p, Nat.reduceAdd, Nat.reduceMul, Nat.reduceLeDiff, at0, at1, at2, at3, at4, at5, at6, at7, at8, at9, at10, at11, at12, at13, at14, at15, gSl_l, cut_pos, cut_from, cut_to, Int.reduceToNat, List.drop_succ_cons, List.drop_zero, List.take_succ_cons, List.take_zero, List.take_nil, Nat.reduceSub, Int.reduceAdd, Int.reduceSub, Int.reduceMul, Int.reduceMod, Int.reduceDiv, Int.reduceNeg, List.length_cons, List.length_nil, Nat.zero_add, fComp, compL, rg1_3, mInt, mAbs, mGcd, mMax2, mMin2, mMax3, mMin3, mIsqrt, isT, sOwnO, sPut2, sPutF, sAli, bLend, eIxOO, ffNil, ffCons, ffComp, compLL, q, h0, t2 _ s4, t3 _ s5, t1 _ s6]; rfl⟩
  · exact ⟨⟨V3.smul (1 - 2 * d4) ⟨0, 0, 1⟩, V3.smul (1 - 2 * d5) ⟨1, 0, 0⟩, V3.smul (1 - 2 * d6) ⟨0, 1, 0⟩⟩, ⟨up s4 v3, up s5 v1, up s6 v2⟩, by simp (config := {decide := true}) only [m__law_factor, b__law_factor, runD, List.map_cons, List.map_nil, List.replicate_zero, List.replicate_succ, List.cons_append, List.nil_append, List.append_nil, sRet, sRetN, sNx, sSeq, sSet, sSetF, sOwn, sTo, gsCons, gsNil, sPar, sPar3, eChain, sExp, sApp, sPut, sIf, sFrz, frz, frz1, List.foldl_cons, List.foldl_nil, eBin, eUn, eVar, eC, eAnd, eOr, eIf, eLend, flat, eIxO, eOfF, eTup, eAll, fAll, eCall, eIs, eSl, fSl, oNone, oSome, aNil, aCons, bVal, bAnd, bOr, bNot, bYes, blOf, gNot, iSeq, iRg1, iRg2, seq_l, seq_t, tup_l, tup_t, lst_l, lst_t, len_l, len_t, gIx_l, gIx_t, gNm, wipeR, List.getElem?_cons_zero, List.getElem?_cons_succ, List.set_cons_zero, List.set_cons_succ, Option.bind_some, Option.bind_none, Option.map_some, Option.map_none, if_true, if_false, decide_true, decide_false, Bool.not_true, Bool.not_false, Bool.false_eq_true, reduceIte, gAdd_i, gSub_i, gNeg_i, gLt_i, gLe_i, gGt_i, gGe_i, gEq_i, gNe_i, gMul_b, gMod_p, gFdiv_p, Nat.reduceAdd, Nat.reduceMul, Nat.reduceLeDiff, at0, at1, at2, at3, at4, at5, at6, at7, at8, at9, at10, at11, at12, at13, at14, at15, gSl_l, cut_pos, cut_from, cut_to, Int.reduceToNat, List.drop_succ_cons, List.drop_zero, List.take_succ_cons, List.take_zero, List.take_nil, Nat.reduceSub, Int.reduceAdd, Int.reduceSub, Int.reduceMul, Int.reduceMod, Int.reduceDiv, Int.reduceNeg, List.length_cons, List.length_nil, Nat.zero_add, fComp, compL, rg1_3, mInt, mAbs, mGcd, mMax2, mMin2, mMax3, mMin3, mIsqrt, isT, sOwnO, sPut2, sPutF, sAli, bLend, eIxOO, ffNil, ffCons, ffComp, compLL, q, h0, t3 _ s4, t1 _ s5, t2 _ s6]; rfl⟩
  · exact ⟨⟨V3.smul (1 - 2 * d4) ⟨0, 0, 1⟩, V3.smul (1 - 2 * d5) ⟨0, 1, 0⟩, V3.smul (1 - 2 * d6) ⟨1, 0, 0⟩⟩, ⟨up s4 v3, up s5 v2, up s6 v1⟩, by simp (config := {decide := true}) only [m__law_factor, b__law_factor, runD, List.map_cons, List.map_nil, List.replicate_zero, List.replicate_succ, List.cons_append, List.nil_append, List.append_nil, sRet, sRetN, sNx, sSeq, sSet, sSetF, sOwn, sTo, gsCons, gsNil, sPar, sPar3, eChain, sExp, sApp, sPut, sIf, sFrz, frz, frz1, List.foldl_cons, List.foldl_nil, eBin, eUn, eVar, eC, eAnd, eOr, eIf, eLend, flat, eIxO, eOfF, eTup, eAll, fAll, eCall, eIs, eSl, fSl, oNone, oSome, aNil, aCons, bVal, bAnd, bOr, bNot, bYes, blOf, gNot, iSeq, iRg1, iRg2, seq_l, seq_t, tup_l, tup_t, lst_l, lst_t, len_l, len_t, gIx_l, gIx_t, gNm, wipeR, List.getElem?_cons_zero, List.getElem?_cons_succ, List.set_cons_zero, List.set_cons_succ, Option.bind_some, Option.bind_none, Option.map_some, Option.map_none, if_true, if_false, decide_true, decide_false, Bool.not_true, Bool.not_false, Bool.false_eq_true, reduceIte, gAdd_i, gSub_i, gNeg_i, gLt_i, gLe_i, gGt_i, gGe_i, gEq_i, gNe_i, gMul_b, gMod_p, gFdiv_p, Nat.reduceAdd, Nat.reduceMul, Nat.reduceLeDiff, at0, at1, at2, at3, at4, at5, at6, at7, at8, at9, at10, at11, at12, at13, at14, at15, gSl_l, cut_pos, cut_from, cut_to, Int.reduceToNat, List.drop_succ_cons, List.drop_zero, List.take_succ_cons, List.take_zero, List.take_nil, Nat.reduceSub, Int.reduceAdd, Int.reduceSub, Int.reduceMul, Int.reduceMod, Int.reduceDiv, Int.reduceNeg, List.length_cons, List.length_nil, Nat.zero_add, fComp, compL, rg1_3, mInt, mAbs, mGcd, mMax2, mMin2, mMax3, mMin3, mIsqrt, isT, sOwnO, sPut2, sPutF, sAli, bLend, eIxOO, ffNil, ffCons, ffComp, compLL, q, h0, t3 _ s4, t2 _ s5, t1 _ s6]; rfl⟩
theorem w_factor {n : Int} [bn : Bd 103 n] (c : Int) : ∃ f, BM 104 f ∧ m__law_factor [.int c, .int n] = some (tb true true f) := by
  obtain ⟨ds, q1, q2⟩ := w_digits c [3, 3, 2, 6, 2, 2, 2] (by decide) (by decide)
  obtain ⟨d0, r, rfl, a0, b0, q1⟩ := inD_cons q1
  obtain ⟨d1, r, rfl, a1, b1, q1⟩ := inD_cons q1
  obtain ⟨d2, r, rfl, a2, b2, q1⟩ := inD_cons q1
  obtain ⟨d3, r, rfl, a3, b3, q1⟩ := inD_cons q1
  obtain ⟨d4, r, rfl, a4, b4, q1⟩ := inD_cons q1
  obtain ⟨d5, r, rfl, a5, b5, q1⟩ := inD_cons q1
  obtain ⟨d6, r, rfl, a6, b6, q1⟩ := inD_cons q1
  obtain rfl := inD_nil q1
  simp only [List.map_cons, List.map_nil] at q2
  by_cases h : d0 < 2
  · exact fx q2 h ⟨a1, b1⟩ ⟨a2, b2⟩
  · exact fx2 q2 h ⟨a3, b3⟩ ⟨a4, b4⟩ ⟨a5, b5⟩ ⟨a6, b6⟩
noncomputable abbrev uniB : ES := (sSeq (sSet 4 (eCall m__law_factor (aCons (eCall m__law_cell (aCons (eVar 0) (aCons (eBin gAdd (eC (.int 1)) (eBin gMul (eC (.int 2)) (eVar 3))) aNil))) (aCons (eCall m__law_number (aCons (eCall m__law_cell (aCons (eVar 0) (aCons (eBin gAdd (eC (.int 2)) (eBin gMul (eC (.int 2)) (eVar 3))) aNil))) aNil)) aNil)))) (sSet 2 (eCall m__law_product (aCons (eVar 2) (aCons (eVar 4) aNil)))))
theorem uni_go (ns : List Int) (x1 : SC) : ∀ (m i : Nat) (x3 x4 : SC) (T : M3), i + m ≤ 6 → BM (1 + 106 * i) T → ∃ (x3' x4' : SC) (T' : M3), BM (1 + 106 * (i + m)) T' ∧ forL (gNm 3) uniB (rng i m) [.va (.list (ns.map .int)), x1, .va (tb true true T), x3, x4] = some (.nx [.va (.list (ns.map .int)), x1, .va (tb true true T'), x3', x4'])
  | 0, i, x3, x4, T, hi, hT => ⟨x3, x4, T, hT, rfl⟩
  | m + 1, i, x3, x4, T, hi, hT => by
    haveI : Bd 10 (i : Int) := ⟨by omega⟩
    obtain ⟨c1, e1⟩ := w_cell ns (1 + 2 * (i : Int)) (by omega) (by omega)
    obtain ⟨c2, e2⟩ := w_cell ns (2 + 2 * (i : Int)) (by omega) (by omega)
    obtain ⟨n, hn, e3⟩ := w_number c2
    obtain ⟨f, hf, e4⟩ := w_factor (n := n) c1
    have e5 := w_product (j := true) (k := true) (j' := true) (k' := true) (s := T) (t := f) (n := 1 + 106 * i) (m := 104) (by omega)
    obtain ⟨x3', x4', T', hT', q⟩ := uni_go ns x1 m (i + 1) (.va (.int (i : Int))) (.va (tb true true f)) (T.mul f) (by omega) (BM.mono (bm_mul (s := T) (t := f)) (by omega))
    refine ⟨x3', x4', T', by rw [show i + (m + 1) = i + 1 + m by omega]; exact hT', ?_⟩
    rw [rng_succ, show (i : Int) + 1 = ((i + 1 : Nat) : Int) by omega]
    simp (config := {decide := true}) only [forL, uniB, runD, List.map_cons, List.map_nil, List.replicate_zero, List.replicate_succ, List.cons_append, List.nil_append, List.append_nil, sRet, sRetN, sNx, sSeq, sSet, sSetF, sOwn, sTo, gsCons, gsNil, sPar, sPar3, eChain, sExp, sApp, sPut, sIf, sFrz, frz, frz1, List.foldl_cons, List.foldl_nil, eBin, eUn, eVar, eC, eAnd, eOr, eIf, eLend, flat, eIxO, eOfF, eTup, eAll, fAll, eCall, eIs, eSl, fSl, oNone, oSome, aNil, aCons, bVal, bAnd, bOr, bNot, bYes, blOf, gNot, iSeq, iRg1, iRg2, seq_l, seq_t, tup_l, tup_t, lst_l, lst_t, len_l, len_t, gIx_l, gIx_t, gNm, wipeR, List.getElem?_cons_zero, List.getElem?_cons_succ, List.set_cons_zero, List.set_cons_succ, Option.bind_some, Option.bind_none, Option.map_some, Option.map_none, if_true, if_false, decide_true, decide_false, Bool.not_true, Bool.not_false, Bool.false_eq_true, reduceIte, gAdd_i, gSub_i, gNeg_i, gLt_i, gLe_i, gGt_i, gGe_i, gEq_i, gNe_i, gMul_b, gMod_p, gFdiv_p, Nat.reduceAdd, Nat.reduceMul, Nat.reduceLeDiff, at0, at1, at2, at3, at4, at5, at6, at7, at8, at9, at10, at11, at12, at13, at14, at15, gSl_l, cut_pos, cut_from, cut_to, Int.reduceToNat, List.drop_succ_cons, List.drop_zero, List.take_succ_cons, List.take_zero, List.take_nil, Nat.reduceSub, Int.reduceAdd, Int.reduceSub, Int.reduceMul, Int.reduceMod, Int.reduceDiv, Int.reduceNeg, List.length_cons, List.length_nil, Nat.zero_add, fComp, compL, rg1_3, mInt, mAbs, mGcd, mMax2, mMin2, mMax3, mMin3, mIsqrt, isT, e1, e2, e3, e4, e5]
    exact q
theorem w_unimodular (ns : List Int) {d : Int} (h : 0 ≤ d ∧ d < 7) : ∃ T, BM 700 T ∧ m__law_unimodular [.list (ns.map .int), .int d] = some (tb true true T) := by
  obtain ⟨m, rfl⟩ : ∃ m : Nat, d = m := ⟨d.toNat, by omega⟩
  obtain ⟨x3, x4, T, hT, q⟩ := uni_go ns (.va (.int (m : Int))) m 0 .un .un M3.one (by omega) bm_one
  refine ⟨T, hT.mono (by omega), ?_⟩
  have r := rg1_nat m (by omega)
  have q' : forL (gNm 3) uniB (rng 0 m) [.va (.list (ns.map .int)), .va (.int (m : Int)), .va (tb true true ⟨⟨1, 0, 0⟩, ⟨0, 1, 0⟩, ⟨0, 0, 1⟩⟩), .un, .un] = _ := q
  simp only [m__law_unimodular, b__law_unimodular, runD, List.map_cons, List.map_nil, List.replicate_zero, List.replicate_succ, List.cons_append, List.nil_append, List.append_nil, sRet, sRetN, sNx, sSeq, sSet, sSetF, sOwn, sTo, gsCons, gsNil, sPar, sPar3, eChain, sExp, sApp, sPut, sIf, sFrz, frz, frz1, List.foldl_cons, List.foldl_nil, eBin, eUn, eVar, eC, eAnd, eOr, eIf, eLend, flat, eIxO, eOfF, eTup, eAll, fAll, eCall, eIs, eSl, fSl, oNone, oSome, aNil, aCons, bVal, bAnd, bOr, bNot, bYes, blOf, gNot, iSeq, iRg1, iRg2, seq_l, seq_t, tup_l, tup_t, lst_l, lst_t, len_l, len_t, gIx_l, gIx_t, gNm, wipeR, List.getElem?_cons_zero, List.getElem?_cons_succ, List.set_cons_zero, List.set_cons_succ, Option.bind_some, Option.bind_none, Option.map_some, Option.map_none, if_true, if_false, decide_true, decide_false, Bool.not_true, Bool.not_false, Bool.false_eq_true, reduceIte, gAdd_i, gSub_i, gNeg_i, gLt_i, gLe_i, gGt_i, gGe_i, gEq_i, gNe_i, gMul_b, gMod_p, gFdiv_p, Nat.reduceAdd, Nat.reduceMul, Nat.reduceLeDiff, at0, at1, at2, at3, at4, at5, at6, at7, at8, at9, at10, at11, at12, at13, at14, at15, gSl_l, cut_pos, cut_from, cut_to, Int.reduceToNat, List.drop_succ_cons, List.drop_zero, List.take_succ_cons, List.take_zero, List.take_nil, Nat.reduceSub, Int.reduceAdd, Int.reduceSub, Int.reduceMul, Int.reduceMod, Int.reduceDiv, Int.reduceNeg, List.length_cons, List.length_nil, Nat.zero_add, fComp, compL, rg1_3, mInt, mAbs, mGcd, mMax2, mMin2, mMax3, mMin3, mIsqrt, isT, row_t, tab_t, sFor, r]
  rw [show (forL (gNm 3) _ (rng 0 m) _) = _ from q']
  simp only [runD, List.map_cons, List.map_nil, List.replicate_zero, List.replicate_succ, List.cons_append, List.nil_append, List.append_nil, sRet, sRetN, sNx, sSeq, sSet, sSetF, sOwn, sTo, gsCons, gsNil, sPar, sPar3, eChain, sExp, sApp, sPut, sIf, sFrz, frz, frz1, List.foldl_cons, List.foldl_nil, eBin, eUn, eVar, eC, eAnd, eOr, eIf, eLend, flat, eIxO, eOfF, eTup, eAll, fAll, eCall, eIs, eSl, fSl, oNone, oSome, aNil, aCons, bVal, bAnd, bOr, bNot, bYes, blOf, gNot, iSeq, iRg1, iRg2, seq_l, seq_t, tup_l, tup_t, lst_l, lst_t, len_l, len_t, gIx_l, gIx_t, gNm, wipeR, List.getElem?_cons_zero, List.getElem?_cons_succ, List.set_cons_zero, List.set_cons_succ, Option.bind_some, Option.bind_none, Option.map_some, Option.map_none, if_true, if_false, decide_true, decide_false, Bool.not_true, Bool.not_false, Bool.false_eq_true, reduceIte, gAdd_i, gSub_i, gNeg_i, gLt_i, gLe_i, gGt_i, gGe_i, gEq_i, gNe_i, gMul_b, gMod_p, gFdiv_p, Nat.reduceAdd, Nat.reduceMul, Nat.reduceLeDiff, at0, at1, at2, at3, at4, at5, at6, at7, at8, at9, at10, at11, at12, at13, at14, at15, gSl_l, cut_pos, cut_from, cut_to, Int.reduceToNat, List.drop_succ_cons, List.drop_zero, List.take_succ_cons, List.take_zero, List.take_nil, Nat.reduceSub, Int.reduceAdd, Int.reduceSub, Int.reduceMul, Int.reduceMod, Int.reduceDiv, Int.reduceNeg, List.length_cons, List.length_nil, Nat.zero_add, fComp, compL, rg1_3, mInt, mAbs, mGcd, mMax2, mMin2, mMax3, mMin3, mIsqrt, isT]
end W

set_option linter.all false
set_option maxRecDepth 100000
set_option maxHeartbeats 4000000
set_option exponentiation.threshold 2000
namespace W
open PySem DL L2
section
variable {t : M3} {x0 x1 x2 x3 x4 x5 x6 x7 x8 x9 d1 d2 : Int} [ht : BM 700 t] [h0 : Bd 103 x0] [h1 : Bd 103 x1] [h2 : Bd 103 x2] [h3 : Bd 103 x3] [h4 : Bd 103 x4] [h5 : Bd 103 x5] [h6 : Bd 103 x6] [h7 : Bd 103 x7] [h8 : Bd 103 x8] [h9 : Bd 103 x9]
theorem oth0 (g1 : 0 ≤ d1 ∧ d1 < 3) (g2 : 0 ≤ d2 ∧ d2 < 3) : ∃ o, BM 900 o ∧ m__law_other [tb true true t, .list [.int x0, .int x1, .int x2, .int x3, .int x4, .int x5, .int x6, .int x7, .int x8, .int x9], .list [.int 0, .int d1, .int d2]] = some (tb true true o) := by
  have T : BM 900 t := ht.mono (by decide)
  have ta := T.a
  have tb' := T.b
  have tc := T.c
  have hb : ∀ {n : Nat} {i : Int}, Bd n i → n ≤ 900 → i.natAbs < 2 ^ 900 := fun h l => Bd.mono h.lt l
  have e1 : d1 = 0 ∨ d1 = 1 ∨ d1 = 2 := by omega
  have w : ∀ v : V3, BV 700 v → m__law_times [.int x9, rw3 true v] = some (rw3 true (v.smul x9)) := fun v hv => w_times (n := 103) (m := 700) (by decide)
  have bs : ∀ {v : V3}, BV 700 v → BV 900 (v.smul x9) := fun hv => BV.mono bv_smul (by decide)
  rcases e1 with rfl | rfl | rfl
  · exact ⟨⟨t.a.smul x9, t.b, t.c⟩, ⟨bs ht.a, tb', tc⟩, by simp (config := {decide := true}) only [m__law_other, b__law_other, runD, List.map_cons, List.map_nil, List.replicate_zero, List.replicate_succ, List.cons_append, List.nil_append, List.append_nil, sRet, sRetN, sNx, sSeq, sSet, sSetF, sOwn, sTo, gsCons, gsNil, sPar, sPar3, eChain, sExp, sApp, sPut, sIf, sFrz, frz, frz1, List.foldl_cons, List.foldl_nil, eBin, eUn, eVar, eC, eAnd, eOr, eIf, eLend, flat, eIxO, eOfF, eTup, eAll, fAll, eCall, eIs, eSl, fSl, oNone, oSome, aNil, aCons, bVal, bAnd, bOr, bNot, bYes, blOf, gNot, iSeq, iRg1, iRg2, seq_l, seq_t, tup_l, tup_t, lst_l, lst_t, len_l, len_t, gIx_l, gIx_t, gNm, wipeR, List.getElem?_cons_zero, List.getElem?_cons_succ, List.set_cons_zero, List.set_cons_succ, Option.bind_some, Option.bind_none, Option.map_some, Option.map_none, if_true, if_false, decide_true, decide_false, Bool.not_true, Bool.not_false, Bool.false_eq_true, reduceIte, gAdd_i, gSub_i, gNeg_i, gLt_i, gLe_i, gGt_i, gGe_i, gEq_i, gNe_i, gMul_b, gMod_p, gFdiv_p, Nat.reduceAdd, Nat.reduceMul, Nat.reduceLeDiff, at0, at1, at2, at3, at4, at5, at6, at7, at8, at9, at10, at11, at12, at13, at14, at15, gSl_l, cut_pos, cut_from, cut_to, Int.reduceToNat, List.drop_succ_cons, List.drop_zero, List.take_succ_cons, List.take_zero, List.take_nil, Nat.reduceSub, Int.reduceAdd, Int.reduceSub, Int.reduceMul, Int.reduceMod, Int.reduceDiv, Int.reduceNeg, List.length_cons, List.length_nil, Nat.zero_add, fComp, compL, rg1_3, mInt, mAbs, mGcd, mMax2, mMin2, mMax3, mMin3, mIsqrt, isT, sOwnO, sPut2, sPutF, sAli, bLend, eIxOO, ffNil, ffCons, ffComp, compLL, ix30, ix31, ix32, seq_tb, lst_r, ix_t0, ix_t1, ix_t2, seq_r, w _ ht.a]; rfl⟩
  · exact ⟨⟨t.a, t.b.smul x9, t.c⟩, ⟨ta, bs ht.b, tc⟩, by simp (config := {decide := true}) only [m__law_other, b__law_other, runD, List.map_cons, List.map_nil, List.replicate_zero, List.replicate_succ, List.cons_append, List.nil_append, List.append_nil, sRet, sRetN, sNx, sSeq, sSet, sSetF, sOwn, sTo, gsCons, gsNil, sPar, sPar3, eChain, sExp, sApp, sPut, sIf, sFrz, frz, frz1, List.foldl_cons, List.foldl_nil, eBin, eUn, eVar, eC, eAnd, eOr, eIf, eLend, flat, eIxO, eOfF, eTup, eAll, fAll, eCall, eIs, eSl, fSl, oNone, oSome, aNil, aCons, bVal, bAnd, bOr, bNot, bYes, blOf, gNot, iSeq, iRg1, iRg2, seq_l, seq_t, tup_l, tup_t, lst_l, lst_t, len_l, len_t, gIx_l, gIx_t, gNm, wipeR, List.getElem?_cons_zero, List.getElem?_cons_succ, List.set_cons_zero, List.set_cons_succ, Option.bind_some, Option.bind_none, Option.map_some, Option.map_none, if_true, if_false, decide_true, decide_false, Bool.not_true, Bool.not_false, Bool.false_eq_true, reduceIte, gAdd_i, gSub_i, gNeg_i, gLt_i, gLe_i, gGt_i, gGe_i, gEq_i, gNe_i, gMul_b, gMod_p, gFdiv_p, Nat.reduceAdd, Nat.reduceMul, Nat.reduceLeDiff, at0, at1, at2, at3, at4, at5, at6, at7, at8, at9, at10, at11, at12, at13, at14, at15, gSl_l, cut_pos, cut_from, cut_to, Int.reduceToNat, List.drop_succ_cons, List.drop_zero, List.take_succ_cons, List.take_zero, List.take_nil, Nat.reduceSub, Int.reduceAdd, Int.reduceSub, Int.reduceMul, Int.reduceMod, Int.reduceDiv, Int.reduceNeg, List.length_cons, List.length_nil, Nat.zero_add, fComp, compL, rg1_3, mInt, mAbs, mGcd, mMax2, mMin2, mMax3, mMin3, mIsqrt, isT, sOwnO, sPut2, sPutF, sAli, bLend, eIxOO, ffNil, ffCons, ffComp, compLL, ix30, ix31, ix32, seq_tb, lst_r, ix_t0, ix_t1, ix_t2, seq_r, w _ ht.b]; rfl⟩
  · exact ⟨⟨t.a, t.b, t.c.smul x9⟩, ⟨ta, tb', bs ht.c⟩, by simp (config := {decide := true}) only [m__law_other, b__law_other, runD, List.map_cons, List.map_nil, List.replicate_zero, List.replicate_succ, List.cons_append, List.nil_append, List.append_nil, sRet, sRetN, sNx, sSeq, sSet, sSetF, sOwn, sTo, gsCons, gsNil, sPar, sPar3, eChain, sExp, sApp, sPut, sIf, sFrz, frz, frz1, List.foldl_cons, List.foldl_nil, eBin, eUn, eVar, eC, eAnd, eOr, eIf, eLend, flat, eIxO, eOfF, eTup, eAll, fAll, eCall, eIs, eSl, fSl, oNone, oSome, aNil, aCons, bVal, bAnd, bOr, bNot, bYes, blOf, gNot, iSeq, iRg1, iRg2, seq_l, seq_t, tup_l, tup_t, lst_l, lst_t, len_l, len_t, gIx_l, gIx_t, gNm, wipeR, List.getElem?_cons_zero, List.getElem?_cons_succ, List.set_cons_zero, List.set_cons_succ, Option.bind_some, Option.bind_none, Option.map_some, Option.map_none, if_true, if_false, decide_true, decide_false, Bool.not_true, Bool.not_false, Bool.false_eq_true, reduceIte, gAdd_i, gSub_i, gNeg_i, gLt_i, gLe_i, gGt_i, gGe_i, gEq_i, gNe_i, gMul_b, gMod_p, gFdiv_p, Nat.reduceAdd, Nat.reduceMul, Nat.reduceLeDiff, at0, at1, at2, at3, at4, at5, at6, at7, at8, at9, at10, at11, at12, at13, at14, at15, gSl_l, cut_pos, cut_from, cut_to, Int.reduceToNat, List.drop_succ_cons, List.drop_zero, List.take_succ_cons, List.take_zero, List.take_nil, Nat.reduceSub, Int.reduceAdd, Int.reduceSub, Int.reduceMul, Int.reduceMod, Int.reduceDiv, Int.reduceNeg, List.length_cons, List.length_nil, Nat.zero_add, fComp, compL, rg1_3, mInt, mAbs, mGcd, mMax2, mMin2, mMax3, mMin3, mIsqrt, isT, sOwnO, sPut2, sPutF, sAli, bLend, eIxOO, ffNil, ffCons, ffComp, compLL, ix30, ix31, ix32, seq_tb, lst_r, ix_t0, ix_t1, ix_t2, seq_r, w _ ht.c]; rfl⟩
theorem oth1 (g1 : 0 ≤ d1 ∧ d1 < 3) (g2 : 0 ≤ d2 ∧ d2 < 3) : ∃ o, BM 900 o ∧ m__law_other [tb true true t, .list [.int x0, .int x1, .int x2, .int x3, .int x4, .int x5, .int x6, .int x7, .int x8, .int x9], .list [.int 1, .int d1, .int d2]] = some (tb true true o) := by
  have ad : ∀ {x : Int}, x.natAbs < 2 ^ 700 → (x + x9).natAbs < 2 ^ 900 := fun {x} hx => by
    haveI : Bd 700 x := ⟨hx⟩
    exact Bd.mono (bd_add (n := 700) (m := 103) (i := x) (j := x9)).lt (by decide)
  have T : BM 900 t := ht.mono (by decide)
  have ta := T.a
  have tb' := T.b
  have tc := T.c
  have hb : ∀ {n : Nat} {i : Int}, Bd n i → n ≤ 900 → i.natAbs < 2 ^ 900 := fun h l => Bd.mono h.lt l
  have e1 : d1 = 0 ∨ d1 = 1 ∨ d1 = 2 := by omega
  have e2 : d2 = 0 ∨ d2 = 1 ∨ d2 = 2 := by omega
  rcases e1 with rfl | rfl | rfl <;> rcases e2 with rfl | rfl | rfl
  · exact ⟨⟨⟨t.a.x + x9, t.a.y, t.a.z⟩, t.b, t.c⟩, ⟨⟨ad ht.a.x, ta.y, ta.z⟩, tb', tc⟩, by simp (config := {decide := true}) only [m__law_other, b__law_other, runD, List.map_cons, List.map_nil, List.replicate_zero, List.replicate_succ, List.cons_append, List.nil_append, List.append_nil, sRet, sRetN, sNx, sSeq, sSet, sSetF, sOwn, sTo, gsCons, gsNil, sPar, sPar3, eChain, sExp, sApp, sPut, sIf, sFrz, frz, frz1, List.foldl_cons, List.foldl_nil, eBin, eUn, eVar, eC, eAnd, eOr, eIf, eLend, flat, eIxO, eOfF, eTup, eAll, fAll, eCall, eIs, eSl, fSl, oNone, oSome, aNil, aCons, bVal, bAnd, bOr, bNot, bYes, blOf, gNot, iSeq, iRg1, iRg2, seq_l, seq_t, tup_l, tup_t, lst_l, lst_t, len_l, len_t, gIx_l, gIx_t, gNm, wipeR, List.getElem?_cons_zero, List.getElem?_cons_succ, List.set_cons_zero, List.set_cons_succ, Option.bind_some, Option.bind_none, Option.map_some, Option.map_none, if_true, if_false, decide_true, decide_false, Bool.not_true, Bool.not_false, Bool.false_eq_true, reduceIte, gAdd_i, gSub_i, gNeg_i, gLt_i, gLe_i, gGt_i, gGe_i, gEq_i, gNe_i, gMul_b, gMod_p, gFdiv_p, Nat.reduceAdd, Nat.reduceMul, Nat.reduceLeDiff, at0, at1, at2, at3, at4, at5, at6, at7, at8, at9, at10, at11, at12, at13, at14, at15, gSl_l, cut_pos, cut_from, cut_to, Int.reduceToNat, List.drop_succ_cons, List.drop_zero, List.take_succ_cons, List.take_zero, List.take_nil, Nat.reduceSub, Int.reduceAdd, Int.reduceSub, Int.reduceMul, Int.reduceMod, Int.reduceDiv, Int.reduceNeg, List.length_cons, List.length_nil, Nat.zero_add, fComp, compL, rg1_3, mInt, mAbs, mGcd, mMax2, mMin2, mMax3, mMin3, mIsqrt, isT, sOwnO, sPut2, sPutF, sAli, bLend, eIxOO, ffNil, ffCons, ffComp, compLL, ix30, ix31, ix32, seq_tb, lst_r, ix_t0, ix_t1, ix_t2, seq_r]; rfl⟩
  · exact ⟨⟨⟨t.a.x, t.a.y + x9, t.a.z⟩, t.b, t.c⟩, ⟨⟨ta.x, ad ht.a.y, ta.z⟩, tb', tc⟩, by simp (config := {decide := true}) only [m__law_other, b__law_other, runD, List.map_cons, List.map_nil, List.replicate_zero, List.replicate_succ, List.cons_append, List.nil_append, List.append_nil, sRet, sRetN, sNx, sSeq, sSet, sSetF, sOwn, sTo, gsCons, gsNil, sPar, sPar3, eChain, sExp, sApp, sPut, sIf, sFrz, frz, frz1, List.foldl_cons, List.foldl_nil, eBin, eUn, eVar, eC, eAnd, eOr, eIf, eLend, flat, eIxO, eOfF, eTup, eAll, fAll, eCall, eIs, eSl, fSl, oNone, oSome, aNil, aCons, bVal, bAnd, bOr, bNot, bYes, blOf, gNot, iSeq, iRg1, iRg2, seq_l, seq_t, tup_l, tup_t, lst_l, lst_t, len_l, len_t, gIx_l, gIx_t, gNm, wipeR, List.getElem?_cons_zero, List.getElem?_cons_succ, List.set_cons_zero, List.set_cons_succ, Option.bind_some, Option.bind_none, Option.map_some, Option.map_none, if_true, if_false, decide_true, decide_false, Bool.not_true, Bool.not_false, Bool.false_eq_true, reduceIte, gAdd_i, gSub_i, gNeg_i, gLt_i, gLe_i, gGt_i, gGe_i, gEq_i, gNe_i, gMul_b, gMod_p, gFdiv_p, Nat.reduceAdd, Nat.reduceMul, Nat.reduceLeDiff, at0, at1, at2, at3, at4, at5, at6, at7, at8, at9, at10, at11, at12, at13, at14, at15, gSl_l, cut_pos, cut_from, cut_to, Int.reduceToNat, List.drop_succ_cons, List.drop_zero, List.take_succ_cons, List.take_zero, List.take_nil, Nat.reduceSub, Int.reduceAdd, Int.reduceSub, Int.reduceMul, Int.reduceMod, Int.reduceDiv, Int.reduceNeg, List.length_cons, List.length_nil, Nat.zero_add, fComp, compL, rg1_3, mInt, mAbs, mGcd, mMax2, mMin2, mMax3, mMin3, mIsqrt, isT, sOwnO, sPut2, sPutF, sAli, bLend, eIxOO, ffNil, ffCons, ffComp, compLL, ix30, ix31, ix32, seq_tb, lst_r, ix_t0, ix_t1, ix_t2, seq_r]; rfl⟩
  · exact ⟨⟨⟨t.a.x, t.a.y, t.a.z + x9⟩, t.b, t.c⟩, ⟨⟨ta.x, ta.y, ad ht.a.z⟩, tb', tc⟩, by simp (config := {decide := true}) only [m__law_other, b__law_other, runD, List.map_cons, List.map_nil, List.replicate_zero, List.replicate_succ, List.cons_append, List.nil_append, List.append_nil, sRet, sRetN, sNx, sSeq, sSet, sSetF, sOwn, sTo, gsCons, gsNil, sPar, sPar3, eChain, sExp, sApp, sPut, sIf, sFrz, frz, frz1, List.foldl_cons, List.foldl_nil, eBin, eUn, eVar, eC, eAnd, eOr, eIf, eLend, flat, eIxO, eOfF, eTup, eAll, fAll, eCall, eIs, eSl, fSl, oNone, oSome, aNil, aCons, bVal, bAnd, bOr, bNot, bYes, blOf, gNot, iSeq, iRg1, iRg2, seq_l, seq_t, tup_l, tup_t, lst_l, lst_t, len_l, len_t, gIx_l, gIx_t, gNm, wipeR, List.getElem?_cons_zero, List.getElem?_cons_succ, List.set_cons_zero, List.set_cons_succ, Option.bind_some, Option.bind_none, Option.map_some, Option.map_none, if_true, if_false, decide_true, decide_false, Bool.not_true, Bool.not_false, Bool.false_eq_true, reduceIte, gAdd_i, gSub_i, gNeg_i, gLt_i, gLe_i, gGt_i, gGe_i, gEq_i, gNe_i, gMul_b, gMod_p, gFdiv_p, Nat.reduceAdd, Nat.reduceMul, Nat.reduceLeDiff, at0, at1, at2, at3, at4, at5, at6, at7, at8, at9, at10, at11, at12, at13, at14, at15, gSl_l, cut_pos, cut_from, cut_to, Int.reduceToNat, List.drop_succ_cons, List.drop_zero, List.take_succ_cons, List.take_zero, List.take_nil, Nat.reduceSub, Int.reduceAdd, Int.reduceSub, Int.reduceMul, Int.reduceMod, Int.reduceDiv, Int.reduceNeg, List.length_cons, List.length_nil, Nat.zero_add, fComp, compL, rg1_3, mInt, mAbs, mGcd, mMax2, mMin2, mMax3, mMin3, mIsqrt, isT, sOwnO, sPut2, sPutF, sAli, bLend, eIxOO, ffNil, ffCons, ffComp, compLL, ix30, ix31, ix32, seq_tb, lst_r, ix_t0, ix_t1, ix_t2, seq_r]; rfl⟩
  · exact ⟨⟨t.a, ⟨t.b.x + x9, t.b.y, t.b.z⟩, t.c⟩, ⟨ta, ⟨ad ht.b.x, tb'.y, tb'.z⟩, tc⟩, by simp (config := {decide := true}) only [m__law_other, b__law_other, runD, List.map_cons, List.map_nil, List.replicate_zero, List.replicate_succ, List.cons_append, List.nil_append, List.append_nil, sRet, sRetN, sNx, sSeq, sSet, sSetF, sOwn, sTo, gsCons, gsNil, sPar, sPar3, eChain, sExp, sApp, sPut, sIf, sFrz, frz, frz1, List.foldl_cons, List.foldl_nil, eBin, eUn, eVar, eC, eAnd, eOr, eIf, eLend, flat, eIxO, eOfF, eTup, eAll, fAll, eCall, eIs, eSl, fSl, oNone, oSome, aNil, aCons, bVal, bAnd, bOr, bNot, bYes, blOf, gNot, iSeq, iRg1, iRg2, seq_l, seq_t, tup_l, tup_t, lst_l, lst_t, len_l, len_t, gIx_l, gIx_t, gNm, wipeR, List.getElem?_cons_zero, List.getElem?_cons_succ, List.set_cons_zero, List.set_cons_succ, Option.bind_some, Option.bind_none, Option.map_some, Option.map_none, if_true, if_false, decide_true, decide_false, Bool.not_true, Bool.not_false, Bool.false_eq_true, reduceIte, gAdd_i, gSub_i, gNeg_i, gLt_i, gLe_i, gGt_i, gGe_i, gEq_i, gNe_i, gMul_b, gMod_p, gFdiv_p, Nat.reduceAdd, Nat.reduceMul, Nat.reduceLeDiff, at0, at1, at2, at3, at4, at5, at6, at7, at8, at9, at10, at11, at12, at13, at14, at15, gSl_l, cut_pos, cut_from, cut_to, Int.reduceToNat, List.drop_succ_cons, List.drop_zero, List.take_succ_cons, List.take_zero, List.take_nil, Nat.reduceSub, Int.reduceAdd, Int.reduceSub, Int.reduceMul, Int.reduceMod, Int.reduceDiv, Int.reduceNeg, List.length_cons, List.length_nil, Nat.zero_add, fComp, compL, rg1_3, mInt, mAbs, mGcd, mMax2, mMin2, mMax3, mMin3, mIsqrt, isT, sOwnO, sPut2, sPutF, sAli, bLend, eIxOO, ffNil, ffCons, ffComp, compLL, ix30, ix31, ix32, seq_tb, lst_r, ix_t0, ix_t1, ix_t2, seq_r]; rfl⟩
  · exact ⟨⟨t.a, ⟨t.b.x, t.b.y + x9, t.b.z⟩, t.c⟩, ⟨ta, ⟨tb'.x, ad ht.b.y, tb'.z⟩, tc⟩, by simp (config := {decide := true}) only [m__law_other, b__law_other, runD, List.map_cons, List.map_nil, List.replicate_zero, List.replicate_succ, List.cons_append, List.nil_append, List.append_nil, sRet, sRetN, sNx, sSeq, sSet, sSetF, sOwn, sTo, gsCons, gsNil, sPar, sPar3, eChain, sExp, sApp, sPut, sIf, sFrz, frz, frz1, List.foldl_cons, List.foldl_nil, eBin, eUn, eVar, eC, eAnd, eOr, eIf, eLend, flat, eIxO, eOfF, eTup, eAll, fAll, eCall, eIs, eSl, fSl, oNone, oSome, aNil, aCons, bVal, bAnd, bOr, bNot, bYes, blOf, gNot, iSeq, iRg1, iRg2, seq_l, seq_t, tup_l, tup_t, lst_l, lst_t, len_l, len_t, gIx_l, gIx_t, gNm, wipeR, List.getElem?_cons_zero, List.getElem?_cons_succ, List.set_cons_zero, List.set_cons_succ, Option.bind_some, Option.bind_none, Option.map_some, Option.map_none, if_true, if_false, decide_true, decide_false, Bool.not_true, Bool.not_false, Bool.false_eq_true, reduceIte, gAdd_i, gSub_i, gNeg_i, gLt_i, gLe_i, gGt_i, gGe_i, gEq_i, gNe_i, gMul_b, gMod_p, gFdiv_p, Nat.reduceAdd, Nat.reduceMul, Nat.reduceLeDiff, at0, at1, at2, at3, at4, at5, at6, at7, at8, at9, at10, at11, at12, at13, at14, at15, gSl_l, cut_pos, cut_from, cut_to, Int.reduceToNat, List.drop_succ_cons, List.drop_zero, List.take_succ_cons, List.take_zero, List.take_nil, Nat.reduceSub, Int.reduceAdd, Int.reduceSub, Int.reduceMul, Int.reduceMod, Int.reduceDiv, Int.reduceNeg, List.length_cons, List.length_nil, Nat.zero_add, fComp, compL, rg1_3, mInt, mAbs, mGcd, mMax2, mMin2, mMax3, mMin3, mIsqrt, isT, sOwnO, sPut2, sPutF, sAli, bLend, eIxOO, ffNil, ffCons, ffComp, compLL, ix30, ix31, ix32, seq_tb, lst_r, ix_t0, ix_t1, ix_t2, seq_r]; rfl⟩
  · exact ⟨⟨t.a, ⟨t.b.x, t.b.y, t.b.z + x9⟩, t.c⟩, ⟨ta, ⟨tb'.x, tb'.y, ad ht.b.z⟩, tc⟩, by simp (config := {decide := true}) only [m__law_other, b__law_other, runD, List.map_cons, List.map_nil, List.replicate_zero, List.replicate_succ, List.cons_append, List.nil_append, List.append_nil, sRet, sRetN, sNx, sSeq, sSet, sSetF, sOwn, sTo, gsCons, gsNil, sPar, sPar3, eChain, sExp, sApp, sPut, sIf, sFrz, frz, frz1, List.foldl_cons, List.foldl_nil, eBin, eUn, eVar, eC, eAnd, eOr, eIf, eLend, flat, eIxO, eOfF, eTup, eAll, fAll, eCall, eIs, eSl, fSl, oNone, oSome, aNil, aCons, bVal, bAnd, bOr, bNot, bYes, blOf, gNot, iSeq, iRg1, iRg2, seq_l, seq_t, tup_l, tup_t, lst_l, lst_t, len_l, len_t, gIx_l, gIx_t, gNm, wipeR, List.getElem?_cons_zero, List.getElem?_cons_succ, List.set_cons_zero, List.set_cons_succ, Option.bind_some, Option.bind_none, Option.map_some, Option.map_none, if_true, if_false, decide_true, decide_false, Bool.not_true, Bool.not_false, Bool.false_eq_true, reduceIte, gAdd_i, gSub_i, gNeg_i, gLt_i, gLe_i, gGt_i, gGe_i, gEq_i, gNe_i, gMul_b, gMod_p, gFdiv_p, Nat.reduceAdd, Nat.reduceMul, Nat.reduceLeDiff, at0, at1, at2, at3, at4, at5, at6, at7, at8, at9, at10, at11, at12, at13, at14, at15, gSl_l, cut_pos, cut_from, cut_to, Int.reduceToNat, List.drop_succ_cons, List.drop_zero, List.take_succ_cons, List.take_zero, List.take_nil, Nat.reduceSub, Int.reduceAdd, Int.reduceSub, Int.reduceMul, Int.reduceMod, Int.reduceDiv, Int.reduceNeg, List.length_cons, List.length_nil, Nat.zero_add, fComp, compL, rg1_3, mInt, mAbs, mGcd, mMax2, mMin2, mMax3, mMin3, mIsqrt, isT, sOwnO, sPut2, sPutF, sAli, bLend, eIxOO, ffNil, ffCons, ffComp, compLL, ix30, ix31, ix32, seq_tb, lst_r, ix_t0, ix_t1, ix_t2, seq_r]; rfl⟩
  · exact ⟨⟨t.a, t.b, ⟨t.c.x + x9, t.c.y, t.c.z⟩⟩, ⟨ta, tb', ⟨ad ht.c.x, tc.y, tc.z⟩⟩, by simp (config := {decide := true}) only [m__law_other, b__law_other, runD, List.map_cons, List.map_nil, List.replicate_zero, List.replicate_succ, List.cons_append, List.nil_append, List.append_nil, sRet, sRetN, sNx, sSeq, sSet, sSetF, sOwn, sTo, gsCons, gsNil, sPar, sPar3, eChain, sExp, sApp, sPut, sIf, sFrz, frz, frz1, List.foldl_cons, List.foldl_nil, eBin, eUn, eVar, eC, eAnd, eOr, eIf, eLend, flat, eIxO, eOfF, eTup, eAll, fAll, eCall, eIs, eSl, fSl, oNone, oSome, aNil, aCons, bVal, bAnd, bOr, bNot, bYes, blOf, gNot, iSeq, iRg1, iRg2, seq_l, seq_t, tup_l, tup_t, lst_l, lst_t, len_l, len_t, gIx_l, gIx_t, gNm, wipeR, List.getElem?_cons_zero, List.getElem?_cons_succ, List.set_cons_zero, List.set_cons_succ, Option.bind_some, Option.bind_none, Option.map_some, Option.map_none, if_true, if_false, decide_true, decide_false, Bool.not_true, Bool.not_false, Bool.false_eq_true, reduceIte, gAdd_i, gSub_i, gNeg_i, gLt_i, gLe_i, gGt_i, gGe_i, gEq_i, gNe_i, gMul_b, gMod_p, gFdiv_p, Nat.reduceAdd, Nat.reduceMul, Nat.reduceLeDiff, at0, at1, at2, at3, at4, at5, at6, at7, at8, at9, at10, at11, at12, at13, at14, at15, gSl_l, cut_pos, cut_from, cut_to, Int.reduceToNat, List.drop_succ_cons, List.drop_zero, List.take_succ_cons, List.take_zero, List.take_nil, Nat.reduceSub, Int.reduceAdd, Int.reduceSub, Int.reduceMul, Int.reduceMod, Int.reduceDiv, Int.reduceNeg, List.length_cons, List.length_nil, Nat.zero_add, fComp, compL, rg1_3, mInt, mAbs, mGcd, mMax2, mMin2, mMax3, mMin3, mIsqrt, isT, sOwnO, sPut2, sPutF, sAli, bLend, eIxOO, ffNil, ffCons, ffComp, compLL, ix30, ix31, ix32, seq_tb, lst_r, ix_t0, ix_t1, ix_t2, seq_r]; rfl⟩
  · exact ⟨⟨t.a, t.b, ⟨t.c.x, t.c.y + x9, t.c.z⟩⟩, ⟨ta, tb', ⟨tc.x, ad ht.c.y, tc.z⟩⟩, by simp (config := {decide := true}) only [m__law_other, b__law_other, runD, List.map_cons, List.map_nil, List.replicate_zero, List.replicate_succ, List.cons_append, List.nil_append, List.append_nil, sRet, sRetN, sNx, sSeq, sSet, sSetF, sOwn, sTo, gsCons, gsNil, sPar, sPar3, eChain, sExp, sApp, sPut, sIf, sFrz, frz, frz1, List.foldl_cons, List.foldl_nil, eBin, eUn, eVar, eC, eAnd, eOr, eIf, eLend, flat, eIxO, eOfF, eTup, eAll, fAll, eCall, eIs, eSl, fSl, oNone, oSome, aNil, aCons, bVal, bAnd, bOr, bNot, bYes, blOf, gNot, iSeq, iRg1, iRg2, seq_l, seq_t, tup_l, tup_t, lst_l, lst_t, len_l, len_t, gIx_l, gIx_t, gNm, wipeR, List.getElem?_cons_zero, List.getElem?_cons_succ, List.set_cons_zero, List.set_cons_succ, Option.bind_some, Option.bind_none, Option.map_some, Option.map_none, if_true, if_false, decide_true, decide_false, Bool.not_true, Bool.not_false, Bool.false_eq_true, reduceIte, gAdd_i, gSub_i, gNeg_i, gLt_i, gLe_i, gGt_i, gGe_i, gEq_i, gNe_i, gMul_b, gMod_p, gFdiv_p, Nat.reduceAdd, Nat.reduceMul, Nat.reduceLeDiff, at0, at1, at2, at3, at4, at5, at6, at7, at8, at9, at10, at11, at12, at13, at14, at15, gSl_l, cut_pos, cut_from, cut_to, Int.reduceToNat, List.drop_succ_cons, List.drop_zero, List.take_succ_cons, List.take_zero, List.take_nil, Nat.reduceSub, Int.reduceAdd, Int.reduceSub, Int.reduceMul, Int.reduceMod, Int.reduceDiv, Int.reduceNeg, List.length_cons, List.length_nil, Nat.zero_add, fComp, compL, rg1_3, mInt, mAbs, mGcd, mMax2, mMin2, mMax3, mMin3, mIsqrt, isT, sOwnO, sPut2, sPutF, sAli, bLend, eIxOO, ffNil, ffCons, ffComp, compLL, ix30, ix31, ix32, seq_tb, lst_r, ix_t0, ix_t1, ix_t2, seq_r]; rfl⟩
  · exact ⟨⟨t.a, t.b, ⟨t.c.x, t.c.y, t.c.z + x9⟩⟩, ⟨ta, tb', ⟨tc.x, tc.y, ad ht.c.z⟩⟩, by simp (config := {decide := true}) only [m__law_other, b__law_other, runD, List.map_cons, List.map_nil, List.replicate_zero, List.replicate_succ, List.cons_append, List.nil_append, List.append_nil, sRet, sRetN, sNx, sSeq, sSet, sSetF, sOwn, sTo, gsCons, gsNil, sPar, sPar3, eChain, sExp, sApp, sPut, sIf, sFrz, frz, frz1, List.foldl_cons, List.foldl_nil, eBin, eUn, eVar, eC, eAnd, eOr, eIf, eLend, flat, eIxO, eOfF, eTup, eAll, fAll, eCall, eIs, eSl, fSl, oNone, oSome, aNil, aCons, bVal, bAnd, bOr, bNot, bYes, blOf, gNot, iSeq, iRg1, iRg2, seq_l, seq_t, tup_l, tup_t, lst_l, lst_t, len_l, len_t, gIx_l, gIx_t, gNm, wipeR, List.getElem?_cons_zero, List.getElem?_cons_succ, List.set_cons_zero, List.set_cons_succ, Option.bind_some, Option.bind_none, Option.map_some, Option.map_none, if_true, if_false, decide_true, decide_false, Bool.not_true, Bool.not_false, Bool.false_eq_true, reduceIte, gAdd_i, gSub_i, gNeg_i, gLt_i, gLe_i, gGt_i, gGe_i, gEq_i, gNe_i, gMul_b, gMod_p, gFdiv_p, Nat.reduceAdd, Nat.reduceMul, Nat.reduceLeDiff, at0, at1, at2, at3, at4, at5, at6, at7, at8, at9, at10, at11, at12, at13, at14, at15, gSl_l, cut_pos, cut_from, cut_to, Int.reduceToNat, List.drop_succ_cons, List.drop_zero, List.take_succ_cons, List.take_zero, List.take_nil, Nat.reduceSub, Int.reduceAdd, Int.reduceSub, Int.reduceMul, Int.reduceMod, Int.reduceDiv, Int.reduceNeg, List.length_cons, List.length_nil, Nat.zero_add, fComp, compL, rg1_3, mInt, mAbs, mGcd, mMax2, mMin2, mMax3, mMin3, mIsqrt, isT, sOwnO, sPut2, sPutF, sAli, bLend, eIxOO, ffNil, ffCons, ffComp, compLL, ix30, ix31, ix32, seq_tb, lst_r, ix_t0, ix_t1, ix_t2, seq_r]; rfl⟩
theorem oth2  : ∃ o, BM 900 o ∧ m__law_other [tb true true t, .list [.int x0, .int x1, .int x2, .int x3, .int x4, .int x5, .int x6, .int x7, .int x8, .int x9], .list [.int 2, .int d1, .int d2]] = some (tb true true o) := by
  have T : BM 900 t := ht.mono (by decide)
  have ta := T.a
  have tb' := T.b
  have tc := T.c
  have hb : ∀ {n : Nat} {i : Int}, Bd n i → n ≤ 900 → i.natAbs < 2 ^ 900 := fun h l => Bd.mono h.lt l
  exact ⟨⟨⟨-t.a.x, -t.a.y, -t.a.z⟩, ⟨-t.b.x, -t.b.y, -t.b.z⟩, ⟨-t.c.x, -t.c.y, -t.c.z⟩⟩, ⟨⟨hb (bd_neg (i := t.a.x)) (by decide), hb (bd_neg (i := t.a.y)) (by decide), hb (bd_neg (i := t.a.z)) (by decide)⟩, ⟨hb (bd_neg (i := t.b.x)) (by decide), hb (bd_neg (i := t.b.y)) (by decide), hb (bd_neg (i := t.b.z)) (by decide)⟩, ⟨hb (bd_neg (i := t.c.x)) (by decide), hb (bd_neg (i := t.c.y)) (by decide), hb (bd_neg (i := t.c.z)) (by decide)⟩⟩, by simp (config := {decide := true}) only [m__law_other, b__law_other, runD, List.map_cons, List.map_nil, List.replicate_zero, List.replicate_succ, List.cons_append, List.nil_append, List.append_nil, sRet, sRetN, sNx, sSeq, sSet, sSetF, sOwn, sTo, gsCons, gsNil, sPar, sPar3, eChain, sExp, sApp, sPut, sIf, sFrz, frz, frz1, List.foldl_cons, List.foldl_nil, eBin, eUn, eVar, eC, eAnd, eOr, eIf, eLend, flat, eIxO, eOfF, eTup, eAll, fAll, eCall, eIs, eSl, fSl, oNone, oSome, aNil, aCons, bVal, bAnd, bOr, bNot, bYes, blOf, gNot, iSeq, iRg1, iRg2, seq_l, seq_t, tup_l, tup_t, lst_l, lst_t, len_l, len_t, gIx_l, gIx_t, gNm, wipeR, List.getElem?_cons_zero, List.getElem?_cons_succ, List.set_cons_zero, List.set_cons_succ, Option.bind_some, Option.bind_none, Option.map_some, Option.map_none, if_true, if_false, decide_true, decide_false, Bool.not_true, Bool.not_false, Bool.false_eq_true, reduceIte, gAdd_i, gSub_i, gNeg_i, gLt_i, gLe_i, gGt_i, gGe_i, gEq_i, gNe_i, gMul_b, gMod_p, gFdiv_p, Nat.reduceAdd, Nat.reduceMul, Nat.reduceLeDiff, at0, at1, at2, at3, at4, at5, at6, at7, at8, at9, at10, at11, at12, at13, at14, at15, gSl_l, cut_pos, cut_from, cut_to, Int.reduceToNat, List.drop_succ_cons, List.drop_zero, List.take_succ_cons, List.take_zero, List.take_nil, Nat.reduceSub, Int.reduceAdd, Int.reduceSub, Int.reduceMul, Int.reduceMod, Int.reduceDiv, Int.reduceNeg, List.length_cons, List.length_nil, Nat.zero_add, fComp, compL, rg1_3, mInt, mAbs, mGcd, mMax2, mMin2, mMax3, mMin3, mIsqrt, isT, sOwnO, sPut2, sPutF, sAli, bLend, eIxOO, ffNil, ffCons, ffComp, compLL, ix30, ix31, ix32, seq_tb, lst_r, ix_t0, ix_t1, ix_t2, seq_r]; rfl⟩
theorem oth3 (g1 : 0 ≤ d1 ∧ d1 < 3) (g2 : 0 ≤ d2 ∧ d2 < 3) : ∃ o, BM 900 o ∧ m__law_other [tb true true t, .list [.int x0, .int x1, .int x2, .int x3, .int x4, .int x5, .int x6, .int x7, .int x8, .int x9], .list [.int 3, .int d1, .int d2]] = some (tb true true o) := by
  have T : BM 900 t := ht.mono (by decide)
  have ta := T.a
  have tb' := T.b
  have tc := T.c
  have hb : ∀ {n : Nat} {i : Int}, Bd n i → n ≤ 900 → i.natAbs < 2 ^ 900 := fun h l => Bd.mono h.lt l
  have e1 : d1 = 0 ∨ d1 = 1 ∨ d1 = 2 := by omega
  have e2 : d2 = 0 ∨ d2 = 1 ∨ d2 = 2 := by omega
  rcases e1 with rfl | rfl | rfl <;> rcases e2 with rfl | rfl | rfl
  · exact ⟨⟨t.a, t.b, t.c⟩, ⟨ta, tb', tc⟩, by simp (config := {decide := true}) only [m__law_other, b__law_other, runD, List.map_cons, List.map_nil, List.replicate_zero, List.replicate_succ, List.cons_append, List.nil_append, List.append_nil, sRet, sRetN, sNx, sSeq, sSet, sSetF, sOwn, sTo, gsCons, gsNil, sPar, sPar3, eChain, sExp, sApp, sPut, sIf, sFrz, frz, frz1, List.foldl_cons, List.foldl_nil, eBin, eUn, eVar, eC, eAnd, eOr, eIf, eLend, flat, eIxO, eOfF, eTup, eAll, fAll, eCall, eIs, eSl, fSl, oNone, oSome, aNil, aCons, bVal, bAnd, bOr, bNot, bYes, blOf, gNot, iSeq, iRg1, iRg2, seq_l, seq_t, tup_l, tup_t, lst_l, lst_t, len_l, len_t, gIx_l, gIx_t, gNm, wipeR, List.getElem?_cons_zero, List.getElem?_cons_succ, List.set_cons_zero, List.set_cons_succ, Option.bind_some, Option.bind_none, Option.map_some, Option.map_none, if_true, if_false, decide_true, decide_false, Bool.not_true, Bool.not_false, Bool.false_eq_true, reduceIte, gAdd_i, gSub_i, gNeg_i, gLt_i, gLe_i, gGt_i, gGe_i, gEq_i, gNe_i, gMul_b, gMod_p, gFdiv_p, Nat.reduceAdd, Nat.reduceMul, Nat.reduceLeDiff, at0, at1, at2, at3, at4, at5, at6, at7, at8, at9, at10, at11, at12, at13, at14, at15, gSl_l, cut_pos, cut_from, cut_to, Int.reduceToNat, List.drop_succ_cons, List.drop_zero, List.take_succ_cons, List.take_zero, List.take_nil, Nat.reduceSub, Int.reduceAdd, Int.reduceSub, Int.reduceMul, Int.reduceMod, Int.reduceDiv, Int.reduceNeg, List.length_cons, List.length_nil, Nat.zero_add, fComp, compL, rg1_3, mInt, mAbs, mGcd, mMax2, mMin2, mMax3, mMin3, mIsqrt, isT, sOwnO, sPut2, sPutF, sAli, bLend, eIxOO, ffNil, ffCons, ffComp, compLL, ix30, ix31, ix32, seq_tb, lst_r, ix_t0, ix_t1, ix_t2, seq_r]; rfl⟩
  · exact ⟨⟨t.b, t.b, t.c⟩, ⟨tb', tb', tc⟩, by simp (config := {decide := true}) only [m__law_other, b__law_other, runD, List.map_cons, List.map_nil, List.replicate_zero, List.replicate_succ, List.cons_append, List.nil_append, List.append_nil, sRet, sRetN, sNx, sSeq, sSet, sSetF, sOwn, sTo, gsCons, gsNil, sPar, sPar3, eChain, sExp, sApp, sPut, sIf, sFrz, frz, frz1, List.foldl_cons, List.foldl_nil, eBin, eUn, eVar, eC, eAnd, eOr, eIf, eLend, flat, eIxO, eOfF, eTup, eAll, fAll, eCall, eIs, eSl, fSl, oNone, oSome, aNil, aCons, bVal, bAnd, bOr, bNot, bYes, blOf, gNot, iSeq, iRg1, iRg2, seq_l, seq_t, tup_l, tup_t, lst_l, lst_t, len_l, len_t, gIx_l, gIx_t, gNm, wipeR, List.getElem?_cons_zero, List.getElem?_cons_succ, List.set_cons_zero, List.set_cons_succ, Option.bind_some, Option.bind_none, Option.map_some, Option.map_none, if_true, if_false, decide_true, decide_false, Bool.not_true, Bool.not_false, Bool.false_eq_true, reduceIte, gAdd_i, gSub_i, gNeg_i, gLt_i, gLe_i, gGt_i, gGe_i, gEq_i, gNe_i, gMul_b, gMod_p, gFdiv_p, Nat.reduceAdd, Nat.reduceMul, Nat.reduceLeDiff, at0, at1, at2, at3, at4, at5, at6, at7, at8, at9, at10, at11, at12, at13, at14, at15, gSl_l, cut_pos, cut_from, cut_to, Int.reduceToNat, List.drop_succ_cons, List.drop_zero, List.take_succ_cons, List.take_zero, List.take_nil, Nat.reduceSub, Int.reduceAdd, Int.reduceSub, Int.reduceMul, Int.reduceMod, Int.reduceDiv, Int.reduceNeg, List.length_cons, List.length_nil, Nat.zero_add, fComp, compL, rg1_3, mInt, mAbs, mGcd, mMax2, mMin2, mMax3, mMin3, mIsqrt, isT, sOwnO, sPut2, sPutF, sAli, bLend, eIxOO, ffNil, ffCons, ffComp, compLL, ix30, ix31, ix32, seq_tb, lst_r, ix_t0, ix_t1, ix_t2, seq_r]; rfl⟩
  · exact ⟨⟨t.c, t.b, t.c⟩, ⟨tc, tb', tc⟩, by simp (config := {decide := true}) only [m__law_other, b__law_other, runD, List.map_cons, List.map_nil, List.replicate_zero, List.replicate_succ, List.cons_append, List.nil_append, List.append_nil, sRet, sRetN, sNx, sSeq, sSet, sSetF, sOwn, sTo, gsCons, gsNil, sPar, sPar3, eChain, sExp, sApp, sPut, sIf, sFrz, frz, frz1, List.foldl_cons, List.foldl_nil, eBin, eUn, eVar, eC, eAnd, eOr, eIf, eLend, flat, eIxO, eOfF, eTup, eAll, fAll, eCall, eIs, eSl, fSl, oNone, oSome, aNil, aCons, bVal, bAnd, bOr, bNot, bYes, blOf, gNot, iSeq, iRg1, iRg2, seq_l, seq_t, tup_l, tup_t, lst_l, lst_t, len_l, len_t, gIx_l, gIx_t, gNm, wipeR, List.getElem?_cons_zero, List.getElem?_cons_succ, List.set_cons_zero, List.set_cons_succ, Option.bind_some, Option.bind_none, Option.map_some, Option.map_none, if_true, if_false, decide_true, decide_false, Bool.not_true, Bool.not_false, Bool.false_eq_true, reduceIte, gAdd_i, gSub_i, gNeg_i, gLt_i, gLe_i, gGt_i, gGe_i, gEq_i, gNe_i, gMul_b, gMod_p, gFdiv_p, Nat.reduceAdd, Nat.reduceMul, Nat.reduceLeDiff, at0, at1, at2, at3, at4, at5, at6, at7, at8, at9, at10, at11, at12, at13, at14, at15, gSl_l, cut_pos, cut_from, cut_to, Int.reduceToNat, List.drop_succ_cons, List.drop_zero, List.take_succ_cons, List.take_zero, List.take_nil, Nat.reduceSub, Int.reduceAdd, Int.reduceSub, Int.reduceMul, Int.reduceMod, Int.reduceDiv, Int.reduceNeg, List.length_cons, List.length_nil, Nat.zero_add, fComp, compL, rg1_3, mInt, mAbs, mGcd, mMax2, mMin2, mMax3, mMin3, mIsqrt, isT, sOwnO, sPut2, sPutF, sAli, bLend, eIxOO, ffNil, ffCons, ffComp, compLL, ix30, ix31, ix32, seq_tb, lst_r, ix_t0, ix_t1, ix_t2, seq_r]; rfl⟩
  · exact ⟨⟨t.a, t.a, t.c⟩, ⟨ta, ta, tc⟩, by simp (config := {decide := true}) only [m__law_other, b__law_other, runD, List.map_cons, List.map_nil, List.replicate_zero, List.replicate_succ, List.cons_append, List.nil_append, List.append_nil, sRet, sRetN, sNx, sSeq, sSet, sSetF, sOwn, sTo, gsCons, gsNil, sPar, sPar3, eChain, sExp, sApp, sPut, sIf, sFrz, frz, frz1, List.foldl_cons, List.foldl_nil, eBin, eUn, eVar, eC, eAnd, eOr, eIf, eLend, flat, eIxO, eOfF, eTup, eAll, fAll, eCall, eIs, eSl, fSl, oNone, oSome, aNil, aCons, bVal, bAnd, bOr, bNot, bYes, blOf, gNot, iSeq, iRg1, iRg2, seq_l, seq_t, tup_l, tup_t, lst_l, lst_t, len_l, len_t, gIx_l, gIx_t, gNm, wipeR, List.getElem?_cons_zero, List.getElem?_cons_succ, List.set_cons_zero, List.set_cons_succ, Option.bind_some, Option.bind_none, Option.map_some, Option.map_none, if_true, if_false, decide_true, decide_false, Bool.not_true, Bool.not_false, Bool.false_eq_true, reduceIte, gAdd_i, gSub_i, gNeg_i, gLt_i, gLe_i, gGt_i, gGe_i, gEq_i, gNe_i, gMul_b, gMod_p, gFdiv_p, Nat.reduceAdd, Nat.reduceMul, Nat.reduceLeDiff, at0, at1, at2, at3, at4, at5, at6, at7, at8, at9, at10, at11, at12, at13, at14, at15, gSl_l, cut_pos, cut_from, cut_to, Int.reduceToNat, List.drop_succ_cons, List.drop_zero, List.take_succ_cons, List.take_zero, List.take_nil, Nat.reduceSub, Int.reduceAdd, Int.reduceSub, Int.reduceMul, Int.reduceMod, Int.reduceDiv, Int.reduceNeg, List.length_cons, List.length_nil, Nat.zero_add, fComp, compL, rg1_3, mInt, mAbs, mGcd, mMax2, mMin2, mMax3, mMin3, mIsqrt, isT, sOwnO, sPut2, sPutF, sAli, bLend, eIxOO, ffNil, ffCons, ffComp, compLL, ix30, ix31, ix32, seq_tb, lst_r, ix_t0, ix_t1, ix_t2, seq_r]; rfl⟩
  · exact ⟨⟨t.a, t.b, t.c⟩, ⟨ta, tb', tc⟩, by simp (config := {decide := true}) only [m__law_other, b__law_other, runD, List.map_cons, List.map_nil, List.replicate_zero, List.replicate_succ, List.cons_append, List.nil_append, List.append_nil, sRet, sRetN, sNx, sSeq, sSet, sSetF, sOwn, sTo, gsCons, gsNil, sPar, sPar3, eChain, sExp, sApp, sPut, sIf, sFrz, frz, frz1, List.foldl_cons, List.foldl_nil, eBin, eUn, eVar, eC, eAnd, eOr, eIf, eLend, flat, eIxO, eOfF, eTup, eAll, fAll, eCall, eIs, eSl, fSl, oNone, oSome, aNil, aCons, bVal, bAnd, bOr, bNot, bYes, blOf, gNot, iSeq, iRg1, iRg2, seq_l, seq_t, tup_l, tup_t, lst_l, lst_t, len_l, len_t, gIx_l, gIx_t, gNm, wipeR, List.getElem?_cons_zero, List.getElem?_cons_succ, List.set_cons_zero, List.set_cons_succ, Option.bind_some, Option.bind_none, Option.map_some, Option.map_none, if_true, if_false, decide_true, decide_false, Bool.not_true, Bool.not_false, Bool.false_eq_true, reduceIte, gAdd_i, gSub_i, gNeg_i, gLt_i, gLe_i, gGt_i, gGe_i, gEq_i, gNe_i, gMul_b, gMod_p, gFdiv_p, Nat.reduceAdd, Nat.reduceMul, Nat.reduceLeDiff, at0, at1, at2, at3, at4, at5, at6, at7, at8, at9, at10, at11, at12, at13, at14, at15, gSl_l, cut_pos, cut_from, cut_to, Int.reduceToNat, List.drop_succ_cons, List.drop_zero, List.take_succ_cons, List.take_zero, List.take_nil, Nat.reduceSub, Int.reduceAdd, Int.reduceSub, Int.reduceMul, Int.reduceMod, Int.reduceDiv, Int.reduceNeg, List.length_cons, List.length_nil, Nat.zero_add, fComp, compL, rg1_3, mInt, mAbs, mGcd, mMax2, mMin2, mMax3, mMin3, mIsqrt, isT, sOwnO, sPut2, sPutF, sAli, bLend, eIxOO, ffNil, ffCons, ffComp, compLL, ix30, ix31, ix32, seq_tb, lst_r, ix_t0, ix_t1, ix_t2, seq_r]; rfl⟩
  · exact ⟨⟨t.a, t.c, t.c⟩, ⟨ta, tc, tc⟩, by simp (config := {decide := true}) only [m__law_other, b__law_other, runD, List.map_cons, List.map_nil, List.replicate_zero, List.replicate_succ, List.cons_append, List.nil_append, List.append_nil, sRet, sRetN, sNx, sSeq, sSet, sSetF, sOwn, sTo, gsCons, gsNil, sPar, sPar3, eChain, sExp, sApp, sPut, sIf, sFrz, frz, frz1, List.foldl_cons, List.foldl_nil, eBin, eUn, eVar, eC, eAnd, eOr, eIf, eLend, flat, eIxO, eOfF, eTup, eAll, fAll, eCall, eIs, eSl, fSl, oNone, oSome, aNil, aCons, bVal, bAnd, bOr, bNot, bYes, blOf, gNot, iSeq, iRg1, iRg2, seq_l, seq_t, tup_l, tup_t, lst_l, lst_t, len_l, len_t, gIx_l, gIx_t, gNm, wipeR, List.getElem?_cons_zero, List.getElem?_cons_succ, List.set_cons_zero, List.set_cons_succ, Option.bind_some, Option.bind_none, Option.map_some, Option.map_none, if_true, if_false, decide_true, decide_false, Bool.not_true, Bool.not_false, Bool.false_eq_true, reduceIte, gAdd_i, gSub_i, gNeg_i, gLt_i, gLe_i, gGt_i, gGe_i, gEq_i, gNe_i, gMul_b, gMod_p, gFdiv_p, Nat.reduceAdd, Nat.reduceMul, Nat.reduceLeDiff, at0, at1, at2, at3, at4, at5, at6, at7, at8, at9, at10, at11, at12, at13, at14, at15, gSl_l, cut_pos, cut_from, cut_to, Int.reduceToNat, List.drop_succ_cons, List.drop_zero, List.take_succ_cons, List.take_zero, List.take_nil, Nat.reduceSub, Int.reduceAdd, Int.reduceSub, Int.reduceMul, Int.reduceMod, Int.reduceDiv, Int.reduceNeg, List.length_cons, List.length_nil, Nat.zero_add, fComp, compL, rg1_3, mInt, mAbs, mGcd, mMax2, mMin2, mMax3, mMin3, mIsqrt, isT, sOwnO, sPut2, sPutF, sAli, bLend, eIxOO, ffNil, ffCons, ffComp, compLL, ix30, ix31, ix32, seq_tb, lst_r, ix_t0, ix_t1, ix_t2, seq_r]; rfl⟩
  · exact ⟨⟨t.a, t.b, t.a⟩, ⟨ta, tb', ta⟩, by simp (config := {decide := true}) only [m__law_other, b__law_other, runD, List.map_cons, List.map_nil, List.replicate_zero, List.replicate_succ, List.cons_append, List.nil_append, List.append_nil, sRet, sRetN, sNx, sSeq, sSet, sSetF, sOwn, sTo, gsCons, gsNil, sPar, sPar3, eChain, sExp, sApp, sPut, sIf, sFrz, frz, frz1, List.foldl_cons, List.foldl_nil, eBin, eUn, eVar, eC, eAnd, eOr, eIf, eLend, flat, eIxO, eOfF, eTup, eAll, fAll, eCall, eIs, eSl, fSl, oNone, oSome, aNil, aCons, bVal, bAnd, bOr, bNot, bYes, blOf, gNot, iSeq, iRg1, iRg2, seq_l, seq_t, tup_l, tup_t, lst_l, lst_t, len_l, len_t, gIx_l, gIx_t, gNm, wipeR, List.getElem?_cons_zero, List.getElem?_cons_succ, List.set_cons_zero, List.set_cons_succ, Option.bind_some, Option.bind_none, Option.map_some, Option.map_none, if_true, if_false, decide_true, decide_false, Bool.not_true, Bool.not_false, Bool.false_eq_true, reduceIte, gAdd_i, gSub_i, gNeg_i, gLt_i, gLe_i, gGt_i, gGe_i, gEq_i, gNe_i, gMul_b, gMod_p, gFdiv_p, Nat.reduceAdd, Nat.reduceMul, Nat.reduceLeDiff, at0, at1, at2, at3, at4, at5, at6, at7, at8, at9, at10, at11, at12, at13, at14, at15, gSl_l, cut_pos, cut_from, cut_to, Int.reduceToNat, List.drop_succ_cons, List.drop_zero, List.take_succ_cons, List.take_zero, List.take_nil, Nat.reduceSub, Int.reduceAdd, Int.reduceSub, Int.reduceMul, Int.reduceMod, Int.reduceDiv, Int.reduceNeg, List.length_cons, List.length_nil, Nat.zero_add, fComp, compL, rg1_3, mInt, mAbs, mGcd, mMax2, mMin2, mMax3, mMin3, mIsqrt, isT, sOwnO, sPut2, sPutF, sAli, bLend, eIxOO, ffNil, ffCons, ffComp, compLL, ix30, ix31, ix32, seq_tb, lst_r, ix_t0, ix_t1, ix_t2, seq_r]; rfl⟩
  · exact ⟨⟨t.a, t.b, t.b⟩, ⟨ta, tb', tb'⟩, by simp (config := {decide := true}) only [m__law_other, b__law_other, runD, List.map_cons, List.map_nil, List.replicate_zero, List.replicate_succ, List.cons_append, List.nil_append, List.append_nil, sRet, sRetN, sNx, sSeq, sSet, sSetF, sOwn, sTo, gsCons, gsNil, sPar, sPar3, eChain, sExp, sApp, sPut, sIf, sFrz, frz, frz1, List.foldl_cons, List.foldl_nil, eBin, eUn, eVar, eC, eAnd, eOr, eIf, eLend, flat, eIxO, eOfF, eTup, eAll, fAll, eCall, eIs, eSl, fSl, oNone, oSome, aNil, aCons, bVal, bAnd, bOr, bNot, bYes, blOf, gNot, iSeq, iRg1, iRg2, seq_l, seq_t, tup_l, tup_t, lst_l, lst_t, len_l, len_t, gIx_l, gIx_t, gNm, wipeR, List.getElem?_cons_zero, List.getElem?_cons_succ, List.set_cons_zero, List.set_cons_succ, Option.bind_some, Option.bind_none, Option.map_some, Option.map_none, if_true, if_false, decide_true, decide_false, Bool.not_true, Bool.not_false, Bool.false_eq_true, reduceIte, gAdd_i, gSub_i, gNeg_i, gLt_i, gLe_i, gGt_i, gGe_i, gEq_i, gNe_i, gMul_b, gMod_p, gFdiv_p, Nat.reduceAdd, Nat.reduceMul, Nat.reduceLeDiff, at0, at1, at2, at3, at4, at5, at6, at7, at8, at9, at10, at11, at12, at13, at14, at15, gSl_l, cut_pos, cut_from, cut_to, Int.reduceToNat, List.drop_succ_cons, List.drop_zero, List.take_succ_cons, List.take_zero, List.take_nil, Nat.reduceSub, Int.reduceAdd, Int.reduceSub, Int.reduceMul, Int.reduceMod, Int.reduceDiv, Int.reduceNeg, List.length_cons, List.length_nil, Nat.zero_add, fComp, compL, rg1_3, mInt, mAbs, mGcd, mMax2, mMin2, mMax3, mMin3, mIsqrt, isT, sOwnO, sPut2, sPutF, sAli, bLend, eIxOO, ffNil, ffCons, ffComp, compLL, ix30, ix31, ix32, seq_tb, lst_r, ix_t0, ix_t1, ix_t2, seq_r]; rfl⟩
  · exact ⟨⟨t.a, t.b, t.c⟩, ⟨ta, tb', tc⟩, by simp (config := {decide := true}) only [m__law_other, b__law_other, runD, List.map_cons, List.map_nil, List.replicate_zero, List.replicate_succ, List.cons_append, List.nil_append, List.append_nil, sRet, sRetN, sNx, sSeq, sSet, sSetF, sOwn, sTo, gsCons, gsNil, sPar, sPar3, eChain, sExp, sApp, sPut, sIf, sFrz, frz, frz1, List.foldl_cons, List.foldl_nil, eBin, eUn, eVar, eC, eAnd, eOr, eIf, eLend, flat, eIxO, eOfF, eTup, eAll, fAll, eCall, eIs, eSl, fSl, oNone, oSome, aNil, aCons, bVal, bAnd, bOr, bNot, bYes, blOf, gNot, iSeq, iRg1, iRg2, seq_l, seq_t, tup_l, tup_t, lst_l, lst_t, len_l, len_t, gIx_l, gIx_t, gNm, wipeR, List.getElem?_cons_zero, List.getElem?_cons_succ, List.set_cons_zero, List.set_cons_succ, Option.bind_some, Option.bind_none, Option.map_some, Option.map_none, if_true, if_false, decide_true, decide_false, Bool.not_true, Bool.not_false, Bool.false_eq_true, reduceIte, gAdd_i, gSub_i, gNeg_i, gLt_i, gLe_i, gGt_i, gGe_i, gEq_i, gNe_i, gMul_b, gMod_p, gFdiv_p, Nat.reduceAdd, Nat.reduceMul, Nat.reduceLeDiff, at0, at1, at2, at3, at4, at5, at6, at7, at8, at9, at10, at11, at12, at13, at14, at15, gSl_l, cut_pos, cut_from, cut_to, Int.reduceToNat, List.drop_succ_cons, List.drop_zero, List.take_succ_cons, List.take_zero, List.take_nil, Nat.reduceSub, Int.reduceAdd, Int.reduceSub, Int.reduceMul, Int.reduceMod, Int.reduceDiv, Int.reduceNeg, List.length_cons, List.length_nil, Nat.zero_add, fComp, compL, rg1_3, mInt, mAbs, mGcd, mMax2, mMin2, mMax3, mMin3, mIsqrt, isT, sOwnO, sPut2, sPutF, sAli, bLend, eIxOO, ffNil, ffCons, ffComp, compLL, ix30, ix31, ix32, seq_tb, lst_r, ix_t0, ix_t1, ix_t2, seq_r]; rfl⟩
theorem oth4  : ∃ o, BM 900 o ∧ m__law_other [tb true true t, .list [.int x0, .int x1, .int x2, .int x3, .int x4, .int x5, .int x6, .int x7, .int x8, .int x9], .list [.int 4, .int d1, .int d2]] = some (tb true true o) := by
  have T : BM 900 t := ht.mono (by decide)
  have ta := T.a
  have tb' := T.b
  have tc := T.c
  have hb : ∀ {n : Nat} {i : Int}, Bd n i → n ≤ 900 → i.natAbs < 2 ^ 900 := fun h l => Bd.mono h.lt l
  exact ⟨⟨⟨x0, x1, x2⟩, ⟨x3, x4, x5⟩, ⟨x6, x7, x8⟩⟩, ⟨⟨hb h0 (by decide), hb h1 (by decide), hb h2 (by decide)⟩, ⟨hb h3 (by decide), hb h4 (by decide), hb h5 (by decide)⟩, ⟨hb h6 (by decide), hb h7 (by decide), hb h8 (by decide)⟩⟩, by simp (config := {decide := true}) only [m__law_other, b__law_other, runD, List.map_cons, List.map_nil, List.replicate_zero, List.replicate_succ, List.cons_append, List.nil_append, List.append_nil, sRet, sRetN, sNx, sSeq, sSet, sSetF, sOwn, sTo, gsCons, gsNil, sPar, sPar3, eChain, sExp, sApp, sPut, sIf, sFrz, frz, frz1, List.foldl_cons, List.foldl_nil, eBin, eUn, eVar, eC, eAnd, eOr, eIf, eLend, flat, eIxO, eOfF, eTup, eAll, fAll, eCall, eIs, eSl, fSl, oNone, oSome, aNil, aCons, bVal, bAnd, bOr, bNot, bYes, blOf, gNot, iSeq, iRg1, iRg2, seq_l, seq_t, tup_l, tup_t, lst_l, lst_t, len_l, len_t, gIx_l, gIx_t, gNm, wipeR, List.getElem?_cons_zero, List.getElem?_cons_succ, List.set_cons_zero, List.set_cons_succ, Option.bind_some, Option.bind_none, Option.map_some, Option.map_none, if_true, if_false, decide_true, decide_false, Bool.not_true, Bool.not_false, Bool.false_eq_true, reduceIte, gAdd_i, gSub_i, gNeg_i, gLt_i, gLe_i, gGt_i, gGe_i, gEq_i, gNe_i, gMul_b, gMod_p, gFdiv_p, Nat.reduceAdd, Nat.reduceMul, Nat.reduceLeDiff, at0, at1, at2, at3, at4, at5, at6, at7, at8, at9, at10, at11, at12, at13, at14, at15, gSl_l, cut_pos, cut_from, cut_to, Int.reduceToNat, List.drop_succ_cons, List.drop_zero, List.take_succ_cons, List.take_zero, List.take_nil, Nat.reduceSub, Int.reduceAdd, Int.reduceSub, Int.reduceMul, Int.reduceMod, Int.reduceDiv, Int.reduceNeg, List.length_cons, List.length_nil, Nat.zero_add, fComp, compL, rg1_3, mInt, mAbs, mGcd, mMax2, mMin2, mMax3, mMin3, mIsqrt, isT, sOwnO, sPut2, sPutF, sAli, bLend, eIxOO, ffNil, ffCons, ffComp, compLL, ix30, ix31, ix32, seq_tb, lst_r, ix_t0, ix_t1, ix_t2, seq_r]; rfl⟩
theorem oth5  : ∃ o, BM 900 o ∧ m__law_other [tb true true t, .list [.int x0, .int x1, .int x2, .int x3, .int x4, .int x5, .int x6, .int x7, .int x8, .int x9], .list [.int 5, .int d1, .int d2]] = some (tb true true o) := by
  have T : BM 900 t := ht.mono (by decide)
  have ta := T.a
  have tb' := T.b
  have tc := T.c
  have hb : ∀ {n : Nat} {i : Int}, Bd n i → n ≤ 900 → i.natAbs < 2 ^ 900 := fun h l => Bd.mono h.lt l
  have m3 : ∀ x : Int, (x % 3 - 1).natAbs < 2 ^ 900 := fun x => Nat.lt_of_lt_of_le (show (x % 3 - 1).natAbs < 2 ^ 2 by omega) (Nat.pow_le_pow_right (by decide) (by decide))
  exact ⟨⟨⟨x0 % 3 - 1, x1 % 3 - 1, x2 % 3 - 1⟩, ⟨x3 % 3 - 1, x4 % 3 - 1, x5 % 3 - 1⟩, ⟨x6 % 3 - 1, x7 % 3 - 1, x8 % 3 - 1⟩⟩, ⟨⟨m3 _, m3 _, m3 _⟩, ⟨m3 _, m3 _, m3 _⟩, ⟨m3 _, m3 _, m3 _⟩⟩, by simp (config := {decide := true}) only [m__law_other, b__law_other, runD, List.map_cons, List.map_nil, List.replicate_zero, List.replicate_succ, List.cons_append, List.nil_append, List.append_nil, sRet, sRetN, sNx, sSeq, sSet, sSetF, sOwn, sTo, gsCons, gsNil, sPar, sPar3, eChain, sExp, sApp, sPut, sIf, sFrz, frz, frz1, List.foldl_cons, List.foldl_nil, eBin, eUn, eVar, eC, eAnd, eOr, eIf, eLend, flat, eIxO, eOfF, eTup, eAll, fAll, eCall, eIs, eSl, fSl, oNone, oSome, aNil, aCons, bVal, bAnd, bOr, bNot, bYes, blOf, gNot, iSeq, iRg1, iRg2, seq_l, seq_t, tup_l, tup_t, lst_l, lst_t, len_l, len_t, gIx_l, gIx_t, gNm, wipeR, List.getElem?_cons_zero, List.getElem?_cons_succ, List.set_cons_zero, List.set_cons_succ, Option.bind_some, Option.bind_none, Option.map_some, Option.map_none, if_true, if_false, decide_true, decide_false, Bool.not_true, Bool.not_false, Bool.false_eq_true, reduceIte, gAdd_i, gSub_i, gNeg_i, gLt_i, gLe_i, gGt_i, gGe_i, gEq_i, gNe_i, gMul_b, gMod_p, gFdiv_p, Nat.reduceAdd, Nat.reduceMul, Nat.reduceLeDiff, at0, at1, at2, at3, at4, at5, at6, at7, at8, at9, at10, at11, at12, at13, at14, at15, gSl_l, cut_pos, cut_from, cut_to, Int.reduceToNat, List.drop_succ_cons, List.drop_zero, List.take_succ_cons, List.take_zero, List.take_nil, Nat.reduceSub, Int.reduceAdd, Int.reduceSub, Int.reduceMul, Int.reduceMod, Int.reduceDiv, Int.reduceNeg, List.length_cons, List.length_nil, Nat.zero_add, fComp, compL, rg1_3, mInt, mAbs, mGcd, mMax2, mMin2, mMax3, mMin3, mIsqrt, isT, sOwnO, sPut2, sPutF, sAli, bLend, eIxOO, ffNil, ffCons, ffComp, compLL, ix30, ix31, ix32, seq_tb, lst_r, ix_t0, ix_t1, ix_t2, seq_r]; rfl⟩
theorem oth6  : ∃ o, BM 900 o ∧ m__law_other [tb true true t, .list [.int x0, .int x1, .int x2, .int x3, .int x4, .int x5, .int x6, .int x7, .int x8, .int x9], .list [.int 6, .int d1, .int d2]] = some (tb true true o) := by
  have T : BM 900 t := ht.mono (by decide)
  have ta := T.a
  have tb' := T.b
  have tc := T.c
  have hb : ∀ {n : Nat} {i : Int}, Bd n i → n ≤ 900 → i.natAbs < 2 ^ 900 := fun h l => Bd.mono h.lt l
  exact ⟨⟨⟨x0, x1, x2⟩, ⟨x3, x4, x5⟩, ⟨x6 * x0 + x7 * x3, x6 * x1 + x7 * x4, x6 * x2 + x7 * x5⟩⟩, ⟨⟨hb h0 (by decide), hb h1 (by decide), hb h2 (by decide)⟩, ⟨hb h3 (by decide), hb h4 (by decide), hb h5 (by decide)⟩, ⟨hb (bd_add (i := x6 * x0) (j := x7 * x3)) (by decide), hb (bd_add (i := x6 * x1) (j := x7 * x4)) (by decide), hb (bd_add (i := x6 * x2) (j := x7 * x5)) (by decide)⟩⟩, by simp (config := {decide := true}) only [m__law_other, b__law_other, runD, List.map_cons, List.map_nil, List.replicate_zero, List.replicate_succ, List.cons_append, List.nil_append, List.append_nil, sRet, sRetN, sNx, sSeq, sSet, sSetF, sOwn, sTo, gsCons, gsNil, sPar, sPar3, eChain, sExp, sApp, sPut, sIf, sFrz, frz, frz1, List.foldl_cons, List.foldl_nil, eBin, eUn, eVar, eC, eAnd, eOr, eIf, eLend, flat, eIxO, eOfF, eTup, eAll, fAll, eCall, eIs, eSl, fSl, oNone, oSome, aNil, aCons, bVal, bAnd, bOr, bNot, bYes, blOf, gNot, iSeq, iRg1, iRg2, seq_l, seq_t, tup_l, tup_t, lst_l, lst_t, len_l, len_t, gIx_l, gIx_t, gNm, wipeR, List.getElem?_cons_zero, List.getElem?_cons_succ, List.set_cons_zero, List.set_cons_succ, Option.bind_some, Option.bind_none, Option.map_some, Option.map_none, if_true, if_false, decide_true, decide_false, Bool.not_true, Bool.not_false, Bool.false_eq_true, reduceIte, gAdd_i, gSub_i, gNeg_i, gLt_i, gLe_i, gGt_i, gGe_i, gEq_i, gNe_i, gMul_b, gMod_p, gFdiv_p, Nat.reduceAdd, Nat.reduceMul, Nat.reduceLeDiff, at0, at1, at2, at3, at4, at5, at6, at7, at8, at9, at10, at11, at12, at13, at14, at15, gSl_l, cut_pos, cut_from, cut_to, Int.reduceToNat, List.drop_succ_cons, List.drop_zero, List.take_succ_cons, List.take_zero, List.take_nil, Nat.reduceSub, Int.reduceAdd, Int.reduceSub, Int.reduceMul, Int.reduceMod, Int.reduceDiv, Int.reduceNeg, List.length_cons, List.length_nil, Nat.zero_add, fComp, compL, rg1_3, mInt, mAbs, mGcd, mMax2, mMin2, mMax3, mMin3, mIsqrt, isT, sOwnO, sPut2, sPutF, sAli, bLend, eIxOO, ffNil, ffCons, ffComp, compLL, ix30, ix31, ix32, seq_tb, lst_r, ix_t0, ix_t1, ix_t2, seq_r]; rfl⟩
theorem w_other {d0 : Int} (g0 : 0 ≤ d0 ∧ d0 < 7) (g1 : 0 ≤ d1 ∧ d1 < 3) (g2 : 0 ≤ d2 ∧ d2 < 3) : ∃ o, BM 900 o ∧ m__law_other [tb true true t, .list [.int x0, .int x1, .int x2, .int x3, .int x4, .int x5, .int x6, .int x7, .int x8, .int x9], .list [.int d0, .int d1, .int d2]] = some (tb true true o) := by
  have e0 : d0 = 0 ∨ d0 = 1 ∨ d0 = 2 ∨ d0 = 3 ∨ d0 = 4 ∨ d0 = 5 ∨ d0 = 6 := by omega
  rcases e0 with rfl | rfl | rfl | rfl | rfl | rfl | rfl
  · exact oth0 g1 g2
  · exact oth1 g1 g2
  · exact oth2
  · exact oth3 g1 g2
  · exact oth4
  · exact oth5
  · exact oth6
end
end W

set_option linter.all false
set_option maxRecDepth 100000
set_option maxHeartbeats 4000000
namespace W
open PySem DL L2
theorem numbers_go (ns : List Int) (x1 x2 x3 x4 x5 : SC) : ∀ (m : Nat) (i : Int), 0 ≤ i → i + m < 1000 → ∃ l, Nums m l ∧
    compL (gNm 6) bYes (eCall m__law_number (aCons (eCall m__law_cell (aCons (eVar 0) (aCons (eVar 6) aNil))) aNil)) [.va (.list (ns.map .int)), x1, x2, x3, x4, x5, .un] (rng i m) = some (l.map PyData.int)
  | 0, i, _, _ => ⟨[], ⟨rfl, by simp⟩, rfl⟩
  | m + 1, i, h1, h2 => by
    obtain ⟨l, q1, q2⟩ := numbers_go ns x1 x2 x3 x4 x5 m (i + 1) (by omega) (by omega)
    obtain ⟨c, e1⟩ := w_cell ns i h1 (by omega)
    obtain ⟨n, b, e2⟩ := w_number c
    refine ⟨n :: l, ⟨congrArg (· + 1) q1.1, fun x hx => ?_⟩, ?_⟩
    · rcases List.mem_cons.mp hx with rfl | hx
      · exact b.lt
      · exact q1.2 x hx
    · rw [rng_succ]
      simp only [runD, List.map_cons, List.map_nil, List.replicate_zero, List.replicate_succ, List.cons_append, List.nil_append, List.append_nil, sRet, sRetN, sNx, sSeq, sSet, sSetF, sOwn, sTo, gsCons, gsNil, sPar, sPar3, eChain, sExp, sApp, sPut, sIf, sFrz, frz, frz1, List.foldl_cons, List.foldl_nil, eBin, eUn, eVar, eC, eAnd, eOr, eIf, eLend, flat, eIxO, eOfF, eTup, eAll, fAll, eCall, eIs, eSl, fSl, oNone, oSome, aNil, aCons, bVal, bAnd, bOr, bNot, bYes, blOf, gNot, iSeq, iRg1, iRg2, seq_l, seq_t, tup_l, tup_t, lst_l, lst_t, len_l, len_t, gIx_l, gIx_t, gNm, wipeR, List.getElem?_cons_zero, List.getElem?_cons_succ, List.set_cons_zero, List.set_cons_succ, Option.bind_some, Option.bind_none, Option.map_some, Option.map_none, if_true, if_false, decide_true, decide_false, Bool.not_true, Bool.not_false, Bool.false_eq_true, reduceIte, gAdd_i, gSub_i, gNeg_i, gLt_i, gLe_i, gGt_i, gGe_i, gEq_i, gNe_i, gMul_b, gMod_p, gFdiv_p, Nat.reduceAdd, Nat.reduceMul, Nat.reduceLeDiff, at0, at1, at2, at3, at4, at5, at6, at7, at8, at9, at10, at11, at12, at13, at14, at15, gSl_l, cut_pos, cut_from, cut_to, Int.reduceToNat, List.drop_succ_cons, List.drop_zero, List.take_succ_cons, List.take_zero, List.take_nil, Nat.reduceSub, Int.reduceAdd, Int.reduceSub, Int.reduceMul, Int.reduceMod, Int.reduceDiv, Int.reduceNeg, List.length_cons, List.length_nil, Nat.zero_add, fComp, compL, rg1_3, mInt, mAbs, mGcd, mMax2, mMin2, mMax3, mMin3, mIsqrt, isT, e1, e2, q2]
theorem law_true (ns : List Int) (h : ns.length ≤ 63) (hb : ∀ z ∈ ns, Builtin.Int.intBits z ≤ 1048576) : m_law [.list (ns.map PyData.int)] = some (.bool true) := by
  obtain ⟨c, e1⟩ := w_cell ns 0 (by decide) (by decide)
  obtain ⟨ds, q1, q2⟩ := w_digits c [7, 7, 3, 3, 4, 4, 2, 6, 13, 201] (by decide) (by decide)
  obtain ⟨d0, r, rfl, a0, b0, q1⟩ := inD_cons q1
  obtain ⟨d1, r, rfl, a1, b1, q1⟩ := inD_cons q1
  obtain ⟨d2, r, rfl, a2, b2, q1⟩ := inD_cons q1
  obtain ⟨d3, r, rfl, a3, b3, q1⟩ := inD_cons q1
  obtain ⟨d4, r, rfl, a4, b4, q1⟩ := inD_cons q1
  obtain ⟨d5, r, rfl, a5, b5, q1⟩ := inD_cons q1
  obtain ⟨d6, r, rfl, a6, b6, q1⟩ := inD_cons q1
  obtain ⟨d7, r, rfl, a7, b7, q1⟩ := inD_cons q1
  obtain ⟨d8, r, rfl, a8, b8, q1⟩ := inD_cons q1
  obtain ⟨d9, r, rfl, a9, b9, q1⟩ := inD_cons q1
  obtain rfl := inD_nil q1
  simp only [List.map_cons, List.map_nil] at q2
  obtain ⟨T, hT, e2⟩ := w_unimodular ns ⟨a0, b0⟩
  obtain ⟨l, n1, n2⟩ := numbers_go ns (.va (.list [.int d0, .int d1, .int d2, .int d3, .int d4, .int d5, .int d6, .int d7, .int d8, .int d9])) (.va (tb true true T)) .un .un .un 10 13 (by decide) (by decide)
  have n3 : rg2 (.int 13) (.int 23) = some (rng 13 10) := rg2_lit 13 23 (by decide) (by decide) (by decide) (by decide)
  have n4 : (rng 13 10).length ≤ 16000000 := by rw [rng_len]; decide
  obtain ⟨x0, l, rfl, h0, n1⟩ := n1.cons
  obtain ⟨x1, l, rfl, h1, n1⟩ := n1.cons
  obtain ⟨x2, l, rfl, h2, n1⟩ := n1.cons
  obtain ⟨x3, l, rfl, h3, n1⟩ := n1.cons
  obtain ⟨x4, l, rfl, h4, n1⟩ := n1.cons
  obtain ⟨x5, l, rfl, h5, n1⟩ := n1.cons
  obtain ⟨x6, l, rfl, h6, n1⟩ := n1.cons
  obtain ⟨x7, l, rfl, h7, n1⟩ := n1.cons
  obtain ⟨x8, l, rfl, h8, n1⟩ := n1.cons
  obtain ⟨x9, l, rfl, h9, n1⟩ := n1.cons
  obtain rfl := n1.nil
  simp only [List.map_cons, List.map_nil] at n2
  obtain ⟨O, hO, e3⟩ := w_other (t := T) (x0 := x0) (x1 := x1) (x2 := x2) (x3 := x3) (x4 := x4) (x5 := x5) (x6 := x6) (x7 := x7) (x8 := x8) (x9 := x9) (d0 := d1) (d1 := d2) (d2 := d3) ⟨a1, b1⟩ ⟨a2, b2⟩ ⟨a3, b3⟩
  have hT9 : BM 900 T := hT.mono (by decide)
  have i1 : ∀ i : Int, m__law_inverse_right [tb true true T, .int i] = some (.bool true) := fun i => @w_inverse_right 900 T i hT9 (by decide)
  have i2 : ∀ i : Int, m__law_inverse_right [tb true true O, .int i] = some (.bool true) := fun i => w_inverse_right (n := 900) (by decide)
  have key : ∃ e : Nat, e ≤ 200 ∧ (if d7 = 1 then 200 - d8 else if d7 = 0 then d9 else d8) = (e : Int) := by
    by_cases z1 : d7 = 1
    · exact ⟨(200 - d8).toNat, by omega, by rw [if_pos z1]; omega⟩
    · by_cases z2 : d7 = 0
      · exact ⟨d9.toNat, by omega, by rw [if_neg z1, if_pos z2]; omega⟩
      · exact ⟨d8.toNat, by omega, by rw [if_neg z1, if_neg z2]; omega⟩
  obtain ⟨e, he, ke⟩ := key
  have p1 : m__law_power_right [tb true true T, .int (e : Int), .int d4] = some (.bool true) := @w_power_right T hT9 e d4 he
  have p2 : m__law_power_right [tb true true O, .int (e : Int), .int d4] = some (.bool true) := @w_power_right O hO e d4 he
  have h6 : d6 = 0 ∨ d6 = 1 := by omega
  have si : m__law_same_table [c_IDLE, tb true true ⟨⟨1, 0, 0⟩, ⟨0, 1, 0⟩, ⟨0, 0, 1⟩⟩] = some (.bool true) := by
    rw [idle_c, w_same_table]
    rfl
  by_cases z1 : d7 = 1
  · rw [if_pos z1] at ke
    subst z1
    rcases h6 with rfl | rfl
    · simp (config := {decide := true}) only [m_law, b_law, runD, List.map_cons, List.map_nil, List.replicate_zero, List.replicate_succ, List.cons_append, List.nil_append, List.append_nil, sRet, sRetN, sNx, sSeq, sSet, sSetF, sOwn, sTo, gsCons, gsNil, sPar, sPar3, eChain, sExp, sApp, sPut, sIf, sFrz, frz, frz1, List.foldl_cons, List.foldl_nil, eBin, eUn, eVar, eC, eAnd, eOr, eIf, eLend, flat, eIxO, eOfF, eTup, eAll, fAll, eCall, eIs, eSl, fSl, oNone, oSome, aNil, aCons, bVal, bAnd, bOr, bNot, bYes, blOf, gNot, iSeq, iRg1, iRg2, seq_l, seq_t, tup_l, tup_t, lst_l, lst_t, len_l, len_t, gIx_l, gIx_t, gNm, wipeR, List.getElem?_cons_zero, List.getElem?_cons_succ, List.set_cons_zero, List.set_cons_succ, Option.bind_some, Option.bind_none, Option.map_some, Option.map_none, if_true, if_false, decide_true, decide_false, Bool.not_true, Bool.not_false, Bool.false_eq_true, reduceIte, gAdd_i, gSub_i, gNeg_i, gLt_i, gLe_i, gGt_i, gGe_i, gEq_i, gNe_i, gMul_b, gMod_p, gFdiv_p, Nat.reduceAdd, Nat.reduceMul, Nat.reduceLeDiff, at0, at1, at2, at3, at4, at5, at6, at7, at8, at9, at10, at11, at12, at13, at14, at15, gSl_l, cut_pos, cut_from, cut_to, Int.reduceToNat, List.drop_succ_cons, List.drop_zero, List.take_succ_cons, List.take_zero, List.take_nil, Nat.reduceSub, Int.reduceAdd, Int.reduceSub, Int.reduceMul, Int.reduceMod, Int.reduceDiv, Int.reduceNeg, List.length_cons, List.length_nil, Nat.zero_add, fComp, compL, rg1_3, mInt, mAbs, mGcd, mMax2, mMin2, mMax3, mMin3, mIsqrt, isT, e1, q2, e2, n2, n3, n4, e3, si, row_t, tab_t, i1, i2, ke, p1]
    · simp (config := {decide := true}) only [m_law, b_law, runD, List.map_cons, List.map_nil, List.replicate_zero, List.replicate_succ, List.cons_append, List.nil_append, List.append_nil, sRet, sRetN, sNx, sSeq, sSet, sSetF, sOwn, sTo, gsCons, gsNil, sPar, sPar3, eChain, sExp, sApp, sPut, sIf, sFrz, frz, frz1, List.foldl_cons, List.foldl_nil, eBin, eUn, eVar, eC, eAnd, eOr, eIf, eLend, flat, eIxO, eOfF, eTup, eAll, fAll, eCall, eIs, eSl, fSl, oNone, oSome, aNil, aCons, bVal, bAnd, bOr, bNot, bYes, blOf, gNot, iSeq, iRg1, iRg2, seq_l, seq_t, tup_l, tup_t, lst_l, lst_t, len_l, len_t, gIx_l, gIx_t, gNm, wipeR, List.getElem?_cons_zero, List.getElem?_cons_succ, List.set_cons_zero, List.set_cons_succ, Option.bind_some, Option.bind_none, Option.map_some, Option.map_none, if_true, if_false, decide_true, decide_false, Bool.not_true, Bool.not_false, Bool.false_eq_true, reduceIte, gAdd_i, gSub_i, gNeg_i, gLt_i, gLe_i, gGt_i, gGe_i, gEq_i, gNe_i, gMul_b, gMod_p, gFdiv_p, Nat.reduceAdd, Nat.reduceMul, Nat.reduceLeDiff, at0, at1, at2, at3, at4, at5, at6, at7, at8, at9, at10, at11, at12, at13, at14, at15, gSl_l, cut_pos, cut_from, cut_to, Int.reduceToNat, List.drop_succ_cons, List.drop_zero, List.take_succ_cons, List.take_zero, List.take_nil, Nat.reduceSub, Int.reduceAdd, Int.reduceSub, Int.reduceMul, Int.reduceMod, Int.reduceDiv, Int.reduceNeg, List.length_cons, List.length_nil, Nat.zero_add, fComp, compL, rg1_3, mInt, mAbs, mGcd, mMax2, mMin2, mMax3, mMin3, mIsqrt, isT, e1, q2, e2, n2, n3, n4, e3, si, row_t, tab_t, i1, i2, ke, p2]
  · rw [if_neg z1] at ke
    by_cases z2 : d7 = 0
    · rw [if_pos z2] at ke
      subst z2 ke
      rcases h6 with rfl | rfl
      · simp (config := {decide := true}) only [m_law, b_law, runD, List.map_cons, List.map_nil, List.replicate_zero, List.replicate_succ, List.cons_append, List.nil_append, List.append_nil, sRet, sRetN, sNx, sSeq, sSet, sSetF, sOwn, sTo, gsCons, gsNil, sPar, sPar3, eChain, sExp, sApp, sPut, sIf, sFrz, frz, frz1, List.foldl_cons, List.foldl_nil, eBin, eUn, eVar, eC, eAnd, eOr, eIf, eLend, flat, eIxO, eOfF, eTup, eAll, fAll, eCall, eIs, eSl, fSl, oNone, oSome, aNil, aCons, bVal, bAnd, bOr, bNot, bYes, blOf, gNot, iSeq, iRg1, iRg2, seq_l, seq_t, tup_l, tup_t, lst_l, lst_t, len_l, len_t, gIx_l, gIx_t, gNm, wipeR, List.getElem?_cons_zero, List.getElem?_cons_succ, List.set_cons_zero, List.set_cons_succ, Option.bind_some, Option.bind_none, Option.map_some, Option.map_none, if_true, if_false, decide_true, decide_false, Bool.not_true, Bool.not_false, Bool.false_eq_true, reduceIte, gAdd_i, gSub_i, gNeg_i, gLt_i, gLe_i, gGt_i, gGe_i, gEq_i, gNe_i, gMul_b, gMod_p, gFdiv_p, Nat.reduceAdd, Nat.reduceMul, Nat.reduceLeDiff, at0, at1, at2, at3, at4, at5, at6, at7, at8, at9, at10, at11, at12, at13, at14, at15, gSl_l, cut_pos, cut_from, cut_to, Int.reduceToNat, List.drop_succ_cons, List.drop_zero, List.take_succ_cons, List.take_zero, List.take_nil, Nat.reduceSub, Int.reduceAdd, Int.reduceSub, Int.reduceMul, Int.reduceMod, Int.reduceDiv, Int.reduceNeg, List.length_cons, List.length_nil, Nat.zero_add, fComp, compL, rg1_3, mInt, mAbs, mGcd, mMax2, mMin2, mMax3, mMin3, mIsqrt, isT, e1, q2, e2, n2, n3, n4, e3, si, row_t, tab_t, i1, i2, p1]
      · simp (config := {decide := true}) only [m_law, b_law, runD, List.map_cons, List.map_nil, List.replicate_zero, List.replicate_succ, List.cons_append, List.nil_append, List.append_nil, sRet, sRetN, sNx, sSeq, sSet, sSetF, sOwn, sTo, gsCons, gsNil, sPar, sPar3, eChain, sExp, sApp, sPut, sIf, sFrz, frz, frz1, List.foldl_cons, List.foldl_nil, eBin, eUn, eVar, eC, eAnd, eOr, eIf, eLend, flat, eIxO, eOfF, eTup, eAll, fAll, eCall, eIs, eSl, fSl, oNone, oSome, aNil, aCons, bVal, bAnd, bOr, bNot, bYes, blOf, gNot, iSeq, iRg1, iRg2, seq_l, seq_t, tup_l, tup_t, lst_l, lst_t, len_l, len_t, gIx_l, gIx_t, gNm, wipeR, List.getElem?_cons_zero, List.getElem?_cons_succ, List.set_cons_zero, List.set_cons_succ, Option.bind_some, Option.bind_none, Option.map_some, Option.map_none, if_true, if_false, decide_true, decide_false, Bool.not_true, Bool.not_false, Bool.false_eq_true, reduceIte, gAdd_i, gSub_i, gNeg_i, gLt_i, gLe_i, gGt_i, gGe_i, gEq_i, gNe_i, gMul_b, gMod_p, gFdiv_p, Nat.reduceAdd, Nat.reduceMul, Nat.reduceLeDiff, at0, at1, at2, at3, at4, at5, at6, at7, at8, at9, at10, at11, at12, at13, at14, at15, gSl_l, cut_pos, cut_from, cut_to, Int.reduceToNat, List.drop_succ_cons, List.drop_zero, List.take_succ_cons, List.take_zero, List.take_nil, Nat.reduceSub, Int.reduceAdd, Int.reduceSub, Int.reduceMul, Int.reduceMod, Int.reduceDiv, Int.reduceNeg, List.length_cons, List.length_nil, Nat.zero_add, fComp, compL, rg1_3, mInt, mAbs, mGcd, mMax2, mMin2, mMax3, mMin3, mIsqrt, isT, e1, q2, e2, n2, n3, n4, e3, si, row_t, tab_t, i1, i2, p2]
    · rw [if_neg z2] at ke
      subst ke
      rcases h6 with rfl | rfl
      · simp (config := {decide := true}) only [m_law, b_law, runD, List.map_cons, List.map_nil, List.replicate_zero, List.replicate_succ, List.cons_append, List.nil_append, List.append_nil, sRet, sRetN, sNx, sSeq, sSet, sSetF, sOwn, sTo, gsCons, gsNil, sPar, sPar3, eChain, sExp, sApp, sPut, sIf, sFrz, frz, frz1, List.foldl_cons, List.foldl_nil, eBin, eUn, eVar, eC, eAnd, eOr, eIf, eLend, flat, eIxO, eOfF, eTup, eAll, fAll, eCall, eIs, eSl, fSl, oNone, oSome, aNil, aCons, bVal, bAnd, bOr, bNot, bYes, blOf, gNot, iSeq, iRg1, iRg2, seq_l, seq_t, tup_l, tup_t, lst_l, lst_t, len_l, len_t, gIx_l, gIx_t, gNm, wipeR, List.getElem?_cons_zero, List.getElem?_cons_succ, List.set_cons_zero, List.set_cons_succ, Option.bind_some, Option.bind_none, Option.map_some, Option.map_none, if_true, if_false, decide_true, decide_false, Bool.not_true, Bool.not_false, Bool.false_eq_true, reduceIte, gAdd_i, gSub_i, gNeg_i, gLt_i, gLe_i, gGt_i, gGe_i, gEq_i, gNe_i, gMul_b, gMod_p, gFdiv_p, Nat.reduceAdd, Nat.reduceMul, Nat.reduceLeDiff, at0, at1, at2, at3, at4, at5, at6, at7, at8, at9, at10, at11, at12, at13, at14, at15, gSl_l, cut_pos, cut_from, cut_to, Int.reduceToNat, List.drop_succ_cons, List.drop_zero, List.take_succ_cons, List.take_zero, List.take_nil, Nat.reduceSub, Int.reduceAdd, Int.reduceSub, Int.reduceMul, Int.reduceMod, Int.reduceDiv, Int.reduceNeg, List.length_cons, List.length_nil, Nat.zero_add, fComp, compL, rg1_3, mInt, mAbs, mGcd, mMax2, mMin2, mMax3, mMin3, mIsqrt, isT, e1, q2, e2, n2, n3, n4, e3, si, row_t, tab_t, i1, i2, z1, z2, p1]
      · simp (config := {decide := true}) only [m_law, b_law, runD, List.map_cons, List.map_nil, List.replicate_zero, List.replicate_succ, List.cons_append, List.nil_append, List.append_nil, sRet, sRetN, sNx, sSeq, sSet, sSetF, sOwn, sTo, gsCons, gsNil, sPar, sPar3, eChain, sExp, sApp, sPut, sIf, sFrz, frz, frz1, List.foldl_cons, List.foldl_nil, eBin, eUn, eVar, eC, eAnd, eOr, eIf, eLend, flat, eIxO, eOfF, eTup, eAll, fAll, eCall, eIs, eSl, fSl, oNone, oSome, aNil, aCons, bVal, bAnd, bOr, bNot, bYes, blOf, gNot, iSeq, iRg1, iRg2, seq_l, seq_t, tup_l, tup_t, lst_l, lst_t, len_l, len_t, gIx_l, gIx_t, gNm, wipeR, List.getElem?_cons_zero, List.getElem?_cons_succ, List.set_cons_zero, List.set_cons_succ, Option.bind_some, Option.bind_none, Option.map_some, Option.map_none, if_true, if_false, decide_true, decide_false, Bool.not_true, Bool.not_false, Bool.false_eq_true, reduceIte, gAdd_i, gSub_i, gNeg_i, gLt_i, gLe_i, gGt_i, gGe_i, gEq_i, gNe_i, gMul_b, gMod_p, gFdiv_p, Nat.reduceAdd, Nat.reduceMul, Nat.reduceLeDiff, at0, at1, at2, at3, at4, at5, at6, at7, at8, at9, at10, at11, at12, at13, at14, at15, gSl_l, cut_pos, cut_from, cut_to, Int.reduceToNat, List.drop_succ_cons, List.drop_zero, List.take_succ_cons, List.take_zero, List.take_nil, Nat.reduceSub, Int.reduceAdd, Int.reduceSub, Int.reduceMul, Int.reduceMod, Int.reduceDiv, Int.reduceNeg, List.length_cons, List.length_nil, Nat.zero_add, fComp, compL, rg1_3, mInt, mAbs, mGcd, mMax2, mMin2, mMax3, mMin3, mIsqrt, isT, e1, q2, e2, n2, n3, n4, e3, si, row_t, tab_t, i1, i2, z1, z2, p2]
end W

set_option Elab.async false
set_option linter.all false
set_option maxRecDepth 100000
set_option maxHeartbeats 0
namespace W
open PySem PySem.Spec PyProof.Rows L2 DL
abbrev i_NoInverse : Stmt := clsInit (top 2)
def hfa_0 : List Fct := [fFree "len", fFree "int", fFree "range", fFree "tuple", fFree "list", fFree "isinstance", fFree "bool", fFree "ValueError", fCon "IDLE" c_IDLE, fGlo "NothingToRedo", fGlo "NothingToUndo", fGlo "BadQuestion", fGlo "BadPart", fGlo "BadModulus", fGlo "BadWorth", fGlo "BadText", fGlo "NoCycle", fGlo "NotPell", fGlo "NotIdle", fGlo "BadStep", fGlo "EndlessChamber", fGlo "MovesRest", fGlo "TooManyRests", fGlo "BadClaim", fGlo "NoRest", fGlo "NotHome", fGlo "NotKeeper", fGlo "BadWord", fGlo "OffSide", fGlo "NotInLand"]
def hfa_1 : List Fct := [fGlo "BadRay", fGlo "BadStart", fGlo "TooDeep", fGlo "NoMirror", fGlo "NotNull", fGlo "NotPositive", fGlo "NotNegative", fGlo "NotOneMinus", fGlo "BadForm", fGlo "ZeroBottom", fGlo "NoInverse", fGlo "FewError", fXc "NoInverse" "determinant", fEx "NoInverse", fKitA "NoInverse" ["ZeroBottom", "BadForm", "NotOneMinus", "NotNegative", "NotPositive", "NotNull", "NoMirror", "TooDeep", "BadStart", "BadRay", "NotInLand", "OffSide", "BadWord", "NotKeeper", "NotHome", "NoRest", "BadClaim", "TooManyRests", "MovesRest", "EndlessChamber", "BadStep", "NotIdle", "NotPell", "NoCycle", "BadText", "BadWorth", "BadModulus", "BadPart", "BadQuestion", "NothingToUndo", "NothingToRedo"] false, fKit1 "NoInverse" (.t "ValueError") true, fKit1 "NoInverse" (.c "NoInverse") true, fExm "NoInverse" "FewError"]
def hfa : List Fct := hfa_0 ++ hfa_1
def hfn_0 : List He.DefD := [dfn "_law_cell" s__law_cell, dfn "_law_digits" s__law_digits, dfn "_law_number" s__law_number, dfn "_law_times" s__law_times, dfn "_law_factor" s__law_factor, dfn "_law_turned" s__law_turned, dfn "_law_dot" s__law_dot, dfn "_law_product" s__law_product, dfn "_law_unimodular" s__law_unimodular, dfn "_law_other" s__law_other, dfn "_law_whole" s__law_whole, dfn "_law_is_row" s__law_is_row, dfn "_law_is_table" s__law_is_table, dfn "_law_same_table" s__law_same_table, dfn "_law_handed" s__law_handed, dfn "_law_handed_table" s__law_handed_table, dfn "cross" s_cross, dfn "dot" s_dot, dfn "determinant" s_determinant, dfn "transpose" s_transpose, dfn "columns" s_columns, dfn "adjugate" s_adjugate, dfn "times" s_times, dfn "inverse" s_inverse, dfn "_law_inverse" s__law_inverse, dfn "_law_stayed" s__law_stayed, dfn "_law_cross" s__law_cross, dfn "_law_determinant" s__law_determinant, dfn "_law_same_number" s__law_same_number, dfn "_law_inverse_right" s__law_inverse_right]
def hfn_1 : List He.DefD := [dfn "_law_power" s__law_power, dfn "product" s_product, dfn "power" s_power, dfn "_law_power_right" s__law_power_right, dfn "law" s_law, dini "NoInverse" "NoInverse.__init__" i_NoInverse]
def hfn : List He.DefD := hfn_0 ++ hfn_1
def hnm_0 : List Str := ["FewError", "NoInverse", "ZeroBottom", "BadForm", "NotOneMinus", "NotNegative", "NotPositive", "NotNull", "NoMirror", "TooDeep", "BadStart", "BadRay", "NotInLand", "OffSide", "BadWord", "NotKeeper", "NotHome", "NoRest", "BadClaim", "TooManyRests", "MovesRest", "EndlessChamber", "BadStep", "NotIdle", "NotPell", "NoCycle", "BadText", "BadWorth", "BadModulus", "BadPart"]
def hnm_1 : List Str := ["BadQuestion", "NothingToUndo", "NothingToRedo", "times", "dot", "cross", "IDLE", "transpose", "product", "determinant", "columns", "adjugate", "inverse", "power", "_law_whole", "_law_is_row", "_law_is_table", "_law_cell", "_law_digits", "_law_number", "_law_dot", "_law_cross", "_law_times", "_law_turned", "_law_product", "_law_determinant", "_law_same_number", "_law_same_table", "_law_handed", "_law_handed_table"]
def hnm_2 : List Str := ["_law_stayed", "_law_factor", "_law_unimodular", "_law_other", "_law_inverse", "_law_inverse_right", "_law_power", "_law_power_right"]
def hnm : List Str := hnm_0 ++ hnm_1 ++ hnm_2
abbrev R : PySem.W.OpenRow := PySem.W.OpenLaw.row PySem.Challenge.rw_fewfounders_k01_inverse_and_powers
def has : List Addr := [3, 24, 23, 44, 43, 41, 40, 42, 63, 62, 82, 81, 101, 100, 120, 119, 139, 138, 158, 157, 177, 176, 196, 195, 215, 214, 234, 233, 253, 252, 272, 271, 291, 290, 310, 309, 329, 328, 348, 347, 367, 366, 386, 385, 405, 404, 424, 423, 443, 442, 462, 461, 481, 480, 500, 499, 519, 518, 538, 537, 557, 556, 576, 575, 595, 594, 607, 606, 619, 618, 628, 627, 635, 634, 642, 641, 646, 643, 644, 645, 651, 650, 656, 655, 663, 662, 670, 669, 677, 676, 682, 681, 689, 688, 696, 695, 703, 702, 710, 709, 717, 716, 724, 723, 731, 730, 738, 737, 745, 744, 752, 751, 757, 756, 762, 761, 769, 768, 776, 775, 783, 782, 788, 787, 793, 792, 798, 797, 803, 802, 810, 809, 815, 814, 822, 821, 829, 828, 836, 835, 843, 842, 848, 847]
abbrev hk : PySem.W.Hook := hookL has hfa hfn
def ob (s : PySem.W.SharedT) : He.AlD := obsL has hfa hfn (HandSHeadRun.getT s)
theorem ob_eq (s : PySem.W.SharedT) : ob s = hk.obs s.abs := obsL_eq (HandSHeadRun.getT_eq s)
theorem run (w : World) : HandSHeadRun.RunEq R (PySem.W.view R.prog [72]) hk ob 63320 hnm w := by
  intro os
  kernel_rfl
theorem facts {P : Program} {w : World} {K : PySem.W.Frag} {h : Heap} {mg : Str → Option Value} {f : Addr} (X : K.In h) (G : h.Ns mainGlobals mg) (hf0 : mg ("law" : Str) = some (.ref f)) (c : SaysX hfa hfn K) :
    ∃ fd : FuncData, (∀ (s : Shared) (v : Value), BindsTo s fd ⟨[v], []⟩ [("script", v)]) ∧ ∀ base : Heap, K.In base → base.Ns mainGlobals mg → FnOk P w K mg base CX0 7 f fd ["script"] (spD K 1 m_law) := by
  have z_len := c.free X G 0 "len"
  have z_int := c.free X G 1 "int"
  have z_range := c.free X G 2 "range"
  have z_tuple := c.free X G 3 "tuple"
  have z_list := c.free X G 4 "list"
  have z_isinstance := c.free X G 5 "isinstance"
  have z_bool := c.free X G 6 "bool"
  have z_ValueError := c.free X G 7 "ValueError"
  have k_IDLE := c.con X G 8 "IDLE" c_IDLE
  have f__law_cell := c.fd X G 0 "_law_cell" s__law_cell
  have f__law_digits := c.fd X G 1 "_law_digits" s__law_digits
  have f__law_number := c.fd X G 2 "_law_number" s__law_number
  have f__law_times := c.fd X G 3 "_law_times" s__law_times
  have f__law_factor := c.fd X G 4 "_law_factor" s__law_factor
  have f__law_turned := c.fd X G 5 "_law_turned" s__law_turned
  have f__law_dot := c.fd X G 6 "_law_dot" s__law_dot
  have f__law_product := c.fd X G 7 "_law_product" s__law_product
  have f__law_unimodular := c.fd X G 8 "_law_unimodular" s__law_unimodular
  have f__law_other := c.fd X G 9 "_law_other" s__law_other
  have f__law_whole := c.fd X G 10 "_law_whole" s__law_whole
  have f__law_is_row := c.fd X G 11 "_law_is_row" s__law_is_row
  have f__law_is_table := c.fd X G 12 "_law_is_table" s__law_is_table
  have f__law_same_table := c.fd X G 13 "_law_same_table" s__law_same_table
  have f__law_handed := c.fd X G 14 "_law_handed" s__law_handed
  have f__law_handed_table := c.fd X G 15 "_law_handed_table" s__law_handed_table
  have f_cross := c.fd X G 16 "cross" s_cross
  have f_dot := c.fd X G 17 "dot" s_dot
  have f_determinant := c.fd X G 18 "determinant" s_determinant
  have f_transpose := c.fd X G 19 "transpose" s_transpose
  have f_columns := c.fd X G 20 "columns" s_columns
  have f_adjugate := c.fd X G 21 "adjugate" s_adjugate
  have f_times := c.fd X G 22 "times" s_times
  have f_inverse := c.fd X G 23 "inverse" s_inverse
  have f__law_inverse := c.fd X G 24 "_law_inverse" s__law_inverse
  have f__law_stayed := c.fd X G 25 "_law_stayed" s__law_stayed
  have f__law_cross := c.fd X G 26 "_law_cross" s__law_cross
  have f__law_determinant := c.fd X G 27 "_law_determinant" s__law_determinant
  have f__law_same_number := c.fd X G 28 "_law_same_number" s__law_same_number
  have f__law_inverse_right := c.fd X G 29 "_law_inverse_right" s__law_inverse_right
  have f__law_power := c.fd X G 30 "_law_power" s__law_power
  have f_product := c.fd X G 31 "product" s_product
  have f_power := c.fd X G 32 "power" s_power
  have f__law_power_right := c.fd X G 33 "_law_power_right" s__law_power_right
  obtain ⟨fd, F, e⟩ := c.fnP X G 34 "law" s_law
  have e2 := hf0.symm.trans e
  cases e2
  have b := FunD.bindsA (ps := ["script"]) F fun _ _ _ _ _ _ us hl => match us, hl with | [_], _ => rfl
  refine ⟨fd, fun s v => b s [v] rfl, fun base _ _ => ?_⟩
  have q_NothingToRedo := c.cls X G 9 "NothingToRedo"
  have q_NothingToUndo := c.cls X G 10 "NothingToUndo"
  have q_BadQuestion := c.cls X G 11 "BadQuestion"
  have q_BadPart := c.cls X G 12 "BadPart"
  have q_BadModulus := c.cls X G 13 "BadModulus"
  have q_BadWorth := c.cls X G 14 "BadWorth"
  have q_BadText := c.cls X G 15 "BadText"
  have q_NoCycle := c.cls X G 16 "NoCycle"
  have q_NotPell := c.cls X G 17 "NotPell"
  have q_NotIdle := c.cls X G 18 "NotIdle"
  have q_BadStep := c.cls X G 19 "BadStep"
  have q_EndlessChamber := c.cls X G 20 "EndlessChamber"
  have q_MovesRest := c.cls X G 21 "MovesRest"
  have q_TooManyRests := c.cls X G 22 "TooManyRests"
  have q_BadClaim := c.cls X G 23 "BadClaim"
  have q_NoRest := c.cls X G 24 "NoRest"
  have q_NotHome := c.cls X G 25 "NotHome"
  have q_NotKeeper := c.cls X G 26 "NotKeeper"
  have q_BadWord := c.cls X G 27 "BadWord"
  have q_OffSide := c.cls X G 28 "OffSide"
  have q_NotInLand := c.cls X G 29 "NotInLand"
  have q_BadRay := c.cls X G 30 "BadRay"
  have q_BadStart := c.cls X G 31 "BadStart"
  have q_TooDeep := c.cls X G 32 "TooDeep"
  have q_NoMirror := c.cls X G 33 "NoMirror"
  have q_NotNull := c.cls X G 34 "NotNull"
  have q_NotPositive := c.cls X G 35 "NotPositive"
  have q_NotNegative := c.cls X G 36 "NotNegative"
  have q_NotOneMinus := c.cls X G 37 "NotOneMinus"
  have q_BadForm := c.cls X G 38 "BadForm"
  have q_ZeroBottom := c.cls X G 39 "ZeroBottom"
  have q_NoInverse := c.cls X G 40 "NoInverse"
  have q_FewError := c.cls X G 41 "FewError"
  have x_NoInverse := c.xcls (P := P) (w := w) (base := base) X G 42 "NoInverse" "determinant" "NoInverse.__init__" 35 i_NoInverse ⟨rfl, rfl, rfl, by decide +kernel, rfl, by decide +kernel, by decide +kernel⟩ rfl rfl rfl (by decide) (by decide) (fun _ _ _ _ _ _ us hl => match us, hl with | [_, _], _ => rfl)
  have t__law_inverse_0 := (tabA_cons (c.fact 43 (f := fEx "NoInverse")) (c.fact 44 (f := fKitA "NoInverse" ["ZeroBottom", "BadForm", "NotOneMinus", "NotNegative", "NotPositive", "NotNull", "NoMirror", "TooDeep", "BadStart", "BadRay", "NotInLand", "OffSide", "BadWord", "NotKeeper", "NotHome", "NoRest", "BadClaim", "TooManyRests", "MovesRest", "EndlessChamber", "BadStep", "NotIdle", "NotPell", "NoCycle", "BadText", "BadWorth", "BadModulus", "BadPart", "BadQuestion", "NothingToUndo", "NothingToRedo"] false)) tabA_nil)
  have t__law_inverse_1 := (tab1_cons (c.fact 43 (f := fEx "NoInverse")) (c.fact 45 (f := fKit1 "NoInverse" (.t "ValueError") true)) tab1_nil)
  have t__law_inverse_2 := (tab1_cons (c.fact 43 (f := fEx "NoInverse")) (c.fact 46 (f := fKit1 "NoInverse" (.c "NoInverse") true)) tab1_nil)
  have e__law_inverse_0 := (tabE_cons (c.fact 47 (f := fExm "NoInverse" "FewError")) tabE_nil)
  have d__law_cell := ok__law_cell (P := P) (w := w) (base := base) f__law_cell z_len z_int
  have d__law_digits := ok__law_digits (P := P) (w := w) (base := base) f__law_digits z_int z_range z_len
  have d__law_number := ok__law_number (P := P) (w := w) (base := base) f__law_number d__law_digits z_int
  have d__law_times := ok__law_times (P := P) (w := w) (base := base) f__law_times 
  have d__law_factor := ok__law_factor (P := P) (w := w) (base := base) f__law_factor d__law_digits d__law_times z_int z_tuple z_range
  have d__law_turned := ok__law_turned (P := P) (w := w) (base := base) f__law_turned z_range z_tuple
  have d__law_dot := ok__law_dot (P := P) (w := w) (base := base) f__law_dot 
  have d__law_product := ok__law_product (P := P) (w := w) (base := base) f__law_product d__law_turned d__law_dot z_tuple
  have d__law_unimodular := ok__law_unimodular (P := P) (w := w) (base := base) f__law_unimodular d__law_cell d__law_number d__law_factor d__law_product z_range
  have d__law_other := ok__law_other (P := P) (w := w) (base := base) f__law_other d__law_times z_list z_int z_range z_tuple
  have d__law_whole := ok__law_whole (P := P) (w := w) (base := base) f__law_whole z_isinstance z_bool z_int
  have d__law_is_row := ok__law_is_row (P := P) (w := w) (base := base) f__law_is_row d__law_whole z_len z_isinstance z_tuple
  have d__law_is_table := ok__law_is_table (P := P) (w := w) (base := base) f__law_is_table d__law_is_row z_len z_isinstance z_tuple
  have d__law_same_table := ok__law_same_table (P := P) (w := w) (base := base) f__law_same_table d__law_is_table
  have d__law_handed := ok__law_handed (P := P) (w := w) (base := base) f__law_handed z_tuple
  have d__law_handed_table := ok__law_handed_table (P := P) (w := w) (base := base) f__law_handed_table d__law_handed z_int z_tuple
  have d_cross := ok_cross (P := P) (w := w) (base := base) f_cross 
  have d_dot := ok_dot (P := P) (w := w) (base := base) f_dot 
  have d_determinant := ok_determinant (P := P) (w := w) (base := base) f_determinant d_cross d_dot
  have d_transpose := ok_transpose (P := P) (w := w) (base := base) f_transpose z_range z_tuple
  have d_columns := ok_columns (P := P) (w := w) (base := base) f_columns d_transpose
  have d_adjugate := ok_adjugate (P := P) (w := w) (base := base) f_adjugate d_cross d_columns
  have d_times := ok_times (P := P) (w := w) (base := base) f_times 
  have dx_inverse := okx_inverse (P := P) (w := w) (base := base) f_inverse d_determinant d_adjugate d_times z_tuple x_NoInverse
  have d_inverse := dx_inverse.dat
  have d__law_inverse := ok__law_inverse (P := P) (w := w) (base := base) f__law_inverse dx_inverse z_isinstance z_ValueError q_NothingToRedo q_NothingToUndo q_BadQuestion q_BadPart q_BadModulus q_BadWorth q_BadText q_NoCycle q_NotPell q_NotIdle q_BadStep q_EndlessChamber q_MovesRest q_TooManyRests q_BadClaim q_NoRest q_NotHome q_NotKeeper q_BadWord q_OffSide q_NotInLand q_BadRay q_BadStart q_TooDeep q_NoMirror q_NotNull q_NotPositive q_NotNegative q_NotOneMinus q_BadForm q_ZeroBottom q_NoInverse q_FewError x_NoInverse t__law_inverse_0 t__law_inverse_1 t__law_inverse_2 e__law_inverse_0
  have d__law_stayed := ok__law_stayed (P := P) (w := w) (base := base) f__law_stayed z_tuple z_len
  have d__law_cross := ok__law_cross (P := P) (w := w) (base := base) f__law_cross 
  have d__law_determinant := ok__law_determinant (P := P) (w := w) (base := base) f__law_determinant d__law_cross d__law_dot
  have d__law_same_number := ok__law_same_number (P := P) (w := w) (base := base) f__law_same_number d__law_whole
  have d__law_inverse_right := ok__law_inverse_right (P := P) (w := w) (base := base) f__law_inverse_right d__law_handed_table d__law_inverse d__law_stayed d__law_determinant d__law_same_number d__law_is_table d__law_product d__law_same_table
  have d__law_power := ok__law_power (P := P) (w := w) (base := base) f__law_power d__law_product z_range
  have d_product := ok_product (P := P) (w := w) (base := base) f_product d_transpose d_dot z_tuple
  have d_power := ok_power (P := P) (w := w) (base := base) f_power d_product k_IDLE
  have d__law_power_right := ok__law_power_right (P := P) (w := w) (base := base) f__law_power_right d__law_handed_table d__law_power d_power d__law_same_table d__law_stayed
  exact fn_law F d__law_cell d__law_digits d__law_unimodular d__law_number d__law_other d__law_same_table d__law_inverse_right d__law_power_right z_range k_IDLE
end W
open PySem PySem.W PySem.Calls PyProof.Rows
set_option maxRecDepth 100000 in
set_option maxHeartbeats 0 in
theorem PySem.Challenge.cw_fewfounders_k01_inverse_and_powers_holds : PySem.Challenge.rw_fewfounders_k01_inverse_and_powers.Holds := by
  w_on; o_law
  refine HandSHeadRun.head_any (r := OpenLaw.row PySem.Challenge.rw_fewfounders_k01_inverse_and_powers) (q := view (OpenLaw.row PySem.Challenge.rw_fewfounders_k01_inverse_and_powers).prog [72]) (H := W.hk) (ob := W.ob) (M := 63320) (loose := W.hnm) (d := HandSHeadRun.topDef (OpenLaw.row PySem.Challenge.rw_fewfounders_k01_inverse_and_powers).prog 72) (kwd := []) W.ob_eq
    (by kernel_rfl) (fun s => by kernel_rfl) W.run (by kernel_rfl) (by kernel_rfl) (by kernel_rfl) (by rfl) (by first | assumption | decide +kernel) (by decide +kernel) ⟨rfl, rfl, rfl, rfl, rfl, by decide +kernel⟩ ?hw ?hc
  case hw => w_witness2
  case hc =>
    refine DL.walk_law (l := PySem.Challenge.rw_fewfounders_k01_inverse_and_powers) (k := 7) (x := "script") (m := W.m_law) rfl (by kernel_rfl) ⟨rfl, by decide, by decide⟩ ?F W.law_true
    intro w mg fa h Y G hmg0
    obtain ⟨K, KX, c⟩ := Y
    have hmg : mg ("law" : PySem.Str) = some (.ref fa) := by
      have e : (HandSHeadRun.topDef (OpenLaw.row PySem.Challenge.rw_fewfounders_k01_inverse_and_powers).prog 72).name = ("law" : PySem.Str) := by kernel_rfl
      rw [← e]
      exact hmg0
    obtain ⟨fd, hb, hF⟩ := W.facts (P := (PySem.Challenge.rw_fewfounders_k01_inverse_and_powers).prog) (w := w) KX G hmg c
    exact ⟨K, fd, KX, hb, hF⟩
