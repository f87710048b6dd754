import PyProof.Rows.All
import Wide.All
import OpenK.AllK
import Wide.FinOn
import HandS.ForMost
import HandS.IsInst
import HandS.Gcd
import HandS.Wide
import HandS.Walk
import HandS.Flow
import HandS.NoneIn
import HandS.Defaults
import HandS.Exc
import HandS.ExcOwn
import HandS.WordsExc
import HandS.HeadHook1
import HandS.Style
import HandS.Flt
import KE.KStateDown
import HandS.Head0
import HandS.Head1
import HandS.Head2
import HandS.Head3
import HandS.HeadEnd
import HandS.HeadHook2
import HandS.EndBits
import HandS.SetFor
import KE.KIsAll
import KE.KExcIs
import HandS.ExcInit
import HandS.ExcField
import HandS.ExcIs
import HandS.Deep
import PySem.Challenge.RW_fewfounders_k06_changed_forms
set_option Elab.async false
set_option linter.all false
set_option maxRecDepth 100000
set_option maxHeartbeats 4000000
/-! DL: plain data over the hand layer. -/
namespace DL
open PySem PySem.Spec PyProof.Rows L2

/-- what a slot holds: nothing known, a value, a list of one's own, a list of one's own of such lists -/
inductive SC where
  | un | va (d : PyData) | ow (ds : List PyData) | oo (dss : List (List PyData))
abbrev Rho := List SC

section
variable {K : PySem.W.Frag} {F H F' H' F1 H1 F2 H2 B : Hp}
theorem sameT {a : Addr} {xs : List V} (e : Same F H) (h : SqT K F a xs) : SqT K H a xs := by
  rcases h with (h | ⟨o, h⟩) | h
  · exact .inl (.inl (e _ _ h))
  · exact .inl (.inr ⟨o, e _ _ h⟩)
  · exact .inr h
mutual
theorem dpMono (e : Same F H) : ∀ (d : PyData) (v : V), Dp K F v d → Dp K H v d
  | .none, _, h => by cases h; exact .non
  | .bool b, _, h => by cases h; exact .bl b
  | .int i, _, h => by cases h; exact .int i
  | .str x, _, h => by cases h; exact .str x
  | .list ds, _, h => by
    cases h with
    | lst a b => exact .lst (e.seq a) (dpMonoAll e ds _ b)
  | .tuple ds, _, h => by
    cases h with
    | tup a b => exact .tup (sameT e a) (dpMonoAll e ds _ b)
  | .dict _, _, h => by cases h
theorem dpMonoAll (e : Same F H) : ∀ (ds : List PyData) (vs : List V), DpAll K F vs ds → DpAll K H vs ds
  | [], _, h => by cases h; exact .nil
  | d :: ds, _, h => by
    cases h with
    | cons a b => exact .cons (dpMono e d _ a) (dpMonoAll e ds _ b)
end
theorem dpLen : ∀ {vs : List V} {ds : List PyData}, DpAll K H vs ds → vs.length = ds.length
  | _, _, .nil => rfl
  | _, _, .cons _ b => congrArg (· + 1) (dpLen b)
theorem dpGet : ∀ {vs : List V} {ds : List PyData} {i : Nat} {d : PyData}, DpAll K H vs ds → ds[i]? = some d → ∃ v, vs[i]? = some v ∧ Dp K H v d
  | _, _, _, _, .nil, e => by simp at e
  | _, _, 0, _, .cons a _, e => by
    simp at e
    subst e
    exact ⟨_, rfl, a⟩
  | _, _, i + 1, _, .cons _ b, e => by
    obtain ⟨v, h1, h2⟩ := dpGet (i := i) b (by simpa using e)
    exact ⟨v, by simpa using h1, h2⟩
theorem dpGetV : ∀ {vs : List V} {ds : List PyData} {i : Nat} {v : V}, DpAll K H vs ds → vs[i]? = some v → ∃ d, ds[i]? = some d ∧ Dp K H v d
  | _, _, _, _, .nil, e => by simp at e
  | _, _, 0, _, .cons a _, e => by
    simp at e
    subst e
    exact ⟨_, rfl, a⟩
  | _, _, i + 1, _, .cons _ b, e => by
    obtain ⟨v, h1, h2⟩ := dpGetV (i := i) b (by simpa using e)
    exact ⟨v, by simpa using h1, h2⟩
theorem dpApp : ∀ {vs ws : List V} {ds es : List PyData}, DpAll K H vs ds → DpAll K H ws es → DpAll K H (vs ++ ws) (ds ++ es)
  | _, _, _, _, .nil, b => b
  | _, _, _, _, .cons a r, b => .cons a (dpApp r b)
theorem dpTake : ∀ (n : Nat) {vs : List V} {ds : List PyData}, DpAll K H vs ds → DpAll K H (vs.take n) (ds.take n)
  | 0, _, _, _ => .nil
  | _ + 1, _, _, .nil => .nil
  | n + 1, _, _, .cons a r => .cons a (dpTake n r)
theorem dpDrop : ∀ (n : Nat) {vs : List V} {ds : List PyData}, DpAll K H vs ds → DpAll K H (vs.drop n) (ds.drop n)
  | 0, _, _, h => h
  | _ + 1, _, _, .nil => .nil
  | n + 1, _, _, .cons _ r => dpDrop n r
theorem dpSet : ∀ (i : Nat) {vs : List V} {ds : List PyData} {v : V} {d : PyData}, DpAll K H vs ds → Dp K H v d → DpAll K H (vs.set i v) (ds.set i d)
  | _, _, _, _, _, .nil, _ => .nil
  | 0, _, _, _, _, .cons _ r, h => .cons h r
  | i + 1, _, _, _, _, .cons a r, h => .cons a (dpSet i r h)

/-- F: what is known for good; H: what is tracked. Behind a stretch that makes new things alone -/
structure Grow (F H F' H' : Hp) : Prop where
  ff : Same F F'
  fh : Same F' H'
  hh : Same H H'
  nn : ∀ a o, H a = some o → F a = none → F' a = none
theorem Grow.refl (s : Same F H) : Grow F H F H := ⟨.refl F, s, .refl H, fun _ _ _ h => h⟩
theorem Grow.trans (a : Grow F H F1 H1) (b : Grow F1 H1 F2 H2) : Grow F H F2 H2 :=
  ⟨a.ff.trans b.ff, b.fh, a.hh.trans b.hh, fun c o h n => b.nn c o (a.hh c o h) (a.nn c o h n)⟩
theorem sameUpd {p : Addr} {o : HO} (h : H p = none) : Same H (upd H p o) := fun b x e => by
  rw [upd_ne (ne_of_none e h)]
  exact e
theorem sameUpd2 {p : Addr} {o : HO} (s : Same F H) : Same (upd F p o) (upd H p o) := fun b x e => by
  by_cases hb : b = p
  · subst hb
    rw [upd_same] at e ⊢
    exact e
  · rw [upd_ne hb] at e ⊢
    exact s b x e
theorem Grow.new {p : Addr} {o : HO} (s : Same F H) (h : H p = none) : Grow F H (upd F p o) (upd H p o) :=
  ⟨sameUpd (s.free h), sameUpd2 s, sameUpd h, fun a x e n => by rw [upd_ne (ne_of_none e h)]; exact n⟩
theorem Grow.side {p : Addr} {o : HO} (s : Same F H) (h : H p = none) : Grow F H F (upd H p o) :=
  ⟨.refl F, s.trans (sameUpd h), sameUpd h, fun _ _ _ n => n⟩
/-- a thing that is tracked, made since, is known for good from here on -/
theorem Grow.keep {p : Addr} {o : HO} (g : Grow F H F1 H1) (h : H p = none) (h1 : H1 p = some o) (f1 : F1 p = none) : Grow F H (upd F1 p o) H1 :=
  ⟨g.ff.trans (sameUpd f1), fun b x e => by
    by_cases hb : b = p
    · subst hb
      rw [upd_same] at e
      rw [h1]
      exact e
    · rw [upd_ne hb] at e
      exact g.fh b x e, g.hh, fun a x e n => by rw [upd_ne (ne_of_none e h)]; exact g.nn a x e n⟩

/-- what owns an address: a slot's list (none), its k-th inner list -/
def AtP (H : Hp) (σ : L2.St) (ρ : Rho) (i : Nat) (k : Option Nat) (a : Addr) : Prop := match k with
  | none => (∃ ds, ρ[i]? = some (.ow ds) ∧ σ[i]? = some (some (.ref a))) ∨ ∃ dss, ρ[i]? = some (.oo dss) ∧ σ[i]? = some (some (.ref a))
  | some k => ∃ (dss : List (List PyData)) (b : Addr) (as : List Addr), ρ[i]? = some (.oo dss) ∧ σ[i]? = some (some (.ref b)) ∧ H b = some (.lst (as.map V.ref)) ∧ as[k]? = some a
/-- the slots -/
structure ER (K : PySem.W.Frag) (B F H : Hp) (σ : L2.St) (ρ : Rho) : Prop where
  fh : Same F H
  len : σ.length = ρ.length
  va : ∀ (i : Nat) (d : PyData), ρ[i]? = some (.va d) → ∃ v, σ[i]? = some (some v) ∧ Dp K F v d
  ow : ∀ (i : Nat) (ds : List PyData), ρ[i]? = some (.ow ds) → ∃ (a : Addr) (vs : List V), σ[i]? = some (some (.ref a)) ∧ F a = none ∧ B a = none ∧ H a = some (.lst vs) ∧ DpAll K F vs ds
  oo : ∀ (i : Nat) (dss : List (List PyData)), ρ[i]? = some (.oo dss) → ∃ (a : Addr) (as : List Addr), σ[i]? = some (some (.ref a)) ∧ F a = none ∧ B a = none ∧ H a = some (.lst (as.map V.ref)) ∧ as.length = dss.length ∧
    ∀ (k : Nat) (b : Addr) (ds : List PyData), as[k]? = some b → dss[k]? = some ds → F b = none ∧ B b = none ∧ ∃ vs, H b = some (.lst vs) ∧ DpAll K F vs ds
  dj : ∀ (i j : Nat) (k l : Option Nat) (a : Addr), AtP H σ ρ i k a → AtP H σ ρ j l a → i = j ∧ k = l
theorem refs_inj : ∀ {as bs : List Addr}, as.map V.ref = bs.map V.ref → as = bs
  | [], [], _ => rfl
  | [], _ :: _, e => by cases e
  | _ :: _, [], e => by cases e
  | a :: as, b :: bs, e => by
    rw [List.map_cons, List.map_cons] at e
    injection e with e1 e2
    injection e1 with e1
    rw [e1, refs_inj e2]
theorem ER.at_ {σ : L2.St} {ρ : Rho} {i : Nat} {k : Option Nat} {a : Addr} (E : ER K B F H σ ρ) (p : AtP H σ ρ i k a) : F a = none ∧ B a = none ∧ ∃ vs, H a = some (.lst vs) := by
  cases k with
  | none =>
    rcases p with ⟨ds, h1, h2⟩ | ⟨dss, h1, h2⟩
    · obtain ⟨b, vs, q1, q2, q3, q4, _⟩ := E.ow i ds h1
      rw [h2] at q1
      cases q1
      exact ⟨q2, q3, vs, q4⟩
    · obtain ⟨b, as, q1, q2, q3, q4, _⟩ := E.oo i dss h1
      rw [h2] at q1
      cases q1
      exact ⟨q2, q3, _, q4⟩
  | some k =>
    obtain ⟨dss, b, as, h1, h2, h3, h4⟩ := p
    obtain ⟨b', as', q1, q2, q3, q4, q5, q6⟩ := E.oo i dss h1
    rw [h2] at q1
    cases q1
    rw [h3] at q4
    injection q4 with q4
    injection q4 with q4
    have := refs_inj q4
    subst this
    have hk : k < dss.length := by
      rw [← q5]
      by_cases c : k < as.length
      · exact c
      · rw [List.getElem?_eq_none (by omega)] at h4
        cases h4
    obtain ⟨r1, r2, vs, r3, _⟩ := q6 k a dss[k] h4 (List.getElem?_eq_getElem hk)
    exact ⟨r1, r2, vs, r3⟩
/-- places at a later heap are places at the earlier one -/
theorem AtP.back {σ : L2.St} {ρ : Rho} {i : Nat} {k : Option Nat} {a : Addr} (E : ER K B F H σ ρ) (hh : ∀ a o, B a = none → H a = some o → H' a = some o) (p : AtP H' σ ρ i k a) : AtP H σ ρ i k a := by
  cases k with
  | none => exact p
  | some k =>
    obtain ⟨dss, b, as, h1, h2, h3, h4⟩ := p
    obtain ⟨b', as', q1, q2, q3, q4, q5, q6⟩ := E.oo i dss h1
    rw [h2] at q1
    cases q1
    have q7 := hh _ _ q3 q4
    rw [h3] at q7
    injection q7 with q7
    injection q7 with q7
    have := refs_inj q7
    subst this
    exact ⟨dss, b, as, h1, h2, q4, h4⟩
theorem ER.grow {σ : L2.St} {ρ : Rho} (E : ER K B F H σ ρ) (g : Grow F H F' H') : ER K B F' H' σ ρ where
  fh := g.fh
  len := E.len
  va := fun i d e => by
    obtain ⟨v, h1, h2⟩ := E.va i d e
    exact ⟨v, h1, dpMono g.ff _ _ h2⟩
  ow := fun i ds e => by
    obtain ⟨a, vs, h1, h2, h3, h4, h5⟩ := E.ow i ds e
    exact ⟨a, vs, h1, g.nn _ _ h4 h2, h3, g.hh _ _ h4, dpMonoAll g.ff _ _ h5⟩
  oo := fun i dss e => by
    obtain ⟨a, as, h1, h2, h3, h4, h5, h6⟩ := E.oo i dss e
    refine ⟨a, as, h1, g.nn _ _ h4 h2, h3, g.hh _ _ h4, h5, fun k b ds e1 e2 => ?_⟩
    obtain ⟨r1, r2, vs, r3, r4⟩ := h6 k b ds e1 e2
    exact ⟨g.nn _ _ r3 r1, r2, vs, g.hh _ _ r3, dpMonoAll g.ff _ _ r4⟩
  dj := fun i j k l a p q => E.dj i j k l a (p.back E fun a o _ h => g.hh a o h) (q.back E fun a o _ h => g.hh a o h)
theorem setIn {ρ : Rho} {i : Nat} {x y : SC} (h : (ρ.set i x)[i]? = some y) : y = x := by
  by_cases hl : i < ρ.length
  · rw [List.getElem?_set_self hl] at h
    exact (Option.some.inj h).symm
  · rw [List.getElem?_eq_none (by simpa using hl)] at h
    cases h
/-- a slot that gets no list of one's own -/
theorem AtP.off {σ : L2.St} {ρ : Rho} {i j : Nat} {k : Option Nat} {a : Addr} {v : Option V} {x : SC} (h1 : ∀ ds, x ≠ .ow ds) (h2 : ∀ dss, x ≠ .oo dss) (p : AtP H (σ.set i v) (ρ.set i x) j k a) : AtP H σ ρ j k a ∧ j ≠ i := by
  have ne : j ≠ i := fun z => by
    subst z
    cases k with
    | none =>
      rcases p with ⟨ds, e, _⟩ | ⟨dss, e, _⟩
      · exact h1 ds (setIn e).symm
      · exact h2 dss (setIn e).symm
    | some k =>
      obtain ⟨dss, _, _, e, _⟩ := p
      exact h2 dss (setIn e).symm
  refine ⟨?_, ne⟩
  cases k with
  | none =>
    rcases p with ⟨ds, e, e2⟩ | ⟨dss, e, e2⟩
    · rw [List.getElem?_set_ne (Ne.symm ne)] at e e2
      exact .inl ⟨ds, e, e2⟩
    · rw [List.getElem?_set_ne (Ne.symm ne)] at e e2
      exact .inr ⟨dss, e, e2⟩
  | some k =>
    obtain ⟨dss, b, as, e, e2, e3, e4⟩ := p
    rw [List.getElem?_set_ne (Ne.symm ne)] at e e2
    exact ⟨dss, b, as, e, e2, e3, e4⟩
/-- the other slots -/
theorem AtP.ne {σ : L2.St} {ρ : Rho} {i j : Nat} {k : Option Nat} {a : Addr} {v : Option V} {x : SC} (hj : j ≠ i) (p : AtP H (σ.set i v) (ρ.set i x) j k a) : AtP H σ ρ j k a := by
  cases k with
  | none =>
    rcases p with ⟨ds, e, e2⟩ | ⟨dss, e, e2⟩
    · rw [List.getElem?_set_ne (Ne.symm hj)] at e e2
      exact .inl ⟨ds, e, e2⟩
    · rw [List.getElem?_set_ne (Ne.symm hj)] at e e2
      exact .inr ⟨dss, e, e2⟩
  | some k =>
    obtain ⟨dss, b, as, e, e2, e3, e4⟩ := p
    rw [List.getElem?_set_ne (Ne.symm hj)] at e e2
    exact ⟨dss, b, as, e, e2, e3, e4⟩
theorem ER.setFlat {σ : L2.St} {ρ : Rho} {i : Nat} {v : Option V} {x : SC} (E : ER K B F H σ ρ) (h1 : ∀ ds, x ≠ .ow ds) (h2 : ∀ dss, x ≠ .oo dss) (r : ∀ d, x = .va d → ∃ w, v = some w ∧ Dp K F w d) : ER K B F H (σ.set i v) (ρ.set i x) where
  fh := E.fh
  len := by rw [List.length_set, List.length_set]; exact E.len
  va := fun j e h => by
    by_cases hj : i = j
    · subst hj
      have := setIn h
      obtain ⟨w, e1, e2⟩ := r e this.symm
      have hl : i < ρ.length := by
        by_cases hl : i < ρ.length
        · exact hl
        · rw [List.getElem?_eq_none (by simpa using hl)] at h
          cases h
      rw [List.getElem?_set_self (by rw [E.len]; exact hl)]
      exact ⟨w, by rw [e1], e2⟩
    · rw [List.getElem?_set_ne hj] at h ⊢
      exact E.va j e h
  ow := fun j e h => by
    by_cases hj : i = j
    · subst hj
      exact absurd (setIn h).symm (h1 e)
    · rw [List.getElem?_set_ne hj] at h ⊢
      exact E.ow j e h
  oo := fun j e h => by
    by_cases hj : i = j
    · subst hj
      exact absurd (setIn h).symm (h2 e)
    · rw [List.getElem?_set_ne hj] at h ⊢
      exact E.oo j e h
  dj := fun i' j k l a p q => E.dj i' j k l a (p.off h1 h2).1 (q.off h1 h2).1
theorem ER.setVa {σ : L2.St} {ρ : Rho} {i : Nat} {v : V} {d : PyData} (E : ER K B F H σ ρ) (r : Dp K F v d) : ER K B F H (σ.set i (some v)) (ρ.set i (.va d)) :=
  E.setFlat (fun _ => nofun) (fun _ => nofun) fun d' e => ⟨v, rfl, by cases e; exact r⟩
/-- a slot gets a list of its own -/
theorem ER.setOw {σ : L2.St} {ρ : Rho} {i : Nat} {a : Addr} {vs : List V} {ds : List PyData} (E : ER K B F H σ ρ) (f : F a = none) (b : B a = none) (h : H a = some (.lst vs)) (r : DpAll K F vs ds)
    (no : ∀ (j : Nat) (k : Option Nat), j ≠ i → ¬ AtP H σ ρ j k a) : ER K B F H (σ.set i (some (.ref a))) (ρ.set i (.ow ds)) where
  fh := E.fh
  len := by rw [List.length_set, List.length_set]; exact E.len
  va := fun j e h => by
    by_cases hj : i = j
    · subst hj
      cases setIn h
    · rw [List.getElem?_set_ne hj] at h ⊢
      exact E.va j e h
  ow := fun j e q => by
    by_cases hj : i = j
    · subst hj
      have := setIn q
      cases this
      have hl : i < ρ.length := by
        by_cases hl : i < ρ.length
        · exact hl
        · rw [List.getElem?_eq_none (by simpa using hl)] at q
          cases q
      rw [List.getElem?_set_self (by rw [E.len]; exact hl)]
      exact ⟨a, vs, rfl, f, b, h, r⟩
    · rw [List.getElem?_set_ne hj] at q ⊢
      exact E.ow j e q
  oo := fun j e h => by
    by_cases hj : i = j
    · subst hj
      cases setIn h
    · rw [List.getElem?_set_ne hj] at h ⊢
      exact E.oo j e h
  dj := fun i' j k l c p q => by
    have at_i : ∀ {k c}, AtP H (σ.set i (some (.ref a))) (ρ.set i (.ow ds)) i k c → k = none ∧ c = a := by
      intro k c p
      have lt : ∀ {y}, (σ.set i (some (V.ref a)))[i]? = some (some y) → y = V.ref a := by
        intro y h
        by_cases hl : i < σ.length
        · rw [List.getElem?_set_self hl] at h
          exact (Option.some.inj (Option.some.inj h)).symm
        · rw [List.getElem?_eq_none (by simpa using hl)] at h
          cases h
      cases k with
      | none =>
        rcases p with ⟨_, _, e⟩ | ⟨_, e, _⟩
        · have := lt e
          injection this with this
          exact ⟨rfl, this⟩
        · cases setIn e
      | some k =>
        obtain ⟨_, _, _, e, _⟩ := p
        cases setIn e
    by_cases hi : i' = i
    · by_cases hj : j = i
      · subst hi hj
        exact ⟨rfl, (at_i p).1.trans (at_i q).1.symm⟩
      · subst hi
        obtain ⟨_, rfl⟩ := at_i p
        exact absurd (q.ne hj) (no j l hj)
    · by_cases hj : j = i
      · subst hj
        obtain ⟨_, rfl⟩ := at_i q
        exact absurd (p.ne hi) (no i' k hi)
      · exact E.dj i' j k l c (p.ne hi) (q.ne hj)
/-- F and what H holds at some addresses -/
def ext (F H : Hp) (S : List Addr) : Hp := fun x => if x ∈ S then H x else F x
theorem ext_same {S : List Addr} (h : ∀ x ∈ S, F x = none) : Same F (ext F H S) := fun x o e => by
  unfold ext
  rw [if_neg (fun z => by rw [h x z] at e; cases e)]
  exact e
theorem ext_sub {S : List Addr} (h : Same F H) : Same (ext F H S) H := fun x o e => by
  unfold ext at e
  split at e
  · exact e
  · exact h x o e
theorem ext_none {S : List Addr} {x : Addr} (h : x ∉ S) (n : F x = none) : ext F H S x = none := by
  unfold ext
  rw [if_neg h]
  exact n
theorem ext_in {S : List Addr} {x : Addr} (h : x ∈ S) : ext F H S x = H x := if_pos h
theorem dpRefs : ∀ {as : List Addr} {dss : List (List PyData)}, as.length = dss.length → (∀ (k : Nat) (b : Addr) (ds : List PyData), as[k]? = some b → dss[k]? = some ds → ∃ vs, F b = some (.lst vs) ∧ DpAll K F vs ds) → DpAll K F (as.map V.ref) (dss.map PyData.list)
  | [], [], _, _ => .nil
  | [], _ :: _, e, _ => by cases e
  | _ :: _, [], e, _ => by cases e
  | a :: as, ds :: dss, e, h => by
    obtain ⟨vs, h1, h2⟩ := h 0 a ds rfl rfl
    exact .cons (.lst (.inl (.inl h1)) h2) (dpRefs (by simpa using e) fun k b ds' e1 e2 => h (k + 1) b ds' (by simpa using e1) (by simpa using e2))
/-- own lists made known for good: those of the slots in S -/
def frz1 (ρ : Rho) (i : Nat) : Rho := match ρ[i]? with
  | some (SC.ow ds) => ρ.set i (SC.va (PyData.list ds))
  | some (SC.oo dss) => ρ.set i (SC.va (PyData.list (dss.map PyData.list)))
  | _ => ρ
def frz (S : List Nat) (ρ : Rho) : Rho := S.foldl frz1 ρ
theorem setSelf' {α : Type} : ∀ {l : List α} {i : Nat} {x : α}, l[i]? = some x → l.set i x = l
  | [], _, _, e => by simp at e
  | y :: l, 0, x, e => by simp at e; rw [e]; rfl
  | y :: l, i + 1, x, e => by
    show y :: l.set i x = y :: l
    rw [setSelf' (l := l) (i := i) (by simpa using e)]
/-- what is owned by one slot is known for good from here on -/
theorem ER.give {σ : L2.St} {ρ : Rho} {i : Nat} {v : V} {d : PyData} {S : List Addr} (E : ER K B F H σ ρ) (hv : σ[i]? = some (some v)) (hS : ∀ x ∈ S, ∃ k, AtP H σ ρ i k x) (hd : Dp K (ext F H S) v d) :
    Same F (ext F H S) ∧ ER K B (ext F H S) H σ (ρ.set i (.va d)) ∧ ∀ a o, B a = some o → F a = none → ext F H S a = none := by
  have sn : ∀ x ∈ S, F x = none ∧ B x = none := fun x hx => by
    obtain ⟨k, p⟩ := hS x hx
    obtain ⟨h1, h2, _⟩ := E.at_ p
    exact ⟨h1, h2⟩
  have sf : Same F (ext F H S) := ext_same fun x hx => (sn x hx).1
  have out : ∀ {j k c}, j ≠ i → AtP H σ ρ j k c → c ∉ S := fun hj p hc => by
    obtain ⟨k', p'⟩ := hS _ hc
    exact hj (E.dj _ _ _ _ _ p p').1
  have hb : ∀ (j : Nat) (dss : List (List PyData)) (a : Addr) (as : List Addr), j ≠ i → ρ[j]? = some (.oo dss) → σ[j]? = some (some (.ref a)) → H a = some (.lst (as.map V.ref)) → ∀ k b, as[k]? = some b → b ∉ S := fun j dss a as hj h1 h2 h3 k b h4 => out hj (k := some k) ⟨dss, a, as, h1, h2, h3, h4⟩
  refine ⟨sf, ⟨ext_sub E.fh, by rw [List.length_set]; exact E.len, fun j e h => ?_, fun j e h => ?_, fun j e h => ?_, fun i' j k l c p q => ?_⟩, fun a o h n => ext_none (fun z => by rw [(sn a z).2] at h; cases h) n⟩
  · by_cases hj : i = j
    · subst hj
      cases setIn h
      exact ⟨v, hv, hd⟩
    · rw [List.getElem?_set_ne hj] at h
      obtain ⟨w, q1, q2⟩ := E.va j e h
      exact ⟨w, q1, dpMono sf _ _ q2⟩
  · by_cases hj : i = j
    · subst hj
      cases setIn h
    · rw [List.getElem?_set_ne hj] at h
      obtain ⟨a, vs, q1, q2, q3, q4, q5⟩ := E.ow j e h
      exact ⟨a, vs, q1, ext_none (out (Ne.symm hj) (k := none) (.inl ⟨e, h, q1⟩)) q2, q3, q4, dpMonoAll sf _ _ q5⟩
  · by_cases hj : i = j
    · subst hj
      cases setIn h
    · rw [List.getElem?_set_ne hj] at h
      obtain ⟨a, as, q1, q2, q3, q4, q5, q6⟩ := E.oo j e h
      refine ⟨a, as, q1, ext_none (out (Ne.symm hj) (k := none) (.inr ⟨e, h, q1⟩)) q2, q3, q4, q5, fun k b ds e1 e2 => ?_⟩
      obtain ⟨r1, r2, vs, r3, r4⟩ := q6 k b ds e1 e2
      exact ⟨ext_none (hb j e a as (Ne.symm hj) h q1 q4 k b e1) r1, r2, vs, r3, dpMonoAll sf _ _ r4⟩
  · have e1 : σ.set i (some v) = σ := setSelf' hv
    rw [← e1] at p q
    exact E.dj i' j k l c (AtP.off (x := .va d) (fun _ => nofun) (fun _ => nofun) p).1 (AtP.off (x := .va d) (fun _ => nofun) (fun _ => nofun) q).1
theorem ER.frz1 {σ : L2.St} {ρ : Rho} (i : Nat) (E : ER K B F H σ ρ) : ∃ F', Same F F' ∧ ER K B F' H σ (DL.frz1 ρ i) ∧ ∀ a o, B a = some o → F a = none → F' a = none := by
  unfold DL.frz1
  split
  · rename_i ds e
    obtain ⟨a, vs, h1, h2, h3, h4, h5⟩ := E.ow i ds e
    have hS : ∀ x ∈ [a], ∃ k, AtP H σ ρ i k x := fun x hx => ⟨none, by rw [List.mem_singleton.mp hx]; exact .inl ⟨ds, e, h1⟩⟩
    have sf : Same F (ext F H [a]) := ext_same fun x hx => by rw [List.mem_singleton.mp hx]; exact h2
    obtain ⟨s1, s2, s3⟩ := E.give (d := .list ds) h1 hS (.lst (.inl (.inl (by rw [ext_in (by simp)]; exact h4))) (dpMonoAll sf _ _ h5))
    exact ⟨_, s1, s2, s3⟩
  · rename_i dss e
    obtain ⟨a, as, h1, h2, h3, h4, h5, h6⟩ := E.oo i dss e
    have inner : ∀ x ∈ as, ∃ k : Nat, as[k]? = some x := fun x hx => by
      obtain ⟨k, hk, rfl⟩ := List.getElem_of_mem hx
      exact ⟨k, List.getElem?_eq_getElem hk⟩
    have hS : ∀ x ∈ a :: as, ∃ k, AtP H σ ρ i k x := fun x hx => by
      rcases List.mem_cons.mp hx with rfl | hx
      · exact ⟨none, .inr ⟨dss, e, h1⟩⟩
      · obtain ⟨k, hk⟩ := inner x hx
        exact ⟨some k, dss, a, as, e, h1, h4, hk⟩
    have sf : Same F (ext F H (a :: as)) := ext_same fun x hx => by
      obtain ⟨k, p⟩ := hS x hx
      exact (E.at_ p).1
    obtain ⟨s1, s2, s3⟩ := E.give (d := .list (dss.map PyData.list)) h1 hS (.lst (.inl (.inl (by rw [ext_in (by simp)]; exact h4))) (dpRefs h5 fun k b ds e1 e2 => by
      obtain ⟨r1, r2, vs, r3, r4⟩ := h6 k b ds e1 e2
      exact ⟨vs, by rw [ext_in (List.mem_cons_of_mem _ (List.mem_of_getElem? e1))]; exact r3, dpMonoAll sf _ _ r4⟩))
    exact ⟨_, s1, s2, s3⟩
  · exact ⟨F, .refl F, E, fun _ _ _ n => n⟩
theorem ER.frz {σ : L2.St} : ∀ (S : List Nat) {F : Hp} {ρ : Rho}, ER K B F H σ ρ → ∃ F', Same F F' ∧ ER K B F' H σ (DL.frz S ρ) ∧ ∀ a o, B a = some o → F a = none → F' a = none
  | [], F, ρ, E => ⟨F, .refl F, E, fun _ _ _ n => n⟩
  | i :: S, F, ρ, E => by
    unfold DL.frz
    rw [List.foldl_cons]
    obtain ⟨F1, s1, E1, n1⟩ := E.frz1 i
    obtain ⟨F2, s2, E2, n2⟩ := ER.frz S E1
    exact ⟨F2, s1.trans s2, E2, fun a o h n => n2 a o h (n1 a o h n)⟩
theorem ER.start {vs : List V} {ds : List PyData} {n : Nat} (s : Same F H) (h : DpAll K F vs ds) : ER K B F H (vs.map some ++ List.replicate n none) (ds.map SC.va ++ List.replicate n SC.un) where
  fh := s
  len := by simp [dpLen h]
  va := fun i d e => by
    by_cases hi : i < ds.length
    · rw [List.getElem?_append_left (by simpa using hi), List.getElem?_map] at e
      cases q : ds[i]? with
      | none => rw [q] at e; cases e
      | some d' =>
        rw [q] at e
        cases e
        obtain ⟨v, h1, h2⟩ := dpGet h q
        refine ⟨v, ?_, h2⟩
        rw [List.getElem?_append_left (by rw [List.length_map, dpLen h]; exact hi), List.getElem?_map, h1]
        rfl
    · rw [List.getElem?_append_right (by simpa using hi), List.getElem?_replicate] at e
      split at e <;> cases e
  ow := fun i d e => by
    by_cases hi : i < ds.length
    · rw [List.getElem?_append_left (by simpa using hi), List.getElem?_map] at e
      cases q : ds[i]? with
      | none => rw [q] at e; cases e
      | some d' => rw [q] at e; cases e
    · rw [List.getElem?_append_right (by simpa using hi), List.getElem?_replicate] at e
      split at e <;> cases e
  oo := fun i d e => by
    by_cases hi : i < ds.length
    · rw [List.getElem?_append_left (by simpa using hi), List.getElem?_map] at e
      cases q : ds[i]? with
      | none => rw [q] at e; cases e
      | some d' => rw [q] at e; cases e
    · rw [List.getElem?_append_right (by simpa using hi), List.getElem?_replicate] at e
      split at e <;> cases e
  dj := fun i j k l a p => by
    have no : ∀ x, (ds.map SC.va ++ List.replicate n SC.un)[i]? = some x → (∀ ds, x ≠ .ow ds) ∧ ∀ dss, x ≠ .oo dss := fun x e => by
      by_cases hi : i < ds.length
      · rw [List.getElem?_append_left (by simpa using hi), List.getElem?_map] at e
        cases q : ds[i]? with
        | none => rw [q] at e; cases e
        | some d' => rw [q] at e; cases e; exact ⟨fun _ => nofun, fun _ => nofun⟩
      · rw [List.getElem?_append_right (by simpa using hi), List.getElem?_replicate] at e
        split at e <;> cases e
        exact ⟨fun _ => nofun, fun _ => nofun⟩
    cases k with
    | none =>
      rcases p with ⟨d, e, _⟩ | ⟨d, e, _⟩
      · exact absurd rfl ((no _ e).1 d)
      · exact absurd rfl ((no _ e).2 d)
    | some k =>
      obtain ⟨d, _, _, e, _⟩ := p
      exact absurd rfl ((no _ e).2 d)
end
end DL

set_option Elab.async false
set_option linter.all false
set_option maxRecDepth 100000
set_option maxHeartbeats 4000000
namespace DL
open PySem PySem.Spec PyProof.Rows L2
/-! ### judgements -/
abbrev EV := Rho → Option PyData
abbrev EA := Rho → Option (List PyData)
abbrev EB := Rho → Option Bool
def tD (K : PySem.W.Frag) (f : EV) : TE := fun σ H Q => ∃ B F ρ d, ER K B F H σ ρ ∧ f ρ = some d ∧ ∀ v F' H', Grow F H F' H' → Dp K F' v d → Q v H'
def tF (K : PySem.W.Frag) (f : EA) : TE := fun σ H Q => ∃ B F ρ ds, ER K B F H σ ρ ∧ f ρ = some ds ∧
  ∀ (a : Addr) (vs : List V) F' H', Grow F H F' H' → H a = none → F' a = none → H' a = some (.lst vs) → DpAll K F' vs ds → Q (.ref a) H'
def tT (K : PySem.W.Frag) (f : EB) : TT := fun σ H Q => ∃ B F ρ b, ER K B F H σ ρ ∧ f ρ = some b ∧ ∀ F' H', Grow F H F' H' → Q b H'
def tA (K : PySem.W.Frag) (f : EA) : TA := fun σ H Q => ∃ B F ρ ds, ER K B F H σ ρ ∧ f ρ = some ds ∧ ∀ vs F' H', Grow F H F' H' → DpAll K F' vs ds → Q vs H'
def DV (X : Cx) (e : Expr) (f : EV) : Prop := PE X e (tD X.K f)
/-- a new list -/
def DF (X : Cx) (e : Expr) (f : EA) : Prop := PE X e (tF X.K f)
def DT (X : Cx) (e : Expr) (f : EB) : Prop := PT X e (tT X.K f)
def DW (X : Cx) (e : Expr) (f : EB) : Prop := PW X e (tT X.K f)
structure DA (X : Cx) (es : List Expr) (f : EA) : Prop where
  pa : PA X es (tA X.K f)
  len : ∀ ρ ds, f ρ = some ds → ds.length = es.length
theorem peMono {X : Cx} {e : Expr} {t t' : TE} (h : PE X e t) (k : ∀ σ H Q, t' σ H Q → t σ H Q) : PE X e t' := ⟨fun pins s σ H Q I q => h.run pins s σ H Q I (k _ _ _ q)⟩
theorem ptMono {X : Cx} {e : Expr} {t t' : TT} (h : PT X e t) (k : ∀ σ H Q, t' σ H Q → t σ H Q) : PT X e t' := ⟨fun pins s σ H Q I q => h.run pins s σ H Q I (k _ _ _ q)⟩
theorem pwMono {X : Cx} {e : Expr} {t t' : TT} (h : PW X e t) (k : ∀ σ H Q, t' σ H Q → t σ H Q) : PW X e t' := ⟨fun w pins s σ H Q I q => h.run w pins s σ H Q I (k _ _ _ q)⟩
theorem paMono {X : Cx} {e : List Expr} {t t' : TA} (h : PA X e t) (k : ∀ σ H Q, t' σ H Q → t σ H Q) : PA X e t' := ⟨fun p pins s σ H Q I q => h.run p pins s σ H Q I (k _ _ _ q)⟩
theorem opMono {X : Cx} {f : Value → Value → Sem Value} {r r' : R2} (h : OpR X f r) (k : ∀ x y H Q, r' x y H Q → r x y H Q) : OpR X f r' := fun pins s σ H x y v u Q I rx ry q => h pins s σ H x y v u Q I rx ry (k _ _ _ _ q)
theorem ixMono {X : Cx} {r r' : R2} (h : IxR X r) (k : ∀ x y H Q, r' x y H Q → r x y H Q) : IxR X r' := fun a b pins s σ H x y v u Q I rx ry q hs => h a b pins s σ H x y v u Q I rx ry (k _ _ _ _ q) hs
theorem unMono {X : Cx} {f : Value → Sem Value} {r r' : V → Hp → VK → Prop} (h : UnR X f r) (k : ∀ x H Q, r' x H Q → r x H Q) : UnR X f r' := fun pins s σ H x v Q I rx q => h pins s σ H x v Q I rx (k _ _ _ q)
theorem clMono {X : Cx} {f : Value} {r r' : List V → Hp → VK → Prop} (h : CallR X f r) (k : ∀ xs H Q, r' xs H Q → r xs H Q) : CallR X f r' := fun pins s σ H x v Q I rx q => h pins s σ H x v Q I rx (k _ _ _ q)
/-- operators over data -/
def rG (K : PySem.W.Frag) (g : PyData → PyData → Option PyData) : R2 := fun x y H Q => ∃ F dx dy d, Same F H ∧ Dp K F x dx ∧ Dp K F y dy ∧ g dx dy = some d ∧ ∀ v F' H', Grow F H F' H' → Dp K F' v d → Q v H'
def rG1 (K : PySem.W.Frag) (g : PyData → Option PyData) : V → Hp → VK → Prop := fun x H Q => ∃ F dx d, Same F H ∧ Dp K F x dx ∧ g dx = some d ∧ ∀ v F' H', Grow F H F' H' → Dp K F' v d → Q v H'
def rGA (K : PySem.W.Frag) (g : List PyData → Option PyData) : List V → Hp → VK → Prop := fun xs H Q => ∃ F ds d, Same F H ∧ DpAll K F xs ds ∧ g ds = some d ∧ ∀ v F' H', Grow F H F' H' → Dp K F' v d → Q v H'
/-- calls that hand back a new list -/
def rGF (K : PySem.W.Frag) (g : List PyData → Option (List PyData)) : List V → Hp → VK → Prop := fun xs H Q => ∃ F ds d, Same F H ∧ DpAll K F xs ds ∧ g ds = some d ∧
  ∀ (a : Addr) (vs : List V) F' H', Grow F H F' H' → H a = none → F' a = none → H' a = some (.lst vs) → DpAll K F' vs d → Q (.ref a) H'

/-! ### meanings -/
def eVar (i : Nat) : EV := fun ρ => match ρ[i]? with
  | some (SC.va d) => some d
  | _ => none
def eC (d : PyData) : EV := fun _ => some d
def eBin (g : PyData → PyData → Option PyData) (f1 f2 : EV) : EV := fun ρ => (f1 ρ).bind fun x => (f2 ρ).bind fun y => g x y
def eUn (g : PyData → Option PyData) (f : EV) : EV := fun ρ => (f ρ).bind g
def eOfF (f : EA) : EV := fun ρ => (f ρ).map PyData.list
def aNil : EA := fun _ => some []
def aCons (f : EV) (g : EA) : EA := fun ρ => (f ρ).bind fun x => (g ρ).bind fun xs => some (x :: xs)
def eAll (g : List PyData → Option PyData) (f : EA) : EV := fun ρ => (f ρ).bind g
def fAll (g : List PyData → Option (List PyData)) (f : EA) : EA := fun ρ => (f ρ).bind g
def eTup (f : EA) : EV := fun ρ => (f ρ).map PyData.tuple
def blOf : PyData → Option Bool
  | .bool b => some b
  | _ => none
def eAnd (f g : EV) : EV := fun ρ => (f ρ).bind fun x => (blOf x).bind fun b => if b then g ρ else some (.bool false)
def eOr (f g : EV) : EV := fun ρ => (f ρ).bind fun x => (blOf x).bind fun b => if b then some (.bool true) else g ρ
def gNot : PyData → Option PyData
  | .bool b => some (.bool !b)
  | _ => none
def bVal (f : EV) : EB := fun ρ => (f ρ).bind blOf
def bAnd (f g : EB) : EB := fun ρ => (f ρ).bind fun b => if b then g ρ else some false
def bOr (f g : EB) : EB := fun ρ => (f ρ).bind fun b => if b then some true else g ρ
def bNot (f : EB) : EB := fun ρ => (f ρ).bind fun b => some !b
def eIf (c : EB) (f g : EV) : EV := fun ρ => (c ρ).bind fun b => if b then f ρ else g ρ
/-- a scalar -/
def flat : PyData → Bool
  | .none => true | .bool _ => true | .int _ => true | .str _ => true
  | _ => false
/-- own lists lent while e is worked out: its value is a scalar -/
def eLend (S : List Nat) (f : EV) : EV := fun ρ => (f (frz S ρ)).bind fun d => if flat d then some d else none
/-- the item of an own list -/
def gIx : PyData → PyData → Option PyData
  | .list xs, .int i => atI xs i
  | .tuple xs, .int i => atI xs i
  | _, _ => none
def eIxO (i : Nat) (f : EV) : EV := fun ρ => match ρ[i]? with
  | some (SC.ow ds) => (f ρ).bind fun x => gIx (.list ds) x
  | _ => none

section
variable {X : Cx} {a b c e : Expr} {es : List Expr} {f g f1 f2 : EV} {h : EA} {cb cb' : EB} {pos : Pos}
theorem dv_var {i : Nat} {x : Str} {pos : Pos} (h : PE X (.Name x pos) (tVar i)) : DV X (.Name x pos) (eVar i) := peMono h fun σ H Q ⟨B, F, ρ, d, E, e, q⟩ => by
  unfold eVar at e
  split at e
  · rename_i d' h'
    cases e
    obtain ⟨v, h1, h2⟩ := E.va i d h'
    exact ⟨v, h1, q v F H (.refl E.fh) h2⟩
  · cases e
theorem dv_int {i : Int} {j} : DV X (.Constant (.int i) j pos) (eC (.int i)) := peMono pe_int fun σ H Q ⟨B, F, ρ, d, E, e, q⟩ => by
  cases e
  exact q _ F H (.refl E.fh) (.int i)
theorem dv_bl {i : Bool} {j} : DV X (.Constant (.bool i) j pos) (eC (.bool i)) := peMono pe_bl fun σ H Q ⟨B, F, ρ, d, E, e, q⟩ => by
  cases e
  exact q _ F H (.refl E.fh) (.bl i)
theorem dv_non {j} : DV X (.Constant .none j pos) (eC .none) := peMono pe_non fun σ H Q ⟨B, F, ρ, d, E, e, q⟩ => by
  cases e
  exact q _ F H (.refl E.fh) .non
theorem dv_str {x : Str} {j} : DV X (.Constant (.str x) j pos) (eC (.str x)) := peMono pe_str fun σ H Q ⟨B, F, ρ, d, E, e, q⟩ => by
  cases e
  exact q _ F H (.refl E.fh) (.str x)
theorem bind_some {α β : Type} {o : Option α} {f : α → Option β} {y : β} (e : o.bind f = some y) : ∃ x, o = some x ∧ f x = some y := by
  cases o with
  | none => cases e
  | some x => exact ⟨x, rfl, e⟩
theorem tBin {g : PyData → PyData → Option PyData} {σ : L2.St} {H : Hp} {Q : VK} {K : PySem.W.Frag} (h : tD K (eBin g f1 f2) σ H Q) : tOp (rG K g) (tD K f1) (tD K f2) σ H Q := by
  obtain ⟨B, F, ρ, d, E, e, q⟩ := h
  obtain ⟨dx, e1, e⟩ := bind_some e
  obtain ⟨dy, e2, e⟩ := bind_some e
  exact ⟨B, F, ρ, dx, E, e1, fun x F1 H1 G1 r1 => ⟨B, F1, ρ, dy, E.grow G1, e2, fun y F2 H2 G2 r2 => ⟨F2, dx, dy, d, G2.fh, dpMono G2.ff _ _ r1, r2, e, fun v F' H' G3 r3 => q v F' H' (G1.trans (G2.trans G3)) r3⟩⟩⟩
theorem dv_bin {op : Operator} {g : PyData → PyData → Option PyData} (ho : OpR X (binaryOp op) (rG X.K g)) (ha : DV X a f1) (hb : DV X b f2) : DV X (.BinOp a op b pos) (eBin g f1 f2) :=
  peMono (pe_op ho ha hb) fun _ _ _ q => tBin q
theorem dv_cmp {op : CmpOp} {g : PyData → PyData → Option PyData} (ho : OpR X (compareOp op) (rG X.K g)) (ha : DV X a f1) (hb : DV X b f2) (hm : behindInMarks op b = false := by first | exact nomark _ | rfl) : DV X (.Compare a [op] [b] pos) (eBin g f1 f2) :=
  peMono (pe_cmpR ho ha hb hm) fun _ _ _ q => tBin q
theorem dt_cmp {op : CmpOp} {g : PyData → PyData → Option PyData} (ho : OpR X (compareOp op) (rG X.K g)) (ha : DV X a f1) (hb : DV X b f2) (hm : behindInMarks op b = false := by first | exact nomark _ | rfl) : DT X (.Compare a [op] [b] pos) (bVal (eBin g f1 f2)) :=
  ptMono (pt_cmpR ho ha hb hm) fun σ H Q ⟨B, F, ρ, b, E, e, q⟩ => by
    obtain ⟨d, e1, e2⟩ := bind_some e
    refine tBin ⟨B, F, ρ, d, E, e1, fun v F' H' G r => ?_⟩
    cases d with
    | bool k =>
      cases e2
      cases r
      exact ⟨_, rfl, q F' H' G⟩
    | _ => cases e2
theorem dv_un {op : UnaryOp} {g : PyData → Option PyData} (ho : UnR X (unaryOp op) (rG1 X.K g)) (ha : DV X a f) : DV X (.UnaryOp op a pos) (eUn g f) :=
  peMono (pe_un ho ha) fun σ H Q ⟨B, F, ρ, d, E, e, q⟩ => by
    obtain ⟨dx, e1, e⟩ := bind_some e
    exact ⟨B, F, ρ, dx, E, e1, fun x F1 H1 G1 r1 => ⟨F1, dx, d, G1.fh, r1, e, fun v F' H' G3 r3 => q v F' H' (G1.trans G3) r3⟩⟩
theorem dv_ix {g : PyData → PyData → Option PyData} (ho : IxR X (rG X.K g)) (ha : DV X a f1) (hb : DV X b f2) (hs : PlainIx b := by exact fun _ _ => rfl) : DV X (.Subscript a b pos) (eBin g f1 f2) :=
  peMono (pe_ix ho ha hb hs) fun _ _ _ q => tBin q
theorem dv_ofF (hf : DF X e h) : DV X e (eOfF h) := peMono hf fun σ H Q ⟨B, F, ρ, d, E, e, q⟩ => by
  obtain ⟨ds, e1, e2⟩ := Option.map_eq_some_iff.mp e
  subst e2
  refine ⟨B, F, ρ, ds, E, e1, fun a vs F' H' G h1 h2 h3 h4 => q _ (upd F' a (.lst vs)) H' (G.keep h1 h3 h2) (.lst (.inl (.inl upd_same)) (dpMonoAll (sameUpd h2) _ _ h4))⟩
theorem da_nil : DA X [] aNil := ⟨paMono pa_nil fun σ H Q ⟨B, F, ρ, ds, E, e, q⟩ => by
  cases e
  exact q _ F H (.refl E.fh) .nil, fun ρ ds e => by cases e; rfl⟩
theorem da_cons (ha : DV X e f) (hr : DA X es h) (hs : starEach (e :: es) X.env = (false, eval e X.env) :: starEach es X.env := by rfl) : DA X (e :: es) (aCons f h) := ⟨paMono (pa_cons ha hr.pa hs) fun σ H Q ⟨B, F, ρ, ds, E, e, q⟩ => by
  obtain ⟨dx, e1, e⟩ := bind_some e
  obtain ⟨dr, e2, e⟩ := bind_some e
  cases e
  exact ⟨B, F, ρ, dx, E, e1, fun x F1 H1 G1 r1 => ⟨B, F1, ρ, dr, E.grow G1, e2, fun xs F2 H2 G2 r2 => q _ F2 H2 (G1.trans G2) (.cons (dpMono G2.ff _ _ r1) r2)⟩⟩, fun ρ ds e => by
  obtain ⟨dx, e1, e⟩ := bind_some e
  obtain ⟨dr, e2, e⟩ := bind_some e
  cases e
  exact congrArg (· + 1) (hr.len ρ dr e2)⟩
theorem dv_tup {x1} (ha : DA X es h) (hz : es.length ≤ sizeLine := by decide) : DV X (.Tuple es x1 pos) (eTup h) := peMono (pe_tup ha.pa) fun σ H Q ⟨B, F, ρ, d, E, e, q⟩ => by
  obtain ⟨ds, e1, e2⟩ := Option.map_eq_some_iff.mp e
  subst e2
  refine ⟨B, F, ρ, ds, E, e1, fun vs F' H' G r => ⟨by rw [dpLen r, ha.len ρ ds e1]; exact hz, fun p np => ?_⟩⟩
  have s1 : Same F' (upd F' p (.tup vs)) := sameUpd (G.fh.free np)
  exact q _ _ _ (G.trans (.new G.fh np)) (.tup (.inl (.inl upd_same)) (dpMonoAll s1 _ _ r))
theorem df_lst (ha : DA X es h) (hz : es.length ≤ sizeLine := by decide) : DF X (.List es pos) h := peMono (pe_lst ha.pa) fun σ H Q ⟨B, F, ρ, ds, E, e1, q⟩ => by
  refine ⟨B, F, ρ, ds, E, e1, fun vs F' H' G r => ⟨by rw [dpLen r, ha.len ρ ds e1]; exact hz, fun p np => ?_⟩⟩
  have hn : H p = none := G.hh.free np
  exact q p vs F' _ (G.trans (.side G.fh np)) hn (G.fh.free np) upd_same r
theorem dv_and {rest : List Expr} (ha : DV X a f) (hb : DV X (.BoolOp .And (b :: rest) pos) g) : DV X (.BoolOp .And (a :: b :: rest) pos) (eAnd f g) := peMono (pe_and ha hb) fun σ H Q ⟨B, F, ρ, d, E, e, q⟩ => by
  obtain ⟨dx, e1, e⟩ := bind_some e
  refine ⟨B, F, ρ, dx, E, e1, fun x F1 H1 G1 r1 => ?_⟩
  cases dx with
  | bool k =>
    cases r1
    refine ⟨k, rfl, ?_⟩
    cases k with
    | true => exact ⟨B, F1, ρ, d, E.grow G1, e, fun v F2 H2 G2 r2 => q v F2 H2 (G1.trans G2) r2⟩
    | false =>
      cases e
      exact q _ F1 H1 G1 (.bl false)
  | _ => cases e
theorem dv_or {rest : List Expr} (ha : DV X a f) (hb : DV X (.BoolOp .Or (b :: rest) pos) g) : DV X (.BoolOp .Or (a :: b :: rest) pos) (eOr f g) := peMono (pe_or ha hb) fun σ H Q ⟨B, F, ρ, d, E, e, q⟩ => by
  obtain ⟨dx, e1, e⟩ := bind_some e
  refine ⟨B, F, ρ, dx, E, e1, fun x F1 H1 G1 r1 => ?_⟩
  cases dx with
  | bool k =>
    cases r1
    refine ⟨k, rfl, ?_⟩
    cases k with
    | false => exact ⟨B, F1, ρ, d, E.grow G1, e, fun v F2 H2 G2 r2 => q v F2 H2 (G1.trans G2) r2⟩
    | true =>
      cases e
      exact q _ F1 H1 G1 (.bl true)
  | _ => cases e
theorem dv_one {op} (ha : DV X a f) : DV X (.BoolOp op [a] pos) f := pe_one ha
theorem dv_not (ha : DV X a f) : DV X (.UnaryOp .Not a pos) (eUn gNot f) := peMono (pe_not ha) fun σ H Q ⟨B, F, ρ, d, E, e, q⟩ => by
  obtain ⟨dx, e1, e⟩ := bind_some e
  refine ⟨B, F, ρ, dx, E, e1, fun x F1 H1 G1 r1 => ?_⟩
  cases dx with
  | bool k =>
    cases r1
    cases e
    exact ⟨k, rfl, q _ F1 H1 G1 (.bl _)⟩
  | _ => cases e
theorem dt_val (h : DV X e f) (he : ∀ whole, isTrue e X.env whole = (do let v ← whole; standAt e.pos; holding [v] (truthy v)) := by intro _; rfl) : DT X e (bVal f) := ptMono (pt_val h he) fun σ H Q ⟨B, F, ρ, b, E, e, q⟩ => by
  obtain ⟨d, e1, e2⟩ := bind_some e
  refine ⟨B, F, ρ, d, E, e1, fun v F' H' G r => ?_⟩
  cases d with
  | bool k =>
    cases e2
    cases r
    exact ⟨_, rfl, q F' H' G⟩
  | _ => cases e2
theorem dt_w (h : DW X e cb) : DT X e cb := PW.pt h
theorem dw_and1 (ha : DT X a cb) : DW X (.BoolOp .And [a] pos) cb := pw_and1 ha
theorem dw_or1 (ha : DT X a cb) : DW X (.BoolOp .Or [a] pos) cb := pw_or1 ha
theorem dw_and {rest : List Expr} (ha : DT X a cb) (hb : DW X (.BoolOp .And (b :: rest) pos) cb') : DW X (.BoolOp .And (a :: b :: rest) pos) (bAnd cb cb') := pwMono (pw_and ha hb) fun σ H Q ⟨B, F, ρ, k, E, e, q⟩ => by
  obtain ⟨k1, e1, e⟩ := bind_some e
  refine ⟨B, F, ρ, k1, E, e1, fun F1 H1 G1 => ?_⟩
  cases k1 with
  | true =>
    rw [if_pos rfl] at e ⊢
    exact ⟨B, F1, ρ, k, E.grow G1, e, fun F2 H2 G2 => q F2 H2 (G1.trans G2)⟩
  | false =>
    rw [if_neg (by simp)] at e ⊢
    cases e
    exact q F1 H1 G1
theorem dw_or {rest : List Expr} (ha : DT X a cb) (hb : DW X (.BoolOp .Or (b :: rest) pos) cb') : DW X (.BoolOp .Or (a :: b :: rest) pos) (bOr cb cb') := pwMono (pw_or ha hb) fun σ H Q ⟨B, F, ρ, k, E, e, q⟩ => by
  obtain ⟨k1, e1, e⟩ := bind_some e
  refine ⟨B, F, ρ, k1, E, e1, fun F1 H1 G1 => ?_⟩
  cases k1 with
  | false =>
    rw [if_neg (by simp)] at e ⊢
    exact ⟨B, F1, ρ, k, E.grow G1, e, fun F2 H2 G2 => q F2 H2 (G1.trans G2)⟩
  | true =>
    rw [if_pos rfl] at e ⊢
    cases e
    exact q F1 H1 G1
theorem dt_not (ha : DT X a cb) : DT X (.UnaryOp .Not a pos) (bNot cb) := ptMono (pt_not ha) fun σ H Q ⟨B, F, ρ, k, E, e, q⟩ => by
  obtain ⟨k1, e1, e⟩ := bind_some e
  cases e
  exact ⟨B, F, ρ, k1, E, e1, fun F1 H1 G1 => q F1 H1 G1⟩
theorem dv_if (hc : DT X c cb) (ha : DV X a f1) (hb : DV X b f2) : DV X (.IfExp c a b pos) (eIf cb f1 f2) := peMono (pe_ifExp hc ha hb) fun σ H Q ⟨B, F, ρ, d, E, e, q⟩ => by
  obtain ⟨k1, e1, e⟩ := bind_some e
  refine ⟨B, F, ρ, k1, E, e1, fun F1 H1 G1 => ?_⟩
  cases k1 with
  | false =>
    rw [if_neg (by simp)] at e ⊢
    exact ⟨B, F1, ρ, d, E.grow G1, e, fun v F2 H2 G2 r => q v F2 H2 (G1.trans G2) r⟩
  | true =>
    rw [if_pos rfl] at e ⊢
    exact ⟨B, F1, ρ, d, E.grow G1, e, fun v F2 H2 G2 r => q v F2 H2 (G1.trans G2) r⟩
theorem flatDp {K : PySem.W.Frag} {F F' : Hp} {v : V} {d : PyData} (h : Dp K F v d) (hf : flat d = true) : Dp K F' v d := by
  cases h with
  | non => exact .non
  | bl b => exact .bl b
  | int i => exact .int i
  | str x => exact .str x
  | lst _ _ => cases hf
  | tup _ _ => cases hf
theorem dv_lend {S : List Nat} (ha : DV X e f) : DV X e (eLend S f) := peMono ha fun σ H Q ⟨B, F, ρ, d, E, e, q⟩ => by
  obtain ⟨dx, e1, e⟩ := bind_some e
  split at e
  · rename_i hf
    cases e
    obtain ⟨F1, s1, E1, n1⟩ := E.frz S
    refine ⟨B, F1, DL.frz S ρ, d, E1, e1, fun v F2 H2 G r => q v F H2 ⟨.refl F, s1.trans (G.ff.trans G.fh), G.hh, fun _ _ _ n => n⟩ (flatDp r hf)⟩
  · cases e
theorem pvO {x : Str} {i : Nat} {pos : Pos} (h : PE X (.Name x pos) (tVar i)) : PE X (.Name x pos) (fun σ H Q => ∃ v, σ[i]? = some (some v) ∧ Q v H) := h
end
end DL

set_option Elab.async false
set_option linter.all false
set_option maxRecDepth 100000
set_option maxHeartbeats 4000000
namespace DL
open PySem PySem.Spec PyProof.Rows L2
section
variable {X : Cx} {a b c e : Expr} {es : List Expr} {f g f1 f2 : EV} {h : EA} {cb cb' : EB} {pos : Pos}
theorem ixNat {xs : List V} {ds : List PyData} {K : PySem.W.Frag} {H : Hp} {i : Int} {d : PyData} (r : DpAll K H xs ds) (e : atI ds i = some d) : ∃ v, atI xs i = some v ∧ Dp K H v d := by
  unfold atI at e ⊢
  obtain ⟨j, e1, e2⟩ := bind_some e
  rw [dpLen r, e1]
  obtain ⟨v, h1, h2⟩ := dpGet r e2
  exact ⟨v, h1, h2⟩
theorem ix_g : IxR X (rG X.K gIx) := ixMono ix_seq fun x y H Q ⟨F, dx, dy, d, s, rx, ry, e, q⟩ => by
  cases dy with
  | int i =>
    cases ry
    cases dx with
    | list ds =>
      cases rx with
      | lst hs r =>
        obtain ⟨v, h1, h2⟩ := ixNat r e
        exact .inl ⟨_, _, i, v, rfl, rfl, s.seq hs, h1, q v F H (.refl s) h2⟩
    | tuple ds =>
      cases rx with
      | tup hs r =>
        obtain ⟨v, h1, h2⟩ := ixNat r e
        exact .inr (.inl ⟨_, _, i, v, rfl, rfl, sameT s hs, h1, q v F H (.refl s) h2⟩)
    | _ => cases e
  | _ => cases dx <;> cases e
theorem dv_ixO {i : Nat} {x : Str} {px : Pos} (hx : PE X (.Name x px) (tVar i)) (hb : DV X b f) (hs : PlainIx b := by exact fun _ _ => rfl) : DV X (.Subscript (.Name x px) b pos) (eIxO i f) :=
  peMono (pe_ix ix_list hx hb hs) fun σ H Q ⟨B, F, ρ, d, E, e, q⟩ => by
    unfold eIxO at e
    split at e
    · rename_i ds hρ
      obtain ⟨dy, e1, e2⟩ := bind_some e
      obtain ⟨l, vs, h1, h2, h3, h4, h5⟩ := E.ow i ds hρ
      refine ⟨.ref l, h1, B, F, ρ, dy, E, e1, fun y F1 H1 G r => ?_⟩
      cases dy with
      | int k =>
        cases r
        obtain ⟨v, r1, r2⟩ := ixNat h5 e2
        exact ⟨l, vs, k, v, rfl, rfl, .inl (.inl (G.hh _ _ h4)), r1, q v F1 H1 G (dpMono G.ff _ _ r2)⟩
      | _ => cases e2
    · cases e

/-! ### calls -/
/-- the promise of a def that works out data: n arguments, the value by m -/
def spD (K : PySem.W.Frag) (n : Nat) (m : List PyData → Option PyData) : Sp := fun vs H Q _ => vs.length = n ∧ ∃ F ds d, Same F H ∧ DpAll K F vs ds ∧ m ds = some d ∧ ∀ v F' H', Grow F H F' H' → Dp K F' v d → Q v H'
def eCall (m : List PyData → Option PyData) (f : EA) : EV := fun ρ => (f ρ).bind m
theorem dv_call {k n : Nat} {fa : Addr} {fd : FuncData} {ps : List Str} {m : List PyData → Option PyData} {x : Str} {p : Pos} (F : FnOk X.prog X.w X.K X.mg X.base CX0 k fa fd ps (spD X.K n m)) (hr : Room k X.A) (hg : Gl X x) (hm : X.mg x = some (.ref fa)) (hk : PySem.W.keepIn X.K (.ref fa) = true)
    (hb : Binds X.K fd ps []) (ha : DA X (e :: es) h) (hn : (e :: es).length = n := by rfl) (hdb : (x == ("__debug__" : Str)) = false := by decide) (he : starEach (e :: es) X.env = (false, eval e X.env) :: starEach es X.env := by rfl) (hpl : (backTo pos (starEach es X.env)).any (·.1) = false := by rfl) :
    DV X (.Call (.Name x p) (e :: es) [] pos) (eCall m h) := peMono (pe_call F hr hg hm hk hb .nil pass0 ha.pa hdb he hpl) fun σ H Q ⟨B, F, ρ, d, E, e, q⟩ => by
  obtain ⟨ds, e1, e2⟩ := bind_some e
  refine ⟨B, F, ρ, ds, E, e1, fun vs F1 H1 G r => ?_⟩
  show spD X.K n m (vs ++ []) H1 Q E0
  rw [List.append_nil]
  exact ⟨by rw [dpLen r, ha.len ρ ds e1]; exact hn, F1, ds, d, G.fh, r, e2, fun v F2 H2 G2 r2 => q v F2 H2 (G.trans G2) r2⟩
theorem dv_blt {x : Str} {p : Pos} {id : String} {m : List PyData → Option PyData} (hc : CallR X (.builtin id) (rGA X.K m)) (hg : Gl X x) (hm : X.mg x = none) (hv : bootBuiltins x = some (.builtin id)) (ha : DA X (e :: es) h) (hn : x ≠ "__name__" := by decide) (hdb : (x == ("__debug__" : Str)) = false := by decide)
    (he : starEach (e :: es) X.env = (false, eval e X.env) :: starEach es X.env := by rfl) (hpl : (backTo pos (starEach es X.env)).any (·.1) = false := by rfl) : DV X (.Call (.Name x p) (e :: es) [] pos) (eAll m h) :=
  peMono (pe_callB hc hg hm hv ha.pa hn hdb he hpl) fun σ H Q ⟨B, F, ρ, d, E, e, q⟩ => by
    obtain ⟨ds, e1, e2⟩ := bind_some e
    exact ⟨B, F, ρ, ds, E, e1, fun vs F1 H1 G r => ⟨F1, ds, d, G.fh, r, e2, fun v F2 H2 G2 r2 => q v F2 H2 (G.trans G2) r2⟩⟩
theorem dv_ty {x : Str} {p : Pos} {T : String} {m : List PyData → Option PyData} (hc : CallR X (.type T) (rGA X.K m)) (hg : Gl X x) (hm : X.mg x = none) (hv : bootBuiltins x = some (.type T)) (ha : DA X (e :: es) h) (hn : x ≠ "__name__" := by decide) (hdb : (x == ("__debug__" : Str)) = false := by decide)
    (he : starEach (e :: es) X.env = (false, eval e X.env) :: starEach es X.env := by rfl) (hpl : (backTo pos (starEach es X.env)).any (·.1) = false := by rfl) : DV X (.Call (.Name x p) (e :: es) [] pos) (eAll m h) :=
  peMono (pe_callTy hc hg hm hv ha.pa hn hdb he hpl) fun σ H Q ⟨B, F, ρ, d, E, e, q⟩ => by
    obtain ⟨ds, e1, e2⟩ := bind_some e
    exact ⟨B, F, ρ, ds, E, e1, fun vs F1 H1 G r => ⟨F1, ds, d, G.fh, r, e2, fun v F2 H2 G2 r2 => q v F2 H2 (G.trans G2) r2⟩⟩
/-- a module's name for a built-in function -/
theorem dv_mod {x : Str} {p : Pos} {id : String} {m : List PyData → Option PyData} (hc : CallR X (.builtin id) (rGA X.K m)) (hg : Gl X x) (hm : X.mg x = some (.builtin id)) (ha : DA X (e :: es) h) (hdb : (x == ("__debug__" : Str)) = false := by decide)
    (he : starEach (e :: es) X.env = (false, eval e X.env) :: starEach es X.env := by rfl) (hpl : (backTo pos (starEach es X.env)).any (·.1) = false := by rfl) : DV X (.Call (.Name x p) (e :: es) [] pos) (eAll m h) :=
  peMono (pe_callBfun hc hg hm ha.pa hdb he hpl) fun σ H Q ⟨B, F, ρ, d, E, e, q⟩ => by
    obtain ⟨ds, e1, e2⟩ := bind_some e
    exact ⟨B, F, ρ, ds, E, e1, fun vs F1 H1 G r => ⟨F1, ds, d, G.fh, r, e2, fun v F2 H2 G2 r2 => q v F2 H2 (G.trans G2) r2⟩⟩
theorem df_blt {x : Str} {p : Pos} {id : String} {m : List PyData → Option (List PyData)} (hc : CallR X (.builtin id) (rGF X.K m)) (hg : Gl X x) (hm : X.mg x = none) (hv : bootBuiltins x = some (.builtin id)) (ha : DA X (e :: es) h) (hn : x ≠ "__name__" := by decide) (hdb : (x == ("__debug__" : Str)) = false := by decide)
    (he : starEach (e :: es) X.env = (false, eval e X.env) :: starEach es X.env := by rfl) (hpl : (backTo pos (starEach es X.env)).any (·.1) = false := by rfl) : DF X (.Call (.Name x p) (e :: es) [] pos) (fAll m h) :=
  peMono (pe_callB hc hg hm hv ha.pa hn hdb he hpl) fun σ H Q ⟨B, F, ρ, d, E, e, q⟩ => by
    obtain ⟨ds, e1, e2⟩ := bind_some e
    exact ⟨B, F, ρ, ds, E, e1, fun vs F1 H1 G r => ⟨F1, ds, d, G.fh, r, e2, fun a ws F2 H2 G2 n1 n2 n3 r2 => q a ws F2 H2 (G.trans G2) (G.hh.free n1) n2 n3 r2⟩⟩
theorem df_ty {x : Str} {p : Pos} {T : String} {m : List PyData → Option (List PyData)} (hc : CallR X (.type T) (rGF X.K m)) (hg : Gl X x) (hm : X.mg x = none) (hv : bootBuiltins x = some (.type T)) (ha : DA X (e :: es) h) (hn : x ≠ "__name__" := by decide) (hdb : (x == ("__debug__" : Str)) = false := by decide)
    (he : starEach (e :: es) X.env = (false, eval e X.env) :: starEach es X.env := by rfl) (hpl : (backTo pos (starEach es X.env)).any (·.1) = false := by rfl) : DF X (.Call (.Name x p) (e :: es) [] pos) (fAll m h) :=
  peMono (pe_callTy hc hg hm hv ha.pa hn hdb he hpl) fun σ H Q ⟨B, F, ρ, d, E, e, q⟩ => by
    obtain ⟨ds, e1, e2⟩ := bind_some e
    exact ⟨B, F, ρ, ds, E, e1, fun vs F1 H1 G r => ⟨F1, ds, d, G.fh, r, e2, fun a ws F2 H2 G2 n1 n2 n3 r2 => q a ws F2 H2 (G.trans G2) (G.hh.free n1) n2 n3 r2⟩⟩

/-! ### operators -/
def gI (C : Int → Int → Prop) [∀ i j, Decidable (C i j)] (r : Int → Int → PyData) : PyData → PyData → Option PyData
  | .int i, .int j => if C i j then some (r i j) else none
  | _, _ => none
def gI0 (r : Int → Int → PyData) : PyData → PyData → Option PyData
  | .int i, .int j => some (r i j)
  | _, _ => none
theorem op_i {f : Value → Value → Sem Value} {C : Int → Int → Prop} [∀ i j, Decidable (C i j)] {r : Int → Int → Int} (h : OpR X f (rI C fun i j => .int (r i j))) : OpR X f (rG X.K (gI C fun i j => .int (r i j))) := opMono h fun x y H Q ⟨F, dx, dy, d, s, rx, ry, e, q⟩ => by
  unfold gI at e
  split at e
  · rename_i i j
    cases rx
    cases ry
    split at e
    · rename_i hc
      cases e
      exact ⟨i, j, rfl, rfl, hc, q _ F H (.refl s) (.int _)⟩
    · cases e
  · cases e
theorem op_i0 {f : Value → Value → Sem Value} {r : Int → Int → Int} (h : OpR X f (rI0 fun i j => .int (r i j))) : OpR X f (rG X.K (gI0 fun i j => .int (r i j))) := opMono h fun x y H Q ⟨F, dx, dy, d, s, rx, ry, e, q⟩ => by
  cases dx <;> cases dy <;> try cases e
  rename_i i j
  cases rx
  cases ry
  exact ⟨i, j, rfl, rfl, q _ F H (.refl s) (.int _)⟩
theorem op_b0 {f : Value → Value → Sem Value} {r : Int → Int → Bool} (h : OpR X f (rI0 fun i j => .bl (r i j))) : OpR X f (rG X.K (gI0 fun i j => .bool (r i j))) := opMono h fun x y H Q ⟨F, dx, dy, d, s, rx, ry, e, q⟩ => by
  cases dx <;> cases dy <;> try cases e
  rename_i i j
  cases rx
  cases ry
  exact ⟨i, j, rfl, rfl, q _ F H (.refl s) (.bl _)⟩
abbrev gAdd : PyData → PyData → Option PyData := gI0 fun i j => .int (i + j)
abbrev gSub : PyData → PyData → Option PyData := gI0 fun i j => .int (i - j)
instance : ∀ i j, Decidable (CMulW i j) := fun i j => by unfold CMulW; infer_instance
abbrev gMul : PyData → PyData → Option PyData := gI CMulW fun i j => .int (i * j)
def CDivA (_ j : Int) : Prop := j ≠ 0 ∧ j.natAbs.log2 < 9000
instance : ∀ i j, Decidable (CDivA i j) := fun i j => by unfold CDivA; infer_instance
abbrev gFdiv : PyData → PyData → Option PyData := gI CDivA fun i j => .int (i.fdiv j)
abbrev gMod : PyData → PyData → Option PyData := gI (fun _ j => j ≠ 0) fun i j => .int (i.fmod j)
instance : ∀ i j, Decidable (CPow i j) := fun i j => by unfold CPow; infer_instance
abbrev gPow : PyData → PyData → Option PyData := gI CPow fun i j => .int (i ^ j.toNat)
abbrev gLt : PyData → PyData → Option PyData := gI0 fun i j => .bool (decide (i < j))
abbrev gLe : PyData → PyData → Option PyData := gI0 fun i j => .bool (decide (i ≤ j))
abbrev gGt : PyData → PyData → Option PyData := gI0 fun i j => .bool (decide (j < i))
abbrev gGe : PyData → PyData → Option PyData := gI0 fun i j => .bool (decide (j ≤ i))
theorem o_add : OpR X (binaryOp .Add) (rG X.K gAdd) := op_i0 op_add
theorem o_sub : OpR X (binaryOp .Sub) (rG X.K gSub) := op_i0 op_sub
theorem o_mul : OpR X (binaryOp .Mult) (rG X.K gMul) := op_i op_mulW
theorem o_fdiv : OpR X (binaryOp .FloorDiv) (rG X.K gFdiv) := op_i (opI fun i j _ _ _ _ _ hc q => floordiv_int hc.1 q (.inl (PyProof.noPylong_of_log2 hc.2)))
theorem o_mod : OpR X (binaryOp .Mod) (rG X.K gMod) := op_i op_modN
theorem o_pow : OpR X (binaryOp .Pow) (rG X.K gPow) := op_i op_pow
theorem o_lt : OpR X (compareOp .Lt) (rG X.K gLt) := op_b0 op_lt
theorem o_le : OpR X (compareOp .LtE) (rG X.K gLe) := op_b0 op_le
theorem o_gt : OpR X (compareOp .Gt) (rG X.K gGt) := op_b0 op_gt
theorem o_ge : OpR X (compareOp .GtE) (rG X.K gGe) := op_b0 op_ge
def gNeg : PyData → Option PyData
  | .int i => some (.int (-i))
  | _ => none
theorem u_neg : UnR X (unaryOp .USub) (rG1 X.K gNeg) := unMono un_neg fun x H Q ⟨F, dx, d, s, rx, e, q⟩ => by
  cases dx <;> try cases e
  rename_i i
  cases rx
  exact ⟨i, rfl, q _ F H (.refl s) (.int _)⟩
def gEq (x y : PyData) : Option PyData := if SeqAt.shaped x && SeqAt.shaped y then some (.bool (PyData.eqv x y)) else none
def gNe (x y : PyData) : Option PyData := if SeqAt.shaped x && SeqAt.shaped y then some (.bool (!PyData.eqv x y)) else none
theorem o_eq (hu : X.A.units + 64 < cLine) : OpR X (compareOp .Eq) (rG X.K gEq) := opMono (op_eqD hu) fun x y H Q ⟨F, dx, dy, d, s, rx, ry, e, q⟩ => by
  unfold gEq at e
  split at e
  · rename_i hc
    cases e
    obtain ⟨h1, h2⟩ := Bool.and_eq_true_iff.mp hc
    exact ⟨dx, dy, dpMono s _ _ rx, dpMono s _ _ ry, h1, h2, q _ F H (.refl s) (.bl _)⟩
  · cases e
theorem o_ne (hu : X.A.units + 64 < cLine) : OpR X (compareOp .NotEq) (rG X.K gNe) := opMono (op_neD hu) fun x y H Q ⟨F, dx, dy, d, s, rx, ry, e, q⟩ => by
  unfold gNe at e
  split at e
  · rename_i hc
    cases e
    obtain ⟨h1, h2⟩ := Bool.and_eq_true_iff.mp hc
    exact ⟨dx, dy, dpMono s _ _ rx, dpMono s _ _ ry, h1, h2, q _ F H (.refl s) (.bl _)⟩
  · cases e
def isN : PyData → Bool
  | .none => true
  | _ => false
def gIs : PyData → PyData → Option PyData
  | x, .none => some (.bool (isN x))
  | _, _ => none
def gIsnt : PyData → PyData → Option PyData
  | x, .none => some (.bool !(isN x))
  | _, _ => none
theorem isN_v {K : PySem.W.Frag} {F : Hp} {x : V} {d : PyData} (r : Dp K F x d) : decide (x = .non) = isN d := by
  cases r <;> simp [isN]
theorem o_isN : OpR X (compareOp .Is) (rG X.K gIs) := opMono op_isN fun x y H Q ⟨F, dx, dy, d, s, rx, ry, e, q⟩ => by
  cases dy <;> try cases e
  cases ry
  exact ⟨rfl, by rw [isN_v rx]; exact q _ F H (.refl s) (.bl _)⟩
theorem o_notN : OpR X (compareOp .IsNot) (rG X.K gIsnt) := opMono op_notN fun x y H Q ⟨F, dx, dy, d, s, rx, ry, e, q⟩ => by
  cases dy <;> try cases e
  cases ry
  exact ⟨rfl, by rw [isN_v rx]; exact q _ F H (.refl s) (.bl _)⟩

/-! ### built-in functions -/
def mLen : List PyData → Option PyData
  | [.list xs] => some (.int xs.length)
  | [.tuple xs] => some (.int xs.length)
  | _ => none
theorem one_of {K : PySem.W.Frag} {F : Hp} {vs : List V} {d : PyData} (r : DpAll K F vs [d]) : ∃ v, vs = [v] ∧ Dp K F v d := by
  cases r with
  | cons a b =>
    cases b
    exact ⟨_, rfl, a⟩
theorem two_of {K : PySem.W.Frag} {F : Hp} {vs : List V} {d e : PyData} (r : DpAll K F vs [d, e]) : ∃ v u, vs = [v, u] ∧ Dp K F v d ∧ Dp K F u e := by
  cases r with
  | cons a b =>
    obtain ⟨u, rfl, r⟩ := one_of b
    exact ⟨_, u, rfl, a, r⟩
theorem c_len : CallR X (.builtin "len") (rGA X.K mLen) := clMono call_len_seq fun xs H Q ⟨F, ds, d, s, r, e, q⟩ => by
  unfold mLen at e
  split at e
  · cases e
    obtain ⟨v, rfl, rv⟩ := one_of r
    cases rv with
    | lst hs ha => exact ⟨_, _, rfl, .inl (s.seq hs), by rw [dpLen ha]; exact q _ F H (.refl s) (.int _)⟩
  · cases e
    obtain ⟨v, rfl, rv⟩ := one_of r
    cases rv with
    | tup hs ha => exact ⟨_, _, rfl, .inr (sameT s hs), by rw [dpLen ha]; exact q _ F H (.refl s) (.int _)⟩
  · cases e
def mAbs : List PyData → Option PyData
  | [.int i] => some (.int (if i < 0 then -i else i))
  | _ => none
theorem c_abs : CallR X (.builtin "abs") (rGA X.K mAbs) := clMono call_abs fun xs H Q ⟨F, ds, d, s, r, e, q⟩ => by
  unfold mAbs at e
  split at e
  · cases e
    obtain ⟨v, rfl, rv⟩ := one_of r
    cases rv
    exact ⟨_, rfl, q _ F H (.refl s) (.int _)⟩
  · cases e
def mInt : List PyData → Option PyData
  | [.int i] => some (.int i)
  | [.bool b] => some (.int (if b then 1 else 0))
  | _ => none
theorem c_int : CallR X (.type "int") (rGA X.K mInt) := clMono call_int1 fun xs H Q ⟨F, ds, d, s, r, e, q⟩ => by
  unfold mInt at e
  split at e
  · cases e
    obtain ⟨v, rfl, rv⟩ := one_of r
    cases rv
    exact .inl ⟨_, rfl, q _ F H (.refl s) (.int _)⟩
  · cases e
    obtain ⟨v, rfl, rv⟩ := one_of r
    cases rv
    exact .inr ⟨_, rfl, q _ F H (.refl s) (.int _)⟩
  · cases e
def mMax2 : List PyData → Option PyData
  | [.int i, .int j] => some (.int (if j > i then j else i))
  | _ => none
theorem c_max2 (hc : X.calm = true) : CallR X (.builtin "max") (rGA X.K mMax2) := clMono (call_max2 hc) fun xs H Q ⟨F, ds, d, s, r, e, q⟩ => by
  unfold mMax2 at e
  split at e
  · cases e
    obtain ⟨v, u, rfl, rv, ru⟩ := two_of r
    cases rv
    cases ru
    exact ⟨_, _, rfl, q _ F H (.refl s) (.int _)⟩
  · cases e
def mMin2 : List PyData → Option PyData
  | [.int i, .int j] => some (.int (if j < i then j else i))
  | _ => none
theorem c_min2 (hc : X.calm = true) : CallR X (.builtin "min") (rGA X.K mMin2) := clMono (call_min2 hc) fun xs H Q ⟨F, ds, d, s, r, e, q⟩ => by
  unfold mMin2 at e
  split at e
  · cases e
    obtain ⟨v, u, rfl, rv, ru⟩ := two_of r
    cases rv
    cases ru
    exact ⟨_, _, rfl, q _ F H (.refl s) (.int _)⟩
  · cases e
def mGcd : List PyData → Option PyData
  | [.int i, .int j] => some (.int ((Nat.gcd i.natAbs j.natAbs : Nat) : Int))
  | _ => none
theorem c_gcd : CallR X (.builtin "math.gcd") (rGA X.K mGcd) := clMono cr_gcd fun xs H Q ⟨F, ds, d, s, r, e, q⟩ => by
  unfold mGcd at e
  split at e
  · cases e
    obtain ⟨v, u, rfl, rv, ru⟩ := two_of r
    cases rv
    cases ru
    exact ⟨_, _, rfl, q _ F H (.refl s) (.int _)⟩
  · cases e
def mTuple : List PyData → Option PyData
  | [.list xs] => some (.tuple xs)
  | [.tuple xs] => some (.tuple xs)
  | _ => none
theorem c_tuple : CallR X (.type "tuple") (rGA X.K mTuple) := clMono call_tuple_of fun xs H Q ⟨F, ds, d, s, r, e, q⟩ => by
  unfold mTuple at e
  split at e
  · cases e
    obtain ⟨v, rfl, rv⟩ := one_of r
    cases rv with
    | lst hs ha => exact ⟨_, _, rfl, .inl ⟨s.seq hs, fun l nl => q _ _ _ (.new s nl) (.tup (.inl (.inl upd_same)) (dpMonoAll (sameUpd (s.free nl)) _ _ ha))⟩⟩
  · cases e
    obtain ⟨v, rfl, rv⟩ := one_of r
    cases rv with
    | tup hs ha => exact ⟨_, _, rfl, .inr ⟨sameT s hs, q _ F H (.refl s) (.tup hs ha)⟩⟩
  · cases e
def mList : List PyData → Option (List PyData)
  | [.list xs] => some xs
  | [.tuple xs] => some xs
  | _ => none
theorem c_list : CallR X (.type "list") (rGF X.K mList) := clMono call_list_of fun xs H Q ⟨F, ds, d, s, r, e, q⟩ => by
  unfold mList at e
  split at e
  · cases e
    obtain ⟨v, rfl, rv⟩ := one_of r
    cases rv with
    | lst hs ha => exact ⟨_, _, rfl, .inl (s.seq hs), fun l nl => q _ _ _ _ (.side s nl) nl (s.free nl) upd_same ha⟩
  · cases e
    obtain ⟨v, rfl, rv⟩ := one_of r
    cases rv with
    | tup hs ha => exact ⟨_, _, rfl, .inr (sameT s hs), fun l nl => q _ _ _ _ (.side s nl) nl (s.free nl) upd_same ha⟩
  · cases e
/-! ### isinstance of a built-in type -/
inductive Ty where
  | int | bool | tuple | list | str
def Ty.s : Ty → String
  | .int => "int" | .bool => "bool" | .tuple => "tuple" | .list => "list" | .str => "str"
def isT : Ty → PyData → Option Bool
  | .int, .int _ => some true
  | .int, .bool _ => some true
  | .bool, .bool _ => some true
  | .tuple, .tuple _ => some true
  | .list, .list _ => some true
  | .str, .str _ => some true
  | _, .dict _ => none
  | _, _ => some false
def eIs (T : Ty) (f : EV) : EV := fun ρ => (f ρ).bind fun d => (isT T d).map PyData.bool
theorem ty_of {K : PySem.W.Frag} {F : Hp} {x : V} {d : PyData} (r : Dp K F x d) : ∃ t, TyX K F x (.type t) ∧ ∀ T b, isT T d = some b → PySem.W.kitOne K (.type t) (.type T.s) = some b := by
  cases r with
  | non => exact ⟨_, .base .non, fun T b e => by cases T <;> cases e <;> exact kit_ty (by decide +kernel)⟩
  | bl k => exact ⟨_, .base (.bl k), fun T b e => by cases T <;> cases e <;> exact kit_ty (by decide +kernel)⟩
  | int k => exact ⟨_, .base (.int k), fun T b e => by cases T <;> cases e <;> exact kit_ty (by decide +kernel)⟩
  | str k => exact ⟨_, .base (.str k), fun T b e => by cases T <;> cases e <;> exact kit_ty (by decide +kernel)⟩
  | lst hs _ =>
    refine ⟨"list", ?_, fun T b e => by cases T <;> cases e <;> exact kit_ty (by decide +kernel)⟩
    rcases hs with (hs | ⟨o, hs⟩) | ⟨o, its, n, h1, h2, _⟩
    · exact .base (.lst hs)
    · exact .base (.frz hs)
    · exact .kList h1 h2
  | tup hs _ =>
    refine ⟨"tuple", ?_, fun T b e => by cases T <;> cases e <;> exact kit_ty (by decide +kernel)⟩
    rcases hs with (hs | ⟨o, hs⟩) | ⟨o, its, n, h1, h2, _⟩
    · exact .base (.tup hs)
    · exact .fTuple hs
    · exact .kTuple h1 h2
theorem dv_isi {x y : Str} {p p2 : Pos} {T : Ty} (hg : Gl X x) (hm : X.mg x = none) (hx : x = "isinstance") (hgt : Gl X y) (hmt : X.mg y = none) (hvt : bootBuiltins y = some (.type T.s)) (ha : DV X a f) (hnt : y ≠ "__name__" := by decide) (hdt : (y == ("__debug__" : Str)) = false := by decide)
    (he : starEach [a, .Name y p2] X.env = (false, eval a X.env) :: starEach [.Name y p2] X.env := by rfl) (he2 : starEach [.Name y p2] X.env = (false, eval (.Name y p2) X.env) :: starEach [] X.env := by rfl) (hpl : (backTo pos (starEach [.Name y p2] X.env)).any (·.1) = false := by rfl) : DV X (.Call (.Name x p) [a, .Name y p2] [] pos) (eIs T f) := by
  subst hx
  refine peMono (pe_callB call_isi hg hm (by decide +kernel) (pa_cons ha (pa_cons (pe_bltn (v := .ty T.s) hgt hmt hvt rfl hnt hdt) pa_nil he2) he) (by decide) (by decide) he hpl) fun σ H Q ⟨B, F, ρ, d, E, e, q⟩ => ?_
  obtain ⟨dx, e1, e2⟩ := bind_some e
  obtain ⟨k, e3, e4⟩ := Option.map_eq_some_iff.mp e2
  subst e4
  refine ⟨B, F, ρ, dx, E, e1, fun v F1 H1 G r => ?_⟩
  obtain ⟨t, h1, h2⟩ := ty_of (dpMono G.fh _ _ r)
  exact ⟨v, .ty T.s, .type t, .type T.s, k, rfl, .ty _, h1, h2 T k e3, q _ F1 H1 G (.bl k)⟩
end
end DL

set_option Elab.async false
set_option linter.all false
set_option maxRecDepth 100000
set_option maxHeartbeats 4000000
namespace DL
open PySem PySem.Spec PyProof.Rows L2
/-! ### what is walked -/
structure Ylds (K : PySem.W.Frag) (J : It) (F : Hp) (ds : List PyData) : Prop where
  go : ∀ i H, i < ds.length → Same F H → J.go i H
  stop : ∀ H, Same F H → J.stop ds.length H
  yld : ∀ i H x H' F1, i < ds.length → Same F F1 → Same F1 H → J.yld i H x H' → ∃ d F2, ds[i]? = some d ∧ Grow F1 H F2 H' ∧ Dp K F2 x d
def tI (K : PySem.W.Frag) (f : EA) : TI := fun σ H R => ∃ B F ρ ds, ER K B F H σ ρ ∧ f ρ = some ds ∧ ∀ J F' H', Grow F H F' H' → Ylds K J F' ds → R J H'
def DI (X : Cx) (tg iter : Expr) (f : EA) : Prop := PI X tg iter (tI X.K f)
theorem piMono {X : Cx} {tg it : Expr} {t t' : TI} (h : PI X tg it t) (k : ∀ σ H R, t' σ H R → t σ H R) : PI X tg it t' := ⟨fun pins s σ H R I q => h.run pins s σ H R I (k _ _ _ q)⟩
theorem piOr {X : Cx} {tg it : Expr} {t t' : TI} (h : PI X tg it t) (h' : PI X tg it t') : PI X tg it (fun σ H R => t σ H R ∨ t' σ H R) := ⟨fun pins s σ H R I q => q.elim (h.run pins s σ H R I) (h'.run pins s σ H R I)⟩
theorem ylds_list {K : PySem.W.Frag} {F : Hp} {a : Addr} {xs : List V} {ds : List PyData} (hs : SqL K F a xs) (r : DpAll K F xs ds) : Ylds K (Itl K a) F ds :=
  have w := walk_list (K := K) (a := a) (xs := xs)
  have e := dpLen r
  ⟨fun i H hi s => w.goes i H (by rw [e]; exact hi) (s.seq hs), fun H s => by rw [← e]; exact w.stops H (s.seq hs), fun i H x H' F1 hi s1 s y => by
    obtain ⟨y1, y2⟩ := w.yields i H x H' (by rw [e]; exact hi) (s.seq (s1.seq hs)) y
    obtain ⟨d, h1, h2⟩ := dpGetV r y2
    rw [y1]
    exact ⟨d, F1, h1, .refl s, dpMono s1 _ _ h2⟩⟩
theorem ylds_tup {K : PySem.W.Frag} {F : Hp} {a : Addr} {xs : List V} {ds : List PyData} (hs : SqT K F a xs) (r : DpAll K F xs ds) : Ylds K (Itt K a) F ds :=
  have w := walk_tup (K := K) (a := a) (xs := xs)
  have e := dpLen r
  ⟨fun i H hi s => w.goes i H (by rw [e]; exact hi) (sameT s hs), fun H s => by rw [← e]; exact w.stops H (sameT s hs), fun i H x H' F1 hi s1 s y => by
    obtain ⟨y1, y2⟩ := w.yields i H x H' (by rw [e]; exact hi) (sameT s (sameT s1 hs)) y
    obtain ⟨d, h1, h2⟩ := dpGetV r y2
    rw [y1]
    exact ⟨d, F1, h1, .refl s, dpMono s1 _ _ h2⟩⟩
def rng (lo : Int) (n : Nat) : List PyData := (List.range n).map fun (i : Nat) => PyData.int (lo + (i : Int))
theorem rng_len (lo : Int) (n : Nat) : (rng lo n).length = n := by simp [rng]
theorem ylds_rng {K : PySem.W.Frag} {F : Hp} {lo : Int} {n : Nat} : Ylds K (Itr lo n) F (rng lo n) :=
  ⟨fun i H hi _ => by rw [rng_len] at hi; exact hi, fun H _ => by rw [rng_len]; exact Nat.le_refl _, fun i H x H' F1 hi s1 s y => by
    rw [rng_len] at hi
    obtain ⟨y1, y2⟩ := y
    rw [y1, y2]
    exact ⟨.int (lo + i), F1, by simp [rng, hi], .refl s, .int _⟩⟩
def seqOf : PyData → Option (List PyData)
  | .list xs => some xs
  | .tuple xs => some xs
  | _ => none
def iSeq (f : EV) : EA := fun ρ => (f ρ).bind seqOf
noncomputable def cIf {α : Type} (c : Prop) (a b : α) : α := @ite α c (Classical.propDecidable c) a b
theorem cIf_pos {α : Type} {c : Prop} {a b : α} (h : c) : cIf c a b = a := if_pos h
theorem cIf_neg {α : Type} {c : Prop} {a b : α} (h : ¬ c) : cIf c a b = b := if_neg h
theorem cIf_some {α : Type} {c : Prop} {a : α} {y : α} (h : cIf c (some a) none = some y) : c ∧ a = y := by
  by_cases hc : c
  · rw [cIf_pos hc] at h
    exact ⟨hc, Option.some.inj h⟩
  · rw [cIf_neg hc] at h
    cases h
noncomputable def rg1 : PyData → Option (List PyData)
  | .int j => cIf (-(2 ^ 62) ≤ j ∧ j < 2 ^ 62) (some (rng 0 j.toNat)) none
  | _ => none
noncomputable def rg2 : PyData → PyData → Option (List PyData)
  | .int i, .int j => cIf (-(2 ^ 62) ≤ i ∧ i < 2 ^ 62 ∧ -(2 ^ 62) ≤ j ∧ j < 2 ^ 62) (some (rng i (j - i).toNat)) none
  | _, _ => none
noncomputable def iRg1 (f : EV) : EA := fun ρ => (f ρ).bind rg1
noncomputable def iRg2 (f g : EV) : EA := fun ρ => (f ρ).bind fun d => (g ρ).bind fun e => rg2 d e
section
variable {X : Cx} {tg a b c e elt iter : Expr} {es : List Expr} {f g f1 f2 : EV} {h : EA} {cb cb' : EB} {pos : Pos}
theorem di_seq (h : DV X a f) : DI X tg a (iSeq f) := piMono (piOr (pi_list h) (pi_tup h)) fun σ H R ⟨B, F, ρ, ds, E, e, q⟩ => by
  obtain ⟨d, e1, e2⟩ := bind_some e
  cases d with
  | list xs =>
    cases e2
    refine .inl ⟨B, F, ρ, _, E, e1, fun v F1 H1 G r => ?_⟩
    cases r with
    | lst hs ha => exact ⟨_, rfl, ⟨_, G.fh.seq hs⟩, q _ F1 H1 G (ylds_list hs ha)⟩
  | tuple xs =>
    cases e2
    refine .inr ⟨B, F, ρ, _, E, e1, fun v F1 H1 G r => ?_⟩
    cases r with
    | tup hs ha => exact ⟨_, rfl, ⟨_, sameT G.fh hs⟩, q _ F1 H1 G (ylds_tup hs ha)⟩
  | _ => cases e2
theorem di_rg1 {p : Pos} (hg : Gl X "range") (hm : X.mg "range" = none) (ha : DV X a f) (hs : starEach [a] X.env = (false, eval a X.env) :: starEach [] X.env := by rfl) (hs1 : starEach [a] X.env = [(false, eval a X.env)] := by rfl) : DI X tg (.Call (.Name "range" p) [a] [] pos) (iRg1 f) :=
  piMono (pi_range1 hg hm (pa_cons ha pa_nil hs) hs1) fun σ H R ⟨B, F, ρ, ds, E, e, q⟩ => by
    obtain ⟨d, e1, e2⟩ := bind_some e
    refine ⟨B, F, ρ, d, E, e1, fun v F1 H1 G r => ?_⟩
    cases d with
    | int j =>
      cases r
      obtain ⟨hc, e3⟩ := cIf_some (show cIf (-(2 ^ 62) ≤ j ∧ j < 2 ^ 62) (some (rng 0 j.toNat)) none = some ds from e2)
      subst e3
      exact ⟨j, rfl, hc.1, hc.2, q _ F1 H1 G ylds_rng⟩
    | _ => cases e2
theorem di_rg2 {p : Pos} (hg : Gl X "range") (hm : X.mg "range" = none) (ha : DV X a f) (hb : DV X b g) (hs : starEach [a, b] X.env = (false, eval a X.env) :: starEach [b] X.env := by rfl) (hs0 : starEach [b] X.env = (false, eval b X.env) :: starEach [] X.env := by rfl)
    (hs1 : starEach [a, b] X.env = [(false, eval a X.env), (false, eval b X.env)] := by rfl) (hs2 : starEach [b] X.env = [(false, eval b X.env)] := by rfl) : DI X tg (.Call (.Name "range" p) [a, b] [] pos) (iRg2 f g) :=
  piMono (pi_range2 hg hm (pa_cons ha (pa_cons hb pa_nil hs0) hs) hs1 hs2) fun σ H R ⟨B, F, ρ, ds, E, e, q⟩ => by
    obtain ⟨d, e1, e2⟩ := bind_some e
    obtain ⟨d2, e3, e4⟩ := bind_some e2
    refine ⟨B, F, ρ, d, E, e1, fun v F1 H1 G r => ⟨B, F1, ρ, d2, E.grow G, e3, fun v2 F2 H2 G2 r2 => ?_⟩⟩
    cases d with
    | int i =>
      cases d2 with
      | int j =>
        cases r
        cases r2
        obtain ⟨hc, e5⟩ := cIf_some (show cIf (-(2 ^ 62) ≤ i ∧ i < 2 ^ 62 ∧ -(2 ^ 62) ≤ j ∧ j < 2 ^ 62) (some (rng i (j - i).toNat)) none = some ds from e4)
        subst e5
        exact ⟨i, j, rfl, hc, q _ F2 H2 (G.trans G2) ylds_rng⟩
      | _ => cases e4
    | _ => cases e4

/-! ### targets -/
abbrev EG := PyData → Rho → Option Rho
def tG (K : PySem.W.Frag) (is : List Nat) (g : EG) : TG := fun v σ H Q => ∃ B F ρ d ρ', ER K B F H σ ρ ∧ Dp K F v d ∧ g d ρ = some ρ' ∧ ∀ σ', ER K B F H σ' ρ' → σ'.length = σ.length → (∀ j, j ∉ is → σ'[j]? = σ[j]?) → Q σ' H
def tGs (K : PySem.W.Frag) (is : List Nat) (g : List PyData → Rho → Option Rho) : TGs := fun vs σ H Q => ∃ B F ρ ds ρ', ER K B F H σ ρ ∧ DpAll K F vs ds ∧ g ds ρ = some ρ' ∧ ∀ σ', ER K B F H σ' ρ' → σ'.length = σ.length → (∀ j, j ∉ is → σ'[j]? = σ[j]?) → Q σ' H
def DG (X : Cx) (tg : Expr) (is : List Nat) (g : EG) : Prop := PG X tg (tG X.K is g)
def DGs (X : Cx) (tg : List Expr) (is : List Nat) (g : List PyData → Rho → Option Rho) : Prop := PGs X tg (tGs X.K is g)
theorem pgMono {t t' : TG} (h : PG X tg t) (k : ∀ v σ H Q, t' v σ H Q → t v σ H Q) : PG X tg t' := ⟨fun pins s σ H x v Q I r q => h.run pins s σ H x v Q I r (k _ _ _ _ q)⟩
theorem pgsMono {t t' : TGs} {ts : List Expr} (h : PGs X ts t) (k : ∀ v σ H Q, t' v σ H Q → t v σ H Q) : PGs X ts t' := ⟨fun pins s σ H x v Q I r q => h.run pins s σ H x v Q I r (k _ _ _ _ q)⟩
def gNm (i : Nat) : EG := fun d ρ => some (ρ.set i (.va d))
def gsNil : List PyData → Rho → Option Rho := fun ds ρ => match ds with
  | [] => some ρ
  | _ => none
def gsCons (g : EG) (r : List PyData → Rho → Option Rho) : List PyData → Rho → Option Rho := fun ds ρ => match ds with
  | d :: ds => (g d ρ).bind fun ρ' => r ds ρ'
  | [] => none
def gTp (n : Nat) (r : List PyData → Rho → Option Rho) : EG := fun d ρ => match d with
  | .tuple ds => if ds.length = n then r ds ρ else none
  | .list ds => if ds.length = n then r ds ρ else none
  | _ => none
theorem dg_name {i : Nat} {x : Str} (h : PG X (.Name x pos) (gName i)) : DG X (.Name x pos) [i] (gNm i) := pgMono h fun v σ H Q ⟨B, F, ρ, d, ρ', E, r, e, q⟩ => by
  cases e
  exact q _ (E.setVa r) (by rw [List.length_set]) fun j hj => List.getElem?_set_ne (fun z => hj (by simp [z]))
theorem dgs_nil : DGs X [] [] gsNil := pgsMono pgs_nil fun vs σ H Q ⟨B, F, ρ, ds, ρ', E, r, e, q⟩ => by
  cases ds with
  | nil =>
    cases r
    cases e
    exact ⟨rfl, q σ E rfl fun _ _ => rfl⟩
  | cons d ds => cases e
theorem dgs_cons {is js : List Nat} {g : EG} {gr : List PyData → Rho → Option Rho} (h1 : DG X e is g) (h2 : DGs X es js gr) (he : (assignEach (e :: es) X.env).map (·.2) = assign e X.env :: (assignEach es X.env).map (·.2) := by rfl) : DGs X (e :: es) (is ++ js) (gsCons g gr) := pgsMono (pgs_cons h1 h2 he) fun vs σ H Q ⟨B, F, ρ, ds, ρ', E, r, ee, q⟩ => by
  cases ds with
  | nil => cases ee
  | cons d ds =>
    obtain ⟨ρ1, e1, e2⟩ := bind_some ee
    cases r with
    | cons ra rb =>
      exact ⟨_, _, rfl, B, F, ρ, d, ρ1, E, ra, e1, fun σ1 E1 l1 k1 => ⟨B, F, ρ1, ds, ρ', E1, rb, e2, fun σ2 E2 l2 k2 => q σ2 E2 (l2.trans l1) fun j hj => (k2 j fun z => hj (List.mem_append_right _ z)).trans (k1 j fun z => hj (List.mem_append_left _ z))⟩⟩
theorem pgOr {t t' : TG} (h : PG X tg t) (h' : PG X tg t') : PG X tg (fun v σ H Q => t v σ H Q ∨ t' v σ H Q) := ⟨fun pins s σ H x v Q I r q => q.elim (h.run pins s σ H x v Q I r) (h'.run pins s σ H x v Q I r)⟩
theorem dg_tup {n k : Nat} {is : List Nat} {gr : List PyData → Rho → Option Rho} (hc : X.calm = true) (h : DGs X es is gr) (hn : (assignEach es X.env).length = n := by rfl) (hst : (assignEach es X.env).findIdx? (·.1) = none := by rfl) : DG X (.Tuple es k pos) is (gTp n gr) :=
  pgMono (pgOr (pg_tup (n := n) hc h hn hst) (pg_unl (n := n) hc h hn hst)) fun v σ H Q ⟨B, F, ρ, d, ρ', E, r, e, q⟩ => by
    unfold gTp at e
    split at e
    · rename_i ds
      split at e
      · rename_i hl
        cases r with
        | tup hs ha => exact .inl ⟨_, _, rfl, sameT E.fh hs, (dpLen ha).trans hl, B, F, ρ, _, ρ', E, ha, e, q⟩
      · cases e
    · rename_i ds
      split at e
      · rename_i hl
        cases r with
        | lst hs ha => exact .inr ⟨_, _, rfl, E.fh.seq hs, (dpLen ha).trans hl, B, F, ρ, _, ρ', E, ha, e, q⟩
      · cases e
    · cases e

/-! ### comprehensions -/
def wipeR (ρ : Rho) : List Nat → Rho
  | [] => ρ
  | v :: vs => (wipeR ρ vs).set v .un
def compL (g : EG) (c : EB) (e : EV) (ρ : Rho) : List PyData → Option (List PyData)
  | [] => some []
  | d :: ds => (g d ρ).bind fun ρ1 => (c ρ1).bind fun b => if b then (e ρ1).bind fun x => (compL g c e ρ ds).bind fun r => some (x :: r) else compL g c e ρ ds
def fComp (it : EA) (g : EG) (c : EB) (e : EV) (vs : List Nat) : EA := fun ρ => (it ρ).bind fun ds => if ds.length ≤ 16000000 then compL g c e (wipeR ρ vs) ds else none
theorem setUn {K : PySem.W.Frag} {B F H : Hp} {σ : L2.St} {ρ : Rho} (E : ER K B F H σ ρ) (i : Nat) (x : Option V) : ER K B F H (σ.set i x) (ρ.set i .un) :=
  E.setFlat (fun _ => nofun) (fun _ => nofun) fun _ e => nomatch e
theorem erWipe {K : PySem.W.Frag} {B F H : Hp} {σ : L2.St} {ρ : Rho} (E : ER K B F H σ ρ) : ∀ vs : List Nat, ER K B F H (wipe σ vs) (wipeR ρ vs)
  | [] => E
  | v :: vs => setUn (erWipe E vs) v none
theorem wipe_at {σ : L2.St} : ∀ (vs : List Nat) (j : Nat), (wipe σ vs)[j]? = if j ∈ vs ∧ j < σ.length then some none else σ[j]?
  | [], j => by simp [wipe]
  | v :: vs, j => by
    unfold wipe
    rw [List.getElem?_set, wipe_at vs j, wipe_length]
    by_cases h1 : v = j
    · subst h1
      by_cases h2 : v < σ.length
      · simp [h2]
      · simp [h2]
    · have h3 : ¬ j = v := fun z => h1 z.symm
      simp [h1, h3]
theorem wipe_same {σ σ2 : L2.St} {is vs : List Nat} (hs : ∀ i ∈ is, i ∈ vs) (l : σ2.length = (wipe σ vs).length) (k : ∀ j, j ∉ is → σ2[j]? = (wipe σ vs)[j]?) : wipe σ2 vs = wipe σ vs := by
  rw [wipe_length] at l
  refine List.ext_getElem? fun j => ?_
  rw [wipe_at vs j, wipe_at vs j, l]
  by_cases hj : j ∈ vs
  · by_cases hl : j < σ.length
    · rw [if_pos ⟨hj, hl⟩, if_pos ⟨hj, hl⟩]
    · rw [if_neg fun z => hl z.2, if_neg fun z => hl z.2, List.getElem?_eq_none (by omega), List.getElem?_eq_none (by omega)]
  · rw [if_neg fun z => hj z.1, if_neg fun z => hj z.1, k j fun z => hj (hs j z), wipe_at vs j, if_neg fun z => hj z.1]
theorem compLen {g : EG} {c : EB} {e : EV} {ρ : Rho} : ∀ {ds rs : List PyData}, compL g c e ρ ds = some rs → rs.length ≤ ds.length
  | [], _, h => by cases h; exact Nat.le_refl _
  | d :: ds, rs, h => by
    obtain ⟨ρ1, _, h⟩ := bind_some h
    obtain ⟨b, _, h⟩ := bind_some h
    split at h
    · obtain ⟨x, _, h⟩ := bind_some h
      obtain ⟨r, h1, h⟩ := bind_some h
      cases h
      exact Nat.succ_le_succ (compLen h1)
    · exact Nat.le_succ_of_le (compLen h)
theorem tComp {K : PySem.W.Frag} {it : EA} {g : EG} {is : List Nat} {cb : EB} {ev : EV} {vs : List Nat} (hv : ∀ i ∈ is, i ∈ vs) {σ : L2.St} {H : Hp} {Q : VK} (h : tF K (fComp it g cb ev vs) σ H Q) : tLc (tI K it) (tG K is g) (tT K cb) (tD K ev) vs σ H Q := by
  obtain ⟨B, F, ρ, rs, E, e, q⟩ := h
  obtain ⟨ds, e1, e⟩ := bind_some e
  split at e
  case isFalse => cases e
  rename_i hz
  refine ⟨B, F, ρ, ds, E, e1, fun J F1 H1 G1 Y D nD => ⟨fun i m H2 => m = ds.length - i ∧ i ≤ ds.length ∧ ∃ F2 acc ws rest, Grow F1 H1 F2 H2 ∧ F2 D = none ∧ H2 D = some (.lst ws) ∧ DpAll K F2 ws acc ∧ compL g cb ev (wipeR ρ vs) (ds.drop i) = some rest ∧ acc ++ rest = rs ∧ acc.length ≤ i, ⟨ds.length, by simp, Nat.zero_le _, F1, [], [], rs, .side G1.fh nD, G1.fh.free nD, upd_same, .nil, e, rfl, Nat.le_refl _⟩, ?_⟩⟩
  rintro i m H2 ⟨rfl, hi, F2, acc, ws, rest, G2, n2, h2, r2, e2, e3, l2⟩
  by_cases hlt : i < ds.length
  · refine .inr ⟨Y.go i H2 hlt (G2.ff.trans G2.fh), _, fun H' p' => ⟨ds.length - (i + 1), by omega, rfl, hlt, p'⟩, fun x H3 y => ?_⟩
    obtain ⟨d, F3, hd, G3, r3⟩ := Y.yld i H2 x H3 F2 hlt G2.ff G2.fh y
    have ed : ds.drop i = d :: ds.drop (i + 1) := by
      rw [List.drop_eq_getElem_cons hlt]
      rw [List.getElem?_eq_getElem hlt] at hd
      cases hd
      rfl
    rw [ed] at e2
    obtain ⟨ρ1, c1, e2⟩ := bind_some e2
    obtain ⟨b, c2, e2⟩ := bind_some e2
    have GA := G1.trans (G2.trans G3)
    refine ⟨B, F3, wipeR ρ vs, d, ρ1, erWipe (E.grow GA) vs, r3, c1, fun σ2 E2 l k => ⟨wipe_same hv l k, B, F3, ρ1, b, E2, c2, fun F4 H4 G4 => ?_⟩⟩
    cases b with
    | false =>
      rw [if_neg (by simp)] at e2 ⊢
      exact ⟨F4, acc, ws, rest, G2.trans (G3.trans G4), G4.nn _ _ (G3.hh _ _ h2) (G3.nn _ _ h2 n2), G4.hh _ _ (G3.hh _ _ h2), dpMonoAll (G3.ff.trans G4.ff) _ _ r2, e2, e3, by omega⟩
    | true =>
      rw [if_pos rfl] at e2 ⊢
      obtain ⟨dx, c3, e2⟩ := bind_some e2
      obtain ⟨rr, c4, e2⟩ := bind_some e2
      cases e2
      refine ⟨B, F4, ρ1, dx, E2.grow G4, c3, fun v F5 H5 G5 r5 => ?_⟩
      have GG := G3.trans (G4.trans G5)
      have h5 := GG.hh _ _ h2
      have n5 := GG.nn _ _ h2 n2
      have w5 : ws.length = acc.length := dpLen r2
      refine ⟨ws, h5, by rw [w5]; exact Nat.lt_of_le_of_lt (show acc.length ≤ 16000000 by omega) (by decide), F5, acc ++ [dx], ws ++ [v], rr, ⟨G2.ff.trans GG.ff, fun b o z => ?_, fun b o z => ?_, fun b o z n => GG.nn b o (G2.hh b o z) (G2.nn b o z n)⟩, n5, upd_same, dpApp (dpMonoAll GG.ff _ _ r2) (.cons r5 .nil), c4, by rw [List.append_assoc]; exact e3, by rw [List.length_append, List.length_singleton]; omega⟩
      · rw [upd_ne (fun q => by rw [q, n5] at z; cases z)]
        exact G5.fh b o z
      · rw [upd_ne (ne_of_none z nD)]
        exact GG.hh b o (G2.hh b o z)
  · have ei : i = ds.length := by omega
    subst ei
    rw [List.drop_length] at e2
    cases e2
    rw [List.append_nil] at e3
    subst e3
    exact .inl ⟨Y.stop H2 (G2.ff.trans G2.fh), q D ws F2 H2 (G1.trans G2) (G1.hh.free nD) n2 h2 r2⟩
def DX (X : Cx) (ifs : List Expr) (f : EB) : Prop := PTs X ifs (tT X.K f)
theorem ptsMono {ifs : List Expr} {t t' : TT} (h : PTs X ifs t) (k : ∀ σ H Q, t' σ H Q → t σ H Q) : PTs X ifs t' := ⟨fun pins s σ H Q I q => h.run pins s σ H Q I (k _ _ _ q)⟩
def bYes : EB := fun _ => some true
theorem dx_nil : DX X [] bYes := ptsMono pts_nil fun σ H Q ⟨B, F, ρ, b, E, e, q⟩ => by
  cases e
  exact q F H (.refl E.fh)
theorem dx_one (h : DT X c cb) : DX X [c] cb := pts_one h
theorem df_comp {scope : Scope} {own : List (Str × Nat)} {ifs : List Expr} {is : List Nat} {gg : EG} {it : EA} {ev : EV} (hc : X.calm = true) (hN : X.N.Nodup) (hi : DI X tg iter it) (ok : BlkOk X.N X.env.scope scope own)
    (hg : ∀ (s : Shared) (H : Hp) (C : Addr) (cl : List (Str × Addr)) (fp : List Addr), DG (X.blk s H scope (compEnvC scope cl C X.env) fp) tg is gg) (ht : ∀ (s : Shared) (H : Hp) (C : Addr) (cl : List (Str × Addr)) (fp : List Addr), DX (X.blk s H scope (compEnvC scope cl C X.env) fp) ifs cb)
    (he : ∀ (s : Shared) (H : Hp) (C : Addr) (cl : List (Str × Addr)) (fp : List Addr), DV (X.blk s H scope (compEnvC scope cl C X.env) fp) elt ev) (hv : ∀ i ∈ is, i ∈ own.map (·.2) := by decide) (hs : ∀ x, foldedSetIterable iter X.env x = pure x := by intro _; rfl) :
    DF X (.ListComp elt [⟨tg, iter, ifs, 0⟩] scope pos) (fComp it gg cb ev (own.map (·.2))) := peMono (pe_lc (g := tG X.K is gg) (tt := tT X.K cb) (te := tD X.K ev) hc hN hi ok hg ht he hs) fun _ _ _ q => tComp hv q
end
end DL

set_option Elab.async false
set_option linter.all false
set_option maxRecDepth 100000
set_option maxHeartbeats 4000000
namespace DL
open PySem PySem.Spec PyProof.Rows L2
/-! ### statements -/
/-- an exception: its class by name, its one field -/
structure XD where
  c : Str
  f : Str
  d : PyData
inductive SR where
  | nx (ρ : Rho) | rt (d : PyData) | bk (ρ : Rho) | ct (ρ : Rho) | xc (ρ : Rho) (x : XD)
abbrev ES := Rho → Option SR
def stOk (K : PySem.W.Frag) (F0 B F : Hp) (P : L2.St → Hp → Prop) (ρ : Rho) : Prop := ∀ σ' F' H', Grow F0 B F' H' → ER K B F' H' σ' ρ → Same F F' → P σ' H'
def postX (K : PySem.W.Frag) (F0 B F : Hp) (W : WX) (ρ : Rho) (x : XD) : Prop := ∀ σ' F' H' dd v, Grow F0 B F' H' → ER K B F' H' σ' ρ → Same F F' → H' dd = some (.xd [(x.f, v)]) → F' dd = none → B dd = none → Dp K F' v x.d → W (.ref (He.ga K x.c)) (some dd) σ' H'
def post (K : PySem.W.Frag) (F0 B F : Hp) (W : WX) (D : Ends) : SR → Prop
  | .xc ρ x => postX K F0 B F W ρ x
  | .nx ρ => stOk K F0 B F D.nx ρ
  | .bk ρ => stOk K F0 B F D.bk ρ
  | .ct ρ => stOk K F0 B F D.ct ρ
  | .rt d => ∀ v F' H', Grow F0 B F' H' → Dp K F' v d → D.rt v H'
theorem stOk.mono {K : PySem.W.Frag} {F0 B F F1 : Hp} {P : L2.St → Hp → Prop} {ρ : Rho} (h : stOk K F0 B F P ρ) (s : Same F F1) : stOk K F0 B F1 P ρ := fun σ' F' H' g e s' => h σ' F' H' g e (s.trans s')
theorem post.mono {K : PySem.W.Frag} {F0 B F F1 : Hp} {W : WX} {D : Ends} {r : SR} (h : post K F0 B F W D r) (s : Same F F1) : post K F0 B F1 W D r := by
  cases r with
  | nx ρ => exact stOk.mono h s
  | bk ρ => exact stOk.mono h s
  | ct ρ => exact stOk.mono h s
  | rt d => exact h
  | xc ρ x => exact fun σ' F' H' dd v g e s' => h σ' F' H' dd v g e (s.trans s')
def tS (K : PySem.W.Frag) (W : WX) (f : ES) : TS := fun D σ H => ∃ F0 B F ρ r, Grow F0 B F H ∧ ER K B F H σ ρ ∧ f ρ = some r ∧ post K F0 B F W D r
def DS (X : Cx) (st : Stmt) (f : ES) : Prop := ∀ W : WX, Takes X W → PS X st (tS X.K W f)
def DSs (X : Cx) (st : List Stmt) (f : ES) : Prop := ∀ W : WX, Takes X W → PSs X st (tS X.K W f)
theorem psMono {X : Cx} {st : Stmt} {t t' : TS} (h : PS X st t) (k : ∀ D σ H, t' D σ H → t D σ H) : PS X st t' := ⟨fun pins s σ H D I q => h.run pins s σ H D I (k _ _ _ q)⟩
theorem pssMono {X : Cx} {st : List Stmt} {t t' : TS} (h : PSs X st t) (k : ∀ D σ H, t' D σ H → t D σ H) : PSs X st t' := ⟨fun pins s σ H D I q => h.run pins s σ H D I (k _ _ _ q)⟩
def sNx : ES := fun ρ => some (.nx ρ)
def sBk : ES := fun ρ => some (.bk ρ)
def sCt : ES := fun ρ => some (.ct ρ)
def sSeq (f g : ES) : ES := fun ρ => (f ρ).bind fun r => match r with
  | .nx ρ' => g ρ'
  | r => some r
def sSet (i : Nat) (f : EV) : ES := fun ρ => (f ρ).bind fun d => some (.nx (ρ.set i (.va d)))
def sOwn (i : Nat) (f : EA) : ES := fun ρ => (f ρ).bind fun ds => some (.nx (ρ.set i (.ow ds)))
def sTo (g : EG) (f : EV) : ES := fun ρ => (f ρ).bind fun d => (g d ρ).bind fun ρ' => some (.nx ρ')
def sExp (f : EV) : ES := fun ρ => (f ρ).bind fun _ => some (.nx ρ)
def sApp (i : Nat) (f : EV) : ES := fun ρ => match ρ[i]? with
  | some (SC.ow ds) => (f ρ).bind fun d => if ds.length < 16000000 then some (.nx (ρ.set i (.ow (ds ++ [d])))) else none
  | _ => none
def sPut (i : Nat) (j f : EV) : ES := fun ρ => match ρ[i]? with
  | some (SC.ow ds) => (f ρ).bind fun d => (j ρ).bind fun x => match x with
    | .int k => (ixN ds.length k).bind fun n => some (.nx (ρ.set i (.ow (ds.set n d))))
    | _ => none
  | _ => none
def sIf (c : EB) (f g : ES) : ES := fun ρ => (c ρ).bind fun b => if b then f ρ else g ρ
def sRet (f : EV) : ES := fun ρ => (f ρ).bind fun d => some (.rt d)
def sRetN : ES := fun _ => some (.rt .none)
def sFrz (S : List Nat) (f : ES) : ES := fun ρ => f (frz S ρ)
def forL (g : EG) (f : ES) : List PyData → Rho → Option SR
  | [], ρ => some (.nx ρ)
  | d :: ds, ρ => (g d ρ).bind fun ρ1 => (f ρ1).bind fun r => match r with
    | .nx ρ' => forL g f ds ρ'
    | .ct ρ' => forL g f ds ρ'
    | .bk ρ' => some (.nx ρ')
    | .rt d => some (.rt d)
    | .xc ρ' x => some (.xc ρ' x)
def sFor (it : EA) (g : EG) (f : ES) : ES := fun ρ => (it ρ).bind fun ds => forL g f ds ρ
def whileF (c : EB) (f : ES) : Nat → Rho → Option SR
  | 0, _ => none
  | n + 1, ρ => (c ρ).bind fun b => if b then (f ρ).bind fun r => match r with
    | .nx ρ' => whileF c f n ρ'
    | .ct ρ' => whileF c f n ρ'
    | .bk ρ' => some (.nx ρ')
    | .rt d => some (.rt d)
    | .xc ρ' x => some (.xc ρ' x)
    else some (.nx ρ)
open Classical in
noncomputable def sWhile (c : EB) (f : ES) : ES := fun ρ => if h : ∃ n, (whileF c f n ρ).isSome then whileF c f h.choose ρ else none
theorem whileF_succ {c : EB} {f : ES} : ∀ {n : Nat} {ρ : Rho} {r : SR}, whileF c f n ρ = some r → whileF c f (n + 1) ρ = some r
  | 0, _, _, h => by cases h
  | n + 1, ρ, r, h => by
    unfold whileF at h ⊢
    obtain ⟨b, h1, h⟩ := Option.bind_eq_some_iff.mp h
    rw [h1]
    show (if b = true then _ else _) = some r
    cases b with
    | false => exact h
    | true =>
      rw [if_pos rfl] at h ⊢
      obtain ⟨q, h2, h⟩ := Option.bind_eq_some_iff.mp h
      rw [h2]
      cases q with
      | nx ρ' => exact whileF_succ h
      | ct ρ' => exact whileF_succ h
      | bk ρ' => exact h
      | rt d => exact h
      | xc ρ' x => exact h
theorem whileF_le {c : EB} {f : ES} {n m : Nat} {ρ : Rho} {r : SR} (h : whileF c f n ρ = some r) (l : n ≤ m) : whileF c f m ρ = some r := by
  obtain ⟨k, rfl⟩ := Nat.le.dest l
  induction k with
  | zero => exact h
  | succ k ih => exact whileF_succ (ih (Nat.le_add_right _ _))
theorem sWhile_of {c : EB} {f : ES} {n : Nat} {ρ : Rho} {r : SR} (h : whileF c f n ρ = some r) : sWhile c f ρ = some r := by
  have ex : ∃ n, (whileF c f n ρ).isSome := ⟨n, by rw [h]; rfl⟩
  unfold sWhile
  rw [dif_pos ex]
  obtain ⟨r', h'⟩ := Option.isSome_iff_exists.mp ex.choose_spec
  rw [h']
  by_cases l : n ≤ ex.choose
  · rw [whileF_le h l] at h'
    exact h'.symm
  · rw [whileF_le h' (by omega)] at h
    exact h
theorem sWhile_some {c : EB} {f : ES} {ρ : Rho} {r : SR} (h : sWhile c f ρ = some r) : ∃ n, whileF c f n ρ = some r := by
  unfold sWhile at h
  split at h
  · rename_i ex
    exact ⟨_, h⟩
  · cases h

section
variable {X : Cx} {tg a b c e iter : Expr} {es : List Expr} {st : Stmt} {sts ss : List Stmt} {f g f1 f2 : EV} {h : EA} {cb cb' : EB} {u u1 u2 : ES} {pos : Pos}
theorem dss_nil : DSs X [] sNx := fun W tk => pssMono pss_nil fun D σ H ⟨F0, B, F, ρ, r, G, E, e, p⟩ => by
  cases e
  exact p σ F H G E (.refl F)
theorem dss_cons (h1 : DS X st u1) (h2 : DSs X sts u2) : DSs X (st :: sts) (sSeq u1 u2) := fun W tk => pssMono (pss_cons (h1 W tk) (h2 W tk)) fun D σ H ⟨F0, B, F, ρ, r, G, E, e, p⟩ => by
  obtain ⟨r1, e1, e⟩ := bind_some e
  refine ⟨F0, B, F, ρ, r1, G, E, e1, ?_⟩
  cases r1 with
  | nx ρ' => exact fun σ' F' H' G' E' s => ⟨F0, B, F', ρ', r, G', E', e, p.mono s⟩
  | bk ρ' =>
    cases e
    exact p
  | ct ρ' =>
    cases e
    exact p
  | rt d =>
    cases e
    exact p
  | xc ρ' x =>
    cases e
    exact p
theorem dss_one (h1 : DS X st u1) : DSs X [st] u1 := fun W tk => pss_one (h1 W tk)
theorem ds_pass : DS X (.Pass pos) sNx := fun W tk => psMono ps_pass fun D σ H ⟨F0, B, F, ρ, r, G, E, e, p⟩ => by
  cases e
  exact p σ F H G E (.refl F)
theorem ds_break : DS X (.Break pos) sBk := fun W tk => psMono ps_break fun D σ H ⟨F0, B, F, ρ, r, G, E, e, p⟩ => by
  cases e
  exact p σ F H G E (.refl F)
theorem ds_continue : DS X (.Continue pos) sCt := fun W tk => psMono ps_continue fun D σ H ⟨F0, B, F, ρ, r, G, E, e, p⟩ => by
  cases e
  exact p σ F H G E (.refl F)
theorem setOfV {i : Nat} {te : TE} (h : PS X st (tAsg te (gName i))) (k : ∀ σ H Q, tD X.K f σ H Q → te σ H Q) : DS X st (sSet i f) := fun W tk => psMono h fun D σ H ⟨F0, B, F, ρ, r, G, E, e, p⟩ => by
  obtain ⟨d, e1, e⟩ := bind_some e
  cases e
  exact k _ _ _ ⟨B, F, ρ, d, E, e1, fun v F' H' G' r' => p _ F' H' (G.trans G') ((E.grow G').setVa r') G'.ff⟩
theorem setOfF {i : Nat} {te : TE} (h1 : PS X st (tAsg te (gName i))) (k : ∀ σ H Q, tF X.K h σ H Q → te σ H Q) : DS X st (sOwn i h) := fun W tk => psMono h1 fun D σ H ⟨F0, B, F, ρ, r, G, E, e, p⟩ => by
  obtain ⟨ds, e1, e⟩ := bind_some e
  cases e
  refine k _ _ _ ⟨B, F, ρ, ds, E, e1, fun l vs F' H' G' n1 n2 h3 r' => p _ F' H' (G.trans G') ((E.grow G').setOw n2 (G.hh.free n1) h3 r' fun j k hj q => ?_) G'.ff⟩
  obtain ⟨_, _, ws, q4⟩ := E.at_ (q.back E fun a o _ h => G'.hh a o h)
  rw [n1] at q4
  cases q4
theorem ds_set {i : Nat} {x : Str} {pos' : Pos} (hN : X.N.Nodup) (hi : X.N[i]? = some x) (hx : Loc X.env.scope x) (he : DV X e f) (hs : swapsWith e (some (.Name x pos')) pos.line X.env = pure false := by rfl) (hf : X.fn x = true ∨ X.env.scope.names.lookup x = some .local := by first | exact .inl rfl | exact .inr rfl | assumption) :
    DS X (.Assign [.Name x pos'] e pos) (sSet i f) := setOfV (ps_set hN hi hx he hs hf) fun _ _ _ q => q
theorem ds_own {i : Nat} {x : Str} {pos' : Pos} (hN : X.N.Nodup) (hi : X.N[i]? = some x) (hx : Loc X.env.scope x) (he : DF X e h) (hs : swapsWith e (some (.Name x pos')) pos.line X.env = pure false := by rfl) (hf : X.fn x = true ∨ X.env.scope.names.lookup x = some .local := by first | exact .inl rfl | exact .inr rfl | assumption) :
    DS X (.Assign [.Name x pos'] e pos) (sOwn i h) := setOfF (ps_set hN hi hx he hs hf) fun _ _ _ q => q
/-- x = [.. for ..], x no cell -/
theorem ds_lc {i : Nat} {y : Str} {py : Pos} {elt : Expr} {spos : Pos} {scope : Scope} {own : List (Str × Nat)} {ifs : List Expr} {is : List Nat} {gg : EG} {it : EA} {ev : EV} (hc : X.calm = true) (hN : X.N.Nodup) (hy : X.N[i]? = some y) (hyl : X.env.scope.names.lookup y = some .local)
    (hsw : swapsWith (.ListComp elt [⟨tg, iter, ifs, 0⟩] scope pos) (some (.Name y py)) spos.line X.env = pure true) (hi : DI X tg iter it) (ok : BlkOk X.N X.env.scope scope own)
    (hg : ∀ (s : Shared) (H : Hp) (C : Addr) (cl : List (Str × Addr)) (fp : List Addr), DG (X.blk s H scope (compEnvC scope cl C X.env) fp) tg is gg) (ht : ∀ (s : Shared) (H : Hp) (C : Addr) (cl : List (Str × Addr)) (fp : List Addr), DX (X.blk s H scope (compEnvC scope cl C X.env) fp) ifs cb)
    (he : ∀ (s : Shared) (H : Hp) (C : Addr) (cl : List (Str × Addr)) (fp : List Addr), DV (X.blk s H scope (compEnvC scope cl C X.env) fp) elt ev) (hv : ∀ i ∈ is, i ∈ own.map (·.2) := by decide) (hs : ∀ x, foldedSetIterable iter X.env x = pure x := by intro _; rfl) :
    DS X (.Assign [.Name y py] (.ListComp elt [⟨tg, iter, ifs, 0⟩] scope pos) spos) (sOwn i (fComp it gg cb ev (own.map (·.2)))) :=
  setOfF (ps_setLc (g := tG X.K is gg) (tt := tT X.K cb) (te := tD X.K ev) hc hN hy hyl hsw hi ok hg ht he hs) fun _ _ _ q => tComp hv q
theorem ds_to {is : List Nat} {gg : EG} (he : DV X e f) (hg : DG X tg is gg) (hs : swapsWithSole [tg] e pos.line X.env = pure false := by rfl) (hw : swappedStores [tg] e X.env = pure none := by rfl)
    (h1 : (assignEach [tg] X.env).map (·.2) = [assign tg X.env] := by rfl) : DS X (.Assign [tg] e pos) (sTo gg f) := fun W tk => psMono (ps_asg he hg hs hw h1) fun D σ H ⟨F0, B, F, ρ, r, G, E, e, p⟩ => by
  obtain ⟨d, e1, e⟩ := bind_some e
  obtain ⟨ρ', e2, e⟩ := bind_some e
  cases e
  exact ⟨B, F, ρ, d, E, e1, fun v F' H' G' r' => ⟨B, F', ρ, d, ρ', E.grow G', r', e2, fun σ' E' _ _ => p σ' F' H' (G.trans G') E' G'.ff⟩⟩
theorem ds_expr (he : DV X e f) (hs : swapsWith e none pos.line X.env = pure false := by rfl) : DS X (.Expr e pos) (sExp f) := fun W tk => psMono (ps_expr he hs) fun D σ H ⟨F0, B, F, ρ, r, G, E, e, p⟩ => by
  obtain ⟨d, e1, e⟩ := bind_some e
  cases e
  exact ⟨B, F, ρ, d, E, e1, fun v F' H' G' _ => p σ F' H' (G.trans G') (E.grow G') G'.ff⟩
theorem ownUpd {K : PySem.W.Frag} {F0 B F H : Hp} {σ : L2.St} {ρ : Rho} {i : Nat} {ds es : List PyData} {l : Addr} {ws : List V} (G : Grow F0 B F H) (E : ER K B F H σ ρ) (hρ : ρ[i]? = some (.ow ds)) (hl : σ[i]? = some (some (.ref l))) (r : DpAll K F ws es) :
    Grow F0 B F (upd H l (.lst ws)) ∧ ER K B F (upd H l (.lst ws)) σ (ρ.set i (.ow es)) := by
  obtain ⟨a, vs, q1, q2, q3, q4, q5⟩ := E.ow i ds hρ
  rw [hl] at q1
  cases q1
  have pl : AtP H σ ρ i none l := .inl ⟨ds, hρ, hl⟩
  have fh : Same F (upd H l (.lst ws)) := fun b o z => by
    rw [upd_ne (fun y => by rw [y, q2] at z; cases z)]
    exact E.fh b o z
  have hi : i < ρ.length := by
    by_cases hi : i < ρ.length
    · exact hi
    · rw [List.getElem?_eq_none (by simpa using hi)] at hρ
      cases hρ
  have ne : ∀ {j k c}, j ≠ i → AtP H σ ρ j k c → c ≠ l := fun hj p z => by
    subst z
    exact hj (E.dj _ _ _ _ _ p pl).1
  have back : ∀ {j k c}, AtP (upd H l (.lst ws)) σ (ρ.set i (.ow es)) j k c → AtP H σ ρ j k c := by
    intro j k c p
    by_cases hj : j = i
    · subst hj
      cases k with
      | none =>
        rcases p with ⟨_, _, e⟩ | ⟨_, e, _⟩
        · exact .inl ⟨ds, hρ, e⟩
        · cases setIn e
      | some k =>
        obtain ⟨_, _, _, e, _⟩ := p
        cases setIn e
    · cases k with
      | none =>
        rcases p with ⟨d, e, e2⟩ | ⟨d, e, e2⟩
        · rw [List.getElem?_set_ne (Ne.symm hj)] at e
          exact .inl ⟨d, e, e2⟩
        · rw [List.getElem?_set_ne (Ne.symm hj)] at e
          exact .inr ⟨d, e, e2⟩
      | some k =>
        obtain ⟨d, b, as, e, e2, e3, e4⟩ := p
        rw [List.getElem?_set_ne (Ne.symm hj)] at e
        rw [upd_ne (ne hj (k := none) (.inr ⟨d, e, e2⟩))] at e3
        exact ⟨d, b, as, e, e2, e3, e4⟩
  refine ⟨⟨G.ff, fh, fun b o z => ?_, G.nn⟩, fh, by rw [List.length_set]; exact E.len, fun j d z => ?_, fun j d z => ?_, fun j d z => ?_, fun i' j k l' c p q => E.dj i' j k l' c (back p) (back q)⟩
  · rw [upd_ne (fun y => by rw [y, q3] at z; cases z)]
    exact G.hh b o z
  · by_cases hj : i = j
    · subst hj
      rw [List.getElem?_set_self hi] at z
      cases z
    · rw [List.getElem?_set_ne hj] at z
      exact E.va j d z
  · by_cases hj : i = j
    · subst hj
      rw [List.getElem?_set_self hi] at z
      cases z
      exact ⟨l, ws, hl, q2, q3, upd_same, r⟩
    · rw [List.getElem?_set_ne hj] at z
      obtain ⟨a, vs, p1, p2, p3, p4, p5⟩ := E.ow j d z
      exact ⟨a, vs, p1, p2, p3, by rw [upd_ne (ne (Ne.symm hj) (k := none) (.inl ⟨d, z, p1⟩))]; exact p4, p5⟩
  · by_cases hj : i = j
    · subst hj
      rw [List.getElem?_set_self hi] at z
      cases z
    · rw [List.getElem?_set_ne hj] at z
      obtain ⟨a, as, p1, p2, p3, p4, p5, p6⟩ := E.oo j d z
      refine ⟨a, as, p1, p2, p3, by rw [upd_ne (ne (Ne.symm hj) (k := none) (.inr ⟨d, z, p1⟩))]; exact p4, p5, fun k b ds' e1 e2 => ?_⟩
      obtain ⟨r1, r2, vs, r3, r4⟩ := p6 k b ds' e1 e2
      exact ⟨r1, r2, vs, by rw [upd_ne (ne (Ne.symm hj) (k := some k) ⟨d, a, as, z, p1, p4, e1⟩)]; exact r3, r4⟩
theorem ds_app {i : Nat} {x : Str} {px apos cpos : Pos} (hx : PE X (.Name x px) (tVar i)) (he : DV X e f) (hsw : swapsWith (.Call (.Attribute (.Name x px) "append" apos) [e] [] cpos) none pos.line X.env = pure false := by rfl)
    (hbase : attributeBase (.Name x px) "append" X.env (eval (.Name x px) X.env) = eval (.Name x px) X.env := by rfl)
    (hfew : ((backTo cpos (starEach [e] X.env)).all (fun x => !x.1) && (backToKw cpos (keywordEach [] X.env)).all (fun x => x.1.isSome)
      && decide (([e] : List Expr).length + ([] : List Keyword).length + (if ([] : List Keyword).isEmpty then 0 else 1) < 30)) = true := by rfl)
    (hline : (apos.endLine == cpos.line) = true := by rfl) (hs : starEach [e] X.env = (false, eval e X.env) :: starEach [] X.env := by rfl) (hplain : (backTo cpos (starEach [] X.env)).any (·.1) = false := by rfl) :
    DS X (.Expr (.Call (.Attribute (.Name x px) "append" apos) [e] [] cpos) pos) (sApp i f) :=
  fun W tk => psMono (ps_expr (pe_bm PySem.F.plainAttrs_list PySem.F.slot_list_append PySem.F.type_list_append mt_append hx (pa_cons he pa_nil hs) hbase hfew hline hs hplain) hsw) fun D σ H ⟨F0, B, F, ρ, r, G, E, e, p⟩ => by
    unfold sApp at e
    split at e
    · rename_i ds hρ
      obtain ⟨d, e1, e⟩ := bind_some e
      split at e
      · rename_i hz
        cases e
        obtain ⟨l, vs, q1, q2, q3, q4, q5⟩ := E.ow i ds hρ
        refine ⟨.ref l, q1, .inl ⟨rfl, _, .inl (.inl q4)⟩, B, F, ρ, d, E, e1, fun v F' H' G' r' => ⟨l, vs, v, rfl, rfl, G'.hh _ _ q4, by rw [dpLen q5]; exact Nat.lt_trans hz (by decide), ?_⟩⟩
        obtain ⟨G2, E2⟩ := ownUpd (G.trans G') (E.grow G') hρ q1 (dpApp (dpMonoAll G'.ff _ _ q5) (.cons r' .nil))
        exact p σ F' _ G2 E2 G'.ff
      · cases e
    · cases e
theorem ds_put {i : Nat} {x : Str} {px tpos : Pos} (hx : PE X (.Name x px) (tVar i)) (hb : DV X b g) (he : DV X e f) (hs : swapsWithSole [.Subscript (.Name x px) b tpos] e pos.line X.env = pure false := by rfl) (hw : swappedStores [.Subscript (.Name x px) b tpos] e X.env = pure none := by rfl)
    (h1 : (assignEach [.Subscript (.Name x px) b tpos] X.env).map (·.2) = [assign (.Subscript (.Name x px) b tpos) X.env] := by rfl)
    (hgs : PG X (.Subscript (.Name x px) b tpos) (L2.gSub (tVar i) (tD X.K g) rSetL)) : DS X (.Assign [.Subscript (.Name x px) b tpos] e pos) (sPut i g f) :=
  fun W tk => psMono (ps_asg he hgs hs hw h1) fun D σ H ⟨F0, B, F, ρ, r, G, E, e, p⟩ => by
    unfold sPut at e
    split at e
    · rename_i ds hρ
      obtain ⟨d, e1, e⟩ := bind_some e
      obtain ⟨dx, e2, e⟩ := bind_some e
      obtain ⟨l, vs, q1, q2, q3, q4, q5⟩ := E.ow i ds hρ
      refine ⟨B, F, ρ, d, E, e1, fun v F' H' G' r' => ⟨.ref l, q1, B, F', ρ, dx, E.grow G', e2, fun y F2 H2 G2 r2 => ?_⟩⟩
      cases dx with
      | int k =>
        cases r2
        obtain ⟨n, e3, e⟩ := bind_some e
        cases e
        have GG := G'.trans G2
        have q6 := dpMonoAll GG.ff _ _ q5
        refine ⟨l, vs, k, n, rfl, rfl, GG.hh _ _ q4, by rw [dpLen q5]; exact e3, ?_⟩
        obtain ⟨G3, E3⟩ := ownUpd (G.trans GG) (E.grow GG) hρ q1 (dpSet n q6 (dpMono G2.ff _ _ r'))
        exact p σ F2 _ G3 E3 GG.ff
      | _ => cases e
    · cases e
theorem ds_if (hc : DT X c cb) (ha : DSs X sts u1) (hb : DSs X ss u2) : DS X (.If c sts ss pos) (sIf cb u1 u2) := fun W tk => psMono (ps_if hc (ha W tk) (hb W tk)) fun D σ H ⟨F0, B, F, ρ, r, G, E, e, p⟩ => by
  obtain ⟨k, e1, e⟩ := bind_some e
  refine ⟨B, F, ρ, k, E, e1, fun F' H' G' => ?_⟩
  cases k with
  | true =>
    rw [if_pos rfl] at e ⊢
    exact ⟨F0, B, F', ρ, r, G.trans G', E.grow G', e, p.mono G'.ff⟩
  | false =>
    rw [if_neg (by simp)] at e ⊢
    exact ⟨F0, B, F', ρ, r, G.trans G', E.grow G', e, p.mono G'.ff⟩
theorem ds_ret (he : DV X e f) : DS X (.Return (some e) pos) (sRet f) := fun W tk => psMono (ps_ret he) fun D σ H ⟨F0, B, F, ρ, r, G, E, e, p⟩ => by
  obtain ⟨d, e1, e⟩ := bind_some e
  cases e
  exact ⟨B, F, ρ, d, E, e1, fun v F' H' G' r' => p v F' H' (G.trans G') r'⟩
theorem ds_retN : DS X (.Return none pos) sRetN := fun W tk => psMono ps_retN fun D σ H ⟨F0, B, F, ρ, r, G, E, e, p⟩ => by
  cases e
  exact p .non F H G .non
theorem ds_frz {S : List Nat} (h1 : DS X st u) : DS X st (sFrz S u) := fun W tk => psMono (h1 W tk) fun D σ H ⟨F0, B, F, ρ, r, G, E, e, p⟩ => by
  obtain ⟨F1, s1, E1, n1⟩ := E.frz S
  exact ⟨F0, B, F1, DL.frz S ρ, r, ⟨G.ff.trans s1, E1.fh, G.hh, fun a o z n => n1 a o z (G.nn a o z n)⟩, E1, e, p.mono s1⟩
theorem ds_for {is : List Nat} {gg : EG} (hp : PassesOwn (model X.prog X.w) X.A X.env X.xe) (hc : X.calm = true) (hi : DI X tg iter h) (hg : DG X tg is gg) (hb : DSs X sts u) (hs : ∀ x, foldedSetIterable iter X.env x = pure x := by intro _; rfl) : DS X (.For tg iter sts [] pos) (sFor h gg u) :=
  fun W tk => psMono (ps_for hp hc hi hg (hb W tk) hs) fun D σ H ⟨F0, B, F, ρ, r, G, E, e, p⟩ => by
    obtain ⟨ds, e1, e⟩ := bind_some e
    refine ⟨B, F, ρ, ds, E, e1, fun J F1 H1 G1 Y => ⟨fun i m σ2 H2 => m = ds.length - i ∧ i ≤ ds.length ∧ ∃ F2 ρ2, Grow F0 B F2 H2 ∧ ER X.K B F2 H2 σ2 ρ2 ∧ Same F1 F2 ∧ forL gg u (ds.drop i) ρ2 = some r, ⟨ds.length, by simp, Nat.zero_le _, F1, ρ, G.trans G1, E.grow G1, .refl F1, e⟩, ?_⟩⟩
    rintro i m σ2 H2 ⟨rfl, hi, F2, ρ2, G2, E2, s2, e2⟩
    by_cases hlt : i < ds.length
    · refine .inr ⟨Y.go i H2 hlt (s2.trans E2.fh), fun σ' H' => ∃ F2 ρ2, Grow F0 B F2 H' ∧ ER X.K B F2 H' σ' ρ2 ∧ Same F1 F2 ∧ forL gg u (ds.drop (i + 1)) ρ2 = some r, fun σ' H' p' => ⟨ds.length - (i + 1), by omega, rfl, hlt, p'⟩, fun x H3 y => ?_⟩
      obtain ⟨d, F3, hd, G3, r3⟩ := Y.yld i H2 x H3 F2 hlt s2 E2.fh y
      have ed : ds.drop i = d :: ds.drop (i + 1) := by
        rw [List.drop_eq_getElem_cons hlt]
        rw [List.getElem?_eq_getElem hlt] at hd
        cases hd
        rfl
      rw [ed] at e2
      obtain ⟨ρ3, c1, e2⟩ := bind_some e2
      obtain ⟨r4, c2, e2⟩ := bind_some e2
      refine ⟨B, F3, ρ2, d, ρ3, E2.grow G3, r3, c1, fun σ3 E3 _ _ => ⟨F0, B, F3, ρ3, r4, G2.trans G3, E3, c2, ?_⟩⟩
      have s3 : Same F1 F3 := s2.trans G3.ff
      cases r4 with
      | nx ρ' => exact fun σ' F' H' G' E' s => ⟨F', ρ', G', E', s3.trans s, e2⟩
      | ct ρ' => exact fun σ' F' H' G' E' s => ⟨F', ρ', G', E', s3.trans s, e2⟩
      | bk ρ' =>
        cases e2
        exact fun σ' F' H' G' E' s => p σ' F' H' G' E' (G1.ff.trans (s3.trans s))
      | rt d =>
        cases e2
        exact p
      | xc ρ' x =>
        cases e2
        exact fun σ' F' H' dd v G' E' s => p σ' F' H' dd v G' E' (G1.ff.trans (s3.trans s))
    · have ei : i = ds.length := by omega
      subst ei
      rw [List.drop_length] at e2
      cases e2
      exact .inl ⟨Y.stop H2 (s2.trans E2.fh), p σ2 F2 H2 G2 E2 (G1.ff.trans s2)⟩
theorem ds_while (hp : PassesOwn (model X.prog X.w) X.A X.env X.xe) (hc : DT X c cb) (hb : DSs X sts u) : DS X (.While c sts [] pos) (sWhile cb u) :=
  fun W tk => psMono (ps_while hp hc (hb W tk)) fun D σ H ⟨F0, B, F, ρ, r, G, E, e, p⟩ => by
    obtain ⟨n, e⟩ := sWhile_some e
    refine ⟨fun m σ2 H2 => ∃ F2 ρ2, Grow F0 B F2 H2 ∧ ER X.K B F2 H2 σ2 ρ2 ∧ Same F F2 ∧ whileF cb u m ρ2 = some r, ⟨n, F, ρ, G, E, .refl F, e⟩, ?_⟩
    rintro m σ2 H2 ⟨F2, ρ2, G2, E2, s2, e2⟩
    cases m with
    | zero => cases e2
    | succ m =>
      obtain ⟨k, e3, e2⟩ := Option.bind_eq_some_iff.mp e2
      refine ⟨B, F2, ρ2, k, E2, e3, fun F3 H3 G3 => ?_⟩
      cases k with
      | false =>
        rw [if_neg (by simp)] at e2 ⊢
        cases e2
        exact p σ2 F3 H3 (G2.trans G3) (E2.grow G3) (s2.trans G3.ff)
      | true =>
        rw [if_pos rfl] at e2 ⊢
        obtain ⟨r4, e4, e2⟩ := Option.bind_eq_some_iff.mp e2
        refine ⟨fun σ' H' => ∃ F2 ρ2, Grow F0 B F2 H' ∧ ER X.K B F2 H' σ' ρ2 ∧ Same F F2 ∧ whileF cb u m ρ2 = some r, fun σ' H' p' => ⟨m, Nat.lt_succ_self _, p'⟩, F0, B, F3, ρ2, r4, G2.trans G3, E2.grow G3, e4, ?_⟩
        have s3 : Same F F3 := s2.trans G3.ff
        cases r4 with
        | nx ρ' => exact fun σ' F' H' G' E' s => ⟨F', ρ', G', E', s3.trans s, e2⟩
        | ct ρ' => exact fun σ' F' H' G' E' s => ⟨F', ρ', G', E', s3.trans s, e2⟩
        | bk ρ' =>
          cases e2
          exact fun σ' F' H' G' E' s => p σ' F' H' G' E' (s3.trans s)
        | rt d =>
          cases e2
          exact p
        | xc ρ' x =>
          cases e2
          exact fun σ' F' H' dd v G' E' s => p σ' F' H' dd v G' E' (s3.trans s)
end
/-! ### a def -/
def runD (k : Nat) (u : ES) : List PyData → Option PyData := fun ds => (u (ds.map SC.va ++ List.replicate k SC.un)).bind fun r => match r with
  | .rt d => some d
  | .nx _ => some .none
  | _ => none
abbrev FnP (K : PySem.W.Frag) (x : Str) (st : Stmt) (f : Addr) (fd : FuncData) : Prop := FunD K x x (defArgs st) (defBody st) (defScope st) [] [] f fd
theorem fnOk {P : Program} {w : World} {K : PySem.W.Frag} {mg : Str → Option Value} {base : Heap} {x : Str} {st : Stmt} {fa : Addr} {fd : FuncData} {N ps : List Str} {u : ES} {k n m : Nat} (F : FnP K x st fa fd) (S : FnScope N ps (defScope st)) (hn : ps.length = n) (hm : N.length - n = m)
    (hbody : ∀ (cdv : Value) (A : Around) (outer : List Env) (s : Shared) (H : Hp) (E : XK), Room k (A.deeper (envOfC x (defScope st) s.heap.objs.size fa cdv)) → DSs (cxOf CX0 P w K mg base N x (defScope st) fa cdv A outer s H E).nox (defBody st) u) :
    FnOk P w K mg base CX0 (k + 1) fa fd ps (spD K n (runD m u)) := by
  subst hn hm
  refine F.ok S (fun vs H Q E h => h.1) fun cdv A outer s H vs Q E hr h => ⟨_, (hbody cdv A outer s H E hr (fun _ _ _ _ => False) takes0).nox, ?_⟩
  obtain ⟨hl, F1, ds, d, s1, r, e, q⟩ := h
  obtain ⟨r1, e1, e2⟩ := bind_some e
  refine ⟨F1, H, F1, _, r1, .refl s1, .start s1 r, ?_, ?_⟩
  · rw [hl]
    exact e1
  · cases r1 with
    | rt d' =>
      cases e2
      exact fun v F' H' G r' => q v F' H' G r'
    | nx ρ =>
      cases e2
      exact fun σ' F' H' G E' _ => q .non F' H' G .non
    | bk ρ => cases e2
    | ct ρ => cases e2
    | xc ρ x => cases e2
end DL

set_option Elab.async false
set_option linter.all false
set_option maxRecDepth 100000
set_option maxHeartbeats 4000000
namespace DL
open PySem PySem.Spec PyProof.Rows L2
section
variable {X : Cx} {tg a b c e iter : Expr} {es : List Expr} {st : Stmt} {f g f1 f2 : EV} {h : EA} {cb cb' : EB} {pos : Pos}
/-! ### slices -/
abbrev EO := Rho → Option (Option Int)
def tO (K : PySem.W.Frag) (f : EO) : TO := fun σ H Q => ∃ B F ρ o, ER K B F H σ ρ ∧ f ρ = some o ∧ ∀ F' H', Grow F H F' H' → Q o H'
def DO (X : Cx) (e : Option Expr) (f : EO) : Prop := PO X e (tO X.K f)
theorem poMono {o : Option Expr} {t t' : TO} (h : PO X o t) (k : ∀ σ H Q, t' σ H Q → t σ H Q) : PO X o t' := ⟨fun pins s σ H Q I q => h.run pins s σ H Q I (k _ _ _ q)⟩
def oNone : EO := fun _ => some none
def oSome (f : EV) : EO := fun ρ => (f ρ).bind fun d => match d with
  | .int i => some (some i)
  | _ => none
theorem do_none : DO X none oNone := poMono po_none fun σ H Q ⟨B, F, ρ, o, E, e, q⟩ => by
  cases e
  exact q F H (.refl E.fh)
theorem do_some (h : DV X a f) : DO X (some a) (oSome f) := poMono (po_some h) fun σ H Q ⟨B, F, ρ, o, E, e, q⟩ => by
  obtain ⟨d, e1, e2⟩ := bind_some e
  refine ⟨B, F, ρ, d, E, e1, fun v F' H' G r => ?_⟩
  cases d with
  | int i =>
    cases r
    cases e2
    exact ⟨i, rfl, q F' H' G⟩
  | _ => cases e2
def cutD {α : Type} (xs : List α) (lo hi : Option Int) : List α := (xs.drop (HT.sIx xs.length 0 lo)).take (HT.sIx xs.length xs.length hi - HT.sIx xs.length 0 lo)
theorem dpCut {K : PySem.W.Frag} {H : Hp} {vs : List V} {ds : List PyData} (r : DpAll K H vs ds) (lo hi : Option Int) : DpAll K H (cutV vs lo hi) (cutD ds lo hi) := by
  unfold cutV cutD
  rw [dpLen r]
  exact dpTake _ (dpDrop _ r)
def gSl (x : PyData) (lo hi : Option Int) : Option PyData := match x with
  | .list ds => some (.list (cutD ds lo hi))
  | .tuple ds => if HT.sIx ds.length 0 lo = 0 ∧ HT.sIx ds.length ds.length hi = ds.length then none else some (.tuple (cutD ds lo hi))
  | _ => none
def eSl (f : EV) (lo hi : EO) : EV := fun ρ => (f ρ).bind fun x => (lo ρ).bind fun l => (hi ρ).bind fun u => gSl x l u
theorem dv_sl {lo hi : Option Expr} {l u : EO} {p2 : Pos} (he : DV X e f) (hl : DO X lo l) (hu : DO X hi u) : DV X (.Subscript e (.Slice lo hi none p2) pos) (eSl f l u) :=
  peMono (pe_slice (sl_list.or sl_tup) he hl hu) fun σ H Q ⟨B, F, ρ, d, E, e, q⟩ => by
    obtain ⟨x, e1, e⟩ := bind_some e
    obtain ⟨lo, e2, e⟩ := bind_some e
    obtain ⟨hi, e3, e⟩ := bind_some e
    refine ⟨B, F, ρ, x, E, e1, fun v F1 H1 G1 r1 => ⟨B, F1, ρ, lo, E.grow G1, e2, fun F2 H2 G2 => ⟨B, F2, ρ, hi, (E.grow G1).grow G2, e3, fun F3 H3 G3 => ?_⟩⟩⟩
    have r3 := dpMono (G2.ff.trans G3.ff) _ _ r1
    have GG := G1.trans (G2.trans G3)
    unfold gSl at e
    split at e
    · cases e
      cases r3 with
      | lst hs ha => exact .inl ⟨_, _, rfl, G3.fh.seq hs, fun p np => q _ _ _ (GG.trans (.new G3.fh np)) (.lst (.inl (.inl upd_same)) (dpMonoAll (sameUpd (G3.fh.free np)) _ _ (dpCut ha lo hi)))⟩
    · split at e
      · cases e
      · rename_i hw
        cases e
        cases r3 with
        | tup hs ha => exact .inr ⟨_, _, rfl, sameT G3.fh hs, by rw [dpLen ha]; exact hw, fun p np => q _ _ _ (GG.trans (.new G3.fh np)) (.tup (.inl (.inl upd_same)) (dpMonoAll (sameUpd (G3.fh.free np)) _ _ (dpCut ha lo hi)))⟩
    · cases e
/-- a slice of a list, to be one's own -/
def fSl (f : EV) (lo hi : EO) : EA := fun ρ => (f ρ).bind fun x => (lo ρ).bind fun l => (hi ρ).bind fun u => match x with
  | .list ds => some (cutD ds l u)
  | _ => none
theorem df_sl {lo hi : Option Expr} {l u : EO} {p2 : Pos} (he : DV X e f) (hl : DO X lo l) (hu : DO X hi u) : DF X (.Subscript e (.Slice lo hi none p2) pos) (fSl f l u) :=
  peMono (pe_slice sl_list he hl hu) fun σ H Q ⟨B, F, ρ, d, E, e, q⟩ => by
    obtain ⟨x, e1, e⟩ := bind_some e
    obtain ⟨lo, e2, e⟩ := bind_some e
    obtain ⟨hi, e3, e⟩ := bind_some e
    refine ⟨B, F, ρ, x, E, e1, fun v F1 H1 G1 r1 => ⟨B, F1, ρ, lo, E.grow G1, e2, fun F2 H2 G2 => ⟨B, F2, ρ, hi, (E.grow G1).grow G2, e3, fun F3 H3 G3 => ?_⟩⟩⟩
    have r3 := dpMono (G2.ff.trans G3.ff) _ _ r1
    have GG := G1.trans (G2.trans G3)
    split at e
    · cases e
      cases r3 with
      | lst hs ha => exact ⟨_, _, rfl, G3.fh.seq hs, fun p np => q p _ F3 _ (GG.trans (.side G3.fh np)) (GG.hh.free np) (G3.fh.free np) upd_same (dpCut ha lo hi)⟩
    · cases e
/-! ### is of bools -/
def gIsB : PyData → PyData → Option PyData
  | .bool a, .bool b => some (.bool (decide (a = b)))
  | _, _ => none
def gIsntB : PyData → PyData → Option PyData
  | .bool a, .bool b => some (.bool !(decide (a = b)))
  | _, _ => none
theorem o_isB : OpR X (compareOp .Is) (rG X.K gIsB) := opMono op_isBl fun x y H Q ⟨F, dx, dy, d, s, rx, ry, e, q⟩ => by
  cases dx <;> cases dy <;> try cases e
  cases rx
  cases ry
  exact ⟨_, _, rfl, rfl, q _ F H (.refl s) (.bl _)⟩
theorem o_isntB : OpR X (compareOp .IsNot) (rG X.K gIsntB) := opMono op_notBl fun x y H Q ⟨F, dx, dy, d, s, rx, ry, e, q⟩ => by
  cases dx <;> cases dy <;> try cases e
  cases rx
  cases ry
  exact ⟨_, _, rfl, rfl, q _ F H (.refl s) (.bl _)⟩
/-! ### max, min, isqrt -/
theorem three_of {K : PySem.W.Frag} {F : Hp} {vs : List V} {d e f : PyData} (r : DpAll K F vs [d, e, f]) : ∃ v u w, vs = [v, u, w] ∧ Dp K F v d ∧ Dp K F u e ∧ Dp K F w f := by
  cases r with
  | cons a b =>
    obtain ⟨u, w, rfl, r1, r2⟩ := two_of b
    exact ⟨_, u, w, rfl, a, r1, r2⟩
def mMax3 : List PyData → Option PyData
  | [.int i, .int j, .int k] => some (.int (if (if i < j then j else i) < k then k else (if i < j then j else i)))
  | _ => none
def mMin3 : List PyData → Option PyData
  | [.int i, .int j, .int k] => some (.int (if k < (if j < i then j else i) then k else (if j < i then j else i)))
  | _ => none
theorem c_max3 (hc : X.calm = true) : CallR X (.builtin "max") (rGA X.K mMax3) := clMono (call_max3Nu hc) fun xs H Q ⟨F, ds, d, s, r, e, q⟩ => by
  unfold mMax3 at e
  split at e
  · rename_i i j k
    cases e
    obtain ⟨v, u, w, rfl, rv, ru, rw'⟩ := three_of r
    cases rv
    cases ru
    cases rw'
    refine ⟨_, _, _, _, rfl, ?_, q _ F H (.refl s) (.int _)⟩
    simp only [nuMax3, nuMax2, nuLt, nuCB, Option.map_some, Option.bind_some]
    by_cases c1 : i < j
    · simp only [c1, decide_true, if_true, Option.map_some]
      by_cases c2 : j < k <;> simp [c2]
    · by_cases c2 : i < k <;> simp [c1, c2]
  · cases e
theorem c_min3 (hc : X.calm = true) : CallR X (.builtin "min") (rGA X.K mMin3) := clMono (call_min3Nu hc) fun xs H Q ⟨F, ds, d, s, r, e, q⟩ => by
  unfold mMin3 at e
  split at e
  · rename_i i j k
    cases e
    obtain ⟨v, u, w, rfl, rv, ru, rw'⟩ := three_of r
    cases rv
    cases ru
    cases rw'
    refine ⟨_, _, _, _, rfl, ?_, q _ F H (.refl s) (.int _)⟩
    simp only [nuMin3, nuMin2, nuLt, nuCB, Option.map_some, Option.bind_some]
    by_cases c1 : j < i
    · simp only [c1, decide_true, if_true, Option.map_some]
      by_cases c2 : k < j <;> simp [c2]
    · by_cases c2 : k < i <;> simp [c1, c2]
  · cases e
/-- ints of a list of data -/
def intsOf : List PyData → Option (List Int)
  | [] => some []
  | .int i :: r => (intsOf r).map (i :: ·)
  | _ => none
theorem dpInts {K : PySem.W.Frag} {F : Hp} : ∀ {ds : List PyData} {ns : List Int} {vs : List V}, intsOf ds = some ns → DpAll K F vs ds → vs = ns.map V.int
  | [], ns, vs, e, r => by
    cases e
    cases r
    rfl
  | d :: ds, ns, vs, e, r => by
    cases d with
    | int i =>
      obtain ⟨ms, e1, e2⟩ := Option.map_eq_some_iff.mp e
      subst e2
      cases r with
      | cons a b =>
        cases a
        rw [dpInts e1 b]
        rfl
    | _ => cases e
def lMax : List Int → Int
  | [] => 0
  | [x] => x
  | x :: y :: r => let m := lMax (y :: r); if x < m then m else x
def lMin : List Int → Int
  | [] => 0
  | [x] => x
  | x :: y :: r => let m := lMin (y :: r); if m < x then m else x
theorem lMax_ok : ∀ {ns : List Int}, ns ≠ [] → lMax ns ∈ ns ∧ ∀ y, y ∈ ns → y ≤ lMax ns
  | [], h => absurd rfl h
  | [x], _ => ⟨by simp [lMax], fun y hy => by simp at hy; subst hy; exact Int.le_refl _⟩
  | x :: y :: r, _ => by
    obtain ⟨h1, h2⟩ := lMax_ok (ns := y :: r) (by simp)
    unfold lMax
    by_cases c : x < lMax (y :: r)
    · rw [if_pos c]
      exact ⟨List.mem_cons_of_mem _ h1, fun z hz => by
        rcases List.mem_cons.mp hz with rfl | hz
        · exact Int.le_of_lt c
        · exact h2 z hz⟩
    · rw [if_neg c]
      exact ⟨List.mem_cons_self, fun z hz => by
        rcases List.mem_cons.mp hz with rfl | hz
        · exact Int.le_refl _
        · have := h2 z hz
          omega⟩
theorem lMin_ok : ∀ {ns : List Int}, ns ≠ [] → lMin ns ∈ ns ∧ ∀ y, y ∈ ns → lMin ns ≤ y
  | [], h => absurd rfl h
  | [x], _ => ⟨by simp [lMin], fun y hy => by simp at hy; subst hy; exact Int.le_refl _⟩
  | x :: y :: r, _ => by
    obtain ⟨h1, h2⟩ := lMin_ok (ns := y :: r) (by simp)
    unfold lMin
    by_cases c : lMin (y :: r) < x
    · rw [if_pos c]
      exact ⟨List.mem_cons_of_mem _ h1, fun z hz => by
        rcases List.mem_cons.mp hz with rfl | hz
        · exact Int.le_of_lt c
        · exact h2 z hz⟩
    · rw [if_neg c]
      exact ⟨List.mem_cons_self, fun z hz => by
        rcases List.mem_cons.mp hz with rfl | hz
        · exact Int.le_refl _
        · have := h2 z hz
          omega⟩
theorem max_eq {ns : List Int} {m : Int} (h : m ∈ ns) (k : ∀ y, y ∈ ns → y ≤ m) : m = lMax ns := by
  obtain ⟨h1, h2⟩ := lMax_ok (ns := ns) (by rintro rfl; cases h)
  exact Int.le_antisymm (h2 m h) (k _ h1)
theorem min_eq {ns : List Int} {m : Int} (h : m ∈ ns) (k : ∀ y, y ∈ ns → m ≤ y) : m = lMin ns := by
  obtain ⟨h1, h2⟩ := lMin_ok (ns := ns) (by rintro rfl; cases h)
  exact Int.le_antisymm (k _ h1) (h2 m h)
def mMaxL : List PyData → Option PyData
  | [.list ds] => (intsOf ds).bind fun ns => if 0 < ns.length then some (.int (lMax ns)) else none
  | _ => none
def mMinL : List PyData → Option PyData
  | [.list ds] => (intsOf ds).bind fun ns => if 0 < ns.length then some (.int (lMin ns)) else none
  | _ => none
theorem c_maxL (hc : X.calm = true) : CallR X (.builtin "max") (rGA X.K mMaxL) := clMono (cr_max hc) fun xs H Q ⟨F, ds, d, s, r, e, q⟩ => by
  unfold mMaxL at e
  split at e
  · obtain ⟨ns, e1, e2⟩ := bind_some e
    obtain ⟨v, rfl, rv⟩ := one_of r
    cases rv with
    | lst hs ha =>
      split at e2
      · rename_i hl
        cases e2
        rw [dpInts e1 ha] at hs
        exact ⟨_, ns, rfl, s.seq hs, hl, fun m hm hk => by rw [max_eq hm hk]; exact q _ F H (.refl s) (.int _)⟩
      · cases e2
  · cases e
theorem c_minL (hc : X.calm = true) : CallR X (.builtin "min") (rGA X.K mMinL) := clMono (cr_min hc) fun xs H Q ⟨F, ds, d, s, r, e, q⟩ => by
  unfold mMinL at e
  split at e
  · obtain ⟨ns, e1, e2⟩ := bind_some e
    obtain ⟨v, rfl, rv⟩ := one_of r
    cases rv with
    | lst hs ha =>
      split at e2
      · rename_i hl
        cases e2
        rw [dpInts e1 ha] at hs
        exact ⟨_, ns, rfl, s.seq hs, hl, fun m hm hk => by rw [min_eq hm hk]; exact q _ F H (.refl s) (.int _)⟩
      · cases e2
  · cases e
def mIsqrt : List PyData → Option PyData
  | [.int i] => if 0 ≤ i ∧ i.toNat.log2 < 13400 then some (.int ((Float64.isqrt i.toNat : Nat) : Int)) else none
  | _ => none
theorem c_isqrt : CallR X (.builtin "math.isqrt") (rGA X.K mIsqrt) := fun pins s σ H xs us Q I r ⟨F, ds, d, sm, rd, e, q⟩ => by
  unfold mIsqrt at e
  split at e
  · rename_i i
    split at e
    · rename_i hc
      cases e
      obtain ⟨v, rfl, rv⟩ := one_of rd
      cases rv
      obtain ⟨u, rfl, ru⟩ := r.one
      obtain ⟨t, rfl⟩ := ru
      have h1 := hc.1
      have h2 := hc.2
      exact PySem.call_function_meets PySem.W.MGF.kind_isqrt PySem.W.MGF.plain_isqrt PySem.W.MGF.entry_isqrt (PySem.W.MGF.args_isqrt _) (PySem.W.mg_run_isqrt i t (by omega) (by omega) (by omega)).meets ⟨.int _, H, I.tok _, ⟨_, rfl⟩, q _ F H (.refl sm) (.int _)⟩
    · cases e
  · cases e
/-- x = [.. for ..], x no cell, then read alone -/
def sSetF (i : Nat) (f : EA) : ES := fun ρ => (f ρ).bind fun ds => some (.nx (ρ.set i (.va (.list ds))))
theorem setOfFV {i : Nat} {te : TE} (h1 : PS X st (tAsg te (gName i))) (k : ∀ σ H Q, tF X.K h σ H Q → te σ H Q) : DS X st (sSetF i h) := fun W tk => psMono h1 fun D σ H ⟨F0, B, F, ρ, r, G, E, e, p⟩ => by
  obtain ⟨ds, e1, e⟩ := bind_some e
  cases e
  refine k _ _ _ ⟨B, F, ρ, ds, E, e1, fun l vs F' H' G' n1 n2 h3 r' => ?_⟩
  have G2 := G'.keep n1 h3 n2
  exact p _ _ H' (G.trans G2) ((E.grow G2).setVa (.lst (.inl (.inl upd_same)) (dpMonoAll (sameUpd n2) _ _ r'))) G2.ff
theorem ds_lcV {i : Nat} {y : Str} {py : Pos} {elt : Expr} {spos : Pos} {scope : Scope} {own : List (Str × Nat)} {ifs : List Expr} {is : List Nat} {gg : EG} {it : EA} {ev : EV} (hc : X.calm = true) (hN : X.N.Nodup) (hy : X.N[i]? = some y) (hyl : X.env.scope.names.lookup y = some .local)
    (hsw : swapsWith (.ListComp elt [⟨tg, iter, ifs, 0⟩] scope pos) (some (.Name y py)) spos.line X.env = pure true) (hi : DI X tg iter it) (ok : BlkOk X.N X.env.scope scope own)
    (hg : ∀ (s : Shared) (H : Hp) (C : Addr) (cl : List (Str × Addr)) (fp : List Addr), DG (X.blk s H scope (compEnvC scope cl C X.env) fp) tg is gg) (ht : ∀ (s : Shared) (H : Hp) (C : Addr) (cl : List (Str × Addr)) (fp : List Addr), DX (X.blk s H scope (compEnvC scope cl C X.env) fp) ifs cb)
    (he : ∀ (s : Shared) (H : Hp) (C : Addr) (cl : List (Str × Addr)) (fp : List Addr), DV (X.blk s H scope (compEnvC scope cl C X.env) fp) elt ev) (hv : ∀ i ∈ is, i ∈ own.map (·.2) := by decide) (hs : ∀ x, foldedSetIterable iter X.env x = pure x := by intro _; rfl) :
    DS X (.Assign [.Name y py] (.ListComp elt [⟨tg, iter, ifs, 0⟩] scope pos) spos) (sSetF i (fComp it gg cb ev (own.map (·.2)))) :=
  setOfFV (ps_setLc (g := tG X.K is gg) (tt := tT X.K cb) (te := tD X.K ev) hc hN hy hyl hsw hi ok hg ht he hs) fun _ _ _ q => tComp hv q
/-! ### constants of the module -/
def Gk (K : PySem.W.Frag) (mg : Str → Option Value) (x : Str) (d : PyData) : Prop := ∃ v u, mg x = some u ∧ RelV v u ∧ ∀ H, Dp K H v d
theorem dv_glob {x : Str} {p : Pos} {d : PyData} (hg : Gl X x) (hk : Gk X.K X.mg x d) (hd : (x == ("__debug__" : Str)) = false := by decide) : DV X (.Name x p) (eC d) := by
  obtain ⟨v, u, h1, h2, h3⟩ := hk
  exact peMono (pe_glob hg h1 h2 hd) fun σ H Q ⟨B, F, ρ, d', E, e, q⟩ => by
    cases e
    exact q _ F H (.refl E.fh) (h3 F)
end
/-! ### defs by name -/
section
variable {P : Program} {w : World} {K : PySem.W.Frag} {mg : Str → Option Value} {base : Heap}
def Fd (K : PySem.W.Frag) (mg : Str → Option Value) (x : Str) (st : Stmt) : Prop := ∃ fa fd, FnP K x st fa fd ∧ mg x = some (.ref fa)
structure Def (P : Program) (w : World) (K : PySem.W.Frag) (mg : Str → Option Value) (base : Heap) (x : Str) (k n : Nat) (m : List PyData → Option PyData) : Prop where
  ex : ∃ (fa : Addr) (fd : FuncData) (ps : List Str), FnOk P w K mg base CX0 k fa fd ps (spD K n m) ∧ mg x = some (.ref fa) ∧ PySem.W.keepIn K (.ref fa) = true ∧ L2.Binds K fd ps []
theorem Fd.mk {x : Str} {st : Stmt} {N ps : List Str} {u : ES} {k n m : Nat} (F : Fd K mg x st) (S : FnScope N ps (defScope st)) (hn : ps.length = n) (hm : N.length - n = m)
    (hb : ∀ (kV doc pm : Value) (an : Option Addr) (cdv ct : Value) (us : List Value), us.length = ps.length → bindArgs (PySem.W.fnOf x x (defArgs st) (defBody st) (defScope st) .none kV doc pm an cdv ct) ⟨us, []⟩ = pure (ps.zip us))
    (hbody : ∀ {fa : Addr} (cdv : Value) (A : Around) (outer : List Env) (s : Shared) (H : Hp) (E : XK), Room k (A.deeper (envOfC x (defScope st) s.heap.objs.size fa cdv)) → DSs (cxOf CX0 P w K mg base N x (defScope st) fa cdv A outer s H E).nox (defBody st) u) :
    Def P w K mg base x (k + 1) n (runD m u) := by
  obtain ⟨fa, fd, h1, h2⟩ := F
  exact ⟨fa, fd, ps, fnOk h1 S hn hm hbody, h2, h1.kp, h1.bindsN hb⟩
theorem dv_callD {X : Cx} {e : Expr} {es : List Expr} {h : EA} {x : Str} {p pos : Pos} {k n j : Nat} {m : List PyData → Option PyData} (D : Def X.prog X.w X.K X.mg X.base x k n m) (hr : Room j X.A) (ha : DA X (e :: es) h) (hj : k ≤ j := by decide) (hg : Gl X x := by rfl) (hn : (e :: es).length = n := by rfl) (hdb : (x == ("__debug__" : Str)) = false := by decide)
    (he : starEach (e :: es) X.env = (false, eval e X.env) :: starEach es X.env := by rfl) (hpl : (backTo pos (starEach es X.env)).any (·.1) = false := by rfl) : DV X (.Call (.Name x p) (e :: es) [] pos) (eCall m h) := by
  obtain ⟨fa, fd, ps, h1, h2, h3, h4⟩ := D.ex
  exact dv_call h1 (hr.mono hj) hg h2 h3 h4 ha hn hdb he hpl
end
end DL

set_option Elab.async false
set_option linter.all false
set_option maxRecDepth 100000
set_option maxHeartbeats 4000000
namespace DL
open PySem PySem.Spec PyProof.Rows L2
/-! ### constants of the module, checked -/
mutual
def dpB (K : PySem.W.Frag) : PyData → Value → Bool
  | .none, u => (match u with
    | .none => true
    | _ => false)
  | .bool b, u => (match u with
    | .bool c => b == c
    | _ => false)
  | .int i, u => (match u with
    | .int j _ => decide (i = j)
    | _ => false)
  | .str x, u => (match u with
    | .str y _ => decide (x = y)
    | _ => false)
  | .list ds, u => (match u with
    | .ref a => (match K.lookup a with
      | some ⟨.type c, none, .seq its _, _⟩ => decide (c = "list") && (decide (its.size ≤ sizeLine) && dpBAll K ds its.toList)
      | _ => false)
    | _ => false)
  | .tuple ds, u => (match u with
    | .ref a => (match K.lookup a with
      | some ⟨.type c, _, .seq its _, _⟩ => decide (c = "tuple") && (decide (its.size ≤ sizeLine) && dpBAll K ds its.toList)
      | _ => false)
    | _ => false)
  | .dict _, _ => false
def dpBAll (K : PySem.W.Frag) : List PyData → List Value → Bool
  | [], us => (match us with
    | [] => true
    | _ => false)
  | d :: ds, us => (match us with
    | u :: us => dpB K d u && dpBAll K ds us
    | _ => false)
end
mutual
theorem dpB_ok {K : PySem.W.Frag} : ∀ (d : PyData) (u : Value), dpB K d u = true → ∃ v, RelV v u ∧ ∀ H, Dp K H v d
  | .none, u, h => by
    unfold dpB at h
    split at h
    · exact ⟨.non, rfl, fun _ => .non⟩
    · cases h
  | .bool b, u, h => by
    unfold dpB at h
    split at h
    · exact ⟨.bl b, by rw [eq_of_beq h]; rfl, fun _ => .bl b⟩
    · cases h
  | .int i, u, h => by
    unfold dpB at h
    split at h
    · exact ⟨.int i, ⟨_, by rw [of_decide_eq_true h]⟩, fun _ => .int i⟩
    · cases h
  | .str x, u, h => by
    unfold dpB at h
    split at h
    · exact ⟨.str x, ⟨_, by rw [of_decide_eq_true h]⟩, fun _ => .str x⟩
    · cases h
  | .list ds, u, h => by
    unfold dpB at h
    split at h
    · split at h
      · rename_i a _ c its n sl q
        obtain ⟨h1, h2⟩ := Bool.and_eq_true_iff.mp h
        obtain ⟨h3, h4⟩ := Bool.and_eq_true_iff.mp h2
        obtain ⟨vs, r, k⟩ := dpBAll_ok ds its.toList h4
        exact ⟨.ref a, rfl, fun H => .lst (.inr ⟨_, its, n, q, congrArg Value.type (of_decide_eq_true h1), rfl, rfl, of_decide_eq_true h3, r⟩) (k H)⟩
      · cases h
    · cases h
  | .tuple ds, u, h => by
    unfold dpB at h
    split at h
    · split at h
      · rename_i a _ c _ its n sl q
        obtain ⟨h1, h2⟩ := Bool.and_eq_true_iff.mp h
        obtain ⟨h3, h4⟩ := Bool.and_eq_true_iff.mp h2
        obtain ⟨vs, r, k⟩ := dpBAll_ok ds its.toList h4
        exact ⟨.ref a, rfl, fun H => .tup (.inr ⟨_, its, n, q, congrArg Value.type (of_decide_eq_true h1), rfl, of_decide_eq_true h3, r⟩) (k H)⟩
      · cases h
    · cases h
  | .dict _, u, h => by
    unfold dpB at h
    cases h
theorem dpBAll_ok {K : PySem.W.Frag} : ∀ (ds : List PyData) (us : List Value), dpBAll K ds us = true → ∃ vs, Vals vs us ∧ ∀ H, DpAll K H vs ds
  | [], us, h => by
    unfold dpBAll at h
    split at h
    · exact ⟨[], .nil, fun _ => .nil⟩
    · cases h
  | d :: ds, us, h => by
    unfold dpBAll at h
    split at h
    · rename_i u us
      obtain ⟨h1, h2⟩ := Bool.and_eq_true_iff.mp h
      obtain ⟨v, r1, k1⟩ := dpB_ok d u h1
      obtain ⟨vs, r2, k2⟩ := dpBAll_ok ds us h2
      exact ⟨v :: vs, .cons r1 r2, fun H => .cons (k1 H) (k2 H)⟩
    · cases h
end
/-! ### the head's facts -/
abbrev Fct : Type := PySem.W.Frag → Bool
def fFree (x : Str) : Fct := fun K => He.eqO (PySem.W.nsIn K mainGlobals x) (some none)
def fBlt (x : Str) (id : String) : Fct := fun K => He.eqO (PySem.W.nsIn K mainGlobals x) (some (some (.builtin id)))
def fGlo (x : Str) : Fct := fun K => He.eqO (PySem.W.nsIn K mainGlobals x) (some (some (.ref (He.ga K x))))
def fCon (x : Str) (d : PyData) : Fct := fun K => match PySem.W.nsIn K mainGlobals x with
  | some (some u) => dpB K d u
  | _ => false
def obsX (fa : List Fct) (fn : List He.DefD) (K : PySem.W.Frag) : He.AlD := ((fa.all fun f => f K) && fn.all fun d => d.ok K && fGlo d.at_.1 K, fn.map fun d => He.fnW K d.at_)
def SaysX (fa : List Fct) (fn : List He.DefD) (K : PySem.W.Frag) : Prop := obsX fa fn K = He.valD fn
def obsXG (n : Nat) (fa : List Fct) (fn : List He.DefD) (g : Addr → Option Obj) : He.AlD := obsX fa fn (He.frG g (He.asD g n))
def hookX (n : Nat) (fa : List Fct) (fn : List He.DefD) : PySem.W.Hook where
  α := He.AlD
  obs := fun s => obsXG n fa fn s.heap.get?
  val := fun _ => He.valD fn
  says := fun _ h => ∃ K : PySem.W.Frag, K.In h ∧ SaysX fa fn K
  of := fun _ _ e => ⟨_, He.frG_in, e⟩
  keeps := fun _ _ _ ⟨K, hK, c⟩ k => ⟨K, PySem.W.Frag.In.keeps hK k, c⟩
theorem obsXG_eq {n : Nat} {fa : List Fct} {fn : List He.DefD} {g : Addr → Option Obj} {s : Shared} (h : ∀ a, g a = s.heap.get? a) : obsXG n fa fn g = (hookX n fa fn).obs s := by
  have e : g = s.heap.get? := funext h
  rw [e] <;> rfl
section
variable {fa : List Fct} {fn : List He.DefD} {K : PySem.W.Frag} {h : Heap} {mg : Str → Option Value}
theorem SaysX.fact (c : SaysX fa fn K) (i : Nat) {f : Fct} (h : fa[i]? = some f := by rfl) : f K = true := by
  have c1 := (He.ba (show ((fa.all fun f => f K) && fn.all fun d => d.ok K && fGlo d.at_.1 K) = true from congrArg (fun z : He.AlD => z.1) c)).1
  exact List.all_eq_true.mp c1 f (List.mem_of_getElem? h)
theorem SaysX.def_ (c : SaysX fa fn K) (i : Nat) {d : He.DefD} (h : fn[i]? = some d := by rfl) : (∃ fd, FunD K d.name d.qual d.params d.body d.scope (d.dvs K) (d.kws K) (He.fAd K d.at_) fd) ∧ fGlo d.at_.1 K = true := by
  have c2 := (He.ba (show ((fa.all fun f => f K) && fn.all fun d => d.ok K && fGlo d.at_.1 K) = true from congrArg (fun z : He.AlD => z.1) c)).2
  have e : fn.map (fun d => He.fnW K d.at_) = fn.map He.DefD.val := congrArg (fun z : He.AlD => z.2) c
  have e2 : (fn.map fun d => He.fnW K d.at_)[i]? = (fn.map He.DefD.val)[i]? := by rw [e]
  rw [List.getElem?_map, List.getElem?_map, h] at e2
  obtain ⟨k1, k2⟩ := He.ba (List.all_eq_true.mp c2 d (List.mem_of_getElem? h))
  exact ⟨He.DefD.funD (Option.some.inj e2) k1, k2⟩
/-- a def of the text as a datum -/
abbrev dfn (x : Str) (st : Stmt) : He.DefD := ⟨(x, none), x, x, defArgs st, defBody st, defScope st, [], []⟩
theorem SaysX.fnP (c : SaysX fa fn K) (X : K.In h) (G : h.Ns mainGlobals mg) (i : Nat) (x : Str) (st : Stmt) (e : fn[i]? = some (dfn x st) := by rfl) : ∃ fd, FnP K x st (He.ga K x) fd ∧ mg x = some (.ref (He.ga K x)) := by
  obtain ⟨⟨fd, h1⟩, h2⟩ := c.def_ i e
  exact ⟨fd, h1, PySem.W.mg_of X G (He.eqO_ok h2)⟩
theorem SaysX.fd (c : SaysX fa fn K) (X : K.In h) (G : h.Ns mainGlobals mg) (i : Nat) (x : Str) (st : Stmt) (e : fn[i]? = some (dfn x st) := by rfl) : Fd K mg x st := by
  obtain ⟨fd, h1, h2⟩ := c.fnP X G i x st e
  exact ⟨_, fd, h1, h2⟩
theorem SaysX.free (c : SaysX fa fn K) (X : K.In h) (G : h.Ns mainGlobals mg) (i : Nat) (x : Str) (e : fa[i]? = some (fFree x) := by rfl) : mg x = none := PySem.W.mg_none_of X G (He.eqO_ok (c.fact i e))
theorem SaysX.blt (c : SaysX fa fn K) (X : K.In h) (G : h.Ns mainGlobals mg) (i : Nat) (x : Str) (id : String) (e : fa[i]? = some (fBlt x id) := by rfl) : mg x = some (.builtin id) := PySem.W.mg_of X G (He.eqO_ok (c.fact i e))
theorem SaysX.con (c : SaysX fa fn K) (X : K.In h) (G : h.Ns mainGlobals mg) (i : Nat) (x : Str) (d : PyData) (e : fa[i]? = some (fCon x d) := by rfl) : Gk K mg x d := by
  have c1 := c.fact i e
  unfold fCon at c1
  split at c1
  · rename_i u q
    obtain ⟨v, r, k⟩ := dpB_ok d u c1
    exact ⟨v, u, PySem.W.mg_of X G q, r, k⟩
  · cases c1
end
/-! ### the law's end -/
theorem intsDp {K : PySem.W.Frag} {H : Hp} : ∀ ns : List Int, DpAll K H (ns.map V.int) (ns.map PyData.int)
  | [] => .nil
  | n :: ns => .cons (.int n) (intsDp ns)
theorem walk_law {l : PySem.W.OpenLaw} {k : Nat} {q : Program} {loose : List Str} {XP : (Str → Option Value) → Heap → Prop} {YP : World → Heap → Prop} {d : DefRec} {x : Str} {m : List PyData → Option PyData}
    (hn : l.most = some 63) (hdf : d.params.defaults = []) (hr : Room k callerA)
    (F : ∀ (w : World) (mg : Str → Option Value) (fa : Addr) (h : Heap), YP w h → h.Ns mainGlobals mg → mg d.name = some (.ref fa) →
      ∃ (K : PySem.W.Frag) (fd : FuncData), K.In h ∧ (∀ (s : Shared) (u : Value), BindsTo s fd ⟨[u], []⟩ [(x, u)]) ∧ ∀ base : Heap, K.In base → base.Ns mainGlobals mg → FnOk l.prog w K mg base CX0 k fa fd [x] (spD K 1 m))
    (hm : ∀ ns : List Int, ns.length ≤ 63 → (∀ z ∈ ns, Builtin.Int.intBits z ≤ 1048576) → m [.list (ns.map PyData.int)] = some (.bool true)) :
    PySem.W.WalkO q loose XP YP l.row.toRowW d [] (fun f vs => PySem.call f vs) := by
  refine Att.attach_callB hn hdf fun w s₀ s₁ mg mb fa o pm cd doc a vs ns G Y ho hd hcd hmg hobj hints hlen hbits hg => ?_
  obtain ⟨K, fd, KX, hb, hF⟩ := F w mg fa _ Y G.T.g hmg
  refine law_call KX G.T.g G.T.b G.T.builtins G.T.nolimit hg hobj hints (Nat.le_trans hlen (by decide)) hr hF hb (fun H hO hS => ⟨rfl, H, [.list (ns.map PyData.int)], .bool true, .refl H, .cons (.lst hS (intsDp ns)) .nil, hm ns hlen hbits, fun v F' H' _ r => ?_⟩) fun H e s' z => z
  cases r
  rfl
end DL

set_option Elab.async false
set_option linter.all false
set_option maxRecDepth 100000
set_option maxHeartbeats 4000000
namespace DL
open PySem PySem.Spec PyProof.Rows L2
section
variable {X : Cx} {tg a b c e iter : Expr} {es : List Expr} {st : Stmt} {f g f1 f2 : EV} {h : EA} {cb cb' : EB} {pos : Pos}
/-! ### a, b = x, y -/
def sPar (i j : Nat) (f : EA) : ES := fun ρ => (f ρ).bind fun ds => match ds with
  | [x, y] => some (.nx ((ρ.set i (.va x)).set j (.va y)))
  | _ => none
def sPar3 (i j k : Nat) (f : EA) : ES := fun ρ => (f ρ).bind fun ds => match ds with
  | [x, y, z] => some (.nx (((ρ.set i (.va x)).set j (.va y)).set k (.va z)))
  | _ => none
theorem ds_par {i j : Nat} {x y : Str} {px py pt : Pos} {kt k2 pt2} (hc : X.calm = true) (hN : X.N.Nodup) (hi : X.N[i]? = some x) (hj : X.N[j]? = some y) (hij : i ≠ j)
    (hx : X.env.scope.names.lookup x = some .local) (hy : X.env.scope.names.lookup y = some .local) (ha : DA X [a, b] h)
    (hw : swappedStores [.Tuple [.Name x px, .Name y py] kt pt] (.Tuple [a, b] k2 pt2) X.env = pure (some [x, y]))
    (hs : swapsWithSole [.Tuple [.Name x px, .Name y py] kt pt] (.Tuple [a, b] k2 pt2) pos.line X.env = pure false := by rfl) :
    DS X (.Assign [.Tuple [.Name x px, .Name y py] kt pt] (.Tuple [a, b] k2 pt2) pos) (sPar i j h) := fun W tk => psMono (ps_par hc hN hi hj hij hx hy ha.pa hw hs) fun D σ H ⟨F0, B, F, ρ, r, G, E, e, p⟩ => by
  obtain ⟨ds, e1, e2⟩ := bind_some e
  split at e2
  · cases e2
    refine ⟨B, F, ρ, _, E, e1, fun vs F1 H1 G1 rr => ?_⟩
    obtain ⟨v, u, rfl, rv, ru⟩ := two_of rr
    exact ⟨v, u, rfl, p _ F1 H1 (G.trans G1) (((E.grow G1).setVa rv).setVa ru) G1.ff⟩
  · cases e2
theorem ds_par3 {i j l : Nat} {x y z : Str} {px py pz pt : Pos} {kt k2 pt2} (hc : X.calm = true) (hN : X.N.Nodup) (hi : X.N[i]? = some x) (hj : X.N[j]? = some y) (hl : X.N[l]? = some z) (hij : i ≠ j) (hil : i ≠ l) (hjl : j ≠ l)
    (hx : X.env.scope.names.lookup x = some .local) (hy : X.env.scope.names.lookup y = some .local) (hz : X.env.scope.names.lookup z = some .local) (ha : DA X [a, b, c] h)
    (hw : swappedStores [.Tuple [.Name x px, .Name y py, .Name z pz] kt pt] (.Tuple [a, b, c] k2 pt2) X.env = pure (some [x, y, z]))
    (hs : swapsWithSole [.Tuple [.Name x px, .Name y py, .Name z pz] kt pt] (.Tuple [a, b, c] k2 pt2) pos.line X.env = pure false := by rfl) :
    DS X (.Assign [.Tuple [.Name x px, .Name y py, .Name z pz] kt pt] (.Tuple [a, b, c] k2 pt2) pos) (sPar3 i j l h) := fun W tk => psMono (ps_par3 hc hN hi hj hl hij hil hjl hx hy hz ha.pa hw hs) fun D σ H ⟨F0, B, F, ρ, r, G, E, e, p⟩ => by
  obtain ⟨ds, e1, e2⟩ := bind_some e
  split at e2
  · cases e2
    refine ⟨B, F, ρ, _, E, e1, fun vs F1 H1 G1 rr => ?_⟩
    obtain ⟨v, u, w, rfl, rv, ru, rw'⟩ := three_of rr
    exact ⟨v, u, w, rfl, p _ F1 H1 (G.trans G1) ((((E.grow G1).setVa rv).setVa ru).setVa rw') G1.ff⟩
  · cases e2
/-! ### chains a < b < c -/
def eChain (g g' : PyData → PyData → Option PyData) (f1 f2 f3 : EV) : EV := fun ρ => (f1 ρ).bind fun x => (f2 ρ).bind fun y => (g x y).bind fun d => (blOf d).bind fun k => if k then (f3 ρ).bind fun z => g' y z else some (.bool false)
theorem tChain' {g g' : PyData → PyData → Option PyData} {f3 : EV} {σ : L2.St} {H : Hp} {Q : VK} {K : PySem.W.Frag} (h : tD K (eChain g g' f1 f2 f3) σ H Q) : tChain (rG K g) (rG K g') (tD K f1) (tD K f2) (tD K f3) σ H Q := by
  obtain ⟨B, F, ρ, d, E, e, q⟩ := h
  obtain ⟨dx, e1, e⟩ := bind_some e
  obtain ⟨dy, e2, e⟩ := bind_some e
  obtain ⟨dk, e3, e⟩ := bind_some e
  obtain ⟨k, e4, e6⟩ := bind_some e
  clear e
  refine ⟨B, F, ρ, dx, E, e1, fun x F1 H1 G1 r1 => ⟨B, F1, ρ, dy, E.grow G1, e2, fun y F2 H2 G2 r2 => ⟨F2, dx, dy, dk, G2.fh, dpMono G2.ff _ _ r1, r2, e3, fun v F3 H3 G3 r3 => ?_⟩⟩⟩
  cases dk with
  | bool k' =>
    cases e4
    cases r3
    refine ⟨k, rfl, ?_⟩
    cases k with
    | true =>
      rw [if_pos rfl] at e6 ⊢
      obtain ⟨dz, e5, e⟩ := bind_some e6
      exact ⟨B, F3, ρ, dz, (E.grow (G1.trans G2)).grow G3, e5, fun w F4 H4 G4 r4 => ⟨F4, dy, dz, d, G4.fh, dpMono (G3.ff.trans G4.ff) _ _ r2, r4, e, fun v F5 H5 G5 r5 => q v F5 H5 (G1.trans (G2.trans (G3.trans (G4.trans G5)))) r5⟩⟩
    | false =>
      rw [if_neg (by simp)] at e6 ⊢
      cases e6
      exact q _ F3 H3 (G1.trans (G2.trans G3)) (.bl false)
  | _ => cases e4
theorem dv_chain {op op' : CmpOp} {g g' : PyData → PyData → Option PyData} {f3 : EV} (ho : OpR X (compareOp op) (rG X.K g)) (ho' : OpR X (compareOp op') (rG X.K g')) (ha : DV X a f1) (hb : DV X b f2) (hc : DV X c f3)
    (hm : lastMarks [op, op'] [b, c] = false := by with_unfolding_all rfl) : DV X (.Compare a [op, op'] [b, c] pos) (eChain g g' f1 f2 f3) := peMono (pe_chain ho ho' ha hb hc hm) fun _ _ _ q => tChain' q
theorem dt_chain {op op' : CmpOp} {g g' : PyData → PyData → Option PyData} {f3 : EV} (ho : OpR X (compareOp op) (rG X.K g)) (ho' : OpR X (compareOp op') (rG X.K g')) (ha : DV X a f1) (hb : DV X b f2) (hc : DV X c f3)
    (hm : lastMarks [op, op'] [b, c] = false := by with_unfolding_all rfl) : DT X (.Compare a [op, op'] [b, c] pos) (bVal (eChain g g' f1 f2 f3)) := ptMono (pt_chain ho ho' ha hb hc hm) fun σ H Q ⟨B, F, ρ, b, E, e, q⟩ => by
  obtain ⟨d, e1, e2⟩ := bind_some e
  refine tChain' ⟨B, F, ρ, d, E, e1, fun v F' H' G r => ?_⟩
  cases d with
  | bool k =>
    cases e2
    cases r
    exact ⟨_, rfl, q F' H' G⟩
  | _ => cases e2
end
end DL

set_option Elab.async false
set_option linter.all false
set_option maxRecDepth 100000
set_option maxHeartbeats 4000000
namespace DL
open PySem PySem.Spec PyProof.Rows L2
section
variable {X : Cx} {tg a b c e iter : Expr} {es : List Expr} {st : Stmt} {f g f1 f2 : EV} {h h1 h2 : EA} {cb cb' : EB} {pos apos cpos : Pos}
/-! ### what is never reached -/
def sNo : ES := fun _ => none
theorem ds_no : DS X st sNo := fun W tk => ⟨fun pins s σ H D I ⟨_, _, _, _, _, _, _, e, _⟩ => by cases e⟩
/-! ### a new list times a number -/
def fRep (h : EA) (f : EV) : EA := fun ρ => (h ρ).bind fun ds => (f ρ).bind fun d => match d with
  | .int k => if 0 ≤ k ∧ k ≤ 1000000 ∧ ds.length * k.toNat ≤ 16000000 then some (List.replicate k.toNat ds).flatten else none
  | _ => none
theorem dpRep {K : PySem.W.Frag} {H : Hp} {vs : List V} {ds : List PyData} (r : DpAll K H vs ds) : ∀ n : Nat, DpAll K H (List.replicate n vs).flatten (List.replicate n ds).flatten
  | 0 => .nil
  | n + 1 => by
    rw [List.replicate_succ, List.replicate_succ, List.flatten_cons, List.flatten_cons]
    exact dpApp r (dpRep r n)
theorem df_rep (ha : DF X a h) (hb : DV X b f) : DF X (.BinOp a .Mult b pos) (fRep h f) := peMono (pe_op op_rep ha hb) fun σ H Q ⟨B, F, ρ, ds, E, e, q⟩ => by
  obtain ⟨xs, e1, e⟩ := bind_some e
  obtain ⟨d, e2, e⟩ := bind_some e
  refine ⟨B, F, ρ, xs, E, e1, fun l vs F1 H1 G1 n1 n2 h1 r1 => ⟨B, F1, ρ, d, E.grow G1, e2, fun y F2 H2 G2 r2 => ?_⟩⟩
  cases d with
  | int k =>
    cases r2
    change (if 0 ≤ k ∧ k ≤ 1000000 ∧ xs.length * k.toNat ≤ 16000000 then some (List.replicate k.toNat xs).flatten else none) = some ds at e
    split at e
    case isFalse => cases e
    rename_i hc
    cases e
    have r3 := dpMonoAll G2.ff _ _ r1
    refine ⟨l, k, vs, rfl, rfl, G2.hh _ _ h1, by omega, by omega, ?_, fun p np => ?_⟩
    · rw [dpLen r1]
      exact Nat.le_trans hc.2.2 (by decide)
    · exact q p _ F2 _ ((G1.trans G2).trans (.side G2.fh np)) ((G1.trans G2).hh.free np) (G2.fh.free np) upd_same (dpRep r3 _)
  | _ => cases e
/-! ### how often a number stands in a list -/
def gCnt : PyData → PyData → Option PyData
  | .list ds, .int k => (intsOf ds).map fun ns => .int (ns.count k : Nat)
  | _, _ => none
theorem dv_count {o : Expr} (ho : DV X o f1) (he : DV X e f2) (hbase : attributeBase o "count" X.env (eval o X.env) = eval o X.env := by rfl)
    (hfew : ((backTo cpos (starEach [e] X.env)).all (fun x => !x.1) && (backToKw cpos (keywordEach [] X.env)).all (fun x => x.1.isSome)
      && decide (([e] : List Expr).length + ([] : List Keyword).length + (if ([] : List Keyword).isEmpty then 0 else 1) < 30)) = true := by rfl)
    (hline : (apos.endLine == cpos.line) = true := by rfl) (hs : starEach [e] X.env = (false, eval e X.env) :: starEach [] X.env := by rfl) (hplain : (backTo cpos (starEach [] X.env)).any (·.1) = false := by rfl) :
    DV X (.Call (.Attribute o "count" apos) [e] [] cpos) (eBin gCnt f1 f2) :=
  peMono (pe_bm PySem.F.plainAttrs_list PySem.F.slot_list_count PySem.F.type_list_count mt_lcount ho (pa_cons he pa_nil hs) hbase hfew hline hs hplain) fun σ H Q ⟨B, F, ρ, d, E, e, q⟩ => by
    obtain ⟨dx, e1, e⟩ := bind_some e
    obtain ⟨dy, e2, e⟩ := bind_some e
    refine ⟨B, F, ρ, dx, E, e1, fun v F1 H1 G1 r1 => ?_⟩
    cases dx <;> cases dy <;> try cases e
    · rename_i ds k
      obtain ⟨ns, e3, e4⟩ := Option.map_eq_some_iff.mp e
      cases e4
      cases r1 with
      | lst hs ha =>
        have hv := dpInts e3 ha
        subst hv
        refine ⟨.inl ⟨rfl, _, G1.fh.seq hs⟩, B, F1, ρ, _, E.grow G1, e2, fun y F2 H2 G2 r2 => ?_⟩
        cases r2
        exact ⟨_, ns, k, rfl, rfl, (G1.fh.trans G2.hh).seq hs, q _ F2 H2 (G1.trans G2) (.int _)⟩
end
end DL

set_option Elab.async false
set_option linter.all false
set_option maxRecDepth 100000
set_option maxHeartbeats 4000000
/-! DLA: exceptions. A def that may raise; raise; try; the suite of an except clause. -/
namespace DL
open PySem PySem.Spec PyProof.Rows L2
inductive XR where
  | val (d : PyData) | exc (x : XD)
/-- what stands of an exception: its class, its dict with the one field -/
structure XAt (K : PySem.W.Frag) (F H : Hp) (cls : Value) (d : Option Addr) (x : XD) : Prop where
  c : cls = .ref (He.ga K x.c)
  e : ∃ dd v, d = some dd ∧ H dd = some (.xd [(x.f, v)]) ∧ Dp K F v x.d
theorem XAt.grow {K : PySem.W.Frag} {F H F' H' : Hp} {cls : Value} {d : Option Addr} {x : XD} (a : XAt K F H cls d x) (g : Grow F H F' H') : XAt K F' H' cls d x := by
  obtain ⟨dd, v, e1, e2, e3⟩ := a.e
  exact ⟨a.c, dd, v, e1, g.hh _ _ e2, dpMono g.ff _ _ e3⟩
def spX (K : PySem.W.Frag) (n : Nat) (m : List PyData → Option XR) : Sp := fun vs H Q E => vs.length = n ∧ ∃ F ds r, Same F H ∧ DpAll K F vs ds ∧ m ds = some r ∧ match r with
  | .val d => ∀ v F' H', Grow F H F' H' → Dp K F' v d → Q v H'
  | .exc x => ∀ F' H' dd v, Grow F H F' H' → H' dd = some (.xd [(x.f, v)]) → F' dd = none → H dd = none → Dp K F' v x.d → E (.ref (He.ga K x.c)) (some dd) H'
def runX (k : Nat) (u : ES) : List PyData → Option XR := fun ds => (u (ds.map SC.va ++ List.replicate k SC.un)).bind fun r => match r with
  | .rt d => some (.val d)
  | .nx _ => some (.val .none)
  | .xc _ x => some (.exc x)
  | _ => none
def vOf : XR → Option PyData
  | .val d => some d
  | _ => none
theorem fnOkX {P : Program} {w : World} {K : PySem.W.Frag} {mg : Str → Option Value} {base : Heap} {x : Str} {st : Stmt} {fa : Addr} {fd : FuncData} {N ps : List Str} {u : ES} {k n m : Nat} (F : FnP K x st fa fd) (S : FnScope N ps (defScope st)) (hn : ps.length = n) (hm : N.length - n = m)
    (hbody : ∀ (cdv : Value) (A : Around) (outer : List Env) (s : Shared) (H : Hp) (E : XK), Room k (A.deeper (envOfC x (defScope st) s.heap.objs.size fa cdv)) → DSs (cxOf (L2.CX P w) P w K mg base N x (defScope st) fa cdv A outer s H E) (defBody st) u) :
    FnOk P w K mg base (L2.CX P w) (k + 1) fa fd ps (spX K n (runX m u)) := by
  subst hn hm
  refine F.ok S (fun vs H Q E h => h.1) fun cdv A outer s H vs Q E hr h => ⟨_, hbody cdv A outer s H E hr (fun cls d _ H => E cls d H) (takes_of rfl rfl rfl rfl), ?_⟩
  obtain ⟨hl, F1, ds, r, s1, rr, e, q⟩ := h
  obtain ⟨r1, e1, e2⟩ := bind_some e
  refine ⟨F1, H, F1, _, r1, .refl s1, .start s1 rr, ?_, ?_⟩
  · rw [hl]
    exact e1
  · cases r1 with
    | rt d' =>
      cases e2
      exact fun v F' H' G r' => q v F' H' G r'
    | nx ρ =>
      cases e2
      exact fun σ' F' H' G E' _ => q .non F' H' G .non
    | xc ρ x =>
      cases e2
      exact fun σ' F' H' dd v G _ _ h1 h2 h3 h4 => q F' H' dd v G h1 h2 h3 h4
    | bk ρ => cases e2
    | ct ρ => cases e2
/-- a def that may raise, by name -/
structure DefX (P : Program) (w : World) (K : PySem.W.Frag) (mg : Str → Option Value) (base : Heap) (x : Str) (k n : Nat) (m : List PyData → Option XR) : Prop where
  ex : ∃ (fa : Addr) (fd : FuncData) (ps : List Str), FnOk P w K mg base (L2.CX P w) k fa fd ps (spX K n m) ∧ mg x = some (.ref fa) ∧ PySem.W.keepIn K (.ref fa) = true ∧ L2.Binds K fd ps []
section
variable {P : Program} {w : World} {K : PySem.W.Frag} {mg : Str → Option Value} {base : Heap}
theorem Fd.mkX {x : Str} {st : Stmt} {N ps : List Str} {u : ES} {k n m : Nat} (F : Fd K mg x st) (S : FnScope N ps (defScope st)) (hn : ps.length = n) (hm : N.length - n = m)
    (hb : ∀ (kV doc pm : Value) (an : Option Addr) (cdv ct : Value) (us : List Value), us.length = ps.length → bindArgs (PySem.W.fnOf x x (defArgs st) (defBody st) (defScope st) .none kV doc pm an cdv ct) ⟨us, []⟩ = pure (ps.zip us))
    (hbody : ∀ {fa : Addr} (cdv : Value) (A : Around) (outer : List Env) (s : Shared) (H : Hp) (E : XK), Room k (A.deeper (envOfC x (defScope st) s.heap.objs.size fa cdv)) → DSs (cxOf (L2.CX P w) P w K mg base N x (defScope st) fa cdv A outer s H E) (defBody st) u) :
    DefX P w K mg base x (k + 1) n (runX m u) := by
  obtain ⟨fa, fd, h1, h2⟩ := F
  exact ⟨fa, fd, ps, fnOkX h1 S hn hm hbody, h2, h1.kp, h1.bindsN hb⟩
/-- where it raises nothing it is a def that works out data -/
theorem DefX.dat {x : Str} {k n : Nat} {m : List PyData → Option XR} (D : DefX P w K mg base x k n m) : Def P w K mg base x k n (fun ds => (m ds).bind vOf) := by
  obtain ⟨fa, fd, ps, h1, h2, h3, h4⟩ := D.ex
  refine ⟨fa, fd, ps, ⟨fun vs H Q E h => ?_, fun A outer s H args us vs Q E hr e0 hb r hsp => ?_⟩, h2, h3, h4⟩
  · obtain ⟨hl, F, ds, d, s, rr, e, q⟩ := h
    obtain ⟨r, e1, e2⟩ := bind_some e
    cases r with
    | val d' =>
      cases e2
      exact h1.len vs H Q (fun _ _ _ => False) ⟨hl, F, ds, _, s, rr, e1, q⟩
    | exc x => cases e2
  · obtain ⟨hl, F, ds, d, s0, rr, e, q⟩ := hsp
    obtain ⟨r0, e1, e2⟩ := bind_some e
    cases r0 with
    | val d' =>
      cases e2
      refine codeAny_mono (h1.run A outer s H args us vs Q (fun _ _ _ => False) hr e0 hb r ⟨hl, F, ds, _, s0, rr, e1, q⟩) fun res s' hc => ?_
      cases res with
      | ok fl =>
        cases fl with
        | ret u => exact hc
        | next => exact hc
        | brk => exact hc
        | cont => exact hc
      | error er =>
        obtain ⟨_, _, _, _, _, _, _, _, _, _, _, _, z⟩ := hc
        exact z.elim
    | exc x => cases e2
end
/-! ### a class of exceptions: class C(..): def __init__(self, f): self.f = f -/
def spIn (K : PySem.W.Frag) (f : Str) : Sp := fun vs H Q _ => ∃ (a C : Addr) (v : V), vs = [.ref a, v] ∧ OexC K C ∧ PySem.W.findIn K (.ref C) f = some none ∧ H a = some (exo a C none) ∧ ∀ dx, H dx = none → dx ≠ a → Q .non (upd (upd H dx (exd dx [(f, v)])) a (exo a C (some dx)))
structure XCls (P : Program) (w : World) (K : PySem.W.Frag) (mg : Str → Option Value) (base : Heap) (C f : Str) : Prop where
  g : mg C = some (.ref (He.ga K C))
  o : OexC K (He.ga K C)
  x : XfC K (He.ga K C)
  nf : PySem.W.findIn K (.ref (He.ga K C)) f = some none
  i : ∃ fI fd ps, PySem.W.findIn K (.ref (He.ga K C)) "__init__" = some (some (.ref fI)) ∧ PySem.W.typeIn K (.ref fI) = some (.type "function") ∧ FnOk P w K mg base CX0 1 fI fd ps (spIn K f) ∧ Binds K fd ps []
section
variable {P : Program} {w : World} {K : PySem.W.Frag} {mg : Str → Option Value} {base : Heap}
/-- its __init__ -/
theorem init_ok {C f q : Str} {args : Arguments} {body : List Stmt} {scope : Scope} {fa : Addr} {fd : FuncData} {p1 p2 p3 p4 : Pos} (F : FunD K "__init__" q args body scope [] [] fa fd) (S : FnScope ["self", f] ["self", f] scope) (eb : body = [.Assign [.Attribute (.Name "self" p1) f p2] (.Name f p3) p4])
    (hl1 : scope.names.lookup ("self" : Str) = some .local) (hl2 : scope.names.lookup f = some .local) (hd1 : (f == ("__debug__" : Str)) = false) (hd2 : (f == ("__classdict__" : Str)) = false) : FnOk P w K mg base CX0 1 fa fd ["self", f] (spIn K f) := by
  subst eb
  refine F.ok S (fun vs H Q E h => ?_) fun cdv A outer s H vs Q E hr h => ⟨_, (pss_one (ps_ost (X := (cxOf CX0 P w K mg base ["self", f] q scope fa cdv A outer s H E).nox) (pv 0 rfl (.inl hl1)) (pv 1 rfl (.inl hl2) hd1 hd2))).nox, ?_⟩
  · obtain ⟨a, C, v, rfl, _⟩ := h
    rfl
  · obtain ⟨a, C, v, rfl, h1, h2, h3, h4⟩ := h
    exact ⟨v, rfl, .ref a, rfl, a, C, rfl, h1, h2, .inl ⟨h3, fun dx n1 n2 => h4 dx n1 n2⟩⟩
end

section
variable {X : Cx} {tg a b c e iter : Expr} {es : List Expr} {st : Stmt} {sts ss : List Stmt} {f g f1 f2 : EV} {h h1 h2 : EA} {cb cb' : EB} {u u1 u2 : ES} {pos apos cpos : Pos}
/-! ### raise C(e) -/
def sRaise (C fl : Str) (f : EV) : ES := fun ρ => (f ρ).bind fun d => some (.xc ρ ⟨C, fl, d⟩)
theorem ds_raise {C fl : Str} {p pos2 : Pos} {k : Nat} (hc : X.calm = true) (T : XCls X.prog X.w X.K X.mg X.base C fl) (hr : Room (k + 1) X.A) (ha : DV X a f) (hg : Gl X C) (hk : 1 ≤ k := by decide) (hdb : (C == ("__debug__" : Str)) = false := by decide) (he : starEach [a] X.env = (false, eval a X.env) :: starEach [] X.env := by rfl) (hpl : (backTo pos (starEach [] X.env)).any (·.1) = false := by rfl) :
    DS X (.Raise (some (.Call (.Name C p) [a] [] pos)) none pos2) (sRaise C fl f) := fun W tk => by
  obtain ⟨fI, fd, ps, i1, i2, i3, i4⟩ := T.i
  refine psMono (ps_raise hc tk (pmk_oex T.o i1 i2 (i3.mono hk) hr i4 .nil pass0 hg T.g (pa_cons ha pa_nil he) hdb he hpl)) fun D σ H ⟨F0, B, F, ρ, r, G, E, e, p⟩ => ?_
  obtain ⟨d, e1, e⟩ := bind_some e
  cases e
  refine ⟨B, F, ρ, d, E, e1, fun v F1 H1 G1 r1 => ⟨(by decide : (1 : Nat) ≤ 1000), fun ax na => ?_⟩⟩
  refine ⟨ax, _, v, rfl, T.o, T.nf, upd_same, fun dx n1 n2 => ⟨rfl, dx, [(fl, v)], upd_same, ?_, ?_, ?_⟩⟩
  · rw [upd_ne n2, upd_same]
  · rw [upd_ne n2] at n1
    exact n1
  · rw [upd_ne n2] at n1
    have eH : upd (del (upd (upd (upd H1 ax (exo ax (He.ga X.K C) none)) dx (exd dx [(fl, v)])) ax (exo ax (He.ga X.K C) (some dx))) ax) dx (.xd [(fl, v)]) = upd H1 dx (.xd [(fl, v)]) := by
      funext b
      by_cases hb : b = dx
      · subst hb
        rw [upd_same, upd_same]
      · rw [upd_ne hb, upd_ne hb]
        by_cases hb2 : b = ax
        · subst hb2
          rw [del_same, na]
        · rw [del_ne hb2, upd_ne hb2, upd_ne hb, upd_ne hb2]
    rw [eH]
    have G2 : Grow F H F1 (upd H1 dx (.xd [(fl, v)])) := G1.trans (.side G1.fh n1)
    exact p σ F1 _ dx v (G.trans G2) (E.grow G2) G2.ff upd_same (G1.fh.free n1) (G.hh.free (G1.hh.free n1)) r1
/-! ### calls that may raise -/
abbrev EX := Rho → Option XR
def tDX (K : PySem.W.Frag) (W : WX) (f : EX) : TE := fun σ H Q => ∃ B F ρ r, ER K B F H σ ρ ∧ f ρ = some r ∧ match r with
  | .val d => ∀ v F' H', Grow F H F' H' → Dp K F' v d → Q v H'
  | .exc x => ∀ F' H' dd v, Grow F H F' H' → H' dd = some (.xd [(x.f, v)]) → F' dd = none → H dd = none → Dp K F' v x.d → W (.ref (He.ga K x.c)) (some dd) σ H'
def DVX (X : Cx) (e : Expr) (f : EX) : Prop := ∀ W : WX, Takes X W → PE X e (tDX X.K W f)
def xCall (m : List PyData → Option XR) (f : EA) : EX := fun ρ => (f ρ).bind m
theorem dvx_call {x : Str} {p : Pos} {k n j : Nat} {m : List PyData → Option XR} (D : DefX X.prog X.w X.K X.mg X.base x k n m) (hr : Room j X.A) (ha : DA X (e :: es) h) (hj : k ≤ j := by decide) (hg : Gl X x := by rfl) (hn : (e :: es).length = n := by rfl) (hdb : (x == ("__debug__" : Str)) = false := by decide)
    (he : starEach (e :: es) X.env = (false, eval e X.env) :: starEach es X.env := by rfl) (hpl : (backTo pos (starEach es X.env)).any (·.1) = false := by rfl) : DVX X (.Call (.Name x p) (e :: es) [] pos) (xCall m h) := fun W tk => by
  obtain ⟨fa, fd, ps, q1, q2, q3, q4⟩ := D.ex
  refine peMono (pe_callS (E := WE W) q1 (hr.mono hj) hg q2 q3 q4 (fun σ => passAt tk σ) ha.pa hdb he hpl) fun σ H Q ⟨B, F, ρ, r, E, e, q⟩ => ?_
  obtain ⟨ds, e1, e2⟩ := bind_some e
  refine ⟨B, F, ρ, ds, E, e1, fun vs F1 H1 G rr => ⟨by rw [dpLen rr, ha.len ρ ds e1]; exact hn, F1, ds, r, G.fh, rr, e2, ?_⟩⟩
  cases r with
  | val d => exact fun v F2 H2 G2 r2 => q v F2 H2 (G.trans G2) r2
  | exc x => exact fun F2 H2 dd v G2 h1 h2 h3 h4 => q F2 H2 dd v (G.trans G2) h1 h2 (G.hh.free h3) h4
/-- [e, f(..)]: the last item may raise -/
def xLst1 (f : EV) (g : EX) : EX := fun ρ => (f ρ).bind fun d => (g ρ).bind fun r => match r with
  | .val d' => some (.val (.list [d, d']))
  | .exc x => some (.exc x)
theorem dvx_lst1 {g : EX} (ha : DV X a f) (hb : DVX X b g) (hs1 : starEach [a, b] X.env = (false, eval a X.env) :: starEach [b] X.env := by rfl) (hs2 : starEach [b] X.env = (false, eval b X.env) :: starEach [] X.env := by rfl) : DVX X (.List [a, b] pos) (xLst1 f g) := fun W tk =>
  peMono (pe_lst (pa_cons ha (pa_cons (hb W tk) pa_nil hs2) hs1)) fun σ H Q ⟨B, F, ρ, r, E, e, q⟩ => by
    obtain ⟨d, e1, e⟩ := bind_some e
    obtain ⟨r0, e2, e⟩ := bind_some e
    refine ⟨B, F, ρ, d, E, e1, fun v F1 H1 G1 r1 => ⟨B, F1, ρ, r0, E.grow G1, e2, ?_⟩⟩
    cases r0 with
    | val d' =>
      cases e
      refine fun v2 F2 H2 G2 r2 => ⟨by show 2 ≤ sizeLine; decide, fun p np => ?_⟩
      have G := G1.trans G2
      refine q (.ref p) _ _ (G.trans (.new G.fh np)) (.lst (.inl (.inl upd_same)) ?_)
      have s1 : Same F2 (upd F2 p (.lst [v, v2])) := sameUpd (G.fh.free np)
      exact .cons (dpMono (G2.ff.trans s1) _ _ r1) (.cons (dpMono s1 _ _ r2) .nil)
    | exc x =>
      cases e
      exact fun F2 H2 dd w G2 h1 h2 h3 h4 => q F2 H2 dd w (G1.trans G2) h1 h2 (G1.hh.free h3) h4
/-! ### statements that may raise -/
theorem xc_of {K : PySem.W.Frag} {F0 B F F' H H' : Hp} {W : WX} {ρ : Rho} {x : XD} {σ : L2.St} {dd : Addr} {v : V} (G : Grow F0 B F H) (E : ER K B F H σ ρ) (p : postX K F0 B F W ρ x) (G1 : Grow F H F' H') (h1 : H' dd = some (.xd [(x.f, v)])) (h2 : F' dd = none) (h3 : H dd = none) (h4 : Dp K F' v x.d) : W (.ref (He.ga K x.c)) (some dd) σ H' :=
  p σ F' H' dd v (G.trans G1) (E.grow G1) G1.ff h1 h2 (G.hh.free h3) h4
def sRetX (f : EX) : ES := fun ρ => (f ρ).bind fun r => match r with
  | .val d => some (.rt d)
  | .exc x => some (.xc ρ x)
def sSetX (i : Nat) (f : EX) : ES := fun ρ => (f ρ).bind fun r => match r with
  | .val d => some (.nx (ρ.set i (.va d)))
  | .exc x => some (.xc ρ x)
def sExpX (f : EX) : ES := fun ρ => (f ρ).bind fun r => match r with
  | .val _ => some (.nx ρ)
  | .exc x => some (.xc ρ x)
theorem ds_retX {g : EX} (he : DVX X e g) : DS X (.Return (some e) pos) (sRetX g) := fun W tk => psMono (ps_ret (he W tk)) fun D σ H ⟨F0, B, F, ρ, r, G, E, e, p⟩ => by
  obtain ⟨r0, e1, e⟩ := bind_some e
  refine ⟨B, F, ρ, r0, E, e1, ?_⟩
  cases r0 with
  | val d =>
    cases e
    exact fun v F' H' G' r' => p v F' H' (G.trans G') r'
  | exc x =>
    cases e
    exact fun F' H' dd v G1 h1 h2 h3 h4 => xc_of G E p G1 h1 h2 h3 h4
theorem ds_setX {g : EX} {i : Nat} {x : Str} {pos' : Pos} (hN : X.N.Nodup) (hi : X.N[i]? = some x) (hx : Loc X.env.scope x) (he : DVX X e g) (hs : swapsWith e (some (.Name x pos')) pos.line X.env = pure false := by rfl) (hf : X.fn x = true ∨ X.env.scope.names.lookup x = some .local := by first | exact .inl rfl | exact .inr rfl | assumption) :
    DS X (.Assign [.Name x pos'] e pos) (sSetX i g) := fun W tk => psMono (ps_set hN hi hx (he W tk) hs hf) fun D σ H ⟨F0, B, F, ρ, r, G, E, e, p⟩ => by
  obtain ⟨r0, e1, e⟩ := bind_some e
  refine ⟨B, F, ρ, r0, E, e1, ?_⟩
  cases r0 with
  | val d =>
    cases e
    exact fun v F' H' G' r' => p _ F' H' (G.trans G') ((E.grow G').setVa r') G'.ff
  | exc x =>
    cases e
    exact fun F' H' dd v G1 h1 h2 h3 h4 => xc_of G E p G1 h1 h2 h3 h4
theorem ds_exprX {g : EX} (he : DVX X e g) (hs : swapsWith e none pos.line X.env = pure false := by rfl) : DS X (.Expr e pos) (sExpX g) := fun W tk => psMono (ps_expr (he W tk) hs) fun D σ H ⟨F0, B, F, ρ, r, G, E, e, p⟩ => by
  obtain ⟨r0, e1, e⟩ := bind_some e
  refine ⟨B, F, ρ, r0, E, e1, ?_⟩
  cases r0 with
  | val d =>
    cases e
    exact fun v F' H' G' _ => p σ F' H' (G.trans G') (E.grow G') G'.ff
  | exc x =>
    cases e
    exact fun F' H' dd v G1 h1 h2 h3 h4 => xc_of G E p G1 h1 h2 h3 h4
end
end DL

set_option Elab.async false
set_option linter.all false
set_option maxRecDepth 100000
set_option maxHeartbeats 4000000
/-! DLB: try, and the suite of except .. as n -/
namespace DL
open PySem PySem.Spec PyProof.Rows L2
structure HAt (K : PySem.W.Frag) (i : Nat) (a : Addr) (cls : Value) (d : Option Addr) (F H : Hp) (σ : L2.St) (x : XD) : Prop where
  s : σ[i]? = some (some (.ref a))
  x : XAt K F H cls d x
theorem HAt.grow {K : PySem.W.Frag} {i : Nat} {a : Addr} {cls : Value} {d : Option Addr} {F H F' H' : Hp} {σ : L2.St} {x : XD} (h : HAt K i a cls d F H σ x) (g : Grow F H F' H') : HAt K i a cls d F' H' σ x := ⟨h.s, h.x.grow g⟩
abbrev EVH := XD → EV
abbrev EBH := XD → EB
abbrev EAH := XD → EA
def tDH (K : PySem.W.Frag) (i : Nat) (a : Addr) (cls : Value) (d : Option Addr) (f : EVH) : TE := fun σ H Q => ∃ B F ρ x r, ER K B F H σ ρ ∧ HAt K i a cls d F H σ x ∧ f x ρ = some r ∧ ∀ v F' H', Grow F H F' H' → Dp K F' v r → Q v H'
def tTH (K : PySem.W.Frag) (i : Nat) (a : Addr) (cls : Value) (d : Option Addr) (f : EBH) : TT := fun σ H Q => ∃ B F ρ x b, ER K B F H σ ρ ∧ HAt K i a cls d F H σ x ∧ f x ρ = some b ∧ ∀ F' H', Grow F H F' H' → Q b H'
def tAH (K : PySem.W.Frag) (i : Nat) (a : Addr) (cls : Value) (d : Option Addr) (f : EAH) : TA := fun σ H Q => ∃ B F ρ x ds, ER K B F H σ ρ ∧ HAt K i a cls d F H σ x ∧ f x ρ = some ds ∧ ∀ vs F' H', Grow F H F' H' → DpAll K F' vs ds → Q vs H'
/-- the suite's own facts -/
structure Su where
  i : Nat
  a : Addr
  cls : Value
  d : Option Addr
def DVH (X : Cx) (u : Su) (e : Expr) (f : EVH) : Prop := PE X e (tDH X.K u.i u.a u.cls u.d f)
def DTH (X : Cx) (u : Su) (e : Expr) (f : EBH) : Prop := PT X e (tTH X.K u.i u.a u.cls u.d f)
def DWH (X : Cx) (u : Su) (e : Expr) (f : EBH) : Prop := PW X e (tTH X.K u.i u.a u.cls u.d f)
structure DAH (X : Cx) (u : Su) (es : List Expr) (f : EAH) : Prop where
  pa : PA X es (tAH X.K u.i u.a u.cls u.d f)
  len : ∀ x ρ ds, f x ρ = some ds → ds.length = es.length
section
variable {X : Cx} {s : Su} {a b c e : Expr} {es : List Expr} {f : EV} {g f1 f2 : EVH} {h : EAH} {cb cb' : EBH} {pos : Pos}
theorem dvh_of (h : DV X e f) : DVH X s e (fun _ => f) := peMono h fun σ H Q ⟨B, F, ρ, x, r, E, hx, e, q⟩ => ⟨B, F, ρ, r, E, e, q⟩
def eAndH (f g : EVH) : EVH := fun x => eAnd (f x) (g x)
def eOrH (f g : EVH) : EVH := fun x => eOr (f x) (g x)
def eUnH (g : PyData → Option PyData) (f : EVH) : EVH := fun x => eUn g (f x)
def bValH (f : EVH) : EBH := fun x => bVal (f x)
def bAndH (f g : EBH) : EBH := fun x => bAnd (f x) (g x)
def bOrH (f g : EBH) : EBH := fun x => bOr (f x) (g x)
def bNotH (f : EBH) : EBH := fun x => bNot (f x)
def aConsH (f : EVH) (g : EAH) : EAH := fun x => aCons (f x) (g x)
def aNilH : EAH := fun _ => aNil
theorem dvh_and {rest : List Expr} (ha : DVH X s a f1) (hb : DVH X s (.BoolOp .And (b :: rest) pos) g) : DVH X s (.BoolOp .And (a :: b :: rest) pos) (eAndH f1 g) := peMono (pe_and ha hb) fun σ H Q ⟨B, F, ρ, x, d, E, hx, e, q⟩ => by
  obtain ⟨dx, e1, e⟩ := bind_some e
  refine ⟨B, F, ρ, x, dx, E, hx, e1, fun v F1 H1 G1 r1 => ?_⟩
  cases dx with
  | bool k =>
    cases r1
    refine ⟨k, rfl, ?_⟩
    cases k with
    | true => exact ⟨B, F1, ρ, x, d, E.grow G1, hx.grow G1, e, fun v F2 H2 G2 r2 => q v F2 H2 (G1.trans G2) r2⟩
    | false =>
      cases e
      exact q _ F1 H1 G1 (.bl false)
  | _ => cases e
theorem dvh_or {rest : List Expr} (ha : DVH X s a f1) (hb : DVH X s (.BoolOp .Or (b :: rest) pos) g) : DVH X s (.BoolOp .Or (a :: b :: rest) pos) (eOrH f1 g) := peMono (pe_or ha hb) fun σ H Q ⟨B, F, ρ, x, d, E, hx, e, q⟩ => by
  obtain ⟨dx, e1, e⟩ := bind_some e
  refine ⟨B, F, ρ, x, dx, E, hx, e1, fun v F1 H1 G1 r1 => ?_⟩
  cases dx with
  | bool k =>
    cases r1
    refine ⟨k, rfl, ?_⟩
    cases k with
    | false => exact ⟨B, F1, ρ, x, d, E.grow G1, hx.grow G1, e, fun v F2 H2 G2 r2 => q v F2 H2 (G1.trans G2) r2⟩
    | true =>
      cases e
      exact q _ F1 H1 G1 (.bl true)
  | _ => cases e
theorem dvh_one {op} (ha : DVH X s a g) : DVH X s (.BoolOp op [a] pos) g := pe_one ha
theorem dvh_not (ha : DVH X s a g) : DVH X s (.UnaryOp .Not a pos) (eUnH gNot g) := peMono (pe_not ha) fun σ H Q ⟨B, F, ρ, x, d, E, hx, e, q⟩ => by
  obtain ⟨dx, e1, e⟩ := bind_some e
  refine ⟨B, F, ρ, x, dx, E, hx, e1, fun v F1 H1 G1 r1 => ?_⟩
  cases dx with
  | bool k =>
    cases r1
    cases e
    exact ⟨k, rfl, q _ F1 H1 G1 (.bl _)⟩
  | _ => cases e
theorem dth_val (h : DVH X s e g) (he : ∀ whole, isTrue e X.env whole = (do let v ← whole; standAt e.pos; holding [v] (truthy v)) := by intro _; rfl) : DTH X s e (bValH g) := ptMono (pt_val h he) fun σ H Q ⟨B, F, ρ, x, b, E, hx, e, q⟩ => by
  obtain ⟨d, e1, e2⟩ := bind_some e
  refine ⟨B, F, ρ, x, d, E, hx, e1, fun v F' H' G r => ?_⟩
  cases d with
  | bool k =>
    cases e2
    cases r
    exact ⟨_, rfl, q F' H' G⟩
  | _ => cases e2
theorem dth_w (h : DWH X s e cb) : DTH X s e cb := PW.pt h
theorem dwh_and1 (ha : DTH X s a cb) : DWH X s (.BoolOp .And [a] pos) cb := pw_and1 ha
theorem dwh_or1 (ha : DTH X s a cb) : DWH X s (.BoolOp .Or [a] pos) cb := pw_or1 ha
theorem dwh_and {rest : List Expr} (ha : DTH X s a cb) (hb : DWH X s (.BoolOp .And (b :: rest) pos) cb') : DWH X s (.BoolOp .And (a :: b :: rest) pos) (bAndH cb cb') := pwMono (pw_and ha hb) fun σ H Q ⟨B, F, ρ, x, k, E, hx, e, q⟩ => by
  obtain ⟨k1, e1, e⟩ := bind_some e
  refine ⟨B, F, ρ, x, k1, E, hx, e1, fun F1 H1 G1 => ?_⟩
  cases k1 with
  | true =>
    rw [if_pos rfl] at e ⊢
    exact ⟨B, F1, ρ, x, k, E.grow G1, hx.grow G1, e, fun F2 H2 G2 => q F2 H2 (G1.trans G2)⟩
  | false =>
    rw [if_neg (by simp)] at e ⊢
    cases e
    exact q F1 H1 G1
theorem dwh_or {rest : List Expr} (ha : DTH X s a cb) (hb : DWH X s (.BoolOp .Or (b :: rest) pos) cb') : DWH X s (.BoolOp .Or (a :: b :: rest) pos) (bOrH cb cb') := pwMono (pw_or ha hb) fun σ H Q ⟨B, F, ρ, x, k, E, hx, e, q⟩ => by
  obtain ⟨k1, e1, e⟩ := bind_some e
  refine ⟨B, F, ρ, x, k1, E, hx, e1, fun F1 H1 G1 => ?_⟩
  cases k1 with
  | false =>
    rw [if_neg (by simp)] at e ⊢
    exact ⟨B, F1, ρ, x, k, E.grow G1, hx.grow G1, e, fun F2 H2 G2 => q F2 H2 (G1.trans G2)⟩
  | true =>
    rw [if_pos rfl] at e ⊢
    cases e
    exact q F1 H1 G1
theorem dth_not (ha : DTH X s a cb) : DTH X s (.UnaryOp .Not a pos) (bNotH cb) := ptMono (pt_not ha) fun σ H Q ⟨B, F, ρ, x, k, E, hx, e, q⟩ => by
  obtain ⟨k1, e1, e⟩ := bind_some e
  cases e
  exact ⟨B, F, ρ, x, k1, E, hx, e1, fun F1 H1 G1 => q F1 H1 G1⟩
theorem dah_nil : DAH X s [] aNilH := ⟨paMono pa_nil fun σ H Q ⟨B, F, ρ, x, ds, E, hx, e, q⟩ => by
  cases e
  exact q _ F H (.refl E.fh) .nil, fun x ρ ds e => by cases e; rfl⟩
theorem dah_cons (ha : DVH X s e g) (hr : DAH X s es h) (hs : starEach (e :: es) X.env = (false, eval e X.env) :: starEach es X.env := by rfl) : DAH X s (e :: es) (aConsH g h) := ⟨paMono (pa_cons ha hr.pa hs) fun σ H Q ⟨B, F, ρ, x, ds, E, hx, e, q⟩ => by
  obtain ⟨dx, e1, e⟩ := bind_some e
  obtain ⟨dr, e2, e⟩ := bind_some e
  cases e
  exact ⟨B, F, ρ, x, dx, E, hx, e1, fun y F1 H1 G1 r1 => ⟨B, F1, ρ, x, dr, E.grow G1, hx.grow G1, e2, fun xs F2 H2 G2 r2 => q _ F2 H2 (G1.trans G2) (.cons (dpMono G2.ff _ _ r1) r2)⟩⟩, fun x ρ ds e => by
  obtain ⟨dx, e1, e⟩ := bind_some e
  obtain ⟨dr, e2, e⟩ := bind_some e
  cases e
  exact congrArg (· + 1) (hr.len x ρ dr e2)⟩
def eLstH (h : EAH) : EVH := fun x => eOfF (h x)
theorem dvh_lst (ha : DAH X s es h) (hz : es.length ≤ sizeLine := by decide) : DVH X s (.List es pos) (eLstH h) := peMono (pe_lst ha.pa) fun σ H Q ⟨B, F, ρ, x, d, E, hx, e, q⟩ => by
  obtain ⟨ds, e1, e2⟩ := Option.map_eq_some_iff.mp e
  subst e2
  refine ⟨B, F, ρ, x, ds, E, hx, e1, fun vs F' H' G r => ⟨by rw [dpLen r, ha.len x ρ ds e1]; exact hz, fun p np => ?_⟩⟩
  have s1 : Same F' (upd F' p (.lst vs)) := sameUpd (G.fh.free np)
  exact q _ _ _ (G.trans (.new G.fh np)) (.lst (.inl (.inl upd_same)) (dpMonoAll s1 _ _ r))
end
/-! ### what the suite asks of the exception -/
section
variable {X : Cx} {a : Addr} {oe : Obj} {cls : Value} {d : Option Addr} {pn : List (Addr × Obj)} {i : Nat} {n : Str} {np pos pos2 : Pos}
abbrev suC (X : Cx) (a : Addr) (oe : Obj) (pn : List (Addr × Obj)) : Cx := X.suite a ((a, oe) :: pn)
/-- n.f, where the class is C -/
def eFld (C fl : Str) : EVH := fun x _ => if x.c = C ∧ x.f = fl then some x.d else none
theorem dvh_fld {C fl : Str} (T : XCls X.prog X.w X.K X.mg X.base C fl) (hz : Zc cls d oe) (hf : ∃ vs, oe.data = .fields vs) (he : PE (suC X a oe pn) (.Name n np) (tVar i)) (hb : attributeBase (.Name n np) fl X.env (eval (.Name n np) X.env) = eval (.Name n np) X.env := by rfl) :
    DVH (suC X a oe pn) ⟨i, a, cls, d⟩ (.Attribute (.Name n np) fl pos) (eFld C fl) := peMono (pe_xf T.x T.nf hz hf he hb) fun σ H Q ⟨B, F, ρ, x, r, E, hx, e, q⟩ => by
  unfold eFld at e
  split at e
  · rename_i hc
    cases e
    obtain ⟨e1, e2⟩ := hc
    obtain ⟨dd, v, h1, h2, h3⟩ := hx.x.e
    refine ⟨.ref a, hx.s, rfl, by have z := hx.x.c; rw [e1] at z; exact z, dd, _, v, h1, h2, ?_, q v F H (.refl E.fh) h3⟩
    rw [e2]
    simp [List.lookup]
  · cases e
/-- isinstance(n, T) -/
def rIsX (K : PySem.W.Frag) (a : Addr) (cls : Value) (d : Option Addr) (kit : Value → Value → Option Bool → Prop) : List V → Hp → VK → Prop := fun xs H Q => ∃ (c : V) (b : Bool) (D dd : Addr) (fs : List (Str × V)), xs = [.ref a, c] ∧ cls = .ref D ∧ d = some dd ∧ H dd = some (.xd fs) ∧ ExcC K D ∧ (∀ u, RelV c u → kit (.ref D) u (some b)) ∧ Q (.bl b) H
theorem inst_of {pins : List (Addr × Obj)} {s : Shared} {σ : L2.St} {H : Hp} {D dd : Addr} {fs : List (Str × V)} (I : Inv (suC X a oe pn) pins σ H s) (hz : Zc (.ref D) (some dd) oe) (hf : ∃ vs, oe.data = .fields vs) (h : H dd = some (.xd fs)) : ∃ od, PySem.W.InstAt s.heap a oe D (some od) := by
  obtain ⟨hget, _⟩ := I.pin (a, oe) (List.mem_append.mpr (.inl List.mem_cons_self))
  obtain ⟨vs, hd⟩ := hf
  have hx : ObjOk X.prog X.w H s.heap dd (.xd fs) := I.hok dd _ h
  obtain ⟨mA, hns, hr⟩ := hx
  obtain ⟨od, ho, hl⟩ := lookIn_ns hns
  exact ⟨od, hget, hz.1, by unfold PySem.W.notCls; rw [hd] <;> rfl, by rw [hz.2]; exact ho⟩
theorem kitx_of {K : PySem.W.Frag} {D x : Addr} {ox : Obj} {od : Option Obj} (C : ExcC K D) : PySem.W.KitX K (.ref x) (.ref D) (fun h => PySem.W.InstAt h x ox D od) := by
  have hcl : (PySem.W.clsIn K D).isSome = true := by
    obtain ⟨cd, hc, _⟩ := PySem.W.any_some C.hd
    rw [hc]
    rfl
  exact PySem.W.kitx_exc hcl C.hg C.hk C.hs C.ha C.hn C.ht C.hm
theorem call_is1 (hz : Zc cls d oe) (hf : ∃ vs, oe.data = .fields vs) : CallR (suC X a oe pn) (.builtin "isinstance") (rIsX X.K a cls d fun t u b => PySem.W.kitOne X.K t u = b) := by
  intro pins s σ H xs us Q I r h
  obtain ⟨c, b, D, dd, fs, rfl, ec, ed, hH, C, hk, q⟩ := h
  subst ec ed
  obtain ⟨u1, u2, rfl, r1, r2⟩ : ∃ u1 u2, us = [u1, u2] ∧ RelV (.ref a) u1 ∧ RelV c u2 := by
    cases r with
    | cons ra rb =>
      cases rb with
      | cons rc rd =>
        cases rd
        exact ⟨_, _, rfl, ra, rc⟩
  cases r1
  obtain ⟨od, J⟩ := inst_of I hz hf hH
  exact PySem.W.kia_one (kitx_of C) I.kIn J (hk _ r2) (fun z => nomatch z) fun tk => ⟨.bl b, H, I.kept (t' := tk) fun _ _ z => z, rfl, q⟩
/-- isinstance(n, (T, ..)) -/
def rIsXT (K : PySem.W.Frag) (a : Addr) (cls : Value) (d : Option Addr) : List V → Hp → VK → Prop := fun xs H Q => ∃ (p : Addr) (ts : List V) (b : Bool) (D dd : Addr) (fs : List (Str × V)), xs = [.ref a, .ref p] ∧ H p = some (.tup ts) ∧ cls = .ref D ∧ d = some dd ∧ H dd = some (.xd fs) ∧ ExcC K D ∧ (∀ us, Vals ts us → PySem.W.kitAny K (.ref D) us = some b) ∧ Q (.bl b) H
theorem call_isT (hz : Zc cls d oe) (hf : ∃ vs, oe.data = .fields vs) : CallR (suC X a oe pn) (.builtin "isinstance") (rIsXT X.K a cls d) := by
  intro pins s σ H xs us Q I r h
  obtain ⟨p, ts, b, D, dd, fs, rfl, hp, ec, ed, hH, C, hk, q⟩ := h
  subst ec ed
  obtain ⟨u1, u2, rfl, r1, r2⟩ : ∃ u1 u2, us = [u1, u2] ∧ RelV (.ref a) u1 ∧ RelV (.ref p) u2 := by
    cases r with
    | cons ra rb =>
      cases rb with
      | cons rc rd =>
        cases rd
        exact ⟨_, _, rfl, ra, rc⟩
  cases r1
  cases r2
  obtain ⟨od, J⟩ := inst_of I hz hf hH
  obtain ⟨its, rv, pt, _⟩ := I.tuple (SqT.of hp)
  obtain ⟨⟨oc, odd, oda, osl⟩, ho, h1, n, h2⟩ := pt
  dsimp only at h1 h2
  subst h1 h2
  exact PySem.W.kia_tup (kitx_of C) I.kIn J ho (hk _ rv) (fun z => nomatch z) fun tk => ⟨.bl b, H, I.kept (t' := tk) fun _ _ z => z, rfl, q⟩
end

/-! ### names of classes -/
section
variable {X : Cx} {e : Expr} {es : List Expr} {pos p np : Pos} {x : Str}
theorem pe_cls {T : Str} (hg : Gl X T) (hm : X.mg T = some (.ref (He.ga X.K T))) (hd : (T == ("__debug__" : Str)) = false := by decide) : PE X (.Name T p) (tC (.ref (He.ga X.K T))) := pe_glob hg hm rfl hd
def tVs (vs : List V) : TA := fun _ H Q => Q vs H
theorem pn_nil : PA X [] (tVs []) := paMono pa_nil fun _ _ _ q => q
theorem pn_cons {v : V} {vs : List V} (ha : PE X e (tC v)) (hr : PA X es (tVs vs)) (hs : starEach (e :: es) X.env = (false, eval e X.env) :: starEach es X.env := by rfl) : PA X (e :: es) (tVs (v :: vs)) := paMono (pa_cons ha hr hs) fun _ _ _ q => q
end
section
variable {X : Cx} {a : Addr} {oe : Obj} {cls : Value} {d : Option Addr} {pn : List (Addr × Obj)} {i : Nat} {n : Str} {np pos pos2 p : Pos} {es : List Expr} {e2 : Expr}
/-- the table of a test: the class's name, what the test says -/
def eIsC (t : Str → Option Bool) : EVH := fun x _ => (t x.c).map PyData.bool
theorem dvh_is1 {t : Str → Option Bool} {c : V} (hg : Gl X "isinstance") (hm : X.mg "isinstance" = none) (ht : PE (suC X a oe pn) e2 (tC c)) (hT : ∀ C b, t C = some b → ExcC X.K (He.ga X.K C) ∧ ∀ u, RelV c u → PySem.W.kitOne X.K (.ref (He.ga X.K C)) u = some b)
    (hz : Zc cls d oe) (hf : ∃ vs, oe.data = .fields vs) (he : PE (suC X a oe pn) (.Name n np) (tVar i))
    (h1 : starEach [.Name n np, e2] X.env = (false, eval (.Name n np) X.env) :: starEach [e2] X.env := by rfl) (h2 : starEach [e2] X.env = (false, eval e2 X.env) :: starEach [] X.env := by rfl) (hpl : (backTo pos (starEach [e2] X.env)).any (·.1) = false := by rfl) :
    DVH (suC X a oe pn) ⟨i, a, cls, d⟩ (.Call (.Name "isinstance" p) [.Name n np, e2] [] pos) (eIsC t) :=
  peMono (pe_callB (X := suC X a oe pn) (call_is1 hz hf) hg hm (by decide +kernel) (pa_cons he (pa_cons ht pa_nil h2) h1) (by decide) (by decide) h1 hpl) fun σ H Q ⟨B, F, ρ, x, r, E, hx, e, q⟩ => by
    obtain ⟨b, e1, e3⟩ := Option.map_eq_some_iff.mp e
    subst e3
    obtain ⟨k1, k2⟩ := hT _ _ e1
    obtain ⟨dd, v, q1, q2, q3⟩ := hx.x.e
    exact ⟨.ref a, hx.s, c, b, _, dd, _, rfl, hx.x.c, q1, q2, k1, k2, q _ F H (.refl E.fh) (.bl b)⟩
theorem dvh_isT {t : Str → Option Bool} {ts : List V} {x1 : Nat} {pt : Pos} (hg : Gl X "isinstance") (hm : X.mg "isinstance" = none) (ht : PA (suC X a oe pn) es (tVs ts)) (hT : ∀ C b, t C = some b → ExcC X.K (He.ga X.K C) ∧ ∀ us, Vals ts us → PySem.W.kitAny X.K (.ref (He.ga X.K C)) us = some b)
    (hz : Zc cls d oe) (hf : ∃ vs, oe.data = .fields vs) (he : PE (suC X a oe pn) (.Name n np) (tVar i)) (hl : ts.length ≤ sizeLine := by decide)
    (h1 : starEach [.Name n np, .Tuple es x1 pt] X.env = (false, eval (.Name n np) X.env) :: starEach [.Tuple es x1 pt] X.env := by rfl) (h2 : starEach [.Tuple es x1 pt] X.env = (false, eval (.Tuple es x1 pt) X.env) :: starEach [] X.env := by rfl) (hpl : (backTo pos (starEach [.Tuple es x1 pt] X.env)).any (·.1) = false := by rfl) :
    DVH (suC X a oe pn) ⟨i, a, cls, d⟩ (.Call (.Name "isinstance" p) [.Name n np, .Tuple es x1 pt] [] pos) (eIsC t) :=
  peMono (pe_callB (X := suC X a oe pn) (call_isT hz hf) hg hm (by decide +kernel) (pa_cons he (pa_cons (pe_tup ht) pa_nil h2) h1) (by decide) (by decide) h1 hpl) fun σ H Q ⟨B, F, ρ, x, r, E, hx, e, q⟩ => by
    obtain ⟨b, e1, e3⟩ := Option.map_eq_some_iff.mp e
    subst e3
    obtain ⟨k1, k2⟩ := hT _ _ e1
    obtain ⟨dd, v, q1, q2, q3⟩ := hx.x.e
    refine ⟨.ref a, hx.s, hl, fun p np => ?_⟩
    exact ⟨p, ts, b, _, dd, _, rfl, upd_same, hx.x.c, q1, by rw [upd_ne (ne_of_none q2 np)]; exact q2, k1, k2, q _ _ _ (.side E.fh np) (.bl b)⟩
end
/-! ### the suite's statements -/
def postH (K : PySem.W.Frag) (F0 B F : Hp) (s : Su) (x : XD) (D : Ends) : SR → Prop
  | .nx ρ => ∀ σ' F' H', Grow F0 B F' H' → ER K B F' H' σ' ρ → Same F F' → HAt K s.i s.a s.cls s.d F' H' σ' x → D.nx σ' H'
  | .rt d => ∀ v F' H', Grow F0 B F' H' → Dp K F' v d → D.rt v H'
  | _ => False
theorem postH.mono {K : PySem.W.Frag} {F0 B F F1 : Hp} {s : Su} {x : XD} {D : Ends} {r : SR} (h : postH K F0 B F s x D r) (q : Same F F1) : postH K F0 B F1 s x D r := by
  cases r with
  | nx ρ => exact fun σ' F' H' g e s' hx => h σ' F' H' g e (q.trans s') hx
  | rt d => exact h
  | bk ρ => exact h
  | ct ρ => exact h
  | xc ρ x => exact h
abbrev ESH := XD → ES
def tSH (K : PySem.W.Frag) (s : Su) (f : ESH) : TS := fun D σ H => ∃ F0 B F ρ x r, Grow F0 B F H ∧ ER K B F H σ ρ ∧ HAt K s.i s.a s.cls s.d F H σ x ∧ f x ρ = some r ∧ postH K F0 B F s x D r
def DSH (X : Cx) (s : Su) (st : Stmt) (f : ESH) : Prop := PS X st (tSH X.K s f)
def DSsH (X : Cx) (s : Su) (st : List Stmt) (f : ESH) : Prop := PSs X st (tSH X.K s f)
def sNxH : ESH := fun _ => sNx
def sSeqH (f g : ESH) : ESH := fun x => sSeq (f x) (g x)
def sSetH (j : Nat) (f : EVH) : ESH := fun x => sSet j (f x)
def sIfH (c : EBH) (f g : ESH) : ESH := fun x => sIf (c x) (f x) (g x)
def sRetH (f : EVH) : ESH := fun x => sRet (f x)
section
variable {X : Cx} {s : Su} {c e : Expr} {st : Stmt} {sts ss : List Stmt} {g : EVH} {cb : EBH} {u u1 u2 : ESH} {pos : Pos}
theorem dssh_nil : DSsH X s [] sNxH := pssMono pss_nil fun D σ H ⟨F0, B, F, ρ, x, r, G, E, hx, e, p⟩ => by
  cases e
  exact p σ F H G E (.refl F) hx
theorem dssh_cons (h1 : DSH X s st u1) (h2 : DSsH X s sts u2) : DSsH X s (st :: sts) (sSeqH u1 u2) := pssMono (pss_cons h1 h2) fun D σ H ⟨F0, B, F, ρ, x, r, G, E, hx, e, p⟩ => by
  obtain ⟨r1, e1, e⟩ := bind_some e
  refine ⟨F0, B, F, ρ, x, r1, G, E, hx, e1, ?_⟩
  cases r1 with
  | nx ρ' => exact fun σ' F' H' G' E' q hx' => ⟨F0, B, F', ρ', x, r, G', E', hx', e, p.mono q⟩
  | bk ρ' =>
    cases e
    exact p
  | ct ρ' =>
    cases e
    exact p
  | rt d =>
    cases e
    exact p
  | xc ρ' y =>
    cases e
    exact p
theorem dssh_one (h1 : DSH X s st u1) : DSsH X s [st] u1 := pss_one h1
theorem dsh_pass : DSH X s (.Pass pos) sNxH := psMono ps_pass fun D σ H ⟨F0, B, F, ρ, x, r, G, E, hx, e, p⟩ => by
  cases e
  exact p σ F H G E (.refl F) hx
theorem dsh_set {j : Nat} {x : Str} {pos' : Pos} (hN : X.N.Nodup) (hi : X.N[j]? = some x) (hx : Loc X.env.scope x) (hne : j ≠ s.i) (he : DVH X s e g) (hs : swapsWith e (some (.Name x pos')) pos.line X.env = pure false := by rfl) (hf : X.fn x = true ∨ X.env.scope.names.lookup x = some .local := by first | exact .inl rfl | exact .inr rfl | assumption) :
    DSH X s (.Assign [.Name x pos'] e pos) (sSetH j g) := psMono (ps_set hN hi hx he hs hf) fun D σ H ⟨F0, B, F, ρ, x, r, G, E, hx, e, p⟩ => by
  obtain ⟨d, e1, e⟩ := bind_some e
  cases e
  refine ⟨B, F, ρ, x, d, E, hx, e1, fun v F' H' G' r' => p _ F' H' (G.trans G') ((E.grow G').setVa r') G'.ff ⟨?_, (hx.grow G').x⟩⟩
  rw [List.getElem?_set_ne hne]
  exact hx.s
theorem dsh_if (hc : DTH X s c cb) (ha : DSsH X s sts u1) (hb : DSsH X s ss u2) : DSH X s (.If c sts ss pos) (sIfH cb u1 u2) := psMono (ps_if hc ha hb) fun D σ H ⟨F0, B, F, ρ, x, r, G, E, hx, e, p⟩ => by
  obtain ⟨k, e1, e⟩ := bind_some e
  refine ⟨B, F, ρ, x, k, E, hx, e1, fun F' H' G' => ?_⟩
  cases k with
  | true =>
    rw [if_pos rfl] at e ⊢
    exact ⟨F0, B, F', ρ, x, r, G.trans G', E.grow G', hx.grow G', e, p.mono G'.ff⟩
  | false =>
    rw [if_neg (by simp)] at e ⊢
    exact ⟨F0, B, F', ρ, x, r, G.trans G', E.grow G', hx.grow G', e, p.mono G'.ff⟩
theorem dsh_ret (he : DVH X s e g) : DSH X s (.Return (some e) pos) (sRetH g) := psMono (ps_ret he) fun D σ H ⟨F0, B, F, ρ, x, r, G, E, hx, e, p⟩ => by
  obtain ⟨d, e1, e⟩ := bind_some e
  cases e
  exact ⟨B, F, ρ, x, d, E, hx, e1, fun v F' H' G' r' => p v F' H' (G.trans G') r'⟩
end
/-! ### try: .. except C as n: .. -/
def sTry (i : Nat) (t : Str → Bool) (ub : ES) (us : ESH) : ES := fun ρ => (ub ρ).bind fun r => match r with
  | .xc ρ' x => if t x.c = true ∧ i < ρ'.length then (us x (ρ'.set i .un)).bind fun r' => match r' with
    | .nx ρ'' => some (.nx (ρ''.set i .un))
    | .rt d => some (.rt d)
    | _ => none
    else none
  | r => some r
theorem ds_try {X : Cx} {C n : Str} {i : Nat} {body suite : List Stmt} {b₀ : Stmt} {np pos pos' : Pos} {ub : ES} {us : ESH} (t : Str → Bool) (hs : X.stack = X.env :: X.outer) (hf : X.env.frame = some X.env.locals) (hN : X.N.Nodup) (hi : X.N[i]? = some n) (hln : X.env.kindOf n = some .local) (hc : Names X C (.ref (He.ga X.K C)))
    (hT : ∀ c, t c = true → PySem.W.exmOne X.K (.ref (He.ga X.K c)) (.ref (He.ga X.K C)) = some true)
    (hb : ∀ (pn : List (Addr × Obj)) (xe : Value → Shared → Prop), PassesOwn (model X.prog X.w) X.A X.env xe → DSs (X.tr pn xe) body ub)
    (hsu : ∀ (a : Addr) (oe : Obj) (cls : Value) (d : Option Addr) (pn : List (Addr × Obj)), Zc cls d oe → (∃ vs, oe.data = .fields vs) → DSsH (suC X a oe pn) ⟨i, a, cls, d⟩ (b₀ :: suite) us) :
    DS X (.Try body [.ExceptHandler (some (.Name C np)) (some n) (b₀ :: suite) pos'] [] [] pos) (sTry i t ub us) := fun W tk =>
  psMono (ps_try_as (i := i) (tb := fun W' => tS X.K W' ub) (ts := fun a cls d => tSH X.K ⟨i, a, cls, d⟩ us) (Wout := W) hs hf hN hi hln hc tk (fun W' pn xe tk' po => hb pn xe po W' tk') hsu) fun D σ H ⟨F0, B, F, ρ, r, G, E, e, p⟩ => by
    obtain ⟨r0, e1, e⟩ := bind_some e
    refine ⟨F0, B, F, ρ, r0, G, E, e1, ?_⟩
    cases r0 with
    | nx ρ' =>
      cases e
      exact p
    | bk ρ' =>
      cases e
      exact p
    | ct ρ' =>
      cases e
      exact p
    | rt d =>
      cases e
      exact p
    | xc ρ' x =>
      intro σ' F' H' dd v G' E' q h1 h2 h3 h4
      change (if t x.c = true ∧ i < ρ'.length then _ else none) = some r at e
      split at e
      case isFalse => cases e
      rename_i hh
      obtain ⟨r1, e2, e⟩ := bind_some e
      refine ⟨true, hT _ hh.1, fun _ a na => ?_, fun z => nomatch z⟩
      refine ⟨F0, B, F', ρ'.set i .un, x, r1, G', setUn E' i _, ⟨?_, ⟨rfl, dd, v, rfl, h1, h4⟩⟩, e2, ?_⟩
      · rw [List.getElem?_set_self (by rw [E'.len]; exact hh.2)]
      · cases r1 with
        | nx ρ2 =>
          cases e
          exact fun σ2 F2 H2 G2 E2 q2 hx => p _ F2 H2 G2 (setUn E2 i none) (q.trans q2)
        | rt d =>
          cases e
          exact fun v F2 H2 G2 r2 => p v F2 H2 G2 r2
        | bk ρ2 => cases e
        | ct ρ2 => cases e
        | xc ρ2 y => cases e
end DL

set_option Elab.async false
set_option linter.all false
set_option maxRecDepth 100000
set_option maxHeartbeats 4000000
/-! DLC: the head's facts about classes of exceptions -/
namespace DL
open PySem PySem.Spec PyProof.Rows L2
def clsInit : Stmt → Stmt
  | .ClassDef _ _ _ body _ _ _ _ _ _ _ => body.getD 0 (.Pass ⟨0, 0, 0, 0⟩)
  | s => s
def oexB (K : PySem.W.Frag) (C : Addr) : Bool := match K.lookup C with
  | some ⟨cl, _, .cls cd, sl⟩ => decide (cl = .type "type") && ((match cd.mro with
    | .ref C' :: bm => decide (C' = C) && PySem.HandSPX.refsVE bm
    | _ => false) && (cd.hasDict && (!cd.hasDel && (match sl.toList with
    | [_, _, _, _, some (.builtin n), _] => decide (n = "ValueError.__new__")
    | _ => false))))
  | _ => false
theorem oexB_ok {K : PySem.W.Frag} {C : Addr} (h : oexB K C = true) : ∃ nm q N bs bm sn sub ab col dd k0 k1 k2 k3 k5, K.lookup C = some (excClassObj nm q C N bs bm true sn sub ab col dd k0 k1 k2 k3 k5 "ValueError.__new__") ∧ PySem.HandSPX.refsVE bm = true := by
  unfold oexB at h
  split at h
  · rename_i cl dd cd sl ho
    obtain ⟨h1, h⟩ := Bool.and_eq_true_iff.mp h
    obtain ⟨h2, h⟩ := Bool.and_eq_true_iff.mp h
    obtain ⟨h3, h⟩ := Bool.and_eq_true_iff.mp h
    obtain ⟨h4, h5⟩ := Bool.and_eq_true_iff.mp h
    have e1 := of_decide_eq_true h1
    subst e1
    split at h2
    · rename_i C' bm hm
      obtain ⟨h6, h7⟩ := Bool.and_eq_true_iff.mp h2
      have e2 := of_decide_eq_true h6
      subst e2
      split at h5
      · rename_i k0 k1 k2 k3 n k5 hs
        have e3 := of_decide_eq_true h5
        subst e3
        have hsl : sl = #[k0, k1, k2, k3, some (.builtin "ValueError.__new__"), k5] := by
          obtain ⟨l⟩ := sl
          simp only at hs
          rw [hs]
        subst hsl
        obtain ⟨nm, bs, mro, ns, qn, hd, sn, sub, ab, col, del⟩ := cd
        dsimp only at hm h3 h4
        have e4 : del = false := by simpa using h4
        subst hm h3 e4
        exact ⟨nm, qn, ns, bs, bm, sn, sub, ab, col, dd, k0, k1, k2, k3, k5, ho, h7⟩
      · cases h5
    · cases h2
  · cases h
/-- all about a class with one field -/
def fXc (C f : Str) : Fct := fun K => oexB K (He.ga K C) && (He.eqO (PySem.W.findIn K (.ref (He.ga K C)) "__setattr__") (some (some (.builtin "object.__setattr__"))) && (decide (PySem.W.typeIn K (.ref (He.ga K C)) = some (.type "type")) && (PySem.W.keepIn K (.ref (He.ga K C)) && (xfB K (He.ga K C) &&
  (He.eqO (PySem.W.findIn K (.ref (He.ga K C)) f) (some none) && (He.eqO (PySem.W.findIn K (.ref (He.ga K C)) "__init__") (some (some (.ref (He.ma K (He.ga K C) "__init__")))) && decide (PySem.W.typeIn K (.ref (He.ma K (He.ga K C) "__init__")) = some (.type "function"))))))))
def fEx (C : Str) : Fct := fun K => xfB K (He.ga K C) && (He.eqO (PySem.W.findIn K (.ref (He.ga K C)) "__class__") (some (some (.builtin "object.__class__"))) && (He.eqO (PySem.W.specialIn K (.builtin "object.__class__") "__get__") (some (some (.builtin "getset_descriptor.__get__"))) && (decide (PySem.W.takesIn K (.builtin "object.__class__") = some true) && decide (PySem.W.mroIn K (He.ga K C) (.type "object") = some true))))
theorem fEx_ok {K : PySem.W.Frag} {C : Str} (h : fEx C K = true) : ExcC K (He.ga K C) := by
  obtain ⟨h1, h⟩ := Bool.and_eq_true_iff.mp h
  obtain ⟨h2, h⟩ := Bool.and_eq_true_iff.mp h
  obtain ⟨h3, h⟩ := Bool.and_eq_true_iff.mp h
  obtain ⟨h4, h5⟩ := Bool.and_eq_true_iff.mp h
  obtain ⟨x1, x2, x3, x4⟩ := xfB_ok h1
  exact ⟨x1, x2, x3, x4, He.eqO_ok h2, He.eqO_ok h3, of_decide_eq_true h4, of_decide_eq_true h5⟩
def fExm (c E : Str) : Fct := fun K => decide (PySem.W.exmOne K (.ref (He.ga K c)) (.ref (He.ga K E)) = some true)
/-- what a test names -/
inductive TN where
  | c (x : Str) | t (n : String)
def TN.u (K : PySem.W.Frag) : TN → Value
  | .c x => .ref (He.ga K x)
  | .t n => .type n
def TN.v (K : PySem.W.Frag) : TN → V
  | .c x => .ref (He.ga K x)
  | .t n => .ty n
def fKitA (c : Str) (ts : List Str) (b : Bool) : Fct := fun K => decide (PySem.W.kitAny K (.ref (He.ga K c)) (ts.map fun T => Value.ref (He.ga K T)) = some b)
def fKit1 (c : Str) (t : TN) (b : Bool) : Fct := fun K => decide (PySem.W.kitOne K (.ref (He.ga K c)) (t.u K) = some b)
theorem vals_refs {K : PySem.W.Frag} : ∀ {ts : List Str} {us : List Value}, Vals (ts.map fun T => V.ref (He.ga K T)) us → us = ts.map fun T => Value.ref (He.ga K T)
  | [], us, r => by
    cases r
    rfl
  | T :: ts, us, r => by
    cases r with
    | cons a b =>
      rw [vals_refs b]
      cases a
      rfl
theorem relV_tn {K : PySem.W.Frag} {t : TN} {u : Value} (r : RelV (t.v K) u) : u = t.u K := by
  cases t with
  | c x =>
    cases r
    rfl
  | t n =>
    cases r
    rfl
def TabA (K : PySem.W.Frag) (ts : List Str) (tab : List (Str × Bool)) : Prop := ∀ C b, tab.lookup C = some b → ExcC K (He.ga K C) ∧ ∀ us, Vals (ts.map fun T => V.ref (He.ga K T)) us → PySem.W.kitAny K (.ref (He.ga K C)) us = some b
def Tab1 (K : PySem.W.Frag) (t : TN) (tab : List (Str × Bool)) : Prop := ∀ C b, tab.lookup C = some b → ExcC K (He.ga K C) ∧ ∀ u, RelV (t.v K) u → PySem.W.kitOne K (.ref (He.ga K C)) u = some b
def TabE (K : PySem.W.Frag) (E : Str) (l : List Str) : Prop := ∀ c, decide (c ∈ l) = true → PySem.W.exmOne K (.ref (He.ga K c)) (.ref (He.ga K E)) = some true
section
variable {K : PySem.W.Frag} {ts : List Str} {t : TN} {tab : List (Str × Bool)} {c : Str} {b : Bool} {E : Str} {l : List Str}
theorem tabA_nil : TabA K ts [] := fun C b e => by cases e
theorem tabA_cons (h1 : fEx c K = true) (h2 : fKitA c ts b K = true) (h : TabA K ts tab) : TabA K ts ((c, b) :: tab) := fun C b' e => by
  rw [List.lookup_cons] at e
  cases q : (C == c) with
  | true =>
    rw [q] at e
    cases e
    have := eq_of_beq q
    subst this
    exact ⟨fEx_ok h1, fun us r => by rw [vals_refs r]; exact of_decide_eq_true h2⟩
  | false =>
    rw [q] at e
    exact h C b' e
theorem tab1_nil : Tab1 K t [] := fun C b e => by cases e
theorem tab1_cons (h1 : fEx c K = true) (h2 : fKit1 c t b K = true) (h : Tab1 K t tab) : Tab1 K t ((c, b) :: tab) := fun C b' e => by
  rw [List.lookup_cons] at e
  cases q : (C == c) with
  | true =>
    rw [q] at e
    cases e
    have := eq_of_beq q
    subst this
    exact ⟨fEx_ok h1, fun u r => by rw [relV_tn r]; exact of_decide_eq_true h2⟩
  | false =>
    rw [q] at e
    exact h C b' e
theorem tabE_nil : TabE K E [] := fun c h => by simp at h
theorem tabE_cons (h1 : fExm c E K = true) (h : TabE K E l) : TabE K E (c :: l) := fun c' e => by
  have e := of_decide_eq_true e
  rcases List.mem_cons.mp e with rfl | e
  · exact of_decide_eq_true h1
  · exact h c' (decide_eq_true e)
end
abbrev dini (C q : Str) (st : Stmt) : He.DefD := ⟨(C, some "__init__"), "__init__", q, defArgs st, defBody st, defScope st, [], []⟩
section
variable {fa : List Fct} {fn : List He.DefD} {K : PySem.W.Frag} {h : Heap} {mg : Str → Option Value}
theorem SaysX.cls (c : SaysX fa fn K) (X : K.In h) (G : h.Ns mainGlobals mg) (i : Nat) (x : Str) (e : fa[i]? = some (fGlo x) := by rfl) : mg x = some (.ref (He.ga K x)) := PySem.W.mg_of X G (He.eqO_ok (c.fact i e))
theorem SaysX.xcls {P : Program} {w : World} {base : Heap} (c : SaysX fa fn K) (X : K.In h) (G : h.Ns mainGlobals mg) (i : Nat) (C f q : Str) (j : Nat) (st : Stmt) {p1 p2 p3 p4 : Pos} (S : FnScope ["self", f] ["self", f] (defScope st)) (eb : defBody st = [.Assign [.Attribute (.Name "self" p1) f p2] (.Name f p3) p4])
    (hl1 : (defScope st).names.lookup ("self" : Str) = some .local) (hl2 : (defScope st).names.lookup f = some .local) (hd1 : (f == ("__debug__" : Str)) = false) (hd2 : (f == ("__classdict__" : Str)) = false)
    (hb : ∀ (kV doc pm : Value) (an : Option Addr) (cdv ct : Value) (us : List Value), us.length = (["self", f] : List Str).length → bindArgs (PySem.W.fnOf "__init__" q (defArgs st) (defBody st) (defScope st) .none kV doc pm an cdv ct) ⟨us, []⟩ = pure ((["self", f] : List Str).zip us))
    (e : fa[i]? = some (fXc C f) := by rfl) (e2 : fn[j]? = some (dini C q st) := by rfl) : XCls P w K mg base C f := by
  have c1 := c.fact i e
  obtain ⟨h1, c1⟩ := Bool.and_eq_true_iff.mp c1
  obtain ⟨h2, c1⟩ := Bool.and_eq_true_iff.mp c1
  obtain ⟨h3, c1⟩ := Bool.and_eq_true_iff.mp c1
  obtain ⟨h4, c1⟩ := Bool.and_eq_true_iff.mp c1
  obtain ⟨h5, c1⟩ := Bool.and_eq_true_iff.mp c1
  obtain ⟨h6, c1⟩ := Bool.and_eq_true_iff.mp c1
  obtain ⟨h7, h8⟩ := Bool.and_eq_true_iff.mp c1
  obtain ⟨⟨fd, F⟩, hg⟩ := c.def_ j e2
  have xf := xfB_ok h5
  have F' : FunD K "__init__" q (defArgs st) (defBody st) (defScope st) [] [] (He.ma K (He.ga K C) "__init__") fd := F
  exact ⟨PySem.W.mg_of X G (He.eqO_ok hg), ⟨oexB_ok h1, He.eqO_ok h2, xf.exC, of_decide_eq_true h3, h4⟩, xf, He.eqO_ok h6, _, fd, ["self", f], He.eqO_ok h7, of_decide_eq_true h8, init_ok (C := C) F' S eb hl1 hl2 hd1 hd2, F'.bindsN hb⟩
end
end DL

set_option Elab.async false
set_option linter.all false
set_option maxRecDepth 100000
set_option maxHeartbeats 4000000
/-! DLD: the head's facts over a written list of addresses -/
namespace DL
open PySem PySem.Spec PyProof.Rows L2
def obsL (as : List Addr) (fa : List Fct) (fn : List He.DefD) (g : Addr → Option Obj) : He.AlD := obsX fa fn (He.frG g as)
def hookL (as : List Addr) (fa : List Fct) (fn : List He.DefD) : PySem.W.Hook where
  α := He.AlD
  obs := fun s => obsL as fa fn s.heap.get?
  val := fun _ => He.valD fn
  says := fun _ h => ∃ K : PySem.W.Frag, K.In h ∧ SaysX fa fn K
  of := fun _ _ e => ⟨_, He.frG_in, e⟩
  keeps := fun _ _ _ ⟨K, hK, c⟩ k => ⟨K, PySem.W.Frag.In.keeps hK k, c⟩
theorem obsL_eq {as : List Addr} {fa : List Fct} {fn : List He.DefD} {g : Addr → Option Obj} {s : Shared} (h : ∀ a, g a = s.heap.get? a) : obsL as fa fn g = (hookL as fa fn).obs s := by
  have e : g = s.heap.get? := funext h
  rw [e] <;> rfl
end DL

set_option Elab.async false
set_option linter.all false
set_option maxRecDepth 100000
set_option maxHeartbeats 4000000
/-! DLE: list + list; one of two new lists -/
namespace DL
open PySem PySem.Spec PyProof.Rows L2
section
variable {X : Cx} {a b c e : Expr} {f : EV} {h1 h2 : EA} {pos p2 : Pos}
def fCat (h1 h2 : EA) : EA := fun ρ => (h1 ρ).bind fun xs => (h2 ρ).bind fun ys => if xs.length + ys.length ≤ 16000000 then some (xs ++ ys) else none
theorem df_cat (ha : DF X a h1) (hb : DF X b h2) : DF X (.BinOp a .Add b pos) (fCat h1 h2) := peMono (pe_op op_cat ha hb) fun σ H Q ⟨B, F, ρ, ds, E, e, q⟩ => by
  obtain ⟨xs, e1, e⟩ := bind_some e
  obtain ⟨ys, e2, e⟩ := bind_some e
  split at e
  case isFalse => cases e
  rename_i hz
  cases e
  refine ⟨B, F, ρ, xs, E, e1, fun l vs F1 H1 G1 n1 n2 g1 r1 => ⟨B, F1, ρ, ys, E.grow G1, e2, fun m ws F2 H2 G2 m1 m2 g2 r2 => ⟨l, m, vs, ws, rfl, rfl, G2.hh _ _ g1, g2, ?_, fun p np => ?_⟩⟩⟩
  · rw [dpLen r1, dpLen r2]
    exact Nat.le_trans hz (by decide)
  · exact q p _ F2 _ ((G1.trans G2).trans (.side G2.fh np)) ((G1.trans G2).hh.free np) (G2.fh.free np) upd_same (dpApp (dpMonoAll G2.ff _ _ r1) r2)
def fPick (h1 h2 : EA) (f : EV) : EA := fun ρ => (h1 ρ).bind fun xs => (h2 ρ).bind fun ys => (f ρ).bind fun d => match d with
  | .int i => atI [xs, ys] i
  | _ => none
theorem pick2 {α β : Type} {x y z : α} {u v : β} {i : Int} (e : atI [x, y] i = some z) : (atI [u, v] i = some u ∧ z = x) ∨ (atI [u, v] i = some v ∧ z = y) := by
  unfold atI at e ⊢
  obtain ⟨j, e1, e2⟩ := bind_some e
  have e3 : ixN [u, v].length i = some j := e1
  rw [e3]
  match j, e2 with
  | 0, e2 => cases e2; exact .inl ⟨rfl, rfl⟩
  | 1, e2 => cases e2; exact .inr ⟨rfl, rfl⟩
theorem df_pick {p1 : Pos} (ha : DF X a h1) (hb : DF X b h2) (hc : DV X c f) (hs : PlainIx c := by exact fun _ _ => rfl) (s1 : starEach [a, b] X.env = (false, eval a X.env) :: starEach [b] X.env := by rfl) (s2 : starEach [b] X.env = (false, eval b X.env) :: starEach [] X.env := by rfl) :
    DF X (.Subscript (.List [a, b] p1) c pos) (fPick h1 h2 f) := peMono (pe_ix ix_list (pe_lst (pa_cons ha (pa_cons hb pa_nil s2) s1)) hc hs) fun σ H Q ⟨B, F, ρ, ds, E, e, q⟩ => by
  obtain ⟨xs, e1, e⟩ := bind_some e
  obtain ⟨ys, e2, e⟩ := bind_some e
  obtain ⟨d, e3, e⟩ := bind_some e
  cases d with
  | int i =>
    refine ⟨B, F, ρ, xs, E, e1, fun l vs F1 H1 G1 n1 n2 g1 r1 => ⟨B, F1, ρ, ys, E.grow G1, e2, fun m ws F2 H2 G2 m1 m2 g2 r2 => ⟨by show 2 ≤ sizeLine; decide, fun p np => ?_⟩⟩⟩
    have G3 : Grow F2 H2 F2 (upd H2 p (.lst [.ref l, .ref m])) := .side G2.fh np
    refine ⟨B, F2, ρ, .int i, ((E.grow G1).grow G2).grow G3, e3, fun y F4 H4 G4 r4 => ?_⟩
    cases r4
    have G34 := G3.trans G4
    have hp : H4 p = some (.lst [.ref l, .ref m]) := G4.hh _ _ upd_same
    have GA := G1.trans (G2.trans G34)
    rcases pick2 (u := V.ref l) (v := V.ref m) e with ⟨k, rfl⟩ | ⟨k, rfl⟩
    · have g1' := G2.hh _ _ g1
      exact ⟨p, _, i, _, rfl, rfl, .inl (.inl hp), k, q l vs F4 H4 GA n1 (G34.nn _ _ g1' (G2.nn _ _ g1 n2)) (G34.hh _ _ g1') (dpMonoAll (G2.ff.trans G34.ff) _ _ r1)⟩
    · exact ⟨p, _, i, _, rfl, rfl, .inl (.inl hp), k, q m ws F4 H4 GA (G1.hh.free m1) (G34.nn _ _ g2 m2) (G34.hh _ _ g2) (dpMonoAll G34.ff _ _ r2)⟩
  | _ => cases e
end
end DL

set_option Elab.async false
set_option linter.all false
set_option maxRecDepth 100000
set_option maxHeartbeats 4000000
/-! DLF: in, not in; comprehensions with two fors -/
namespace DL
open PySem PySem.Spec PyProof.Rows L2
theorem Room.u65 {k : Nat} {A : Around} (r : Room k A) : A.units + 65 < cLine := by have := r.un; omega
section
variable {X : Cx}
def gIn (x y : PyData) : Option PyData := match y with
  | .list ds => if SeqAt.shaped x && SeqAt.shaped (.list ds) then some (.bool (ds.any fun z => PyData.eqv z x)) else none
  | .tuple ds => if SeqAt.shaped x && SeqAt.shaped (.tuple ds) then some (.bool (ds.any fun z => PyData.eqv z x)) else none
  | _ => none
def gNin (x y : PyData) : Option PyData := (gIn x y).bind gNot
theorem o_in (hu : X.A.units + 65 < cLine) : OpR X (compareOp .In) (rG X.K gIn) := fun pins s σ H x y v u Q I rx ry ⟨F, dx, dy, d, sm, hx, hy, e, q⟩ => by
  have hx' := dpMono sm _ _ hx
  have hy' := dpMono sm _ _ hy
  unfold gIn at e
  split at e
  · split at e
    · rename_i hc
      cases e
      obtain ⟨h1, h2⟩ := Bool.and_eq_true_iff.mp hc
      exact op_inD hu pins s σ H x y v u Q I rx ry ⟨dx, _, hx', hy', h1, h2, q _ F H (.refl sm) (.bl _)⟩
    · cases e
  · split at e
    · rename_i ds hc
      cases e
      obtain ⟨h1, h2⟩ := Bool.and_eq_true_iff.mp hc
      obtain ⟨as, r1⟩ := Dp.reads I dx x v hx' rx
      obtain ⟨bs, r2⟩ := Dp.reads I (.tuple ds) y u hy' ry
      have h2' : SeqAt.shaped (.list ds) = true := h2
      exact SeqAt.in_tuple_reads r2 r1 (SeqAt.canLay_of_shaped h2') (SeqAt.canLay_of_shaped h1) (room_in_shaped h1 hu) ⟨.bl _, H, I, rfl, q _ F H (.refl sm) (.bl _)⟩
    · cases e
  · cases e
theorem o_nin (hu : X.A.units + 65 < cLine) : OpR X (compareOp .NotIn) (rG X.K gNin) := fun pins s σ H x y v u Q I rx ry ⟨F, dx, dy, d, sm, hx, hy, e, q⟩ => by
  have hx' := dpMono sm _ _ hx
  have hy' := dpMono sm _ _ hy
  obtain ⟨d', e, e2⟩ := bind_some e
  unfold gIn at e
  split at e
  · split at e
    · rename_i hc
      cases e
      cases e2
      obtain ⟨h1, h2⟩ := Bool.and_eq_true_iff.mp hc
      exact op_notInD hu pins s σ H x y v u Q I rx ry ⟨dx, _, hx', hy', h1, h2, q _ F H (.refl sm) (.bl _)⟩
    · cases e
  · split at e
    · rename_i ds _ hc
      cases e
      cases e2
      obtain ⟨h1, h2⟩ := Bool.and_eq_true_iff.mp hc
      obtain ⟨as, r1⟩ := Dp.reads I dx x v hx' rx
      obtain ⟨bs, r2⟩ := Dp.reads I (.tuple ds) y u hy' ry
      have h2' : SeqAt.shaped (.list ds) = true := h2
      exact SeqAt.notIn_tuple_reads r2 r1 (SeqAt.canLay_of_shaped h2') (SeqAt.canLay_of_shaped h1) (room_in_shaped h1 hu) ⟨.bl _, H, I, rfl, q _ F H (.refl sm) (.bl _)⟩
    · cases e
  · cases e
end
/-! ### two fors -/
def compL2 (g : EG) (c : EB) (it1 : EA) (g1 : EG) (c1 : EB) (e : EV) (vs1 : List Nat) (ρ : Rho) : List PyData → Option (List PyData)
  | [] => some []
  | d :: ds => (g d ρ).bind fun ρ1 => (c ρ1).bind fun b => if b then (it1 ρ1).bind fun ds1 => if ds1.length ≤ 4000 then (compL g1 c1 e (wipeR ρ1 vs1) ds1).bind fun r1 => (compL2 g c it1 g1 c1 e vs1 ρ ds).bind fun r => some (r1 ++ r) else none else compL2 g c it1 g1 c1 e vs1 ρ ds
def fComp2 (it : EA) (g : EG) (c : EB) (it1 : EA) (g1 : EG) (c1 : EB) (e : EV) (vs vs1 : List Nat) : EA := fun ρ => (it ρ).bind fun ds => if ds.length ≤ 4000 then compL2 g c it1 g1 c1 e vs1 (wipeR ρ vs) ds else none
section
variable {K : PySem.W.Frag} {B F H F' H' : Hp} {σ : L2.St} {ρ : Rho}
/-- one list of the base changes -/
theorem ER.but {D : Addr} {oD : HO} (E : ER K B F H σ ρ) (hB : B D = some oD) (ff : Same F F') (fh : Same F' H') (hh : ∀ a o, a ≠ D → H a = some o → H' a = some o) (nn : ∀ a o, a ≠ D → H a = some o → F a = none → F' a = none) : ER K B F' H' σ ρ where
  fh := fh
  len := E.len
  va := fun i d e => by
    obtain ⟨v, h1, h2⟩ := E.va i d e
    exact ⟨v, h1, dpMono ff _ _ h2⟩
  ow := fun i ds e => by
    obtain ⟨a, vs, h1, h2, h3, h4, h5⟩ := E.ow i ds e
    have ne : a ≠ D := fun z => by rw [z, hB] at h3; cases h3
    exact ⟨a, vs, h1, nn _ _ ne h4 h2, h3, hh _ _ ne h4, dpMonoAll ff _ _ h5⟩
  oo := fun i dss e => by
    obtain ⟨a, as, h1, h2, h3, h4, h5, h6⟩ := E.oo i dss e
    have ne : a ≠ D := fun z => by rw [z, hB] at h3; cases h3
    refine ⟨a, as, h1, nn _ _ ne h4 h2, h3, hh _ _ ne h4, h5, fun k b ds e1 e2 => ?_⟩
    obtain ⟨r1, r2, vs, r3, r4⟩ := h6 k b ds e1 e2
    have nb : b ≠ D := fun z => by rw [z, hB] at r2; cases r2
    exact ⟨nn _ _ nb r3 r1, r2, vs, hh _ _ nb r3, dpMonoAll ff _ _ r4⟩
  dj := fun i j k l a p q => by
    have bk : ∀ a o, B a = none → H a = some o → H' a = some o := fun a o n h => hh a o (fun z => by rw [z, hB] at n; cases n) h
    exact E.dj i j k l a (p.back E bk) (q.back E bk)
/-- the base with one more -/
theorem ER.base {D : Addr} {oD : HO} (E : ER K B F H σ ρ) (hn : H D = none) : ER K (upd B D oD) F H σ ρ where
  fh := E.fh
  len := E.len
  va := E.va
  ow := fun i ds e => by
    obtain ⟨a, vs, h1, h2, h3, h4, h5⟩ := E.ow i ds e
    exact ⟨a, vs, h1, h2, by rw [upd_ne (ne_of_none h4 hn)]; exact h3, h4, h5⟩
  oo := fun i dss e => by
    obtain ⟨a, as, h1, h2, h3, h4, h5, h6⟩ := E.oo i dss e
    refine ⟨a, as, h1, h2, by rw [upd_ne (ne_of_none h4 hn)]; exact h3, h4, h5, fun k b ds e1 e2 => ?_⟩
    obtain ⟨r1, r2, vs, r3, r4⟩ := h6 k b ds e1 e2
    exact ⟨r1, by rw [upd_ne (ne_of_none r3 hn)]; exact r2, vs, r3, r4⟩
  dj := E.dj
theorem compLen' {g : EG} {c : EB} {e : EV} {ds rs : List PyData} (h : compL g c e ρ ds = some rs) : rs.length ≤ ds.length := compLen h
theorem tComp2 {it it1 : EA} {g g1 : EG} {is is1 : List Nat} {cb cb1 : EB} {ev : EV} {vs vs1 : List Nat} (hv : ∀ i ∈ is, i ∈ vs) (hv1 : ∀ i ∈ is1, i ∈ vs1) {Q : VK} (h : tF K (fComp2 it g cb it1 g1 cb1 ev vs vs1) σ H Q) :
    tLc2 (tI K it) (tG K is g) (tT K cb) (tI K it1) (tG K is1 g1) (tT K cb1) (tD K ev) vs vs1 σ H Q := by
  obtain ⟨B0, F, ρ, rs, E0, e, q⟩ := h
  obtain ⟨ds, e1, e⟩ := bind_some e
  split at e
  case isFalse => cases e
  rename_i hz
  refine ⟨B0, F, ρ, ds, E0, e1, fun J F1 H1 G1 Y D nD => ?_⟩
  have E : ER K (upd B0 D (.lst [])) F1 H1 σ ρ := (E0.grow G1).base nD
  have hBD : upd B0 D (.lst []) D = some (.lst []) := upd_same
  generalize upd B0 D (.lst []) = B at *
  refine ⟨fun i m H2 => m = ds.length - i ∧ i ≤ ds.length ∧ ∃ F2 acc ws rest, Grow F1 H1 F2 H2 ∧ F2 D = none ∧ H2 D = some (.lst ws) ∧ DpAll K F2 ws acc ∧ compL2 g cb it1 g1 cb1 ev vs1 (wipeR ρ vs) (ds.drop i) = some rest ∧ acc ++ rest = rs ∧ acc.length ≤ i * 4000,
    ⟨ds.length, by simp, Nat.zero_le _, F1, [], [], rs, .side G1.fh nD, G1.fh.free nD, upd_same, .nil, e, rfl, by simp⟩, ?_⟩
  rintro i m H2 ⟨rfl, hi, F2, acc, ws, rest, G2, n2, h2, r2, e2, e3, l2⟩
  by_cases hlt : i < ds.length
  · refine .inr ⟨Y.go i H2 hlt (G2.ff.trans G2.fh), fun H' => ∃ F2 acc ws rest, Grow F1 H1 F2 H' ∧ F2 D = none ∧ H' D = some (.lst ws) ∧ DpAll K F2 ws acc ∧ compL2 g cb it1 g1 cb1 ev vs1 (wipeR ρ vs) (ds.drop (i + 1)) = some rest ∧ acc ++ rest = rs ∧ acc.length ≤ (i + 1) * 4000,
      fun H' p' => ⟨ds.length - (i + 1), by omega, rfl, hlt, p'⟩, fun x H3 y => ?_⟩
    obtain ⟨d, F3, hd, G3, r3⟩ := Y.yld i H2 x H3 F2 hlt G2.ff G2.fh y
    have ed : ds.drop i = d :: ds.drop (i + 1) := by
      rw [List.drop_eq_getElem_cons hlt]
      rw [List.getElem?_eq_getElem hlt] at hd
      cases hd
      rfl
    rw [ed] at e2
    obtain ⟨ρ1, c1, e2⟩ := bind_some e2
    obtain ⟨b, c2, e2⟩ := bind_some e2
    have GA := G2.trans G3
    have n3 := G3.nn _ _ h2 n2
    have h3 := G3.hh _ _ h2
    have E3 : ER K B F3 H3 σ ρ := E.grow GA
    refine ⟨B, F3, wipeR ρ vs, d, ρ1, erWipe E3 vs, r3, c1, fun σ2 E2 l k => ⟨wipe_same hv l k, B, F3, ρ1, b, E2, c2, fun F4 H4 G4 => ?_⟩⟩
    have n4 := G4.nn _ _ h3 n3
    have h4 := G4.hh _ _ h3
    have r4 := dpMonoAll (G3.ff.trans G4.ff) _ _ r2
    have GB := GA.trans G4
    cases b with
    | false =>
      rw [if_neg (by simp)] at e2
      dsimp only
      rw [if_neg (by simp)]
      exact ⟨F4, acc, ws, rest, GB, n4, h4, r4, e2, e3, by omega⟩
    | true =>
      rw [if_pos rfl] at e2
      dsimp only
      rw [if_pos rfl]
      obtain ⟨ds1, c3, e2⟩ := bind_some e2
      split at e2
      case isFalse => cases e2
      rename_i hz1
      obtain ⟨rr1, c4, e2⟩ := bind_some e2
      obtain ⟨rr, c5, e2⟩ := bind_some e2
      cases e2
      refine ⟨B, F4, ρ1, ds1, E2.grow G4, c3, fun J1 F5 H5 G5 Y1 => ?_⟩
      have E5 : ER K B F5 H5 σ2 ρ1 := (E2.grow G4).grow G5
      have n5 := G5.nn _ _ h4 n4
      have h5 := G5.hh _ _ h4
      have r5 := dpMonoAll G5.ff _ _ r4
      have GC := GB.trans G5
      refine ⟨fun j k H6 => k = ds1.length - j ∧ j ≤ ds1.length ∧ ∃ F6 acc6 ws6 rest6, Grow F1 H1 F6 H6 ∧ Same F5 F6 ∧ (∀ a o, a ≠ D → H5 a = some o → H6 a = some o) ∧ (∀ a o, a ≠ D → H5 a = some o → F5 a = none → F6 a = none) ∧ F6 D = none ∧ H6 D = some (.lst ws6) ∧ DpAll K F6 ws6 acc6 ∧
          compL g1 cb1 ev (wipeR ρ1 vs1) (ds1.drop j) = some rest6 ∧ acc6 ++ rest6 = acc ++ rr1 ∧ acc6.length ≤ i * 4000 + j,
        ⟨ds1.length, by simp, Nat.zero_le _, F5, acc, ws, rr1, GC, .refl F5, fun _ _ _ h => h, fun _ _ _ _ h => h, n5, h5, r5, c4, rfl, by omega⟩, ?_⟩
      rintro j k H6 ⟨rfl, hj, F6, acc6, ws6, rest6, G6, s6, hh6, nn6, n6, h6, r6, e6, e7, l6⟩
      by_cases hjt : j < ds1.length
      · refine .inr ⟨Y1.go j H6 hjt (s6.trans G6.fh), _, fun H' p' => ⟨ds1.length - (j + 1), by omega, rfl, hjt, p'⟩, fun x H7 y => ?_⟩
        obtain ⟨d1, F7, hd1, G7, r7⟩ := Y1.yld j H6 x H7 F6 hjt s6 G6.fh y
        have ed1 : ds1.drop j = d1 :: ds1.drop (j + 1) := by
          rw [List.drop_eq_getElem_cons hjt]
          rw [List.getElem?_eq_getElem hjt] at hd1
          cases hd1
          rfl
        rw [ed1] at e6
        obtain ⟨ρ3, k1, e6⟩ := bind_some e6
        obtain ⟨b1, k2, e6⟩ := bind_some e6
        have E7 : ER K B F7 H7 σ2 ρ1 := E5.but hBD (s6.trans G7.ff) G7.fh (fun a o ne h => G7.hh _ _ (hh6 a o ne h)) (fun a o ne h n => G7.nn _ _ (hh6 a o ne h) (nn6 a o ne h n))
        refine ⟨B, F7, wipeR ρ1 vs1, d1, ρ3, erWipe E7 vs1, r7, k1, fun σ3 E8 l k => ⟨wipe_same hv1 l k, B, F7, ρ3, b1, E8, k2, fun F8 H8 G8 => ?_⟩⟩
        have GD := G6.trans (G7.trans G8)
        have G78 := G7.trans G8
        cases b1 with
        | false =>
          rw [if_neg (by simp)] at e6
          dsimp only
          rw [if_neg (by simp)]
          exact ⟨F8, acc6, ws6, rest6, GD, s6.trans G78.ff, fun a o ne h => G78.hh _ _ (hh6 a o ne h), fun a o ne h n => G78.nn _ _ (hh6 a o ne h) (nn6 a o ne h n), G78.nn _ _ h6 n6, G78.hh _ _ h6, dpMonoAll G78.ff _ _ r6, e6, e7, by omega⟩
        | true =>
          rw [if_pos rfl] at e6
          dsimp only
          rw [if_pos rfl]
          obtain ⟨dx, k3, e6⟩ := bind_some e6
          obtain ⟨r9, k4, e6⟩ := bind_some e6
          cases e6
          refine ⟨B, F8, ρ3, dx, E8.grow G8, k3, fun v F9 H9 G9 rv => ?_⟩
          have GG := G78.trans G9
          have h9 := GG.hh _ _ h6
          have n9 := GG.nn _ _ h6 n6
          have w9 : ws6.length = acc6.length := dpLen r6
          have bound : ws6.length < sizeLine := by
            rw [w9]
            refine Nat.lt_of_le_of_lt (show acc6.length ≤ 16000000 from ?_) (by decide)
            have : i * 4000 ≤ 3999 * 4000 := Nat.mul_le_mul_right _ (by omega)
            omega
          refine ⟨ws6, h9, bound, F9, acc6 ++ [dx], ws6 ++ [v], r9, ⟨G6.ff.trans GG.ff, fun b o z => ?_, fun b o z => ?_, fun b o z n => GG.nn b o (G6.hh b o z) (G6.nn b o z n)⟩, s6.trans GG.ff, fun a o ne h => by rw [upd_ne ne]; exact GG.hh _ _ (hh6 a o ne h), fun a o ne h n => GG.nn _ _ (hh6 a o ne h) (nn6 a o ne h n), n9, upd_same, dpApp (dpMonoAll GG.ff _ _ r6) (.cons rv .nil), k4, by rw [List.append_assoc]; exact e7, by rw [List.length_append, List.length_singleton]; omega⟩
          · rw [upd_ne (fun q => by rw [q, n9] at z; cases z)]
            exact G9.fh b o z
          · rw [upd_ne (ne_of_none z nD)]
            exact GG.hh b o (G6.hh b o z)
      · have ej : j = ds1.length := by omega
        subst ej
        rw [List.drop_length] at e6
        cases e6
        rw [List.append_nil] at e7
        subst e7
        refine .inl ⟨Y1.stop H6 (s6.trans G6.fh), F6, acc ++ rr1, ws6, rr, G6, n6, h6, r6, c5, by rw [List.append_assoc]; exact e3, by rw [List.length_append]; have := compLen c4; omega⟩
  · have ei : i = ds.length := by omega
    subst ei
    rw [List.drop_length] at e2
    cases e2
    rw [List.append_nil] at e3
    subst e3
    exact .inl ⟨Y.stop H2 (G2.ff.trans G2.fh), q D ws F2 H2 (G1.trans G2) (G1.hh.free nD) n2 h2 r2⟩
end
section
variable {X : Cx} {tg tg1 elt iter iter1 : Expr} {pos : Pos} {cb cb1 : EB}
theorem df_comp2 {scope : Scope} {own : List (Str × Nat)} {vs1 : List Nat} {ifs ifs1 : List Expr} {is is1 : List Nat} {gg gg1 : EG} {it it1 : EA} {ev : EV} (hc : X.calm = true) (hN : X.N.Nodup) (hi : DI X tg iter it) (ok : BlkOk X.N X.env.scope scope own) (hv1 : ∀ i ∈ vs1, i ∈ own.map (·.2))
    (hg : ∀ (s : Shared) (H : Hp) (C : Addr) (cl : List (Str × Addr)) (fp : List Addr), DG (X.blk s H scope (compEnvC scope cl C X.env) fp) tg is gg) (ht : ∀ (s : Shared) (H : Hp) (C : Addr) (cl : List (Str × Addr)) (fp : List Addr), DX (X.blk s H scope (compEnvC scope cl C X.env) fp) ifs cb)
    (hi1 : ∀ (s : Shared) (H : Hp) (C : Addr) (cl : List (Str × Addr)) (fp : List Addr), DI (X.blk s H scope (compEnvC scope cl C X.env) fp) tg1 iter1 it1)
    (hg1 : ∀ (s : Shared) (H : Hp) (C : Addr) (cl : List (Str × Addr)) (fp : List Addr), DG (X.blk s H scope (compEnvC scope cl C X.env) fp) tg1 is1 gg1) (ht1 : ∀ (s : Shared) (H : Hp) (C : Addr) (cl : List (Str × Addr)) (fp : List Addr), DX (X.blk s H scope (compEnvC scope cl C X.env) fp) ifs1 cb1)
    (he : ∀ (s : Shared) (H : Hp) (C : Addr) (cl : List (Str × Addr)) (fp : List Addr), DV (X.blk s H scope (compEnvC scope cl C X.env) fp) elt ev) (hv : ∀ i ∈ is, i ∈ own.map (·.2) := by decide) (hv2 : ∀ i ∈ is1, i ∈ vs1 := by decide) (hs : ∀ x, foldedSetIterable iter X.env x = pure x := by intro _; rfl) (hs1 : ∀ env x, foldedSetIterable iter1 env x = pure x := by intro _ _; rfl) :
    DF X (.ListComp elt [⟨tg, iter, ifs, 0⟩, ⟨tg1, iter1, ifs1, 0⟩] scope pos) (fComp2 it gg cb it1 gg1 cb1 ev (own.map (·.2)) vs1) :=
  peMono (pe_lc2 (wi := tI X.K it) (wi1 := tI X.K it1) (g := tG X.K is gg) (tt := tT X.K cb) (g1 := tG X.K is1 gg1) (tt1 := tT X.K cb1) (te := tD X.K ev) hc hN hi ok hv1 hg ht hi1 hg1 ht1 he hs hs1) fun _ _ _ q => tComp2 hv hv2 q
end
end DL

set_option Elab.async false
set_option linter.all false
set_option maxRecDepth 100000
set_option maxHeartbeats 4000000
/-! DLG: lists of own lists -/
namespace DL
open PySem PySem.Spec PyProof.Rows L2
abbrev EAA := Rho → Option (List (List PyData))
/-- new lists, all of them tracked alone -/
structure Fr (K : PySem.W.Frag) (H F' H' : Hp) (as : List Addr) (dss : List (List PyData)) : Prop where
  len : as.length = dss.length
  nd : as.Nodup
  new : ∀ b ∈ as, H b = none
  at_ : ∀ (k : Nat) (b : Addr) (ds : List PyData), as[k]? = some b → dss[k]? = some ds → F' b = none ∧ ∃ vs, H' b = some (.lst vs) ∧ DpAll K F' vs ds
theorem Fr.nil {K : PySem.W.Frag} {H F' H' : Hp} : Fr K H F' H' [] [] := ⟨rfl, .nil, (fun _ h => nomatch h), fun _ _ _ h => by cases h⟩
theorem Fr.mem {K : PySem.W.Frag} {H F' H' : Hp} {as : List Addr} {dss : List (List PyData)} (h : Fr K H F' H' as dss) {b : Addr} (hb : b ∈ as) : F' b = none ∧ ∃ vs, H' b = some (.lst vs) := by
  obtain ⟨k, hk, rfl⟩ := List.getElem_of_mem hb
  have hk' : k < dss.length := by rw [← h.len]; exact hk
  obtain ⟨h1, vs, h2, _⟩ := h.at_ k _ dss[k] (List.getElem?_eq_getElem hk) (List.getElem?_eq_getElem hk')
  exact ⟨h1, vs, h2⟩
theorem Fr.grow {K : PySem.W.Frag} {H F1 H1 F2 H2 : Hp} {as : List Addr} {dss : List (List PyData)} (h : Fr K H F1 H1 as dss) (g : Grow F1 H1 F2 H2) : Fr K H F2 H2 as dss where
  len := h.len
  nd := h.nd
  new := h.new
  at_ := fun k b ds e1 e2 => by
    obtain ⟨h1, vs, h2, h3⟩ := h.at_ k b ds e1 e2
    exact ⟨g.nn _ _ h2 h1, vs, g.hh _ _ h2, dpMonoAll g.ff _ _ h3⟩
theorem Fr.back {K : PySem.W.Frag} {H0 H F1 H1 : Hp} {as : List Addr} {dss : List (List PyData)} (h : Fr K H F1 H1 as dss) (s : Same H0 H) : Fr K H0 F1 H1 as dss := ⟨h.len, h.nd, fun b hb => s.free (h.new b hb), h.at_⟩
theorem Fr.upd {K : PySem.W.Frag} {H F1 H1 : Hp} {as : List Addr} {dss : List (List PyData)} (h : Fr K H F1 H1 as dss) {p : Addr} {o : HO} (n : p ∉ as) : Fr K H F1 (L2.upd H1 p o) as dss := ⟨h.len, h.nd, h.new, fun k b ds e1 e2 => by
  obtain ⟨h1, vs, h2, h3⟩ := h.at_ k b ds e1 e2
  exact ⟨h1, vs, by rw [upd_ne (fun z => n (by rw [← z]; exact List.mem_of_getElem? e1))]; exact h2, h3⟩⟩
theorem Fr.snoc {K : PySem.W.Frag} {H F1 H1 : Hp} {as : List Addr} {dss : List (List PyData)} {a : Addr} {vs : List V} {ds : List PyData} (h : Fr K H F1 H1 as dss) (n : a ∉ as) (h0 : H a = none) (f : F1 a = none) (g : H1 a = some (.lst vs)) (r : DpAll K F1 vs ds) : Fr K H F1 H1 (as ++ [a]) (dss ++ [ds]) where
  len := by rw [List.length_append, List.length_append, h.len]; rfl
  nd := by
    rw [List.nodup_append]
    exact ⟨h.nd, by simp, fun x hx y hy => by rw [List.mem_singleton.mp hy]; intro z; exact n (z ▸ hx)⟩
  new := fun b hb => by
    rcases List.mem_append.mp hb with hb | hb
    · exact h.new b hb
    · rw [List.mem_singleton.mp hb]; exact h0
  at_ := fun k b ds' e1 e2 => by
    by_cases hk : k < as.length
    · rw [List.getElem?_append_left hk] at e1
      rw [List.getElem?_append_left (by rw [← h.len]; exact hk)] at e2
      exact h.at_ k b ds' e1 e2
    · rw [List.getElem?_append_right (by omega)] at e1
      rw [List.getElem?_append_right (by rw [← h.len]; omega), ← h.len] at e2
      have : k - as.length = 0 := by
        by_cases z : k - as.length = 0
        · exact z
        · rw [List.getElem?_eq_none (by simp; omega)] at e1
          cases e1
      rw [this] at e1 e2
      cases e1
      cases e2
      exact ⟨f, vs, g, r⟩
theorem Fr.cons {K : PySem.W.Frag} {H F1 H1 : Hp} {as : List Addr} {dss : List (List PyData)} {a : Addr} {vs : List V} {ds : List PyData} (h : Fr K H F1 H1 as dss) (n : a ∉ as) (h0 : H a = none) (f : F1 a = none) (g : H1 a = some (.lst vs)) (r : DpAll K F1 vs ds) : Fr K H F1 H1 (a :: as) (ds :: dss) where
  len := by rw [List.length_cons, List.length_cons, h.len]
  nd := List.nodup_cons.mpr ⟨n, h.nd⟩
  new := fun b hb => by
    rcases List.mem_cons.mp hb with rfl | hb
    · exact h0
    · exact h.new b hb
  at_ := fun k b ds' e1 e2 => by
    cases k with
    | zero =>
      cases e1
      cases e2
      exact ⟨f, vs, g, r⟩
    | succ k => exact h.at_ k b ds' (by simpa using e1) (by simpa using e2)
/-- a new list of new lists -/
def tFF (K : PySem.W.Frag) (f : EAA) : TE := fun σ H Q => ∃ B F ρ dss, ER K B F H σ ρ ∧ f ρ = some dss ∧
  ∀ (a : Addr) (as : List Addr) F' H', Grow F H F' H' → H a = none → F' a = none → H' a = some (.lst (as.map V.ref)) → a ∉ as → Fr K H F' H' as dss → Q (.ref a) H'
def DFF (X : Cx) (e : Expr) (f : EAA) : Prop := PE X e (tFF X.K f)
def tAF (K : PySem.W.Frag) (f : EAA) : TA := fun σ H Q => ∃ B F ρ dss, ER K B F H σ ρ ∧ f ρ = some dss ∧ ∀ as F' H', Grow F H F' H' → Fr K H F' H' as dss → Q (as.map V.ref) H'
structure DAF (X : Cx) (es : List Expr) (f : EAA) : Prop where
  pa : PA X es (tAF X.K f)
  len : ∀ ρ ds, f ρ = some ds → ds.length = es.length
def ffNil : EAA := fun _ => some []
def ffCons (f : EA) (g : EAA) : EAA := fun ρ => (f ρ).bind fun x => (g ρ).bind fun xs => some (x :: xs)
def compLL (g : EG) (c : EB) (e : EA) (ρ : Rho) : List PyData → Option (List (List PyData))
  | [] => some []
  | d :: ds => (g d ρ).bind fun ρ1 => (c ρ1).bind fun b => if b then (e ρ1).bind fun x => (compLL g c e ρ ds).bind fun r => some (x :: r) else compLL g c e ρ ds
def ffComp (it : EA) (g : EG) (c : EB) (e : EA) (vs : List Nat) : EAA := fun ρ => (it ρ).bind fun ds => if ds.length ≤ 16000000 then compLL g c e (wipeR ρ vs) ds else none
section
variable {X : Cx} {tg a b c e elt iter : Expr} {es : List Expr} {f g : EV} {h : EA} {hh : EAA} {cb : EB} {pos : Pos}
theorem daf_nil : DAF X [] ffNil := ⟨paMono pa_nil fun σ H Q ⟨B, F, ρ, ds, E, e, q⟩ => by
  cases e
  exact q [] F H (.refl E.fh) .nil, fun ρ ds e => by cases e; rfl⟩
theorem daf_cons (ha : DF X e h) (hr : DAF X es hh) (hs : starEach (e :: es) X.env = (false, eval e X.env) :: starEach es X.env := by rfl) : DAF X (e :: es) (ffCons h hh) := ⟨paMono (pa_cons ha hr.pa hs) fun σ H Q ⟨B, F, ρ, dss, E, e, q⟩ => by
  obtain ⟨dx, e1, e⟩ := bind_some e
  obtain ⟨dr, e2, e⟩ := bind_some e
  cases e
  refine ⟨B, F, ρ, dx, E, e1, fun l vs F1 H1 G1 n1 n2 g1 r1 => ⟨B, F1, ρ, dr, E.grow G1, e2, fun as F2 H2 G2 fr => ?_⟩⟩
  have hl : l ∉ as := fun z => by
    have := fr.new l z
    rw [g1] at this
    cases this
  exact q (l :: as) F2 H2 (G1.trans G2) (.cons (fr.back G1.hh) hl n1 (G2.nn _ _ g1 n2) (G2.hh _ _ g1) (dpMonoAll G2.ff _ _ r1)), fun ρ ds e => by
  obtain ⟨dx, e1, e⟩ := bind_some e
  obtain ⟨dr, e2, e⟩ := bind_some e
  cases e
  exact congrArg (· + 1) (hr.len ρ dr e2)⟩
theorem dff_lst (ha : DAF X es hh) (hz : es.length ≤ sizeLine := by decide) : DFF X (.List es pos) hh := peMono (pe_lst ha.pa) fun σ H Q ⟨B, F, ρ, dss, E, e1, q⟩ => by
  refine ⟨B, F, ρ, dss, E, e1, fun as F' H' G fr => ⟨by rw [List.length_map, fr.len, ha.len ρ dss e1]; exact hz, fun p np => ?_⟩⟩
  have no : p ∉ as := fun z => by
    obtain ⟨_, vs, w⟩ := fr.mem z
    rw [np] at w
    cases w
  exact q p as F' _ (G.trans (.side G.fh np)) (G.hh.free np) (G.fh.free np) upd_same no (fr.upd no)
theorem compLLlen {g : EG} {c : EB} {e : EA} {ρ : Rho} : ∀ {ds : List PyData} {rs : List (List PyData)}, compLL g c e ρ ds = some rs → rs.length ≤ ds.length
  | [], _, h => by cases h; exact Nat.le_refl _
  | d :: ds, rs, h => by
    obtain ⟨ρ1, _, h⟩ := bind_some h
    obtain ⟨b, _, h⟩ := bind_some h
    split at h
    · obtain ⟨x, _, h⟩ := bind_some h
      obtain ⟨r, h1, h⟩ := bind_some h
      cases h
      exact Nat.succ_le_succ (compLLlen h1)
    · exact Nat.le_succ_of_le (compLLlen h)
theorem tCompF {K : PySem.W.Frag} {it : EA} {g : EG} {is : List Nat} {cb : EB} {ev : EA} {vs : List Nat} (hv : ∀ i ∈ is, i ∈ vs) {σ : L2.St} {H : Hp} {Q : VK} (h : tFF K (ffComp it g cb ev vs) σ H Q) : tLc (tI K it) (tG K is g) (tT K cb) (tF K ev) vs σ H Q := by
  obtain ⟨B, F, ρ, rs, E, e, q⟩ := h
  obtain ⟨ds, e1, e⟩ := bind_some e
  split at e
  case isFalse => cases e
  rename_i hz
  refine ⟨B, F, ρ, ds, E, e1, fun J F1 H1 G1 Y D nD => ⟨fun i m H2 => m = ds.length - i ∧ i ≤ ds.length ∧ ∃ F2 acc as rest, Grow F1 H1 F2 H2 ∧ F2 D = none ∧ H2 D = some (.lst (as.map V.ref)) ∧ D ∉ as ∧ Fr K H1 F2 H2 as acc ∧ compLL g cb ev (wipeR ρ vs) (ds.drop i) = some rest ∧ acc ++ rest = rs ∧ acc.length ≤ i, ⟨ds.length, by simp, Nat.zero_le _, F1, [], [], rs, .side G1.fh nD, G1.fh.free nD, upd_same, (fun z => nomatch z), .nil, e, rfl, Nat.le_refl _⟩, ?_⟩⟩
  rintro i m H2 ⟨rfl, hi, F2, acc, as, rest, G2, n2, h2, no, fr, e2, e3, l2⟩
  by_cases hlt : i < ds.length
  · refine .inr ⟨Y.go i H2 hlt (G2.ff.trans G2.fh), _, fun H' p' => ⟨ds.length - (i + 1), by omega, rfl, hlt, p'⟩, fun x H3 y => ?_⟩
    obtain ⟨d, F3, hd, G3, r3⟩ := Y.yld i H2 x H3 F2 hlt G2.ff G2.fh y
    have ed : ds.drop i = d :: ds.drop (i + 1) := by
      rw [List.drop_eq_getElem_cons hlt]
      rw [List.getElem?_eq_getElem hlt] at hd
      cases hd
      rfl
    rw [ed] at e2
    obtain ⟨ρ1, c1, e2⟩ := bind_some e2
    obtain ⟨b, c2, e2⟩ := bind_some e2
    have GA := G1.trans (G2.trans G3)
    refine ⟨B, F3, wipeR ρ vs, d, ρ1, erWipe (E.grow GA) vs, r3, c1, fun σ2 E2 l k => ⟨wipe_same hv l k, B, F3, ρ1, b, E2, c2, fun F4 H4 G4 => ?_⟩⟩
    cases b with
    | false =>
      rw [if_neg (by simp)] at e2 ⊢
      exact ⟨F4, acc, as, rest, G2.trans (G3.trans G4), G4.nn _ _ (G3.hh _ _ h2) (G3.nn _ _ h2 n2), G4.hh _ _ (G3.hh _ _ h2), no, fr.grow (G3.trans G4), e2, e3, by omega⟩
    | true =>
      rw [if_pos rfl] at e2 ⊢
      obtain ⟨dx, c3, e2⟩ := bind_some e2
      obtain ⟨rr, c4, e2⟩ := bind_some e2
      cases e2
      refine ⟨B, F4, ρ1, dx, E2.grow G4, c3, fun v ws F5 H5 G5 v1 v2 v3 r5 => ?_⟩
      have G34 := G3.trans G4
      have GG := G34.trans G5
      have h4 := G34.hh _ _ h2
      have h5 := G5.hh _ _ h4
      have n5 := GG.nn _ _ h2 n2
      have f4 := fr.grow G34
      have f5 := fr.grow GG
      have vD : v ≠ D := fun z => by rw [z, h4] at v1; cases v1
      have va : v ∉ as := fun z => by
        obtain ⟨_, w, hw⟩ := f4.mem z
        rw [v1] at hw
        cases hw
      have vn : H1 v = none := (G2.hh.trans (fun a o w => G34.hh a o w) |> fun s => Same.free (fun b o w => by
        by_cases hb : b = D
        · exact absurd w (by rw [hb, nD]; nofun)
        · exact s b o (by first | exact w | (rw [upd_ne hb]; exact w))) v1)
      refine ⟨as.map V.ref, h5, by rw [List.length_map, fr.len]; exact Nat.lt_of_le_of_lt (show acc.length ≤ 16000000 by omega) (by decide), F5, acc ++ [dx], as ++ [v], rr, ⟨G2.ff.trans GG.ff, fun b o z => ?_, fun b o z => ?_, fun b o z n => GG.nn b o (G2.hh b o z) (G2.nn b o z n)⟩, n5, by rw [upd_same, List.map_append]; rfl, fun z => ?_, (f5.snoc va vn v2 v3 r5).upd fun z => ?_, c4, by rw [List.append_assoc]; exact e3, by rw [List.length_append, List.length_singleton]; omega⟩
      · rw [upd_ne (fun q => by rw [q, n5] at z; cases z)]
        exact G5.fh b o z
      · rw [upd_ne (ne_of_none z nD)]
        exact GG.hh b o (G2.hh b o z)
      · rcases List.mem_append.mp z with z | z
        · exact no z
        · exact vD (List.mem_singleton.mp z).symm
      · rcases List.mem_append.mp z with z | z
        · exact no z
        · exact vD (List.mem_singleton.mp z).symm
  · have ei : i = ds.length := by omega
    subst ei
    rw [List.drop_length] at e2
    cases e2
    rw [List.append_nil] at e3
    subst e3
    exact .inl ⟨Y.stop H2 (G2.ff.trans G2.fh), q D as F2 H2 (G1.trans G2) (G1.hh.free nD) n2 h2 no (fr.back G1.hh)⟩
theorem dff_comp {scope : Scope} {own : List (Str × Nat)} {ifs : List Expr} {is : List Nat} {gg : EG} {it : EA} {ev : EA} (hc : X.calm = true) (hN : X.N.Nodup) (hi : DI X tg iter it) (ok : BlkOk X.N X.env.scope scope own)
    (hg : ∀ (s : Shared) (H : Hp) (C : Addr) (cl : List (Str × Addr)) (fp : List Addr), DG (X.blk s H scope (compEnvC scope cl C X.env) fp) tg is gg) (ht : ∀ (s : Shared) (H : Hp) (C : Addr) (cl : List (Str × Addr)) (fp : List Addr), DX (X.blk s H scope (compEnvC scope cl C X.env) fp) ifs cb)
    (he : ∀ (s : Shared) (H : Hp) (C : Addr) (cl : List (Str × Addr)) (fp : List Addr), DF (X.blk s H scope (compEnvC scope cl C X.env) fp) elt ev) (hv : ∀ i ∈ is, i ∈ own.map (·.2) := by decide) (hs : ∀ x, foldedSetIterable iter X.env x = pure x := by intro _; rfl) :
    DFF X (.ListComp elt [⟨tg, iter, ifs, 0⟩] scope pos) (ffComp it gg cb ev (own.map (·.2))) := peMono (pe_lc (g := tG X.K is gg) (tt := tT X.K cb) (te := tF X.K ev) hc hN hi ok hg ht he hs) fun _ _ _ q => tCompF hv q
end
end DL

set_option Elab.async false
set_option linter.all false
set_option maxRecDepth 100000
set_option maxHeartbeats 4000000
/-! DLH: lists of own lists in the slots -/
namespace DL
open PySem PySem.Spec PyProof.Rows L2
section
variable {K : PySem.W.Frag} {F H B F0 : Hp}
/-- the slot i, that owned l, holds x from here on; l has new items -/
theorem ER.poke {σ : L2.St} {ρ : Rho} {i : Nat} {k0 : Option Nat} {l : Addr} {ws : List V} {x : SC} (G : Grow F0 B F H) (E : ER K B F H σ ρ) (pl : AtP H σ ρ i k0 l) (h0 : ∀ d, x ≠ .va d)
    (h1 : ∀ ds, x = .ow ds → ∃ (a : Addr) (vs : List V), σ[i]? = some (some (.ref a)) ∧ F a = none ∧ B a = none ∧ upd H l (.lst ws) a = some (.lst vs) ∧ DpAll K F vs ds)
    (h2 : ∀ dss, x = .oo dss → ∃ (a : Addr) (as : List Addr), σ[i]? = some (some (.ref a)) ∧ F a = none ∧ B a = none ∧ upd H l (.lst ws) a = some (.lst (as.map V.ref)) ∧ as.length = dss.length ∧
      ∀ (k : Nat) (b : Addr) (ds : List PyData), as[k]? = some b → dss[k]? = some ds → F b = none ∧ B b = none ∧ ∃ vs, upd H l (.lst ws) b = some (.lst vs) ∧ DpAll K F vs ds)
    (hdj : ∀ k a, AtP (upd H l (.lst ws)) σ (ρ.set i x) i k a → (∃ k', AtP H σ ρ i k' a) ∨ ∀ j k, ¬ AtP H σ ρ j k a)
    (hin : ∀ k k' a, AtP (upd H l (.lst ws)) σ (ρ.set i x) i k a → AtP (upd H l (.lst ws)) σ (ρ.set i x) i k' a → k = k') :
    Grow F0 B F (upd H l (.lst ws)) ∧ ER K B F (upd H l (.lst ws)) σ (ρ.set i x) := by
  obtain ⟨q2, q3, _⟩ := E.at_ pl
  have fh : Same F (upd H l (.lst ws)) := fun b o z => by
    rw [upd_ne (fun y => by rw [y, q2] at z; cases z)]
    exact E.fh b o z
  have ne : ∀ {j k c}, j ≠ i → AtP H σ ρ j k c → c ≠ l := fun hj p z => by
    subst z
    exact hj (E.dj _ _ _ _ _ p pl).1
  have off : ∀ {j k c}, j ≠ i → AtP (upd H l (.lst ws)) σ (ρ.set i x) j k c → AtP H σ ρ j k c := by
    intro j k c hj p
    cases k with
    | none =>
      rcases p with ⟨d, e, e2⟩ | ⟨d, e, e2⟩
      · rw [List.getElem?_set_ne (Ne.symm hj)] at e
        exact .inl ⟨d, e, e2⟩
      · rw [List.getElem?_set_ne (Ne.symm hj)] at e
        exact .inr ⟨d, e, e2⟩
    | some k =>
      obtain ⟨d, b, as, e, e2, e3, e4⟩ := p
      rw [List.getElem?_set_ne (Ne.symm hj)] at e
      rw [upd_ne (ne hj (k := none) (.inr ⟨d, e, e2⟩))] at e3
      exact ⟨d, b, as, e, e2, e3, e4⟩
  refine ⟨⟨G.ff, fh, fun b o z => ?_, G.nn⟩, fh, by rw [List.length_set]; exact E.len, fun j d z => ?_, fun j d z => ?_, fun j d z => ?_, fun i' j k l' c p q => ?_⟩
  · rw [upd_ne (fun y => by rw [y, q3] at z; cases z)]
    exact G.hh b o z
  · by_cases hj : i = j
    · subst hj
      exact absurd (setIn z).symm (h0 d)
    · rw [List.getElem?_set_ne hj] at z
      exact E.va j d z
  · by_cases hj : i = j
    · subst hj
      exact h1 d (setIn z).symm
    · rw [List.getElem?_set_ne hj] at z
      obtain ⟨a, vs, p1, p2, p3, p4, p5⟩ := E.ow j d z
      exact ⟨a, vs, p1, p2, p3, by rw [upd_ne (ne (Ne.symm hj) (k := none) (.inl ⟨d, z, p1⟩))]; exact p4, p5⟩
  · by_cases hj : i = j
    · subst hj
      exact h2 d (setIn z).symm
    · rw [List.getElem?_set_ne hj] at z
      obtain ⟨a, as, p1, p2, p3, p4, p5, p6⟩ := E.oo j d z
      refine ⟨a, as, p1, p2, p3, by rw [upd_ne (ne (Ne.symm hj) (k := none) (.inr ⟨d, z, p1⟩))]; exact p4, p5, fun k b ds' e1 e2 => ?_⟩
      obtain ⟨r1, r2, vs, r3, r4⟩ := p6 k b ds' e1 e2
      exact ⟨r1, r2, vs, by rw [upd_ne (ne (Ne.symm hj) (k := some k) ⟨d, a, as, z, p1, p4, e1⟩)]; exact r3, r4⟩
  · by_cases hi : i' = i
    · by_cases hj : j = i
      · subst hi hj
        exact ⟨rfl, hin k l' c p q⟩
      · subst hi
        exfalso
        rcases hdj k c p with ⟨k', w⟩ | w
        · exact hj (E.dj _ _ _ _ _ (off hj q) w).1
        · exact w _ _ (off hj q)
    · by_cases hj : j = i
      · subst hj
        exfalso
        rcases hdj l' c q with ⟨k', w⟩ | w
        · exact hi (E.dj _ _ _ _ _ (off hi p) w).1
        · exact w _ _ (off hi p)
      · exact E.dj i' j k l' c (off hi p) (off hj q)
theorem atOO {H : Hp} {σ : L2.St} {ρ : Rho} {i : Nat} {dss : List (List PyData)} {a : Addr} {as : List Addr} (hρ : ρ[i]? = some (.oo dss)) (hl : σ[i]? = some (some (.ref a))) (hh : H a = some (.lst (as.map V.ref))) {k : Option Nat} {c : Addr} (p : AtP H σ ρ i k c) : (k = none ∧ c = a) ∨ ∃ n, k = some n ∧ as[n]? = some c := by
  cases k with
  | none =>
    rcases p with ⟨_, e, _⟩ | ⟨_, _, e⟩
    · rw [hρ] at e
      cases e
    · rw [hl] at e
      cases e
      exact .inl ⟨rfl, rfl⟩
  | some n =>
    obtain ⟨_, b, bs, _, e2, e3, e4⟩ := p
    rw [hl] at e2
    cases e2
    rw [hh] at e3
    injection e3 with e3
    injection e3 with e3
    rw [← refs_inj e3] at e4
    exact .inr ⟨n, rfl, e4⟩
theorem setLt {ρ : Rho} {i : Nat} {x : SC} (h : ρ[i]? = some x) : i < ρ.length := by
  by_cases hl : i < ρ.length
  · exact hl
  · rw [List.getElem?_eq_none (by omega)] at h
    cases h
/-- an inner list is changed -/
theorem ooUpd {σ : L2.St} {ρ : Rho} {i k : Nat} {dss : List (List PyData)} {es : List PyData} {a b : Addr} {as : List Addr} {ws : List V} (G : Grow F0 B F H) (E : ER K B F H σ ρ) (hρ : ρ[i]? = some (.oo dss)) (hl : σ[i]? = some (some (.ref a))) (ha : H a = some (.lst (as.map V.ref))) (hk : as[k]? = some b) (r : DpAll K F ws es) :
    Grow F0 B F (upd H b (.lst ws)) ∧ ER K B F (upd H b (.lst ws)) σ (ρ.set i (.oo (dss.set k es))) := by
  have pl : AtP H σ ρ i (some k) b := ⟨dss, a, as, hρ, hl, ha, hk⟩
  have pa : AtP H σ ρ i none a := .inr ⟨dss, hρ, hl⟩
  have ab : a ≠ b := fun z => by
    subst z
    cases (E.dj _ _ _ _ _ pa pl).2
  have ha' : upd H b (.lst ws) a = some (.lst (as.map V.ref)) := by rw [upd_ne ab]; exact ha
  have hρ' : (ρ.set i (.oo (dss.set k es)))[i]? = some (.oo (dss.set k es)) := List.getElem?_set_self (setLt hρ)
  have back : ∀ {k' c}, AtP (upd H b (.lst ws)) σ (ρ.set i (.oo (dss.set k es))) i k' c → AtP H σ ρ i k' c := by
    intro k' c p
    rcases atOO hρ' hl ha' p with ⟨rfl, rfl⟩ | ⟨n, rfl, e⟩
    · exact pa
    · exact ⟨dss, a, as, hρ, hl, ha, e⟩
  obtain ⟨b', bs, q1, q2, q3, q4, q5, q6⟩ := E.oo i dss hρ
  rw [hl] at q1
  cases q1
  rw [ha] at q4
  injection q4 with q4
  injection q4 with q4
  have := refs_inj q4
  subst this
  refine ER.poke G E pl (fun _ => nofun) (fun _ => nofun) (fun dss' e => ?_) (fun k' c p => .inl ⟨k', back p⟩) (fun k1 k2 c p q => (E.dj _ _ _ _ _ (back p) (back q)).2)
  cases e
  refine ⟨a, as, hl, q2, q3, ha', by rw [List.length_set]; exact q5, fun n c ds e1 e2 => ?_⟩
  by_cases hn : k = n
  · subst hn
    rw [hk] at e1
    cases e1
    have lk : k < dss.length := by
      by_cases z : k < dss.length
      · exact z
      · rw [List.getElem?_eq_none (by rw [List.length_set]; omega)] at e2
        cases e2
    rw [List.getElem?_set_self lk] at e2
    cases e2
    obtain ⟨r1, r2, _⟩ := E.at_ pl
    exact ⟨r1, r2, ws, upd_same, r⟩
  · rw [List.getElem?_set_ne hn] at e2
    obtain ⟨r1, r2, vs, r3, r4⟩ := q6 n c ds e1 e2
    refine ⟨r1, r2, vs, ?_, r4⟩
    rw [upd_ne (fun z => ?_)]
    · exact r3
    · subst z
      have := (E.dj _ _ _ _ _ pl (show AtP H σ ρ i (some n) c from ⟨dss, a, as, hρ, hl, ha, e1⟩)).2
      exact hn (by injection this)
/-- an inner list gives way to a new one -/
theorem ooPut {σ : L2.St} {ρ : Rho} {i k : Nat} {dss : List (List PyData)} {es : List PyData} {a b : Addr} {as : List Addr} {ws : List V} (G : Grow F0 B F H) (E : ER K B F H σ ρ) (hρ : ρ[i]? = some (.oo dss)) (hl : σ[i]? = some (some (.ref a))) (ha : H a = some (.lst (as.map V.ref))) (hb : H b = some (.lst ws)) (fb : F b = none) (bb : B b = none)
    (no : ∀ j k, ¬ AtP H σ ρ j k b) (r : DpAll K F ws es) :
    Grow F0 B F (upd H a (.lst ((as.set k b).map V.ref))) ∧ ER K B F (upd H a (.lst ((as.set k b).map V.ref))) σ (ρ.set i (.oo (dss.set k es))) := by
  have pa : AtP H σ ρ i none a := .inr ⟨dss, hρ, hl⟩
  have ha' : upd H a (.lst ((as.set k b).map V.ref)) a = some (.lst ((as.set k b).map V.ref)) := upd_same
  have hρ' : (ρ.set i (.oo (dss.set k es)))[i]? = some (.oo (dss.set k es)) := List.getElem?_set_self (setLt hρ)
  have ba : b ≠ a := fun z => no i none (z ▸ pa)
  have old : ∀ {n c}, as[n]? = some c → AtP H σ ρ i (some n) c := fun e => ⟨dss, a, as, hρ, hl, ha, e⟩
  have split : ∀ {n c}, (as.set k b)[n]? = some c → (n = k ∧ c = b) ∨ (n ≠ k ∧ as[n]? = some c) := by
    intro n c e
    by_cases hn : k = n
    · subst hn
      by_cases lk : k < as.length
      · rw [List.getElem?_set_self lk] at e
        cases e
        exact .inl ⟨rfl, rfl⟩
      · rw [List.getElem?_eq_none (by rw [List.length_set]; omega)] at e
        cases e
    · rw [List.getElem?_set_ne hn] at e
      exact .inr ⟨Ne.symm hn, e⟩
  obtain ⟨b', bs, q1, q2, q3, q4, q5, q6⟩ := E.oo i dss hρ
  rw [hl] at q1
  cases q1
  rw [ha] at q4
  injection q4 with q4
  injection q4 with q4
  have := refs_inj q4
  subst this
  refine ER.poke G E pa (fun _ => nofun) (fun _ => nofun) (fun dss' e => ?_) (fun k' c p => ?_) (fun k1 k2 c p q => ?_)
  · cases e
    refine ⟨a, as.set k b, hl, q2, q3, ha', by rw [List.length_set, List.length_set]; exact q5, fun n c ds e1 e2 => ?_⟩
    rcases split e1 with ⟨rfl, rfl⟩ | ⟨hn, e1⟩
    · have lk : n < dss.length := by
        by_cases z : n < dss.length
        · exact z
        · rw [List.getElem?_eq_none (by rw [List.length_set]; omega)] at e2
          cases e2
      rw [List.getElem?_set_self lk] at e2
      cases e2
      exact ⟨fb, bb, ws, by rw [upd_ne ba]; exact hb, r⟩
    · rw [List.getElem?_set_ne (Ne.symm hn)] at e2
      obtain ⟨r1, r2, vs, r3, r4⟩ := q6 n c ds e1 e2
      refine ⟨r1, r2, vs, ?_, r4⟩
      rw [upd_ne (fun z => ?_)]
      · exact r3
      · subst z
        cases (E.dj _ _ _ _ _ pa (old e1)).2
  · rcases atOO hρ' hl ha' p with ⟨rfl, rfl⟩ | ⟨n, rfl, e⟩
    · exact .inl ⟨none, pa⟩
    · rcases split e with ⟨rfl, rfl⟩ | ⟨hn, e1⟩
      · exact .inr no
      · exact .inl ⟨_, old e1⟩
  · rcases atOO hρ' hl ha' p with ⟨rfl, rfl⟩ | ⟨n, rfl, e⟩
    · rcases atOO hρ' hl ha' q with ⟨rfl, _⟩ | ⟨m, rfl, e'⟩
      · rfl
      · rcases split e' with ⟨rfl, z⟩ | ⟨hn, e1⟩
        · exact absurd z.symm ba
        · cases (E.dj _ _ _ _ _ pa (old e1)).2
    · rcases atOO hρ' hl ha' q with ⟨rfl, rfl⟩ | ⟨m, rfl, e'⟩
      · rcases split e with ⟨rfl, z⟩ | ⟨hn, e1⟩
        · exact absurd z.symm ba
        · cases (E.dj _ _ _ _ _ pa (old e1)).2
      · rcases split e with ⟨rfl, rfl⟩ | ⟨hn, e1⟩
        · rcases split e' with ⟨rfl, _⟩ | ⟨hm, e2⟩
          · rfl
          · exact absurd (old e2) (no _ _)
        · rcases split e' with ⟨rfl, rfl⟩ | ⟨hm, e2⟩
          · exact absurd (old e1) (no _ _)
          · exact (E.dj _ _ _ _ _ (old e1) (old e2)).2
/-- a slot gets a list of lists of its own -/
theorem ER.setOo {σ : L2.St} {ρ : Rho} {i : Nat} {a : Addr} {as : List Addr} {dss : List (List PyData)} (E : ER K B F H σ ρ) (f : F a = none) (b : B a = none) (h : H a = some (.lst (as.map V.ref))) (len : as.length = dss.length) (nd : as.Nodup) (na : a ∉ as)
    (r : ∀ (k : Nat) (b : Addr) (ds : List PyData), as[k]? = some b → dss[k]? = some ds → F b = none ∧ B b = none ∧ ∃ vs, H b = some (.lst vs) ∧ DpAll K F vs ds)
    (no : ∀ c ∈ a :: as, ∀ (j : Nat) (k : Option Nat), ¬ AtP H σ ρ j k c) : ER K B F H (σ.set i (some (.ref a))) (ρ.set i (.oo dss)) where
  fh := E.fh
  len := by rw [List.length_set, List.length_set]; exact E.len
  va := fun j e h => by
    by_cases hj : i = j
    · subst hj
      cases setIn h
    · rw [List.getElem?_set_ne hj] at h ⊢
      exact E.va j e h
  ow := fun j e h => by
    by_cases hj : i = j
    · subst hj
      cases setIn h
    · rw [List.getElem?_set_ne hj] at h ⊢
      exact E.ow j e h
  oo := fun j e q => by
    by_cases hj : i = j
    · subst hj
      have := setIn q
      cases this
      have hl : i < ρ.length := by
        by_cases hl : i < ρ.length
        · exact hl
        · rw [List.getElem?_eq_none (by simpa using hl)] at q
          cases q
      rw [List.getElem?_set_self (by rw [E.len]; exact hl)]
      exact ⟨a, as, rfl, f, b, h, len, r⟩
    · rw [List.getElem?_set_ne hj] at q ⊢
      exact E.oo j e q
  dj := fun i' j k l c p q => by
    have at_i : ∀ {k c}, AtP H (σ.set i (some (.ref a))) (ρ.set i (.oo dss)) i k c → (k = none ∧ c = a) ∨ ∃ n, k = some n ∧ as[n]? = some c := by
      intro k c p
      by_cases hl : i < ρ.length
      · exact atOO (List.getElem?_set_self hl) (List.getElem?_set_self (by rw [E.len]; exact hl)) h p
      · cases k with
        | none =>
          rcases p with ⟨_, e, _⟩ | ⟨_, e, _⟩
          · rw [List.getElem?_eq_none (by simpa using hl)] at e
            cases e
          · rw [List.getElem?_eq_none (by simpa using hl)] at e
            cases e
        | some n =>
          obtain ⟨_, _, _, e, _⟩ := p
          rw [List.getElem?_eq_none (by simpa using hl)] at e
          cases e
    have mem : ∀ {k c}, AtP H (σ.set i (some (.ref a))) (ρ.set i (.oo dss)) i k c → c ∈ a :: as := by
      intro k c p
      rcases at_i p with ⟨_, rfl⟩ | ⟨n, _, e⟩
      · exact List.mem_cons_self ..
      · exact List.mem_cons_of_mem _ (List.mem_of_getElem? e)
    by_cases hi : i' = i
    · by_cases hj : j = i
      · subst hi hj
        refine ⟨rfl, ?_⟩
        rcases at_i p with ⟨rfl, rfl⟩ | ⟨n, rfl, e⟩
        · rcases at_i q with ⟨rfl, _⟩ | ⟨m, rfl, e'⟩
          · rfl
          · exact absurd (List.mem_of_getElem? e') na
        · rcases at_i q with ⟨rfl, rfl⟩ | ⟨m, rfl, e'⟩
          · exact absurd (List.mem_of_getElem? e) na
          · rw [(List.getElem?_inj (by
              by_cases z : n < as.length
              · exact z
              · rw [List.getElem?_eq_none (by omega)] at e
                cases e) nd).mp (e.trans e'.symm)]
      · subst hi
        exact absurd (q.ne hj) (no c (mem p) j l)
    · by_cases hj : j = i
      · subst hj
        exact absurd (p.ne hi) (no c (mem q) i' k)
      · exact E.dj i' j k l c (p.ne hi) (q.ne hj)
end
/-! ### statements -/
def sOwnO (i : Nat) (f : EAA) : ES := fun ρ => (f ρ).bind fun dss => some (.nx (ρ.set i (.oo dss)))
/-- x[a][b] = e -/
def sPut2 (i : Nat) (a b f : EV) : ES := fun ρ => match ρ[i]? with
  | some (SC.oo dss) => (f ρ).bind fun d => (a ρ).bind fun x => (b ρ).bind fun y => match x, y with
    | .int k, .int m => (ixN dss.length k).bind fun n => (dss[n]?).bind fun ds => (ixN ds.length m).bind fun p => some (.nx (ρ.set i (.oo (dss.set n (ds.set p d)))))
    | _, _ => none
  | _ => none
/-- x[a] = a new list -/
def sPutF (i : Nat) (a : EV) (h : EA) : ES := fun ρ => match ρ[i]? with
  | some (SC.oo dss) => (h ρ).bind fun es => (a ρ).bind fun x => match x with
    | .int k => (ixN dss.length k).bind fun n => some (.nx (ρ.set i (.oo (dss.set n es))))
    | _ => none
  | _ => none
def eIxOO (i : Nat) (f g : EV) : EV := fun ρ => match ρ[i]? with
  | some (SC.oo dss) => (f ρ).bind fun x => (g ρ).bind fun y => match x with
    | .int k => (atI dss k).bind fun ds => gIx (.list ds) y
    | _ => none
  | _ => none
section
variable {X : Cx} {tg a b c e elt iter : Expr} {es : List Expr} {st : Stmt} {f g fa fb : EV} {h : EA} {hh : EAA} {cb : EB} {pos : Pos}
theorem setOfFF {i : Nat} {te : TE} (h1 : PS X st (tAsg te (gName i))) (k : ∀ σ H Q, tFF X.K hh σ H Q → te σ H Q) : DS X st (sOwnO i hh) := fun W tk => psMono h1 fun D σ H ⟨F0, B, F, ρ, r, G, E, e, p⟩ => by
  obtain ⟨dss, e1, e⟩ := bind_some e
  cases e
  refine k _ _ _ ⟨B, F, ρ, dss, E, e1, fun l as F' H' G' n1 n2 h3 na fr => p _ F' H' (G.trans G') ((E.grow G').setOo n2 (G.hh.free n1) h3 fr.len fr.nd na (fun k b ds e1 e2 => ?_) fun c hc j k q => ?_) G'.ff⟩
  · obtain ⟨q1, q2⟩ := fr.at_ k b ds e1 e2
    exact ⟨q1, G.hh.free (fr.new b (List.mem_of_getElem? e1)), q2⟩
  · have nc : H c = none := by
      rcases List.mem_cons.mp hc with rfl | hc
      · exact n1
      · exact fr.new c hc
    obtain ⟨_, _, ws, q4⟩ := E.at_ (q.back E fun a o _ h => G'.hh a o h)
    rw [nc] at q4
    cases q4
theorem ds_ownO {i : Nat} {x : Str} {pos' : Pos} (hN : X.N.Nodup) (hi : X.N[i]? = some x) (hx : Loc X.env.scope x) (he : DFF X e hh) (hs : swapsWith e (some (.Name x pos')) pos.line X.env = pure false := by rfl) (hf : X.fn x = true ∨ X.env.scope.names.lookup x = some .local := by first | exact .inl rfl | exact .inr rfl | assumption) :
    DS X (.Assign [.Name x pos'] e pos) (sOwnO i hh) := setOfFF (ps_set hN hi hx he hs hf) fun _ _ _ q => q
theorem ds_lcO {i : Nat} {y : Str} {py : Pos} {spos : Pos} {scope : Scope} {own : List (Str × Nat)} {ifs : List Expr} {is : List Nat} {gg : EG} {it : EA} {ev : EA} (hc : X.calm = true) (hN : X.N.Nodup) (hy : X.N[i]? = some y) (hyl : X.env.scope.names.lookup y = some .local)
    (hsw : swapsWith (.ListComp elt [⟨tg, iter, ifs, 0⟩] scope pos) (some (.Name y py)) spos.line X.env = pure true) (hi : DI X tg iter it) (ok : BlkOk X.N X.env.scope scope own)
    (hg : ∀ (s : Shared) (H : Hp) (C : Addr) (cl : List (Str × Addr)) (fp : List Addr), DG (X.blk s H scope (compEnvC scope cl C X.env) fp) tg is gg) (ht : ∀ (s : Shared) (H : Hp) (C : Addr) (cl : List (Str × Addr)) (fp : List Addr), DX (X.blk s H scope (compEnvC scope cl C X.env) fp) ifs cb)
    (he : ∀ (s : Shared) (H : Hp) (C : Addr) (cl : List (Str × Addr)) (fp : List Addr), DF (X.blk s H scope (compEnvC scope cl C X.env) fp) elt ev) (hv : ∀ i ∈ is, i ∈ own.map (·.2) := by decide) (hs : ∀ x, foldedSetIterable iter X.env x = pure x := by intro _; rfl) :
    DS X (.Assign [.Name y py] (.ListComp elt [⟨tg, iter, ifs, 0⟩] scope pos) spos) (sOwnO i (ffComp it gg cb ev (own.map (·.2)))) :=
  setOfFF (ps_setLc (g := tG X.K is gg) (tt := tT X.K cb) (te := tF X.K ev) hc hN hy hyl hsw hi ok hg ht he hs) fun _ _ _ q => tCompF hv q
theorem ds_put2 {i : Nat} {x : Str} {px p2 tpos : Pos} (ha : DV X a fa) (hb : DV X b fb) (he : DV X e f)
    (hgs : PG X (.Subscript (.Subscript (.Name x px) a p2) b tpos) (L2.gSub (tOp (rIxL X.K) (tVar i) (tD X.K fa)) (tD X.K fb) rSetL))
    (hs : swapsWithSole [.Subscript (.Subscript (.Name x px) a p2) b tpos] e pos.line X.env = pure false := by rfl) (hw : swappedStores [.Subscript (.Subscript (.Name x px) a p2) b tpos] e X.env = pure none := by rfl)
    (h1 : (assignEach [.Subscript (.Subscript (.Name x px) a p2) b tpos] X.env).map (·.2) = [assign (.Subscript (.Subscript (.Name x px) a p2) b tpos) X.env] := by rfl) : DS X (.Assign [.Subscript (.Subscript (.Name x px) a p2) b tpos] e pos) (sPut2 i fa fb f) :=
  fun W tk => psMono (ps_asg he hgs hs hw h1) fun D σ H ⟨F0, B, F, ρ, r, G, E, e, p⟩ => by
    unfold sPut2 at e
    split at e
    · rename_i dss hρ
      obtain ⟨d, e1, e⟩ := bind_some e
      obtain ⟨x, e2, e⟩ := bind_some e
      obtain ⟨y, e3, e⟩ := bind_some e
      cases x with
      | int k =>
       cases y with
       | int m =>
        obtain ⟨n, e4, e⟩ := bind_some e
        obtain ⟨ds, e5, e⟩ := bind_some e
        obtain ⟨q, e6, e⟩ := bind_some e
        cases e
        obtain ⟨l, as, q1, q2, q3, q4, q5, q6⟩ := E.oo i dss hρ
        have hn : n < as.length := by
          rw [q5]
          by_cases z : n < dss.length
          · exact z
          · rw [List.getElem?_eq_none (by omega)] at e5
            cases e5
        have hk : as[n]? = some as[n] := List.getElem?_eq_getElem hn
        obtain ⟨r1, r2, vs, r3, r4⟩ := q6 n _ ds hk e5
        refine ⟨B, F, ρ, d, E, e1, fun v F1 H1 G1 rv => ⟨.ref l, q1, B, F1, ρ, .int k, E.grow G1, e2, fun xv F2 H2 G2 rx => ?_⟩⟩
        cases rx
        refine ⟨l, as.map V.ref, k, .ref as[n], rfl, rfl, .inl (.inl ((G1.trans G2).hh _ _ q4)), ?_, B, F2, ρ, .int m, E.grow (G1.trans G2), e3, fun yv F3 H3 G3 ry => ?_⟩
        · unfold atI
          rw [List.length_map, q5, e4]
          show (as.map V.ref)[n]? = _
          rw [List.getElem?_map, hk]
          rfl
        · cases ry
          have GG := G1.trans (G2.trans G3)
          refine ⟨as[n], vs, m, q, rfl, rfl, GG.hh _ _ r3, by rw [dpLen r4]; exact e6, ?_⟩
          obtain ⟨G4, E4⟩ := ooUpd (k := n) (G.trans GG) (E.grow GG) hρ q1 (GG.hh _ _ q4) hk (dpSet q (dpMonoAll GG.ff _ _ r4) (dpMono (G2.ff.trans G3.ff) _ _ rv))
          exact p σ F3 _ G4 E4 GG.ff
       | _ => cases e
      | _ => cases e
    · cases e
theorem ds_putF {i : Nat} {x : Str} {px tpos : Pos} (hb : DV X b g) (he : DF X e h) (hs : swapsWithSole [.Subscript (.Name x px) b tpos] e pos.line X.env = pure false := by rfl) (hw : swappedStores [.Subscript (.Name x px) b tpos] e X.env = pure none := by rfl)
    (h1 : (assignEach [.Subscript (.Name x px) b tpos] X.env).map (·.2) = [assign (.Subscript (.Name x px) b tpos) X.env] := by rfl)
    (hgs : PG X (.Subscript (.Name x px) b tpos) (L2.gSub (tVar i) (tD X.K g) rSetL)) : DS X (.Assign [.Subscript (.Name x px) b tpos] e pos) (sPutF i g h) :=
  fun W tk => psMono (ps_asg he hgs hs hw h1) fun D σ H ⟨F0, B, F, ρ, r, G, E, e, p⟩ => by
    unfold sPutF at e
    split at e
    · rename_i dss hρ
      obtain ⟨es, e1, e⟩ := bind_some e
      obtain ⟨dx, e2, e⟩ := bind_some e
      obtain ⟨l, as, q1, q2, q3, q4, q5, q6⟩ := E.oo i dss hρ
      refine ⟨B, F, ρ, es, E, e1, fun v ws F1 H1 G1 n1 n2 g1 r1 => ⟨.ref l, q1, B, F1, ρ, dx, E.grow G1, e2, fun y F2 H2 G2 r2 => ?_⟩⟩
      cases dx with
      | int k =>
        cases r2
        obtain ⟨n, e3, e⟩ := bind_some e
        cases e
        have GG := G1.trans G2
        have E2 := E.grow GG
        refine ⟨l, as.map V.ref, k, n, rfl, rfl, GG.hh _ _ q4, by rw [List.length_map, q5]; exact e3, ?_⟩
        have em : (as.map V.ref).set n (.ref v) = (as.set n v).map V.ref := by rw [List.map_set]
        obtain ⟨G3, E3⟩ := ooPut (k := n) (G.trans GG) E2 hρ q1 (GG.hh _ _ q4) (G2.hh _ _ g1) (G2.nn _ _ g1 n2) (G.hh.free n1) (fun j k' at' => by
          obtain ⟨_, _, ws', q⟩ := E.at_ (at'.back E fun a o _ h => GG.hh a o h)
          rw [n1] at q
          cases q) (dpMonoAll G2.ff _ _ r1)
        rw [em]
        exact p σ F2 _ G3 E3 GG.ff
      | _ => cases e
    · cases e
theorem dv_ixOO {i : Nat} {x : Str} {px p2 : Pos} (hx : PE X (.Name x px) (tVar i)) (ha : DV X a fa) (hb : DV X b fb) (hs1 : PlainIx a := by exact fun _ _ => rfl) (hs2 : PlainIx b := by exact fun _ _ => rfl) : DV X (.Subscript (.Subscript (.Name x px) a p2) b pos) (eIxOO i fa fb) :=
  peMono (pe_ix ix_list (pe_ix ix_list hx ha hs1) hb hs2) fun σ H Q ⟨B, F, ρ, d, E, e, q⟩ => by
    unfold eIxOO at e
    split at e
    · rename_i dss hρ
      obtain ⟨x, e2, e⟩ := bind_some e
      obtain ⟨y, e3, e⟩ := bind_some e
      cases x with
      | int k =>
        obtain ⟨ds, e4, e⟩ := bind_some e
        obtain ⟨n, e5, e6⟩ := bind_some e4
        cases y with
        | int m =>
        obtain ⟨j, e7, e8⟩ := bind_some (show atI ds m = some d from e)
        obtain ⟨l, as, q1, q2, q3, q4, q5, q6⟩ := E.oo i dss hρ
        have hn : n < as.length := by
          rw [q5]
          by_cases z : n < dss.length
          · exact z
          · rw [List.getElem?_eq_none (by omega)] at e6
            cases e6
        have hk : as[n]? = some as[n] := List.getElem?_eq_getElem hn
        obtain ⟨r1, r2, vs, r3, r4⟩ := q6 n _ ds hk e6
        refine ⟨.ref l, q1, B, F, ρ, .int k, E, e2, fun xv F2 H2 G2 rx => ?_⟩
        cases rx
        refine ⟨l, as.map V.ref, k, .ref as[n], rfl, rfl, .inl (.inl (G2.hh _ _ q4)), ?_, B, F2, ρ, .int m, E.grow G2, e3, fun yv F3 H3 G3 ry => ?_⟩
        · unfold atI
          rw [List.length_map, q5, e5]
          show (as.map V.ref)[n]? = _
          rw [List.getElem?_map, hk]
          rfl
        · cases ry
          have GG := G2.trans G3
          obtain ⟨v, w1, w2⟩ := dpGet r4 e8
          exact ⟨as[n], vs, m, v, rfl, rfl, .inl (.inl (GG.hh _ _ r3)), by unfold atI; rw [dpLen r4, e7]; exact w1, q v F3 H3 GG (dpMono GG.ff _ _ w2)⟩
        | _ => cases e
      | _ => cases e
    · cases e
end
end DL

set_option Elab.async false
set_option linter.all false
set_option maxRecDepth 100000
set_option maxHeartbeats 4000000
/-! DLI: an inner list under a name, for one store; own lists lent to a test, to a new list of flat items -/
namespace DL
open PySem PySem.Spec PyProof.Rows L2
/-- y = x[a]; y[b] = e -/
def sAli (i m : Nat) (fa fb f : EV) : ES := fun ρ => match ρ[i]? with
  | some (SC.oo dss) => (fa ρ).bind fun x => match x with
    | .int k => (ixN dss.length k).bind fun n => (dss[n]?).bind fun ds =>
      (f ((ρ.set i (.va (.list (dss.map PyData.list)))).set m (.va (.list ds)))).bind fun d => if flat d = true ∧ m < ρ.length then
        (fb ((ρ.set i (.va (.list (dss.map PyData.list)))).set m (.va (.list ds)))).bind fun y => match y with
          | .int k2 => (ixN ds.length k2).bind fun p => some (.nx ((ρ.set m .un).set i (.oo (dss.set n (ds.set p d)))))
          | _ => none
      else none
    | _ => none
  | _ => none
def bLend (S : List Nat) (f : EB) : EB := fun ρ => f (frz S ρ)
section
variable {X : Cx} {a b c e : Expr} {st1 st2 : Stmt} {sts : List Stmt} {f fa fb : EV} {cb : EB} {u : ES} {pos : Pos}
theorem dt_lend {S : List Nat} (h : DT X e cb) : DT X e (bLend S cb) := ptMono h fun σ H Q ⟨B, F, ρ, d, E, e, q⟩ => by
  obtain ⟨F1, s1, E1, _⟩ := E.frz S
  exact ⟨B, F1, DL.frz S ρ, d, E1, e, fun F2 H2 G => q F H2 ⟨.refl F, s1.trans (G.ff.trans G.fh), G.hh, fun _ _ _ n => n⟩⟩
theorem dss_ali {i m : Nat} (h1 : PS X st1 (tAsg (tOp (rIxL X.K) (tVar i) (tD X.K fa)) (gName m))) (h2 : PS X st2 (tAsg (tD X.K f) (L2.gSub (tVar m) (tD X.K fb) rSetL))) (him : m ≠ i) (hr : DSs X sts u) : DSs X (st1 :: st2 :: sts) (sSeq (sAli i m fa fb f) u) :=
  fun W tk => pssMono (pss_cons h1 (pss_cons h2 (hr W tk))) fun D σ H ⟨F0, B, F, ρ, r, G, E, e, p⟩ => by
    obtain ⟨r1, ee, e'⟩ := bind_some e
    unfold sAli at ee
    split at ee
    · rename_i dss hρ
      obtain ⟨x, e2, ee⟩ := bind_some ee
      cases x with
      | int k =>
        obtain ⟨n, e3, ee⟩ := bind_some ee
        obtain ⟨ds, e4, ee⟩ := bind_some ee
        obtain ⟨d, e5, ee⟩ := bind_some ee
        split at ee
        case isFalse => cases ee
        rename_i hfl
        obtain ⟨hf, hml⟩ := hfl
        obtain ⟨y, e6, ee⟩ := bind_some ee
        cases y with
        | int k2 =>
          obtain ⟨q, e7, ee⟩ := bind_some ee
          cases ee
          obtain ⟨l, as, q1, q2, q3, q4, q5, q6⟩ := E.oo i dss hρ
          have hn : n < as.length := by
            rw [q5]
            by_cases z : n < dss.length
            · exact z
            · rw [List.getElem?_eq_none (by omega)] at e4
              cases e4
          have hk : as[n]? = some as[n] := List.getElem?_eq_getElem hn
          obtain ⟨r1, r2, vs, r3, r4⟩ := q6 n _ ds hk e4
          refine ⟨.ref l, q1, B, F, ρ, .int k, E, e2, fun xv F1 H1 G1 rx => ?_⟩
          cases rx
          refine ⟨l, as.map V.ref, k, .ref as[n], rfl, rfl, .inl (.inl (G1.hh _ _ q4)), ?_, ?_⟩
          · unfold atI
            rw [List.length_map, q5, e3]
            show (as.map V.ref)[n]? = _
            rw [List.getElem?_map, hk]
            rfl
          have E1 := E.grow G1
          have l1 := G1.hh _ _ q4
          have inner : ∀ x ∈ as, ∃ k : Nat, as[k]? = some x := fun x hx => by
            obtain ⟨k, hk, rfl⟩ := List.getElem_of_mem hx
            exact ⟨k, List.getElem?_eq_getElem hk⟩
          have hS : ∀ x ∈ l :: as, ∃ k, AtP H1 σ ρ i k x := fun x hx => by
            rcases List.mem_cons.mp hx with rfl | hx
            · exact ⟨none, .inr ⟨dss, hρ, q1⟩⟩
            · obtain ⟨k, hk⟩ := inner x hx
              exact ⟨some k, dss, l, as, hρ, q1, l1, hk⟩
          have sf : Same F1 (ext F1 H1 (l :: as)) := ext_same fun x hx => by
            obtain ⟨k, p⟩ := hS x hx
            exact (E1.at_ p).1
          have inn : ∀ (k : Nat) (b : Addr) (ds : List PyData), as[k]? = some b → dss[k]? = some ds → ∃ vs, ext F1 H1 (l :: as) b = some (.lst vs) ∧ DpAll X.K (ext F1 H1 (l :: as)) vs ds := fun k b ds e1 e2 => by
            obtain ⟨r1, r2, vs, r3, r4⟩ := q6 k b ds e1 e2
            exact ⟨vs, by rw [ext_in (List.mem_cons_of_mem _ (List.mem_of_getElem? e1))]; exact G1.hh _ _ r3, dpMonoAll (G1.ff.trans sf) _ _ r4⟩
          obtain ⟨s1, E2, _⟩ := E1.give (d := .list (dss.map PyData.list)) q1 hS (.lst (.inl (.inl (by rw [ext_in (by simp)]; exact l1))) (dpRefs q5 inn))
          obtain ⟨vs', w1, w2⟩ := inn n _ ds hk e4
          have E3 : ER X.K B (ext F1 H1 (l :: as)) H1 (σ.set m (some (.ref as[n]))) ((ρ.set i (.va (.list (dss.map PyData.list)))).set m (.va (.list ds))) := E2.setVa (.lst (.inl (.inl w1)) w2)
          show tD X.K f (σ.set m (some (.ref as[n]))) H1 _
          have hm : (σ.set m (some (V.ref as[n])))[m]? = some (some (.ref as[n])) := List.getElem?_set_self (by rw [E.len]; exact hml)
          refine ⟨B, _, _, d, E3, e5, fun v F2 H2 G2 rv => ⟨.ref as[n], hm, B, F2, _, .int k2, E3.grow G2, e6, fun yv F3 H3 G3 ry => ?_⟩⟩
          cases ry
          have G23 := G2.trans G3
          have GB : Grow F1 H1 F1 H3 := ⟨.refl F1, s1.trans (G23.ff.trans G23.fh), G23.hh, fun _ _ _ n => n⟩
          have GG := G1.trans GB
          have r3' := GG.hh _ _ r3
          have E4 : ER X.K B F1 H3 (σ.set m (some (.ref as[n]))) (ρ.set m .un) := setUn (E.grow GG) m _
          refine ⟨as[n], vs, k2, q, rfl, rfl, r3', by rw [dpLen r4]; exact e7, ?_⟩
          obtain ⟨G5, E5⟩ := ooUpd (i := i) (k := n) (dss := dss) (G.trans GG) E4 (by rw [List.getElem?_set_ne him]; exact hρ) (by rw [List.getElem?_set_ne him]; exact q1) (GG.hh _ _ q4) hk (dpSet q (dpMonoAll GG.ff _ _ r4) (flatDp rv hf))
          exact ⟨F0, B, F1, _, r, G5, E5, e', p.mono GG.ff⟩
        | _ => cases ee
      | _ => cases ee
    · cases ee
end
end DL

set_option linter.all false
set_option maxRecDepth 100000
set_option maxHeartbeats 1000000
namespace DL
open PySem PySem.Spec PyProof.Rows L2
/-! ### bounds of ints, by bits -/
class Bd (n : outParam Nat) (i : Int) : Prop where
  lt : i.natAbs < 2 ^ n
theorem Bd.mono {n m : Nat} {i : Int} (h : i.natAbs < 2 ^ n) (l : n ≤ m) : i.natAbs < 2 ^ m := Nat.lt_of_lt_of_le h (Nat.pow_le_pow_right (by decide) l)
instance bd_mul {n m : Nat} {i j : Int} [a : Bd n i] [b : Bd m j] : Bd (n + m) (i * j) := ⟨wide_lt a.lt b.lt⟩
theorem pow_max (n m : Nat) : 2 ^ n + 2 ^ m ≤ 2 ^ (max n m + 1) := by
  have h1 : 2 ^ n ≤ 2 ^ max n m := Nat.pow_le_pow_right (by decide) (Nat.le_max_left _ _)
  have h2 : 2 ^ m ≤ 2 ^ max n m := Nat.pow_le_pow_right (by decide) (Nat.le_max_right _ _)
  rw [Nat.pow_succ]
  omega
instance bd_add {n m : Nat} {i j : Int} [a : Bd n i] [b : Bd m j] : Bd (max n m + 1) (i + j) := ⟨by
  have := a.lt
  have := b.lt
  have := pow_max n m
  omega⟩
instance bd_sub {n m : Nat} {i j : Int} [a : Bd n i] [b : Bd m j] : Bd (max n m + 1) (i - j) := ⟨by
  have := a.lt
  have := b.lt
  have := pow_max n m
  omega⟩
instance bd_neg {n : Nat} {i : Int} [a : Bd n i] : Bd n (-i) := ⟨by
  have := a.lt
  omega⟩
/-- any int, above all a written one -/
instance (priority := 10) bd_lit {i : Int} : Bd (i.natAbs.log2 + 1) i := ⟨Nat.lt_log2_self⟩
theorem mulW {n m : Nat} {i j : Int} (a : i.natAbs < 2 ^ n) (b : j.natAbs < 2 ^ m) (h : n + m + 2 ≤ 1000000) : CMulW i j :=
  wide_mul (a := n + 1) (b := m + 1) (Bd.mono a (Nat.le_succ _)) (Bd.mono b (Nat.le_succ _)) (Nat.succ_pos _) (Nat.succ_pos _) (by omega)
/-! ### the operators at known data -/
theorem gMul_b {n m : Nat} {i j : Int} [a : Bd n i] [b : Bd m j] (h : n + m + 2 ≤ 1000000) : gMul (.int i) (.int j) = some (.int (i * j)) := if_pos (mulW a.lt b.lt h)
theorem gAdd_i {i j : Int} : gAdd (.int i) (.int j) = some (.int (i + j)) := rfl
theorem gSub_i {i j : Int} : gSub (.int i) (.int j) = some (.int (i - j)) := rfl
theorem gNeg_i {i : Int} : gNeg (.int i) = some (.int (-i)) := rfl
theorem gLt_i {i j : Int} : gLt (.int i) (.int j) = some (.bool (decide (i < j))) := rfl
theorem gLe_i {i j : Int} : gLe (.int i) (.int j) = some (.bool (decide (i ≤ j))) := rfl
theorem gGt_i {i j : Int} : gGt (.int i) (.int j) = some (.bool (decide (j < i))) := rfl
theorem gGe_i {i j : Int} : gGe (.int i) (.int j) = some (.bool (decide (j ≤ i))) := rfl
theorem gEq_i {i j : Int} : gEq (.int i) (.int j) = some (.bool (decide (i = j))) := by
  show some (PyData.bool (i == j)) = _
  rw [Bool.beq_eq_decide_eq]
theorem gNe_i {i j : Int} : gNe (.int i) (.int j) = some (.bool (!decide (i = j))) := by
  show some (PyData.bool (!(i == j))) = _
  rw [Bool.beq_eq_decide_eq]
theorem gMod_p {i j : Int} (h : 0 < j) : gMod (.int i) (.int j) = some (.int (i % j)) := by
  show (if j ≠ 0 then some (PyData.int (i.fmod j)) else none) = _
  rw [if_pos (by omega), Int.fmod_eq_emod_of_nonneg _ (by omega)]
theorem gFdiv_p {i j : Int} (h : 0 < j) (h2 : j.natAbs.log2 < 9000) : gFdiv (.int i) (.int j) = some (.int (i / j)) := by
  show (if CDivA i j then some (PyData.int (i.fdiv j)) else none) = _
  rw [if_pos ⟨by omega, h2⟩, Int.fdiv_eq_ediv_of_nonneg _ (by omega)]
/-- a sequence: a tuple (true) or a list -/
def sq (k : Bool) (l : List PyData) : PyData := match k with
  | true => .tuple l
  | false => .list l
theorem gIx_sq {k : Bool} {l : List PyData} {i : Int} : gIx (sq k l) (.int i) = atI l i := by cases k <;> rfl
theorem sq_t {l : List PyData} : PyData.tuple l = sq true l := rfl
theorem sq_l {l : List PyData} : PyData.list l = sq false l := rfl
theorem gIx_t {l : List PyData} {i : Int} : gIx (.tuple l) (.int i) = atI l i := rfl
theorem gIx_l {l : List PyData} {i : Int} : gIx (.list l) (.int i) = atI l i := rfl
section
variable {α : Type} {a b c d e f g : α} {l : List α}
theorem atI_nat' {l : List α} {i : Nat} : atI l (i : Int) = l[i]? := by
  unfold atI ixN
  rw [if_pos (Int.natCast_nonneg i)]
  by_cases h : i < l.length
  · rw [if_pos (by omega)]
    rfl
  · rw [if_neg (by omega)]
    rw [List.getElem?_eq_none (by omega)]
    rfl
theorem at0 : atI (a :: l) 0 = some a := atI_nat' (i := 0)
theorem at1 : atI (a :: b :: l) 1 = some b := atI_nat' (i := 1)
theorem at2 : atI (a :: b :: c :: l) 2 = some c := atI_nat' (i := 2)
theorem at3 : atI (a :: b :: c :: d :: l) 3 = some d := atI_nat' (i := 3)
theorem at4 : atI (a :: b :: c :: d :: e :: l) 4 = some e := atI_nat' (i := 4)
theorem at6 : atI (a :: b :: c :: d :: e :: f :: g :: l) 6 = some g := atI_nat' (i := 6)
theorem at7 {h : α} : atI (a :: b :: c :: d :: e :: f :: g :: h :: l) 7 = some h := atI_nat' (i := 7)
theorem at8 {h i : α} : atI (a :: b :: c :: d :: e :: f :: g :: h :: i :: l) 8 = some i := atI_nat' (i := 8)
theorem at9 {h i j : α} : atI (a :: b :: c :: d :: e :: f :: g :: h :: i :: j :: l) 9 = some j := atI_nat' (i := 9)
theorem at10 {h i j k : α} : atI (a :: b :: c :: d :: e :: f :: g :: h :: i :: j :: k :: l) 10 = some k := atI_nat' (i := 10)
theorem at11 {h i j k m : α} : atI (a :: b :: c :: d :: e :: f :: g :: h :: i :: j :: k :: m :: l) 11 = some m := atI_nat' (i := 11)
theorem at12 {h i j k m n : α} : atI (a :: b :: c :: d :: e :: f :: g :: h :: i :: j :: k :: m :: n :: l) 12 = some n := atI_nat' (i := 12)
theorem at13 {h i j k m n o : α} : atI (a :: b :: c :: d :: e :: f :: g :: h :: i :: j :: k :: m :: n :: o :: l) 13 = some o := atI_nat' (i := 13)
theorem at14 {h i j k m n o p : α} : atI (a :: b :: c :: d :: e :: f :: g :: h :: i :: j :: k :: m :: n :: o :: p :: l) 14 = some p := atI_nat' (i := 14)
theorem at15 {h i j k m n o p q : α} : atI (a :: b :: c :: d :: e :: f :: g :: h :: i :: j :: k :: m :: n :: o :: p :: q :: l) 15 = some q := atI_nat' (i := 15)
theorem at5 : atI (a :: b :: c :: d :: e :: f :: l) 5 = some f := atI_nat' (i := 5)
end
end DL

set_option linter.all false
set_option maxRecDepth 100000
set_option maxHeartbeats 1000000
namespace DL
open PySem PySem.Spec PyProof.Rows L2
/-! ### sequences, rows and tables -/
section
variable {k j : Bool} {l m : List PyData}
theorem len_sq : mLen [sq k l] = some (.int l.length) := by cases k <;> rfl
theorem tup_sq : mTuple [sq k l] = some (sq true l) := by cases k <;> rfl
theorem lst_sq : mList [sq k l] = some l := by cases k <;> rfl
theorem seq_sq : seqOf (sq k l) = some l := by cases k <;> rfl
theorem isTup_sq : isT .tuple (sq k l) = some k := by cases k <;> rfl
theorem isLst_sq : isT .list (sq k l) = some (!k) := by cases k <;> rfl
end
structure V3 where
  x : Int
  y : Int
  z : Int
  deriving DecidableEq
theorem V3.ext' {u v : V3} (h1 : u.x = v.x) (h2 : u.y = v.y) (h3 : u.z = v.z) : u = v := by
  cases u
  cases v
  cases h1
  cases h2
  cases h3
  rfl
def rw3 (k : Bool) (v : V3) : PyData := sq k [.int v.x, .int v.y, .int v.z]
structure M3 where
  a : V3
  b : V3
  c : V3
  deriving DecidableEq
def tb (j k : Bool) (t : M3) : PyData := sq j [rw3 k t.a, rw3 k t.b, rw3 k t.c]
section
variable {k j k' j' : Bool} {u v w : V3} {s t : M3} {a b c : Int}
theorem row_t : PyData.tuple [.int a, .int b, .int c] = rw3 true ⟨a, b, c⟩ := rfl
theorem tab_t : PyData.tuple [rw3 k u, rw3 k v, rw3 k w] = tb true k ⟨u, v, w⟩ := rfl
theorem ix_r0 : gIx (rw3 k v) (.int 0) = some (.int v.x) := by cases k <;> rfl
theorem ix_r1 : gIx (rw3 k v) (.int 1) = some (.int v.y) := by cases k <;> rfl
theorem ix_r2 : gIx (rw3 k v) (.int 2) = some (.int v.z) := by cases k <;> rfl
theorem ix_t0 : gIx (tb j k t) (.int 0) = some (rw3 k t.a) := by cases j <;> rfl
theorem ix_t1 : gIx (tb j k t) (.int 1) = some (rw3 k t.b) := by cases j <;> rfl
theorem ix_t2 : gIx (tb j k t) (.int 2) = some (rw3 k t.c) := by cases j <;> rfl
theorem len_r : mLen [rw3 k v] = some (.int 3) := by cases k <;> rfl
theorem len_tb : mLen [tb j k t] = some (.int 3) := by cases j <;> rfl
theorem tup_r : mTuple [rw3 k v] = some (rw3 true v) := by cases k <;> rfl
theorem tup_tb : mTuple [tb j k t] = some (tb true k t) := by cases j <;> rfl
theorem lst_r : mList [rw3 k v] = some [.int v.x, .int v.y, .int v.z] := by cases k <;> rfl
theorem seq_r : seqOf (rw3 k v) = some [.int v.x, .int v.y, .int v.z] := by cases k <;> rfl
theorem seq_tb : seqOf (tb j k t) = some [rw3 k t.a, rw3 k t.b, rw3 k t.c] := by cases j <;> rfl
theorem isTup_r : isT .tuple (rw3 k v) = some k := by cases k <;> rfl
theorem isTup_tb : isT .tuple (tb j k t) = some j := by cases j <;> rfl
theorem eq_r : gEq (rw3 true u) (rw3 true v) = some (.bool (decide (u = v))) := by
  show some (PyData.bool (u.x == v.x && (u.y == v.y && (u.z == v.z && true)))) = _
  refine congrArg (fun b => some (PyData.bool b)) ?_
  rw [Bool.eq_iff_iff]
  simp only [Bool.and_eq_true, beq_iff_eq, decide_eq_true_eq, and_true]
  exact ⟨fun ⟨h1, h2, h3⟩ => V3.ext' h1 h2 h3, fun h => by subst h; exact ⟨rfl, rfl, rfl⟩⟩
theorem ne_r : gNe (rw3 true u) (rw3 true v) = some (.bool (!decide (u = v))) := by
  have h : gEq (rw3 true u) (rw3 true v) = some (.bool (decide (u = v))) := eq_r
  have h2 : some (PyData.bool (PyData.eqv (rw3 true u) (rw3 true v))) = some (.bool (decide (u = v))) := h
  have h3 : PyData.eqv (rw3 true u) (rw3 true v) = decide (u = v) := by
    injection h2 with h2
    injection h2
  show some (PyData.bool (!PyData.eqv (rw3 true u) (rw3 true v))) = _
  rw [h3]
theorem eqv_r : PyData.eqv (rw3 true u) (rw3 true v) = decide (u = v) := by
  have h : gEq (rw3 true u) (rw3 true v) = some (.bool (decide (u = v))) := eq_r
  have h2 : some (PyData.bool (PyData.eqv (rw3 true u) (rw3 true v))) = some (.bool (decide (u = v))) := h
  injection h2 with h2
  injection h2
theorem eqv_tb : PyData.eqv (tb true true s) (tb true true t) = decide (s = t) := by
  show (PyData.eqv (rw3 true s.a) (rw3 true t.a) && (PyData.eqv (rw3 true s.b) (rw3 true t.b) && (PyData.eqv (rw3 true s.c) (rw3 true t.c) && true))) = _
  rw [eqv_r, eqv_r, eqv_r, Bool.eq_iff_iff]
  simp only [Bool.and_eq_true, decide_eq_true_eq, and_true]
  cases s
  cases t
  simp
theorem eq_tb : gEq (tb true true s) (tb true true t) = some (.bool (decide (s = t))) := by
  show some (PyData.bool (PyData.eqv (tb true true s) (tb true true t))) = _
  rw [eqv_tb]
theorem ne_tb : gNe (tb true true s) (tb true true t) = some (.bool (!decide (s = t))) := by
  show some (PyData.bool (!PyData.eqv (tb true true s) (tb true true t))) = _
  rw [eqv_tb]
end
theorem p62 : (2 : Int) ^ 62 = 4611686018427387904 := by decide +kernel
theorem rg1_nat (n : Nat) (h : n < 4611686018427387904) : rg1 (.int n) = some (rng 0 n) := by
  unfold rg1
  simp only [p62]
  rw [cIf_pos ⟨by omega, by omega⟩, Int.toNat_natCast]
theorem rg1_3 : rg1 (.int 3) = some [.int 0, .int 1, .int 2] := rg1_nat 3 (by decide)
theorem rg2_lit (i j : Int) (h : -4611686018427387904 ≤ i) (h2 : i < 4611686018427387904) (h3 : -4611686018427387904 ≤ j) (h4 : j < 4611686018427387904) : rg2 (.int i) (.int j) = some (rng i (j - i).toNat) := by
  unfold rg2
  simp only [p62]
  rw [cIf_pos ⟨h, h2, h3, h4⟩]
theorem seq_l {l : List PyData} : seqOf (.list l) = some l := rfl
theorem seq_t {l : List PyData} : seqOf (.tuple l) = some l := rfl
theorem tup_l {l : List PyData} : mTuple [.list l] = some (.tuple l) := rfl
theorem tup_t {l : List PyData} : mTuple [.tuple l] = some (.tuple l) := rfl
theorem lst_l {l : List PyData} : mList [.list l] = some l := rfl
theorem lst_t {l : List PyData} : mList [.tuple l] = some l := rfl
theorem len_l {l : List PyData} : mLen [.list l] = some (.int l.length) := rfl
theorem len_t {l : List PyData} : mLen [.tuple l] = some (.int l.length) := rfl
theorem cut_pos {α : Type} {l : List α} {a b : Int} (ha : 0 ≤ a) (hb : 0 ≤ b) : cutD l (some a) (some b) = (l.drop a.toNat).take (b.toNat - a.toNat) := by
  obtain ⟨i, rfl⟩ : ∃ i : Nat, a = i := ⟨a.toNat, by omega⟩
  obtain ⟨j, rfl⟩ : ∃ i : Nat, b = i := ⟨b.toNat, by omega⟩
  unfold cutD
  rw [HT.sIx_nat, HT.sIx_nat, Int.toNat_natCast, Int.toNat_natCast]
  apply List.ext_getElem?
  intro k
  simp only [List.getElem?_take, List.getElem?_drop]
  by_cases h : k < j - i
  · by_cases h2 : i + k < l.length
    · rw [if_pos h, if_pos (by omega), show min i l.length = i by omega]
    · rw [if_pos h, List.getElem?_eq_none (by omega : l.length ≤ i + k)]
      by_cases h3 : k < min j l.length - min i l.length
      · omega
      · rw [if_neg h3]
  · rw [if_neg h, if_neg (by omega)]
theorem cut_from {α : Type} {l : List α} {a : Int} (ha : 0 ≤ a) : cutD l (some a) none = l.drop a.toNat := by
  obtain ⟨i, rfl⟩ : ∃ i : Nat, a = i := ⟨a.toNat, by omega⟩
  unfold cutD
  rw [HT.sIx_nat, HT.sIx_none, Int.toNat_natCast]
  apply List.ext_getElem?
  intro k
  simp only [List.getElem?_take, List.getElem?_drop]
  by_cases h2 : i + k < l.length
  · rw [if_pos (by omega), show min i l.length = i by omega]
  · rw [List.getElem?_eq_none (by omega : l.length ≤ i + k)]
    by_cases h3 : k < l.length - min i l.length
    · omega
    · rw [if_neg h3]
theorem cut_to {α : Type} {l : List α} {b : Int} (hb : 0 ≤ b) : cutD l none (some b) = l.take b.toNat := by
  obtain ⟨j, rfl⟩ : ∃ i : Nat, b = i := ⟨b.toNat, by omega⟩
  unfold cutD
  rw [HT.sIx_nat, HT.sIx_none, Int.toNat_natCast]
  apply List.ext_getElem?
  intro k
  simp only [List.getElem?_take, List.getElem?_drop]
  by_cases h : k < j
  · by_cases h2 : k < l.length
    · rw [if_pos h, if_pos (by omega), Nat.zero_add]
    · rw [if_pos h, List.getElem?_eq_none (by omega : l.length ≤ k)]
      rw [if_neg (by omega)]
  · rw [if_neg h, if_neg (by omega)]
theorem gSl_l {l : List PyData} {lo hi : Option Int} : gSl (.list l) lo hi = some (.list (cutD l lo hi)) := rfl
/-! ### the mathematics of rows and tables -/
namespace V3
def add (u v : V3) : V3 := ⟨u.x + v.x, u.y + v.y, u.z + v.z⟩
def sub (u v : V3) : V3 := ⟨u.x - v.x, u.y - v.y, u.z - v.z⟩
def smul (n : Int) (v : V3) : V3 := ⟨n * v.x, n * v.y, n * v.z⟩
def dot (u v : V3) : Int := u.x * v.x + u.y * v.y + u.z * v.z
def cross (u v : V3) : V3 := ⟨u.y * v.z - u.z * v.y, u.z * v.x - u.x * v.z, u.x * v.y - u.y * v.x⟩
end V3
namespace M3
def im (t : M3) (v : V3) : V3 := ⟨t.a.dot v, t.b.dot v, t.c.dot v⟩
def tr (t : M3) : M3 := ⟨⟨t.a.x, t.b.x, t.c.x⟩, ⟨t.a.y, t.b.y, t.c.y⟩, ⟨t.a.z, t.b.z, t.c.z⟩⟩
def mul (s t : M3) : M3 := ⟨⟨s.a.dot t.tr.a, s.a.dot t.tr.b, s.a.dot t.tr.c⟩, ⟨s.b.dot t.tr.a, s.b.dot t.tr.b, s.b.dot t.tr.c⟩, ⟨s.c.dot t.tr.a, s.c.dot t.tr.b, s.c.dot t.tr.c⟩⟩
def det (t : M3) : Int := t.a.dot (t.b.cross t.c)
def trace (t : M3) : Int := t.a.x + t.b.y + t.c.z
def adj (t : M3) : M3 := tr ⟨t.b.cross t.c, t.c.cross t.a, t.a.cross t.b⟩
def one : M3 := ⟨⟨1, 0, 0⟩, ⟨0, 1, 0⟩, ⟨0, 0, 1⟩⟩
end M3
/-! ### bounds of rows and tables -/
class BV (n : outParam Nat) (v : V3) : Prop where
  x : v.x.natAbs < 2 ^ n
  y : v.y.natAbs < 2 ^ n
  z : v.z.natAbs < 2 ^ n
class BM (n : outParam Nat) (t : M3) : Prop where
  a : BV n t.a
  b : BV n t.b
  c : BV n t.c
section
variable {n m : Nat} {u v : V3} {s t : M3} {i : Int}
instance bvx [h : BV n v] : Bd n v.x := ⟨h.x⟩
instance bvy [h : BV n v] : Bd n v.y := ⟨h.y⟩
instance bvz [h : BV n v] : Bd n v.z := ⟨h.z⟩
instance bma [h : BM n t] : BV n t.a := h.a
instance bmb [h : BM n t] : BV n t.b := h.b
instance bmc [h : BM n t] : BV n t.c := h.c
theorem BV.mono (h : BV n v) (l : n ≤ m) : BV m v := ⟨Bd.mono h.x l, Bd.mono h.y l, Bd.mono h.z l⟩
theorem BM.mono (h : BM n t) (l : n ≤ m) : BM m t := ⟨h.a.mono l, h.b.mono l, h.c.mono l⟩
theorem Bd.up (h : Bd n i) (l : n ≤ m) : Bd m i := ⟨Bd.mono h.lt l⟩
instance bv_add [a : BV n u] [b : BV m v] : BV (max n m + 1) (u.add v) := ⟨(inferInstance : Bd _ (u.x + v.x)).lt, (inferInstance : Bd _ (u.y + v.y)).lt, (inferInstance : Bd _ (u.z + v.z)).lt⟩
instance bv_sub [a : BV n u] [b : BV m v] : BV (max n m + 1) (u.sub v) := ⟨(inferInstance : Bd _ (u.x - v.x)).lt, (inferInstance : Bd _ (u.y - v.y)).lt, (inferInstance : Bd _ (u.z - v.z)).lt⟩
instance bv_smul [a : Bd n i] [b : BV m v] : BV (n + m) (v.smul i) := ⟨(inferInstance : Bd _ (i * v.x)).lt, (inferInstance : Bd _ (i * v.y)).lt, (inferInstance : Bd _ (i * v.z)).lt⟩
theorem maxs (a : Nat) : max (max a a + 1) a + 1 = a + 2 := by omega
theorem maxs1 (a : Nat) : max a a + 1 = a + 1 := by omega
instance bd_dot [a : BV n u] [b : BV m v] : Bd (n + m + 2) (u.dot v) := ⟨by
  have h : Bd _ (u.x * v.x + u.y * v.y + u.z * v.z) := inferInstance
  have h2 := h.lt
  rw [maxs] at h2
  exact h2⟩
instance bv_cross [a : BV n u] [b : BV m v] : BV (n + m + 1) (u.cross v) := ⟨by
  have h : Bd _ (u.y * v.z - u.z * v.y) := inferInstance
  have h2 := h.lt
  rw [maxs1] at h2
  exact h2, by
  have h : Bd _ (u.z * v.x - u.x * v.z) := inferInstance
  have h2 := h.lt
  rw [maxs1] at h2
  exact h2, by
  have h : Bd _ (u.x * v.y - u.y * v.x) := inferInstance
  have h2 := h.lt
  rw [maxs1] at h2
  exact h2⟩
instance bv_im [a : BM n t] [b : BV m v] : BV (n + m + 2) (t.im v) := ⟨(inferInstance : Bd _ (t.a.dot v)).lt, (inferInstance : Bd _ (t.b.dot v)).lt, (inferInstance : Bd _ (t.c.dot v)).lt⟩
instance bm_tr [a : BM n t] : BM n t.tr := ⟨⟨a.a.x, a.b.x, a.c.x⟩, ⟨a.a.y, a.b.y, a.c.y⟩, ⟨a.a.z, a.b.z, a.c.z⟩⟩
instance bm_mul [a : BM n s] [b : BM m t] : BM (n + m + 2) (s.mul t) :=
  ⟨⟨(inferInstance : Bd _ (s.a.dot t.tr.a)).lt, (inferInstance : Bd _ (s.a.dot t.tr.b)).lt, (inferInstance : Bd _ (s.a.dot t.tr.c)).lt⟩,
   ⟨(inferInstance : Bd _ (s.b.dot t.tr.a)).lt, (inferInstance : Bd _ (s.b.dot t.tr.b)).lt, (inferInstance : Bd _ (s.b.dot t.tr.c)).lt⟩,
   ⟨(inferInstance : Bd _ (s.c.dot t.tr.a)).lt, (inferInstance : Bd _ (s.c.dot t.tr.b)).lt, (inferInstance : Bd _ (s.c.dot t.tr.c)).lt⟩⟩
instance bd_det [a : BM n t] : Bd (n + (n + n + 1) + 2) t.det := (inferInstance : Bd _ (t.a.dot (t.b.cross t.c)))
instance bm_mk [a : BV n u] [b : BV n v] {w : V3} [c : BV n w] : BM n ⟨u, v, w⟩ := ⟨a, b, c⟩
instance bm_adj [a : BM n t] : BM (n + n + 1) t.adj := (inferInstance : BM _ (M3.tr ⟨t.b.cross t.c, t.c.cross t.a, t.a.cross t.b⟩))
end
theorem sSeq_eq {f g : ES} {ρ ρ' : Rho} (h : f ρ = some (.nx ρ')) : sSeq f g ρ = g ρ' := by
  unfold sSeq
  rw [h]
  rfl
theorem sSeq_rt {f g : ES} {ρ : Rho} {d : PyData} (h : f ρ = some (.rt d)) : sSeq f g ρ = some (.rt d) := by
  unfold sSeq
  rw [h]
  rfl
theorem run_rt {k : Nat} {u : ES} {ds : List PyData} {d : PyData} (h : u (ds.map SC.va ++ List.replicate k SC.un) = some (.rt d)) : runD k u ds = some d := by
  unfold runD
  rw [h]
  rfl
/-! ### forms: six numbers -/
structure F6 where
  a : Int
  b : Int
  c : Int
  p : Int
  q : Int
  r : Int
  deriving DecidableEq
def fm (k : Bool) (f : F6) : PyData := sq k [.int f.a, .int f.b, .int f.c, .int f.p, .int f.q, .int f.r]
theorem F6.ext' {f g : F6} (h1 : f.a = g.a) (h2 : f.b = g.b) (h3 : f.c = g.c) (h4 : f.p = g.p) (h5 : f.q = g.q) (h6 : f.r = g.r) : f = g := by
  cases f
  cases g
  cases h1
  cases h2
  cases h3
  cases h4
  cases h5
  cases h6
  rfl
section
variable {k j : Bool} {f g : F6} {a b c p q r : Int} {v : V3}
theorem fm_t : PyData.tuple [.int a, .int b, .int c, .int p, .int q, .int r] = fm true ⟨a, b, c, p, q, r⟩ := rfl
theorem ix_f0 : gIx (fm k f) (.int 0) = some (.int f.a) := by cases k <;> rfl
theorem ix_f1 : gIx (fm k f) (.int 1) = some (.int f.b) := by cases k <;> rfl
theorem ix_f2 : gIx (fm k f) (.int 2) = some (.int f.c) := by cases k <;> rfl
theorem ix_f3 : gIx (fm k f) (.int 3) = some (.int f.p) := by cases k <;> rfl
theorem ix_f4 : gIx (fm k f) (.int 4) = some (.int f.q) := by cases k <;> rfl
theorem ix_f5 : gIx (fm k f) (.int 5) = some (.int f.r) := by cases k <;> rfl
theorem len_f : mLen [fm k f] = some (.int 6) := by cases k <;> rfl
theorem tup_f : mTuple [fm k f] = some (fm true f) := by cases k <;> rfl
theorem lst_f : mList [fm k f] = some [.int f.a, .int f.b, .int f.c, .int f.p, .int f.q, .int f.r] := by cases k <;> rfl
theorem seq_f : seqOf (fm k f) = some [.int f.a, .int f.b, .int f.c, .int f.p, .int f.q, .int f.r] := by cases k <;> rfl
theorem isTup_f : isT .tuple (fm k f) = some k := by cases k <;> rfl
theorem eqv_f : PyData.eqv (fm true f) (fm true g) = decide (f = g) := by
  show (f.a == g.a && (f.b == g.b && (f.c == g.c && (f.p == g.p && (f.q == g.q && (f.r == g.r && true)))))) = _
  rw [Bool.eq_iff_iff]
  simp only [Bool.and_eq_true, beq_iff_eq, decide_eq_true_eq, and_true]
  exact ⟨fun ⟨h1, h2, h3, h4, h5, h6⟩ => F6.ext' h1 h2 h3 h4 h5 h6, fun h => by subst h; exact ⟨rfl, rfl, rfl, rfl, rfl, rfl⟩⟩
theorem eq_f : gEq (fm true f) (fm true g) = some (.bool (decide (f = g))) := by
  show some (PyData.bool (PyData.eqv (fm true f) (fm true g))) = _
  rw [eqv_f]
theorem ne_f : gNe (fm true f) (fm true g) = some (.bool (!decide (f = g))) := by
  show some (PyData.bool (!PyData.eqv (fm true f) (fm true g))) = _
  rw [eqv_f]
/-- unpacking -/
theorem un_f {h : List PyData → Rho → Option Rho} {ρ : Rho} : gTp 6 h (fm k f) ρ = h [.int f.a, .int f.b, .int f.c, .int f.p, .int f.q, .int f.r] ρ := by cases k <;> rfl
theorem un_r {h : List PyData → Rho → Option Rho} {ρ : Rho} : gTp 3 h (rw3 k v) ρ = h [.int v.x, .int v.y, .int v.z] ρ := by cases k <;> rfl
end
namespace F6
def gram (f : F6) : M3 := ⟨⟨f.a, f.r, f.q⟩, ⟨f.r, f.b, f.p⟩, ⟨f.q, f.p, f.c⟩⟩
def val (f : F6) (v : V3) : Int := f.a * v.x * v.x + f.b * v.y * v.y + f.c * v.z * v.z + 2 * (f.p * v.y * v.z + f.q * v.x * v.z + f.r * v.x * v.y)
def pair (f : F6) (u v : V3) : Int := (f.a * u.x + f.r * u.y + f.q * u.z) * v.x + (f.r * u.x + f.b * u.y + f.p * u.z) * v.y + (f.q * u.x + f.p * u.y + f.c * u.z) * v.z
end F6
class BF (n : outParam Nat) (f : F6) : Prop where
  a : f.a.natAbs < 2 ^ n
  b : f.b.natAbs < 2 ^ n
  c : f.c.natAbs < 2 ^ n
  p : f.p.natAbs < 2 ^ n
  q : f.q.natAbs < 2 ^ n
  r : f.r.natAbs < 2 ^ n
section
variable {n m : Nat} {f : F6}
instance bfa [h : BF n f] : Bd n f.a := ⟨h.a⟩
instance bfb [h : BF n f] : Bd n f.b := ⟨h.b⟩
instance bfc [h : BF n f] : Bd n f.c := ⟨h.c⟩
instance bfp [h : BF n f] : Bd n f.p := ⟨h.p⟩
instance bfq [h : BF n f] : Bd n f.q := ⟨h.q⟩
instance bfr [h : BF n f] : Bd n f.r := ⟨h.r⟩
instance bm_gram [h : BF n f] : BM n f.gram := ⟨⟨h.a, h.r, h.q⟩, ⟨h.r, h.b, h.p⟩, ⟨h.q, h.p, h.c⟩⟩
theorem BF.mono (h : BF n f) (l : n ≤ m) : BF m f := ⟨Bd.mono h.a l, Bd.mono h.b l, Bd.mono h.c l, Bd.mono h.p l, Bd.mono h.q l, Bd.mono h.r l⟩
end
end DL

set_option Elab.async false
set_option linter.all false
set_option maxRecDepth 100000
set_option maxHeartbeats 4000000
namespace W
open PySem PySem.Spec PyProof.Rows L2 DL
def top (i : Nat) : Stmt := PySem.Challenge.pw_fewfounders_k06_changed_forms.main.body.getD i (.Pass ⟨0, 0, 0, 0⟩)
section
variable {P : Program} {w : World} {K : PySem.W.Frag} {mg : Str → Option Value} {base : Heap}
def c_TRIALS : PyData := (PyData.tuple [(PyData.tuple [(PyData.int 1), (PyData.int 0), (PyData.int 0)]), (PyData.tuple [(PyData.int 0), (PyData.int 1), (PyData.int 0)]), (PyData.tuple [(PyData.int 0), (PyData.int 0), (PyData.int 1)]), (PyData.tuple [(PyData.int 0), (PyData.int 1), (PyData.int 1)]), (PyData.tuple [(PyData.int 1), (PyData.int 0), (PyData.int 1)]), (PyData.tuple [(PyData.int 1), (PyData.int 1), (PyData.int 0)])])
def c_IDLE : PyData := (PyData.tuple [(PyData.tuple [(PyData.int 1), (PyData.int 0), (PyData.int 0)]), (PyData.tuple [(PyData.int 0), (PyData.int 1), (PyData.int 0)]), (PyData.tuple [(PyData.int 0), (PyData.int 0), (PyData.int 1)])])
abbrev s_times : Stmt := top 5
noncomputable def b_times : ES := (sRet (eTup (aCons (eBin gMul (eVar 0) (eBin gIx (eVar 1) (eC (.int 0)))) (aCons (eBin gMul (eVar 0) (eBin gIx (eVar 1) (eC (.int 1)))) (aCons (eBin gMul (eVar 0) (eBin gIx (eVar 1) (eC (.int 2)))) aNil)))))
noncomputable def m_times : List PyData → Option PyData := runD 0 b_times
abbrev N_times : List Str := ["number", "row"]
theorem ok_times (F : Fd K mg "times" s_times) : Def P w K mg base "times" 1 2 m_times := by
  have sc : FnScope N_times ["number", "row"] (defScope s_times) := ⟨rfl, rfl, rfl, by decide +kernel, rfl, by decide +kernel, by decide +kernel⟩
  refine F.mk sc rfl rfl (fun _ _ _ _ _ _ us hl => match us, hl with | [_, _], _ => rfl) fun cdv A outer s H E hr => ?_
  exact (dss_one (ds_ret (dv_tup (da_cons (dv_bin o_mul (dv_var (pv 0)) (dv_ix ix_g (dv_var (pv 1)) dv_int)) (da_cons (dv_bin o_mul (dv_var (pv 0)) (dv_ix ix_g (dv_var (pv 1)) dv_int)) (da_cons (dv_bin o_mul (dv_var (pv 0)) (dv_ix ix_g (dv_var (pv 1)) dv_int)) da_nil))))))
abbrev s_dot : Stmt := top 6
noncomputable def b_dot : ES := (sRet (eBin gAdd (eBin gAdd (eBin gMul (eBin gIx (eVar 0) (eC (.int 0))) (eBin gIx (eVar 1) (eC (.int 0)))) (eBin gMul (eBin gIx (eVar 0) (eC (.int 1))) (eBin gIx (eVar 1) (eC (.int 1))))) (eBin gMul (eBin gIx (eVar 0) (eC (.int 2))) (eBin gIx (eVar 1) (eC (.int 2))))))
noncomputable def m_dot : List PyData → Option PyData := runD 0 b_dot
abbrev N_dot : List Str := ["one", "two"]
theorem ok_dot (F : Fd K mg "dot" s_dot) : Def P w K mg base "dot" 1 2 m_dot := by
  have sc : FnScope N_dot ["one", "two"] (defScope s_dot) := ⟨rfl, rfl, rfl, by decide +kernel, rfl, by decide +kernel, by decide +kernel⟩
  refine F.mk sc rfl rfl (fun _ _ _ _ _ _ us hl => match us, hl with | [_, _], _ => rfl) fun cdv A outer s H E hr => ?_
  exact (dss_one (ds_ret (dv_bin o_add (dv_bin o_add (dv_bin o_mul (dv_ix ix_g (dv_var (pv 0)) dv_int) (dv_ix ix_g (dv_var (pv 1)) dv_int)) (dv_bin o_mul (dv_ix ix_g (dv_var (pv 0)) dv_int) (dv_ix ix_g (dv_var (pv 1)) dv_int))) (dv_bin o_mul (dv_ix ix_g (dv_var (pv 0)) dv_int) (dv_ix ix_g (dv_var (pv 1)) dv_int)))))
abbrev s_cross : Stmt := top 7
noncomputable def b_cross : ES := (sRet (eTup (aCons (eBin gSub (eBin gMul (eBin gIx (eVar 0) (eC (.int 1))) (eBin gIx (eVar 1) (eC (.int 2)))) (eBin gMul (eBin gIx (eVar 0) (eC (.int 2))) (eBin gIx (eVar 1) (eC (.int 1))))) (aCons (eBin gSub (eBin gMul (eBin gIx (eVar 0) (eC (.int 2))) (eBin gIx (eVar 1) (eC (.int 0)))) (eBin gMul (eBin gIx (eVar 0) (eC (.int 0))) (eBin gIx (eVar 1) (eC (.int 2))))) (aCons (eBin gSub (eBin gMul (eBin gIx (eVar 0) (eC (.int 0))) (eBin gIx (eVar 1) (eC (.int 1)))) (eBin gMul (eBin gIx (eVar 0) (eC (.int 1))) (eBin gIx (eVar 1) (eC (.int 0))))) aNil)))))
noncomputable def m_cross : List PyData → Option PyData := runD 0 b_cross
abbrev N_cross : List Str := ["one", "two"]
theorem ok_cross (F : Fd K mg "cross" s_cross) : Def P w K mg base "cross" 1 2 m_cross := by
  have sc : FnScope N_cross ["one", "two"] (defScope s_cross) := ⟨rfl, rfl, rfl, by decide +kernel, rfl, by decide +kernel, by decide +kernel⟩
  refine F.mk sc rfl rfl (fun _ _ _ _ _ _ us hl => match us, hl with | [_, _], _ => rfl) fun cdv A outer s H E hr => ?_
  exact (dss_one (ds_ret (dv_tup (da_cons (dv_bin o_sub (dv_bin o_mul (dv_ix ix_g (dv_var (pv 0)) dv_int) (dv_ix ix_g (dv_var (pv 1)) dv_int)) (dv_bin o_mul (dv_ix ix_g (dv_var (pv 0)) dv_int) (dv_ix ix_g (dv_var (pv 1)) dv_int))) (da_cons (dv_bin o_sub (dv_bin o_mul (dv_ix ix_g (dv_var (pv 0)) dv_int) (dv_ix ix_g (dv_var (pv 1)) dv_int)) (dv_bin o_mul (dv_ix ix_g (dv_var (pv 0)) dv_int) (dv_ix ix_g (dv_var (pv 1)) dv_int))) (da_cons (dv_bin o_sub (dv_bin o_mul (dv_ix ix_g (dv_var (pv 0)) dv_int) (dv_ix ix_g (dv_var (pv 1)) dv_int)) (dv_bin o_mul (dv_ix ix_g (dv_var (pv 0)) dv_int) (dv_ix ix_g (dv_var (pv 1)) dv_int))) da_nil))))))
abbrev s_content : Stmt := top 8
noncomputable def b_content : ES := (sRet (eAll mGcd (aCons (eAll mGcd (aCons (eBin gIx (eVar 0) (eC (.int 0))) (aCons (eBin gIx (eVar 0) (eC (.int 1))) aNil))) (aCons (eBin gIx (eVar 0) (eC (.int 2))) aNil))))
noncomputable def m_content : List PyData → Option PyData := runD 0 b_content
abbrev N_content : List Str := ["row"]
theorem ok_content (F : Fd K mg "content" s_content) (g_gcd : mg "gcd" = some (.builtin "math.gcd")) : Def P w K mg base "content" 1 1 m_content := by
  have sc : FnScope N_content ["row"] (defScope s_content) := ⟨rfl, rfl, rfl, by decide +kernel, rfl, by decide +kernel, by decide +kernel⟩
  refine F.mk sc rfl rfl (fun _ _ _ _ _ _ us hl => match us, hl with | [_], _ => rfl) fun cdv A outer s H E hr => ?_
  exact (dss_one (ds_ret (dv_mod c_gcd (by rfl) g_gcd (da_cons (dv_mod c_gcd (by rfl) g_gcd (da_cons (dv_ix ix_g (dv_var (pv 0)) dv_int) (da_cons (dv_ix ix_g (dv_var (pv 0)) dv_int) da_nil))) (da_cons (dv_ix ix_g (dv_var (pv 0)) dv_int) da_nil)))))
abbrev s_primitive : Stmt := top 9
noncomputable def b_primitive : ES := (sSeq (sSet 1 (eCall m_content (aCons (eVar 0) aNil))) (sSeq (sIf (bVal (eBin gEq (eVar 1) (eC (.int 0)))) (sRet (eTup (aCons (eC (.int 0)) (aCons (eC (.int 0)) (aCons (eC (.int 0)) aNil))))) sNx) (sRet (eTup (aCons (eBin gFdiv (eBin gIx (eVar 0) (eC (.int 0))) (eVar 1)) (aCons (eBin gFdiv (eBin gIx (eVar 0) (eC (.int 1))) (eVar 1)) (aCons (eBin gFdiv (eBin gIx (eVar 0) (eC (.int 2))) (eVar 1)) aNil)))))))
noncomputable def m_primitive : List PyData → Option PyData := runD 1 b_primitive
abbrev N_primitive : List Str := ["row", "many"]
theorem ok_primitive (F : Fd K mg "primitive" s_primitive) (d_content : Def P w K mg base "content" 1 1 m_content) : Def P w K mg base "primitive" 2 1 m_primitive := by
  have sc : FnScope N_primitive ["row"] (defScope s_primitive) := ⟨rfl, rfl, rfl, by decide +kernel, rfl, by decide +kernel, by decide +kernel⟩
  refine F.mk sc rfl rfl (fun _ _ _ _ _ _ us hl => match us, hl with | [_], _ => rfl) fun cdv A outer s H E hr => ?_
  exact (dss_cons (ds_set (i := 1) sc.nd rfl (by first | exact Or.inl rfl | exact Or.inr rfl) (dv_callD d_content hr (da_cons (dv_var (pv 0)) da_nil))) (dss_cons (ds_if (dt_cmp (o_eq hr.units) (dv_var (pv 1)) dv_int) (dss_one (ds_ret (dv_tup (da_cons dv_int (da_cons dv_int (da_cons dv_int da_nil)))))) dss_nil) (dss_one (ds_ret (dv_tup (da_cons (dv_bin o_fdiv (dv_ix ix_g (dv_var (pv 0)) dv_int) (dv_var (pv 1))) (da_cons (dv_bin o_fdiv (dv_ix ix_g (dv_var (pv 0)) dv_int) (dv_var (pv 1))) (da_cons (dv_bin o_fdiv (dv_ix ix_g (dv_var (pv 0)) dv_int) (dv_var (pv 1))) da_nil))))))))
abbrev s_image : Stmt := top 12
noncomputable def b_image : ES := (sRet (eTup (aCons (eCall m_dot (aCons (eBin gIx (eVar 0) (eC (.int 0))) (aCons (eVar 1) aNil))) (aCons (eCall m_dot (aCons (eBin gIx (eVar 0) (eC (.int 1))) (aCons (eVar 1) aNil))) (aCons (eCall m_dot (aCons (eBin gIx (eVar 0) (eC (.int 2))) (aCons (eVar 1) aNil))) aNil)))))
noncomputable def m_image : List PyData → Option PyData := runD 0 b_image
abbrev N_image : List Str := ["table", "row"]
theorem ok_image (F : Fd K mg "image" s_image) (d_dot : Def P w K mg base "dot" 1 2 m_dot) : Def P w K mg base "image" 2 2 m_image := by
  have sc : FnScope N_image ["table", "row"] (defScope s_image) := ⟨rfl, rfl, rfl, by decide +kernel, rfl, by decide +kernel, by decide +kernel⟩
  refine F.mk sc rfl rfl (fun _ _ _ _ _ _ us hl => match us, hl with | [_, _], _ => rfl) fun cdv A outer s H E hr => ?_
  exact (dss_one (ds_ret (dv_tup (da_cons (dv_callD d_dot hr (da_cons (dv_ix ix_g (dv_var (pv 0)) dv_int) (da_cons (dv_var (pv 1)) da_nil))) (da_cons (dv_callD d_dot hr (da_cons (dv_ix ix_g (dv_var (pv 0)) dv_int) (da_cons (dv_var (pv 1)) da_nil))) (da_cons (dv_callD d_dot hr (da_cons (dv_ix ix_g (dv_var (pv 0)) dv_int) (da_cons (dv_var (pv 1)) da_nil))) da_nil))))))
abbrev s_transpose : Stmt := top 13
noncomputable def b_transpose : ES := (sRet (eAll mTuple (aCons (eOfF (fComp (iRg1 (eC (.int 3))) (gNm 1) bYes (eTup (aCons (eBin gIx (eBin gIx (eVar 0) (eC (.int 0))) (eVar 1)) (aCons (eBin gIx (eBin gIx (eVar 0) (eC (.int 1))) (eVar 1)) (aCons (eBin gIx (eBin gIx (eVar 0) (eC (.int 2))) (eVar 1)) aNil)))) [1])) aNil)))
noncomputable def m_transpose : List PyData → Option PyData := runD 1 b_transpose
abbrev N_transpose : List Str := ["table", "k"]
theorem ok_transpose (F : Fd K mg "transpose" s_transpose) (z_range : mg "range" = none) (z_tuple : mg "tuple" = none) : Def P w K mg base "transpose" 1 1 m_transpose := by
  have sc : FnScope N_transpose ["table"] (defScope s_transpose) := ⟨rfl, rfl, rfl, by decide +kernel, rfl, by decide +kernel, by decide +kernel⟩
  refine F.mk sc rfl rfl (fun _ _ _ _ _ _ us hl => match us, hl with | [_], _ => rfl) fun cdv A outer s H E hr => ?_
  exact (dss_one (ds_ret (dv_ty c_tuple (by rfl) z_tuple (by decide +kernel) (da_cons (dv_ofF (df_comp (own := [("k", 1)]) rfl sc.nd (di_rg1 (by rfl) z_range dv_int) (blkOk_by (N := N_transpose) (sc := defScope s_transpose) (by decide +kernel)) (fun _ _ _ _ _ => (dg_name (pg_name (i := 1) sc.nd rfl (by first | exact Or.inl rfl | exact Or.inr rfl)))) (fun _ _ _ _ _ => dx_nil) (fun _ _ _ _ _ => (dv_tup (da_cons (dv_ix ix_g (dv_ix ix_g (dv_var (pv 0)) dv_int) (dv_var (pv 1))) (da_cons (dv_ix ix_g (dv_ix ix_g (dv_var (pv 0)) dv_int) (dv_var (pv 1))) (da_cons (dv_ix ix_g (dv_ix ix_g (dv_var (pv 0)) dv_int) (dv_var (pv 1))) da_nil))))))) da_nil))))
abbrev s_product : Stmt := top 14
noncomputable def b_product : ES := (sSeq (sSet 2 (eCall m_transpose (aCons (eVar 1) aNil))) (sRet (eAll mTuple (aCons (eOfF (fComp (iSeq (eVar 0)) (gNm 3) bYes (eTup (aCons (eCall m_dot (aCons (eVar 3) (aCons (eBin gIx (eVar 2) (eC (.int 0))) aNil))) (aCons (eCall m_dot (aCons (eVar 3) (aCons (eBin gIx (eVar 2) (eC (.int 1))) aNil))) (aCons (eCall m_dot (aCons (eVar 3) (aCons (eBin gIx (eVar 2) (eC (.int 2))) aNil))) aNil)))) [3])) aNil))))
noncomputable def m_product : List PyData → Option PyData := runD 2 b_product
abbrev N_product : List Str := ["one", "two", "sides", "line"]
theorem ok_product (F : Fd K mg "product" s_product) (d_transpose : Def P w K mg base "transpose" 1 1 m_transpose) (d_dot : Def P w K mg base "dot" 1 2 m_dot) (z_tuple : mg "tuple" = none) : Def P w K mg base "product" 2 2 m_product := by
  have sc : FnScope N_product ["one", "two"] (defScope s_product) := ⟨rfl, rfl, rfl, by decide +kernel, rfl, by decide +kernel, by decide +kernel⟩
  refine F.mk sc rfl rfl (fun _ _ _ _ _ _ us hl => match us, hl with | [_, _], _ => rfl) fun cdv A outer s H E hr => ?_
  exact (dss_cons (ds_set (i := 2) sc.nd rfl (by first | exact Or.inl rfl | exact Or.inr rfl) (dv_callD d_transpose hr (da_cons (dv_var (pv 1)) da_nil))) (dss_one (ds_ret (dv_ty c_tuple (by rfl) z_tuple (by decide +kernel) (da_cons (dv_ofF (df_comp (own := [("line", 3)]) rfl sc.nd (di_seq (dv_var (pv 0))) (blkOk_by (N := N_product) (sc := defScope s_product) (by decide +kernel)) (fun _ _ _ _ _ => (dg_name (pg_name (i := 3) sc.nd rfl (by first | exact Or.inl rfl | exact Or.inr rfl)))) (fun _ _ _ _ _ => dx_nil) (fun _ _ _ _ _ => (dv_tup (da_cons (dv_callD d_dot hr (da_cons (dv_var (pv 3)) (da_cons (dv_ix ix_g (dv_var (pv 2)) dv_int) da_nil))) (da_cons (dv_callD d_dot hr (da_cons (dv_var (pv 3)) (da_cons (dv_ix ix_g (dv_var (pv 2)) dv_int) da_nil))) (da_cons (dv_callD d_dot hr (da_cons (dv_var (pv 3)) (da_cons (dv_ix ix_g (dv_var (pv 2)) dv_int) da_nil))) da_nil))))))) da_nil)))))
abbrev s_determinant : Stmt := top 15
noncomputable def b_determinant : ES := (sRet (eCall m_dot (aCons (eBin gIx (eVar 0) (eC (.int 0))) (aCons (eCall m_cross (aCons (eBin gIx (eVar 0) (eC (.int 1))) (aCons (eBin gIx (eVar 0) (eC (.int 2))) aNil))) aNil))))
noncomputable def m_determinant : List PyData → Option PyData := runD 0 b_determinant
abbrev N_determinant : List Str := ["table"]
theorem ok_determinant (F : Fd K mg "determinant" s_determinant) (d_cross : Def P w K mg base "cross" 1 2 m_cross) (d_dot : Def P w K mg base "dot" 1 2 m_dot) : Def P w K mg base "determinant" 2 1 m_determinant := by
  have sc : FnScope N_determinant ["table"] (defScope s_determinant) := ⟨rfl, rfl, rfl, by decide +kernel, rfl, by decide +kernel, by decide +kernel⟩
  refine F.mk sc rfl rfl (fun _ _ _ _ _ _ us hl => match us, hl with | [_], _ => rfl) fun cdv A outer s H E hr => ?_
  exact (dss_one (ds_ret (dv_callD d_dot hr (da_cons (dv_ix ix_g (dv_var (pv 0)) dv_int) (da_cons (dv_callD d_cross hr (da_cons (dv_ix ix_g (dv_var (pv 0)) dv_int) (da_cons (dv_ix ix_g (dv_var (pv 0)) dv_int) da_nil))) da_nil)))))
abbrev s_value : Stmt := top 17
noncomputable def b_value : ES := (sSeq (sTo (gTp 6 (gsCons (gNm 2) (gsCons (gNm 3) (gsCons (gNm 4) (gsCons (gNm 5) (gsCons (gNm 6) (gsCons (gNm 7) gsNil))))))) (eVar 0)) (sSeq (sTo (gTp 3 (gsCons (gNm 8) (gsCons (gNm 9) (gsCons (gNm 10) gsNil)))) (eVar 1)) (sRet (eBin gAdd (eBin gAdd (eBin gAdd (eBin gMul (eBin gMul (eVar 2) (eVar 8)) (eVar 8)) (eBin gMul (eBin gMul (eVar 3) (eVar 9)) (eVar 9))) (eBin gMul (eBin gMul (eVar 4) (eVar 10)) (eVar 10))) (eBin gMul (eC (.int 2)) (eBin gAdd (eBin gAdd (eBin gMul (eBin gMul (eVar 5) (eVar 9)) (eVar 10)) (eBin gMul (eBin gMul (eVar 6) (eVar 8)) (eVar 10))) (eBin gMul (eBin gMul (eVar 7) (eVar 8)) (eVar 9))))))))
noncomputable def m_value : List PyData → Option PyData := runD 9 b_value
abbrev N_value : List Str := ["form", "row", "a", "b", "c", "p", "q", "r", "x", "y", "z"]
theorem ok_value (F : Fd K mg "value" s_value) : Def P w K mg base "value" 1 2 m_value := by
  have sc : FnScope N_value ["form", "row"] (defScope s_value) := ⟨rfl, rfl, rfl, by decide +kernel, rfl, by decide +kernel, by decide +kernel⟩
  refine F.mk sc rfl rfl (fun _ _ _ _ _ _ us hl => match us, hl with | [_, _], _ => rfl) fun cdv A outer s H E hr => ?_
  exact (dss_cons (ds_to (dv_var (pv 0)) (dg_tup (n := 6) rfl (dgs_cons (dg_name (pg_name (i := 2) sc.nd rfl (by first | exact Or.inl rfl | exact Or.inr rfl))) (dgs_cons (dg_name (pg_name (i := 3) sc.nd rfl (by first | exact Or.inl rfl | exact Or.inr rfl))) (dgs_cons (dg_name (pg_name (i := 4) sc.nd rfl (by first | exact Or.inl rfl | exact Or.inr rfl))) (dgs_cons (dg_name (pg_name (i := 5) sc.nd rfl (by first | exact Or.inl rfl | exact Or.inr rfl))) (dgs_cons (dg_name (pg_name (i := 6) sc.nd rfl (by first | exact Or.inl rfl | exact Or.inr rfl))) (dgs_cons (dg_name (pg_name (i := 7) sc.nd rfl (by first | exact Or.inl rfl | exact Or.inr rfl))) dgs_nil)))))))) (dss_cons (ds_to (dv_var (pv 1)) (dg_tup (n := 3) rfl (dgs_cons (dg_name (pg_name (i := 8) sc.nd rfl (by first | exact Or.inl rfl | exact Or.inr rfl))) (dgs_cons (dg_name (pg_name (i := 9) sc.nd rfl (by first | exact Or.inl rfl | exact Or.inr rfl))) (dgs_cons (dg_name (pg_name (i := 10) sc.nd rfl (by first | exact Or.inl rfl | exact Or.inr rfl))) dgs_nil))))) (dss_one (ds_ret (dv_bin o_add (dv_bin o_add (dv_bin o_add (dv_bin o_mul (dv_bin o_mul (dv_var (pv 2)) (dv_var (pv 8))) (dv_var (pv 8))) (dv_bin o_mul (dv_bin o_mul (dv_var (pv 3)) (dv_var (pv 9))) (dv_var (pv 9)))) (dv_bin o_mul (dv_bin o_mul (dv_var (pv 4)) (dv_var (pv 10))) (dv_var (pv 10)))) (dv_bin o_mul dv_int (dv_bin o_add (dv_bin o_add (dv_bin o_mul (dv_bin o_mul (dv_var (pv 5)) (dv_var (pv 9))) (dv_var (pv 10))) (dv_bin o_mul (dv_bin o_mul (dv_var (pv 6)) (dv_var (pv 8))) (dv_var (pv 10)))) (dv_bin o_mul (dv_bin o_mul (dv_var (pv 7)) (dv_var (pv 8))) (dv_var (pv 9))))))))))
abbrev s_gram : Stmt := top 18
noncomputable def b_gram : ES := (sSeq (sTo (gTp 6 (gsCons (gNm 1) (gsCons (gNm 2) (gsCons (gNm 3) (gsCons (gNm 4) (gsCons (gNm 5) (gsCons (gNm 6) gsNil))))))) (eVar 0)) (sRet (eTup (aCons (eTup (aCons (eVar 1) (aCons (eVar 6) (aCons (eVar 5) aNil)))) (aCons (eTup (aCons (eVar 6) (aCons (eVar 2) (aCons (eVar 4) aNil)))) (aCons (eTup (aCons (eVar 5) (aCons (eVar 4) (aCons (eVar 3) aNil)))) aNil))))))
noncomputable def m_gram : List PyData → Option PyData := runD 6 b_gram
abbrev N_gram : List Str := ["form", "a", "b", "c", "p", "q", "r"]
theorem ok_gram (F : Fd K mg "gram" s_gram) : Def P w K mg base "gram" 1 1 m_gram := by
  have sc : FnScope N_gram ["form"] (defScope s_gram) := ⟨rfl, rfl, rfl, by decide +kernel, rfl, by decide +kernel, by decide +kernel⟩
  refine F.mk sc rfl rfl (fun _ _ _ _ _ _ us hl => match us, hl with | [_], _ => rfl) fun cdv A outer s H E hr => ?_
  exact (dss_cons (ds_to (dv_var (pv 0)) (dg_tup (n := 6) rfl (dgs_cons (dg_name (pg_name (i := 1) sc.nd rfl (by first | exact Or.inl rfl | exact Or.inr rfl))) (dgs_cons (dg_name (pg_name (i := 2) sc.nd rfl (by first | exact Or.inl rfl | exact Or.inr rfl))) (dgs_cons (dg_name (pg_name (i := 3) sc.nd rfl (by first | exact Or.inl rfl | exact Or.inr rfl))) (dgs_cons (dg_name (pg_name (i := 4) sc.nd rfl (by first | exact Or.inl rfl | exact Or.inr rfl))) (dgs_cons (dg_name (pg_name (i := 5) sc.nd rfl (by first | exact Or.inl rfl | exact Or.inr rfl))) (dgs_cons (dg_name (pg_name (i := 6) sc.nd rfl (by first | exact Or.inl rfl | exact Or.inr rfl))) dgs_nil)))))))) (dss_one (ds_ret (dv_tup (da_cons (dv_tup (da_cons (dv_var (pv 1)) (da_cons (dv_var (pv 6)) (da_cons (dv_var (pv 5)) da_nil)))) (da_cons (dv_tup (da_cons (dv_var (pv 6)) (da_cons (dv_var (pv 2)) (da_cons (dv_var (pv 4)) da_nil)))) (da_cons (dv_tup (da_cons (dv_var (pv 5)) (da_cons (dv_var (pv 4)) (da_cons (dv_var (pv 3)) da_nil)))) da_nil)))))))
abbrev s_form_of : Stmt := top 19
noncomputable def b_form_of : ES := (sRet (eTup (aCons (eBin gIx (eBin gIx (eVar 0) (eC (.int 0))) (eC (.int 0))) (aCons (eBin gIx (eBin gIx (eVar 0) (eC (.int 1))) (eC (.int 1))) (aCons (eBin gIx (eBin gIx (eVar 0) (eC (.int 2))) (eC (.int 2))) (aCons (eBin gIx (eBin gIx (eVar 0) (eC (.int 1))) (eC (.int 2))) (aCons (eBin gIx (eBin gIx (eVar 0) (eC (.int 0))) (eC (.int 2))) (aCons (eBin gIx (eBin gIx (eVar 0) (eC (.int 0))) (eC (.int 1))) aNil))))))))
noncomputable def m_form_of : List PyData → Option PyData := runD 0 b_form_of
abbrev N_form_of : List Str := ["table"]
theorem ok_form_of (F : Fd K mg "form_of" s_form_of) : Def P w K mg base "form_of" 1 1 m_form_of := by
  have sc : FnScope N_form_of ["table"] (defScope s_form_of) := ⟨rfl, rfl, rfl, by decide +kernel, rfl, by decide +kernel, by decide +kernel⟩
  refine F.mk sc rfl rfl (fun _ _ _ _ _ _ us hl => match us, hl with | [_], _ => rfl) fun cdv A outer s H E hr => ?_
  exact (dss_one (ds_ret (dv_tup (da_cons (dv_ix ix_g (dv_ix ix_g (dv_var (pv 0)) dv_int) dv_int) (da_cons (dv_ix ix_g (dv_ix ix_g (dv_var (pv 0)) dv_int) dv_int) (da_cons (dv_ix ix_g (dv_ix ix_g (dv_var (pv 0)) dv_int) dv_int) (da_cons (dv_ix ix_g (dv_ix ix_g (dv_var (pv 0)) dv_int) dv_int) (da_cons (dv_ix ix_g (dv_ix ix_g (dv_var (pv 0)) dv_int) dv_int) (da_cons (dv_ix ix_g (dv_ix ix_g (dv_var (pv 0)) dv_int) dv_int) da_nil)))))))))
abbrev s_form_determinant : Stmt := top 20
noncomputable def b_form_determinant : ES := (sRet (eCall m_determinant (aCons (eCall m_gram (aCons (eVar 0) aNil)) aNil)))
noncomputable def m_form_determinant : List PyData → Option PyData := runD 0 b_form_determinant
abbrev N_form_determinant : List Str := ["form"]
theorem ok_form_determinant (F : Fd K mg "form_determinant" s_form_determinant) (d_gram : Def P w K mg base "gram" 1 1 m_gram) (d_determinant : Def P w K mg base "determinant" 2 1 m_determinant) : Def P w K mg base "form_determinant" 3 1 m_form_determinant := by
  have sc : FnScope N_form_determinant ["form"] (defScope s_form_determinant) := ⟨rfl, rfl, rfl, by decide +kernel, rfl, by decide +kernel, by decide +kernel⟩
  refine F.mk sc rfl rfl (fun _ _ _ _ _ _ us hl => match us, hl with | [_], _ => rfl) fun cdv A outer s H E hr => ?_
  exact (dss_one (ds_ret (dv_callD d_determinant hr (da_cons (dv_callD d_gram hr (da_cons (dv_var (pv 0)) da_nil)) da_nil))))
abbrev s_is_change : Stmt := top 22
noncomputable def b_is_change : ES := (sRet (eBin gIn (eCall m_determinant (aCons (eVar 0) aNil)) (eTup (aCons (eC (.int 1)) (aCons (eUn gNeg (eC (.int 1))) aNil)))))
noncomputable def m_is_change : List PyData → Option PyData := runD 0 b_is_change
abbrev N_is_change : List Str := ["table"]
theorem ok_is_change (F : Fd K mg "is_change" s_is_change) (d_determinant : Def P w K mg base "determinant" 2 1 m_determinant) : Def P w K mg base "is_change" 3 1 m_is_change := by
  have sc : FnScope N_is_change ["table"] (defScope s_is_change) := ⟨rfl, rfl, rfl, by decide +kernel, rfl, by decide +kernel, by decide +kernel⟩
  refine F.mk sc rfl rfl (fun _ _ _ _ _ _ us hl => match us, hl with | [_], _ => rfl) fun cdv A outer s H E hr => ?_
  exact (dss_one (ds_ret (dv_cmp (o_in (Room.u65 hr)) (dv_callD d_determinant hr (da_cons (dv_var (pv 0)) da_nil)) (dv_tup (da_cons dv_int (da_cons (dv_un u_neg dv_int) da_nil))))))
abbrev s_changed : Stmt := top 23
noncomputable def b_changed : ES := (sRet (eCall m_form_of (aCons (eCall m_product (aCons (eCall m_product (aCons (eCall m_transpose (aCons (eVar 1) aNil)) (aCons (eCall m_gram (aCons (eVar 0) aNil)) aNil))) (aCons (eVar 1) aNil))) aNil)))
noncomputable def m_changed : List PyData → Option PyData := runD 0 b_changed
abbrev N_changed : List Str := ["form", "table"]
theorem ok_changed (F : Fd K mg "changed" s_changed) (d_gram : Def P w K mg base "gram" 1 1 m_gram) (d_transpose : Def P w K mg base "transpose" 1 1 m_transpose) (d_product : Def P w K mg base "product" 2 2 m_product) (d_form_of : Def P w K mg base "form_of" 1 1 m_form_of) : Def P w K mg base "changed" 3 2 m_changed := by
  have sc : FnScope N_changed ["form", "table"] (defScope s_changed) := ⟨rfl, rfl, rfl, by decide +kernel, rfl, by decide +kernel, by decide +kernel⟩
  refine F.mk sc rfl rfl (fun _ _ _ _ _ _ us hl => match us, hl with | [_, _], _ => rfl) fun cdv A outer s H E hr => ?_
  exact (dss_one (ds_ret (dv_callD d_form_of hr (da_cons (dv_callD d_product hr (da_cons (dv_callD d_product hr (da_cons (dv_callD d_transpose hr (da_cons (dv_var (pv 1)) da_nil)) (da_cons (dv_callD d_gram hr (da_cons (dv_var (pv 0)) da_nil)) da_nil))) (da_cons (dv_var (pv 1)) da_nil))) da_nil))))
abbrev s_step_table : Stmt := top 24
noncomputable def b_step_table : ES := (sSeq (sTo (gTp 3 (gsCons (gNm 1) (gsCons (gNm 2) (gsCons (gNm 3) gsNil)))) (eVar 0)) (sSeq (sOwnO 4 (ffComp (iSeq (eC c_IDLE)) (gNm 5) bYes (fAll mList (aCons (eVar 5) aNil)) [5])) (sSeq (sPut2 4 (eVar 1) (eVar 2) (eVar 3)) (sFrz [4] (sRet (eAll mTuple (aCons (eOfF (fComp (iSeq (eVar 4)) (gNm 5) bYes (eAll mTuple (aCons (eVar 5) aNil)) [5])) aNil)))))))
noncomputable def m_step_table : List PyData → Option PyData := runD 5 b_step_table
abbrev N_step_table : List Str := ["step", "i", "j", "k", "lines", "line"]
theorem ok_step_table (F : Fd K mg "step_table" s_step_table) (z_list : mg "list" = none) (z_tuple : mg "tuple" = none) (k_IDLE : Gk K mg "IDLE" c_IDLE) : Def P w K mg base "step_table" 1 1 m_step_table := by
  have sc : FnScope N_step_table ["step"] (defScope s_step_table) := ⟨rfl, rfl, rfl, by decide +kernel, rfl, by decide +kernel, by decide +kernel⟩
  refine F.mk sc rfl rfl (fun _ _ _ _ _ _ us hl => match us, hl with | [_], _ => rfl) fun cdv A outer s H E hr => ?_
  exact (dss_cons (ds_to (dv_var (pv 0)) (dg_tup (n := 3) rfl (dgs_cons (dg_name (pg_name (i := 1) sc.nd rfl (by first | exact Or.inl rfl | exact Or.inr rfl))) (dgs_cons (dg_name (pg_name (i := 2) sc.nd rfl (by first | exact Or.inl rfl | exact Or.inr rfl))) (dgs_cons (dg_name (pg_name (i := 3) sc.nd rfl (by first | exact Or.inl rfl | exact Or.inr rfl))) dgs_nil))))) (dss_cons (ds_lcO (i := 4) (own := [("line", 5)]) rfl sc.nd rfl rfl (sw_true rfl rfl rfl (by decide +kernel)) (di_seq (dv_glob (by rfl) k_IDLE)) (blkOk_by (N := N_step_table) (sc := defScope s_step_table) (by decide +kernel)) (fun _ _ _ _ _ => (dg_name (pg_name (i := 5) sc.nd rfl (by first | exact Or.inl rfl | exact Or.inr rfl)))) (fun _ _ _ _ _ => dx_nil) (fun _ _ _ _ _ => (df_ty c_list (by rfl) z_list (by decide +kernel) (da_cons (dv_var (pv 5)) da_nil)))) (dss_cons (ds_put2 (dv_var (pv 1)) (dv_var (pv 2)) (dv_var (pv 3)) (pg_sub (pe_ix ix_list (pv 4) (dv_var (pv 1)) (by exact fun _ _ => rfl)) (dv_var (pv 2)) set_list)) (dss_one (ds_frz (S := [4]) (ds_ret (dv_ty c_tuple (by rfl) z_tuple (by decide +kernel) (da_cons (dv_ofF (df_comp (own := [("line", 5)]) rfl sc.nd (di_seq (dv_var (pv 4))) (blkOk_by (N := N_step_table) (sc := defScope s_step_table) (by decide +kernel)) (fun _ _ _ _ _ => (dg_name (pg_name (i := 5) sc.nd rfl (by first | exact Or.inl rfl | exact Or.inr rfl)))) (fun _ _ _ _ _ => dx_nil) (fun _ _ _ _ _ => (dv_ty c_tuple (by rfl) z_tuple (by decide +kernel) (da_cons (dv_var (pv 5)) da_nil))))) da_nil))))))))
abbrev s_table_of_steps : Stmt := top 25
noncomputable def b_table_of_steps : ES := (sSeq (sSet 1 (eC c_IDLE)) (sSeq (sFor (iSeq (eVar 0)) (gNm 2) (sSet 1 (eCall m_product (aCons (eVar 1) (aCons (eCall m_step_table (aCons (eVar 2) aNil)) aNil))))) (sRet (eVar 1))))
noncomputable def m_table_of_steps : List PyData → Option PyData := runD 2 b_table_of_steps
abbrev N_table_of_steps : List Str := ["steps", "table", "step"]
theorem ok_table_of_steps (F : Fd K mg "table_of_steps" s_table_of_steps) (d_step_table : Def P w K mg base "step_table" 1 1 m_step_table) (d_product : Def P w K mg base "product" 2 2 m_product) (k_IDLE : Gk K mg "IDLE" c_IDLE) : Def P w K mg base "table_of_steps" 3 1 m_table_of_steps := by
  have sc : FnScope N_table_of_steps ["steps"] (defScope s_table_of_steps) := ⟨rfl, rfl, rfl, by decide +kernel, rfl, by decide +kernel, by decide +kernel⟩
  refine F.mk sc rfl rfl (fun _ _ _ _ _ _ us hl => match us, hl with | [_], _ => rfl) fun cdv A outer s H E hr => ?_
  exact (dss_cons (ds_set (i := 1) sc.nd rfl (by first | exact Or.inl rfl | exact Or.inr rfl) (dv_glob (by rfl) k_IDLE)) (dss_cons (ds_for PassesOwn.never rfl (di_seq (dv_var (pv 0))) (dg_name (pg_name (i := 2) sc.nd rfl (by first | exact Or.inl rfl | exact Or.inr rfl))) (dss_one (ds_set (i := 1) sc.nd rfl (by first | exact Or.inl rfl | exact Or.inr rfl) (dv_callD d_product hr (da_cons (dv_var (pv 1)) (da_cons (dv_callD d_step_table hr (da_cons (dv_var (pv 2)) da_nil)) da_nil)))))) (dss_one (ds_ret (dv_var (pv 1))))))
abbrev s_ratio : Stmt := top 27
noncomputable def b_ratio : ES := (sSeq (sIf (bVal (eBin gEq (eVar 1) (eC (.int 0)))) sNo sNx) (sSeq (sSet 2 (eAll mGcd (aCons (eVar 0) (aCons (eVar 1) aNil)))) (sSeq (sIf (bVal (eBin gLt (eVar 1) (eC (.int 0)))) (sSet 2 (eUn gNeg (eVar 2))) sNx) (sRet (eTup (aCons (eBin gFdiv (eVar 0) (eVar 2)) (aCons (eBin gFdiv (eVar 1) (eVar 2)) aNil)))))))
noncomputable def m_ratio : List PyData → Option PyData := runD 1 b_ratio
abbrev N_ratio : List Str := ["top", "bottom", "many"]
theorem ok_ratio (F : Fd K mg "ratio" s_ratio) (g_gcd : mg "gcd" = some (.builtin "math.gcd")) : Def P w K mg base "ratio" 1 2 m_ratio := by
  have sc : FnScope N_ratio ["top", "bottom"] (defScope s_ratio) := ⟨rfl, rfl, rfl, by decide +kernel, rfl, by decide +kernel, by decide +kernel⟩
  refine F.mk sc rfl rfl (fun _ _ _ _ _ _ us hl => match us, hl with | [_, _], _ => rfl) fun cdv A outer s H E hr => ?_
  exact (dss_cons (ds_if (dt_cmp (o_eq hr.units) (dv_var (pv 1)) dv_int) (dss_one ds_no) dss_nil) (dss_cons (ds_set (i := 2) sc.nd rfl (by first | exact Or.inl rfl | exact Or.inr rfl) (dv_mod c_gcd (by rfl) g_gcd (da_cons (dv_var (pv 0)) (da_cons (dv_var (pv 1)) da_nil)))) (dss_cons (ds_if (dt_cmp o_lt (dv_var (pv 1)) dv_int) (dss_one (ds_set (i := 2) sc.nd rfl (by first | exact Or.inl rfl | exact Or.inr rfl) (dv_un u_neg (dv_var (pv 2))))) dss_nil) (dss_one (ds_ret (dv_tup (da_cons (dv_bin o_fdiv (dv_var (pv 0)) (dv_var (pv 2))) (da_cons (dv_bin o_fdiv (dv_var (pv 1)) (dv_var (pv 2))) da_nil))))))))
abbrev s_ratio_sign : Stmt := top 28
noncomputable def b_ratio_sign : ES := (sSeq (sIf (bVal (eBin gGt (eBin gIx (eVar 0) (eC (.int 0))) (eC (.int 0)))) (sRet (eC (.int 1))) sNx) (sSeq (sIf (bVal (eBin gLt (eBin gIx (eVar 0) (eC (.int 0))) (eC (.int 0)))) (sRet (eUn gNeg (eC (.int 1)))) sNx) (sRet (eC (.int 0)))))
noncomputable def m_ratio_sign : List PyData → Option PyData := runD 0 b_ratio_sign
abbrev N_ratio_sign : List Str := ["one"]
theorem ok_ratio_sign (F : Fd K mg "ratio_sign" s_ratio_sign) : Def P w K mg base "ratio_sign" 1 1 m_ratio_sign := by
  have sc : FnScope N_ratio_sign ["one"] (defScope s_ratio_sign) := ⟨rfl, rfl, rfl, by decide +kernel, rfl, by decide +kernel, by decide +kernel⟩
  refine F.mk sc rfl rfl (fun _ _ _ _ _ _ us hl => match us, hl with | [_], _ => rfl) fun cdv A outer s H E hr => ?_
  exact (dss_cons (ds_if (dt_cmp o_gt (dv_ix ix_g (dv_var (pv 0)) dv_int) dv_int) (dss_one (ds_ret dv_int)) dss_nil) (dss_cons (ds_if (dt_cmp o_lt (dv_ix ix_g (dv_var (pv 0)) dv_int) dv_int) (dss_one (ds_ret (dv_un u_neg dv_int))) dss_nil) (dss_one (ds_ret dv_int))))
abbrev s_visible_row : Stmt := top 31
noncomputable def b_visible_row : ES := (sSeq (sFor (iSeq (eC c_TRIALS)) (gNm 1) (sIf (bVal (eBin gNe (eCall m_dot (aCons (eVar 1) (aCons (eCall m_image (aCons (eVar 0) (aCons (eVar 1) aNil))) aNil))) (eC (.int 0)))) (sRet (eVar 1)) sNx)) (sRet (eC .none)))
noncomputable def m_visible_row : List PyData → Option PyData := runD 1 b_visible_row
abbrev N_visible_row : List Str := ["table", "row"]
theorem ok_visible_row (F : Fd K mg "visible_row" s_visible_row) (d_image : Def P w K mg base "image" 2 2 m_image) (d_dot : Def P w K mg base "dot" 1 2 m_dot) (k_TRIALS : Gk K mg "TRIALS" c_TRIALS) : Def P w K mg base "visible_row" 3 1 m_visible_row := by
  have sc : FnScope N_visible_row ["table"] (defScope s_visible_row) := ⟨rfl, rfl, rfl, by decide +kernel, rfl, by decide +kernel, by decide +kernel⟩
  refine F.mk sc rfl rfl (fun _ _ _ _ _ _ us hl => match us, hl with | [_], _ => rfl) fun cdv A outer s H E hr => ?_
  exact (dss_cons (ds_for PassesOwn.never rfl (di_seq (dv_glob (by rfl) k_TRIALS)) (dg_name (pg_name (i := 1) sc.nd rfl (by first | exact Or.inl rfl | exact Or.inr rfl))) (dss_one (ds_if (dt_cmp (o_ne hr.units) (dv_callD d_dot hr (da_cons (dv_var (pv 1)) (da_cons (dv_callD d_image hr (da_cons (dv_var (pv 0)) (da_cons (dv_var (pv 1)) da_nil))) da_nil))) dv_int) (dss_one (ds_ret (dv_var (pv 1)))) dss_nil))) (dss_one (ds_ret dv_non)))
abbrev s_square_taken : Stmt := top 32
noncomputable def b_square_taken : ES := (sSeq (sSet 3 (eOfF (fComp (iSeq (eVar 0)) (gNm 4) bYes (eCall m_times (aCons (eVar 2) (aCons (eVar 4) aNil))) [4]))) (sRet (eAll mTuple (aCons (eOfF (fComp (iRg1 (eC (.int 3))) (gNm 5) bYes (eAll mTuple (aCons (eOfF (fComp (iRg1 (eC (.int 3))) (gNm 6) bYes (eBin gSub (eBin gIx (eBin gIx (eVar 3) (eVar 5)) (eVar 6)) (eBin gMul (eBin gIx (eVar 1) (eVar 5)) (eBin gIx (eVar 1) (eVar 6)))) [6])) aNil)) [5])) aNil))))
noncomputable def m_square_taken : List PyData → Option PyData := runD 4 b_square_taken
abbrev N_square_taken : List Str := ["table", "line", "number", "scaled", "row", "i", "j"]
theorem ok_square_taken (F : Fd K mg "square_taken" s_square_taken) (d_times : Def P w K mg base "times" 1 2 m_times) (z_range : mg "range" = none) (z_tuple : mg "tuple" = none) : Def P w K mg base "square_taken" 2 3 m_square_taken := by
  have sc : FnScope N_square_taken ["table", "line", "number"] (defScope s_square_taken) := ⟨rfl, rfl, rfl, by decide +kernel, rfl, by decide +kernel, by decide +kernel⟩
  refine F.mk sc rfl rfl (fun _ _ _ _ _ _ us hl => match us, hl with | [_, _, _], _ => rfl) fun cdv A outer s H E hr => ?_
  exact (dss_cons (ds_set (i := 3) sc.nd rfl (by first | exact Or.inl rfl | exact Or.inr rfl) (dv_ofF (df_comp (own := [("row", 4)]) rfl sc.nd (di_seq (dv_var (pv 0))) (blkOk_by (N := N_square_taken) (sc := defScope s_square_taken) (by decide +kernel)) (fun _ _ _ _ _ => (dg_name (pg_name (i := 4) sc.nd rfl (by first | exact Or.inl rfl | exact Or.inr rfl)))) (fun _ _ _ _ _ => dx_nil) (fun _ _ _ _ _ => (dv_callD d_times hr (da_cons (dv_var (pv 2)) (da_cons (dv_var (pv 4)) da_nil))))))) (dss_one (ds_ret (dv_ty c_tuple (by rfl) z_tuple (by decide +kernel) (da_cons (dv_ofF (df_comp (own := [("i", 5)]) rfl sc.nd (di_rg1 (by rfl) z_range dv_int) (blkOk_by (N := N_square_taken) (sc := defScope s_square_taken) (by decide +kernel)) (fun _ _ _ _ _ => (dg_name (pg_name (i := 5) sc.nd rfl (by first | exact Or.inl rfl | exact Or.inr rfl)))) (fun _ _ _ _ _ => dx_nil) (fun _ _ _ _ _ => (dv_ty c_tuple (by rfl) z_tuple (by decide +kernel) (da_cons (dv_ofF (df_comp (own := [("j", 6)]) rfl sc.nd (di_rg1 (by rfl) z_range dv_int) (blkOk_by (N := N_square_taken) (sc := _) (by kernel_rfl)) (fun _ _ _ _ _ => (dg_name (pg_name (i := 6) sc.nd rfl (by first | exact Or.inl rfl | exact Or.inr rfl)))) (fun _ _ _ _ _ => dx_nil) (fun _ _ _ _ _ => (dv_bin o_sub (dv_ix ix_g (dv_ix ix_g (dv_var (pv 3)) (dv_var (pv 5))) (dv_var (pv 6))) (dv_bin o_mul (dv_ix ix_g (dv_var (pv 1)) (dv_var (pv 5))) (dv_ix ix_g (dv_var (pv 1)) (dv_var (pv 6)))))))) da_nil))))) da_nil)))))
abbrev s_completed : Stmt := top 33
noncomputable def b_completed : ES := (sSeq (sOwn 1 aNil) (sSeq (sSet 2 (eCall m_gram (aCons (eVar 0) aNil))) (sSeq (sSet 3 (eC (.int 1))) (sSeq (sSet 4 (eCall m_visible_row (aCons (eVar 2) aNil))) (sSeq (sWhile (bVal (eBin gIsnt (eVar 4) (eC .none))) (sSeq (sSet 5 (eCall m_image (aCons (eVar 2) (aCons (eVar 4) aNil)))) (sSeq (sSet 6 (eCall m_dot (aCons (eVar 4) (aCons (eVar 5) aNil)))) (sSeq (sSet 7 (eCall m_content (aCons (eVar 5) aNil))) (sSeq (sApp 1 (eTup (aCons (eCall m_ratio (aCons (eBin gMul (eVar 7) (eVar 7)) (aCons (eBin gMul (eVar 3) (eVar 6)) aNil))) (aCons (eCall m_primitive (aCons (eVar 5) aNil)) aNil)))) (sSeq (sSet 2 (eCall m_square_taken (aCons (eVar 2) (aCons (eVar 5) (aCons (eVar 6) aNil))))) (sSeq (sSet 3 (eBin gMul (eVar 3) (eVar 6))) (sSet 4 (eCall m_visible_row (aCons (eVar 2) aNil)))))))))) (sFrz [1] (sRet (eAll mTuple (aCons (eVar 1) aNil)))))))))
noncomputable def m_completed : List PyData → Option PyData := runD 7 b_completed
abbrev N_completed : List Str := ["form", "pairs", "table", "bottom", "row", "line", "number", "many"]
theorem ok_completed (F : Fd K mg "completed" s_completed) (d_gram : Def P w K mg base "gram" 1 1 m_gram) (d_visible_row : Def P w K mg base "visible_row" 3 1 m_visible_row) (d_image : Def P w K mg base "image" 2 2 m_image) (d_dot : Def P w K mg base "dot" 1 2 m_dot) (d_content : Def P w K mg base "content" 1 1 m_content) (d_primitive : Def P w K mg base "primitive" 2 1 m_primitive) (d_ratio : Def P w K mg base "ratio" 1 2 m_ratio) (d_square_taken : Def P w K mg base "square_taken" 2 3 m_square_taken) (z_tuple : mg "tuple" = none) : Def P w K mg base "completed" 4 1 m_completed := by
  have sc : FnScope N_completed ["form"] (defScope s_completed) := ⟨rfl, rfl, rfl, by decide +kernel, rfl, by decide +kernel, by decide +kernel⟩
  refine F.mk sc rfl rfl (fun _ _ _ _ _ _ us hl => match us, hl with | [_], _ => rfl) fun cdv A outer s H E hr => ?_
  exact (dss_cons (ds_own (i := 1) sc.nd rfl (by first | exact Or.inl rfl | exact Or.inr rfl) (df_lst da_nil)) (dss_cons (ds_set (i := 2) sc.nd rfl (by first | exact Or.inl rfl | exact Or.inr rfl) (dv_callD d_gram hr (da_cons (dv_var (pv 0)) da_nil))) (dss_cons (ds_set (i := 3) sc.nd rfl (by first | exact Or.inl rfl | exact Or.inr rfl) dv_int) (dss_cons (ds_set (i := 4) sc.nd rfl (by first | exact Or.inl rfl | exact Or.inr rfl) (dv_callD d_visible_row hr (da_cons (dv_var (pv 2)) da_nil))) (dss_cons (ds_while PassesOwn.never (dt_cmp o_notN (dv_var (pv 4)) dv_non) (dss_cons (ds_set (i := 5) sc.nd rfl (by first | exact Or.inl rfl | exact Or.inr rfl) (dv_callD d_image hr (da_cons (dv_var (pv 2)) (da_cons (dv_var (pv 4)) da_nil)))) (dss_cons (ds_set (i := 6) sc.nd rfl (by first | exact Or.inl rfl | exact Or.inr rfl) (dv_callD d_dot hr (da_cons (dv_var (pv 4)) (da_cons (dv_var (pv 5)) da_nil)))) (dss_cons (ds_set (i := 7) sc.nd rfl (by first | exact Or.inl rfl | exact Or.inr rfl) (dv_callD d_content hr (da_cons (dv_var (pv 5)) da_nil))) (dss_cons (ds_app (i := 1) (pv 1) (dv_tup (da_cons (dv_callD d_ratio hr (da_cons (dv_bin o_mul (dv_var (pv 7)) (dv_var (pv 7))) (da_cons (dv_bin o_mul (dv_var (pv 3)) (dv_var (pv 6))) da_nil))) (da_cons (dv_callD d_primitive hr (da_cons (dv_var (pv 5)) da_nil)) da_nil)))) (dss_cons (ds_set (i := 2) sc.nd rfl (by first | exact Or.inl rfl | exact Or.inr rfl) (dv_callD d_square_taken hr (da_cons (dv_var (pv 2)) (da_cons (dv_var (pv 5)) (da_cons (dv_var (pv 6)) da_nil))))) (dss_cons (ds_set (i := 3) sc.nd rfl (by first | exact Or.inl rfl | exact Or.inr rfl) (dv_bin o_mul (dv_var (pv 3)) (dv_var (pv 6)))) (dss_one (ds_set (i := 4) sc.nd rfl (by first | exact Or.inl rfl | exact Or.inr rfl) (dv_callD d_visible_row hr (da_cons (dv_var (pv 2)) da_nil))))))))))) (dss_one (ds_frz (S := [1]) (ds_ret (dv_ty c_tuple (by rfl) z_tuple (by decide +kernel) (da_cons (dv_var (pv 1)) da_nil))))))))))
abbrev s_signature : Stmt := top 34
noncomputable def b_signature : ES := (sSeq (sSetF 1 (fComp (iSeq (eCall m_completed (aCons (eVar 0) aNil))) (gNm 2) bYes (eCall m_ratio_sign (aCons (eBin gIx (eVar 2) (eC (.int 0))) aNil)) [2])) (sRet (eTup (aCons (eBin gCnt (eVar 1) (eC (.int 1))) (aCons (eBin gCnt (eVar 1) (eUn gNeg (eC (.int 1)))) (aCons (eBin gSub (eC (.int 3)) (eAll mLen (aCons (eVar 1) aNil))) aNil))))))
noncomputable def m_signature : List PyData → Option PyData := runD 2 b_signature
abbrev N_signature : List Str := ["form", "signs", "pair"]
theorem ok_signature (F : Fd K mg "signature" s_signature) (d_completed : Def P w K mg base "completed" 4 1 m_completed) (d_ratio_sign : Def P w K mg base "ratio_sign" 1 1 m_ratio_sign) (z_len : mg "len" = none) : Def P w K mg base "signature" 5 1 m_signature := by
  have sc : FnScope N_signature ["form"] (defScope s_signature) := ⟨rfl, rfl, rfl, by decide +kernel, rfl, by decide +kernel, by decide +kernel⟩
  refine F.mk sc rfl rfl (fun _ _ _ _ _ _ us hl => match us, hl with | [_], _ => rfl) fun cdv A outer s H E hr => ?_
  exact (dss_cons (ds_lcV (i := 1) (own := [("pair", 2)]) rfl sc.nd rfl rfl (sw_true rfl rfl rfl (by decide +kernel)) (di_seq (dv_callD d_completed hr (da_cons (dv_var (pv 0)) da_nil))) (blkOk_by (N := N_signature) (sc := defScope s_signature) (by decide +kernel)) (fun _ _ _ _ _ => (dg_name (pg_name (i := 2) sc.nd rfl (by first | exact Or.inl rfl | exact Or.inr rfl)))) (fun _ _ _ _ _ => dx_nil) (fun _ _ _ _ _ => (dv_callD d_ratio_sign hr (da_cons (dv_ix ix_g (dv_var (pv 2)) dv_int) da_nil)))) (dss_one (ds_ret (dv_tup (da_cons (dv_count (dv_var (pv 1)) dv_int) (da_cons (dv_count (dv_var (pv 1)) (dv_un u_neg dv_int)) (da_cons (dv_bin o_sub dv_int (dv_blt c_len (by rfl) z_len (by decide +kernel) (da_cons (dv_var (pv 1)) da_nil))) da_nil)))))))
abbrev s_is_one_minus : Stmt := top 35
noncomputable def b_is_one_minus : ES := (sRet (eBin gEq (eCall m_signature (aCons (eVar 0) aNil)) (eTup (aCons (eC (.int 2)) (aCons (eC (.int 1)) (aCons (eC (.int 0)) aNil))))))
noncomputable def m_is_one_minus : List PyData → Option PyData := runD 0 b_is_one_minus
abbrev N_is_one_minus : List Str := ["form"]
theorem ok_is_one_minus (F : Fd K mg "is_one_minus" s_is_one_minus) (d_signature : Def P w K mg base "signature" 5 1 m_signature) : Def P w K mg base "is_one_minus" 6 1 m_is_one_minus := by
  have sc : FnScope N_is_one_minus ["form"] (defScope s_is_one_minus) := ⟨rfl, rfl, rfl, by decide +kernel, rfl, by decide +kernel, by decide +kernel⟩
  refine F.mk sc rfl rfl (fun _ _ _ _ _ _ us hl => match us, hl with | [_], _ => rfl) fun cdv A outer s H E hr => ?_
  exact (dss_one (ds_ret (dv_cmp (o_eq hr.units) (dv_callD d_signature hr (da_cons (dv_var (pv 0)) da_nil)) (dv_tup (da_cons dv_int (da_cons dv_int (da_cons dv_int da_nil)))))))
abbrev s__law_whole : Stmt := top 37
noncomputable def b__law_whole : ES := (sRet (eAnd (eIs Ty.int (eVar 0)) (eUn gNot (eIs Ty.bool (eVar 0)))))
noncomputable def m__law_whole : List PyData → Option PyData := runD 0 b__law_whole
abbrev N__law_whole : List Str := ["told"]
theorem ok__law_whole (F : Fd K mg "_law_whole" s__law_whole) (z_isinstance : mg "isinstance" = none) (z_bool : mg "bool" = none) (z_int : mg "int" = none) : Def P w K mg base "_law_whole" 1 1 m__law_whole := by
  have sc : FnScope N__law_whole ["told"] (defScope s__law_whole) := ⟨rfl, rfl, rfl, by decide +kernel, rfl, by decide +kernel, by decide +kernel⟩
  refine F.mk sc rfl rfl (fun _ _ _ _ _ _ us hl => match us, hl with | [_], _ => rfl) fun cdv A outer s H E hr => ?_
  exact (dss_one (ds_ret (dv_and (dv_isi (T := Ty.int) (by rfl) z_isinstance rfl (by rfl) z_int (by decide +kernel) (dv_var (pv 0))) (dv_one (dv_not (dv_isi (T := Ty.bool) (by rfl) z_isinstance rfl (by rfl) z_bool (by decide +kernel) (dv_var (pv 0))))))))
abbrev s__law_is_row : Stmt := top 38
noncomputable def b__law_is_row : ES := (sSeq (sIf (bOr (bNot (bVal (eIs Ty.tuple (eVar 0)))) (bVal (eBin gNe (eAll mLen (aCons (eVar 0) aNil)) (eVar 1)))) (sRet (eC (.bool false))) sNx) (sSeq (sFor (iSeq (eVar 0)) (gNm 2) (sIf (bNot (bVal (eCall m__law_whole (aCons (eVar 2) aNil)))) (sRet (eC (.bool false))) sNx)) (sRet (eC (.bool true)))))
noncomputable def m__law_is_row : List PyData → Option PyData := runD 1 b__law_is_row
abbrev N__law_is_row : List Str := ["told", "many", "number"]
theorem ok__law_is_row (F : Fd K mg "_law_is_row" s__law_is_row) (d__law_whole : Def P w K mg base "_law_whole" 1 1 m__law_whole) (z_len : mg "len" = none) (z_isinstance : mg "isinstance" = none) (z_tuple : mg "tuple" = none) : Def P w K mg base "_law_is_row" 2 2 m__law_is_row := by
  have sc : FnScope N__law_is_row ["told", "many"] (defScope s__law_is_row) := ⟨rfl, rfl, rfl, by decide +kernel, rfl, by decide +kernel, by decide +kernel⟩
  refine F.mk sc rfl rfl (fun _ _ _ _ _ _ us hl => match us, hl with | [_, _], _ => rfl) fun cdv A outer s H E hr => ?_
  exact (dss_cons (ds_if (dt_w (dw_or (dt_not (dt_val (dv_isi (T := Ty.tuple) (by rfl) z_isinstance rfl (by rfl) z_tuple (by decide +kernel) (dv_var (pv 0))))) (dw_or1 (dt_cmp (o_ne hr.units) (dv_blt c_len (by rfl) z_len (by decide +kernel) (da_cons (dv_var (pv 0)) da_nil)) (dv_var (pv 1)))))) (dss_one (ds_ret dv_bl)) dss_nil) (dss_cons (ds_for PassesOwn.never rfl (di_seq (dv_var (pv 0))) (dg_name (pg_name (i := 2) sc.nd rfl (by first | exact Or.inl rfl | exact Or.inr rfl))) (dss_one (ds_if (dt_not (dt_val (dv_callD d__law_whole hr (da_cons (dv_var (pv 2)) da_nil)))) (dss_one (ds_ret dv_bl)) dss_nil))) (dss_one (ds_ret dv_bl))))
abbrev s__law_is_table : Stmt := top 39
noncomputable def b__law_is_table : ES := (sSeq (sIf (bOr (bNot (bVal (eIs Ty.tuple (eVar 0)))) (bVal (eBin gNe (eAll mLen (aCons (eVar 0) aNil)) (eC (.int 3))))) (sRet (eC (.bool false))) sNx) (sSeq (sFor (iSeq (eVar 0)) (gNm 1) (sIf (bNot (bVal (eCall m__law_is_row (aCons (eVar 1) (aCons (eC (.int 3)) aNil))))) (sRet (eC (.bool false))) sNx)) (sRet (eC (.bool true)))))
noncomputable def m__law_is_table : List PyData → Option PyData := runD 1 b__law_is_table
abbrev N__law_is_table : List Str := ["told", "line"]
theorem ok__law_is_table (F : Fd K mg "_law_is_table" s__law_is_table) (d__law_is_row : Def P w K mg base "_law_is_row" 2 2 m__law_is_row) (z_len : mg "len" = none) (z_isinstance : mg "isinstance" = none) (z_tuple : mg "tuple" = none) : Def P w K mg base "_law_is_table" 3 1 m__law_is_table := by
  have sc : FnScope N__law_is_table ["told"] (defScope s__law_is_table) := ⟨rfl, rfl, rfl, by decide +kernel, rfl, by decide +kernel, by decide +kernel⟩
  refine F.mk sc rfl rfl (fun _ _ _ _ _ _ us hl => match us, hl with | [_], _ => rfl) fun cdv A outer s H E hr => ?_
  exact (dss_cons (ds_if (dt_w (dw_or (dt_not (dt_val (dv_isi (T := Ty.tuple) (by rfl) z_isinstance rfl (by rfl) z_tuple (by decide +kernel) (dv_var (pv 0))))) (dw_or1 (dt_cmp (o_ne hr.units) (dv_blt c_len (by rfl) z_len (by decide +kernel) (da_cons (dv_var (pv 0)) da_nil)) dv_int)))) (dss_one (ds_ret dv_bl)) dss_nil) (dss_cons (ds_for PassesOwn.never rfl (di_seq (dv_var (pv 0))) (dg_name (pg_name (i := 1) sc.nd rfl (by first | exact Or.inl rfl | exact Or.inr rfl))) (dss_one (ds_if (dt_not (dt_val (dv_callD d__law_is_row hr (da_cons (dv_var (pv 1)) (da_cons dv_int da_nil))))) (dss_one (ds_ret dv_bl)) dss_nil))) (dss_one (ds_ret dv_bl))))
abbrev s__law_cell : Stmt := top 40
noncomputable def b__law_cell : ES := (sSeq (sIf (bVal (eBin gLt (eVar 1) (eAll mLen (aCons (eVar 0) aNil)))) (sRet (eBin gIx (eVar 0) (eVar 1))) sNx) (sSeq (sSet 2 (eC (.int 17))) (sSeq (sFor (iSeq (eVar 0)) (gNm 3) (sSet 2 (eBin gMod (eAll mInt (aCons (eBin gAdd (eBin gMul (eVar 2) (eC (.int 31))) (eBin gMod (eAll mInt (aCons (eVar 3) aNil)) (eC (.int 1000003)))) aNil)) (eC (.int 1000003))))) (sRet (eBin gMod (eAll mInt (aCons (eBin gMul (eBin gMul (eBin gAdd (eVar 2) (eC (.int 7))) (eBin gAdd (eVar 1) (eC (.int 3)))) (eC (.int 69621))) aNil)) (eC (.int 2147483647)))))))
noncomputable def m__law_cell : List PyData → Option PyData := runD 2 b__law_cell
abbrev N__law_cell : List Str := ["script", "k", "seed", "cell"]
theorem ok__law_cell (F : Fd K mg "_law_cell" s__law_cell) (z_len : mg "len" = none) (z_int : mg "int" = none) : Def P w K mg base "_law_cell" 1 2 m__law_cell := by
  have sc : FnScope N__law_cell ["script", "k"] (defScope s__law_cell) := ⟨rfl, rfl, rfl, by decide +kernel, rfl, by decide +kernel, by decide +kernel⟩
  refine F.mk sc rfl rfl (fun _ _ _ _ _ _ us hl => match us, hl with | [_, _], _ => rfl) fun cdv A outer s H E hr => ?_
  exact (dss_cons (ds_if (dt_cmp o_lt (dv_var (pv 1)) (dv_blt c_len (by rfl) z_len (by decide +kernel) (da_cons (dv_var (pv 0)) da_nil))) (dss_one (ds_ret (dv_ix ix_g (dv_var (pv 0)) (dv_var (pv 1))))) dss_nil) (dss_cons (ds_set (i := 2) sc.nd rfl (by first | exact Or.inl rfl | exact Or.inr rfl) dv_int) (dss_cons (ds_for PassesOwn.never rfl (di_seq (dv_var (pv 0))) (dg_name (pg_name (i := 3) sc.nd rfl (by first | exact Or.inl rfl | exact Or.inr rfl))) (dss_one (ds_set (i := 2) sc.nd rfl (by first | exact Or.inl rfl | exact Or.inr rfl) (dv_bin o_mod (dv_ty c_int (by rfl) z_int (by decide +kernel) (da_cons (dv_bin o_add (dv_bin o_mul (dv_var (pv 2)) dv_int) (dv_bin o_mod (dv_ty c_int (by rfl) z_int (by decide +kernel) (da_cons (dv_var (pv 3)) da_nil)) dv_int)) da_nil)) dv_int)))) (dss_one (ds_ret (dv_bin o_mod (dv_ty c_int (by rfl) z_int (by decide +kernel) (da_cons (dv_bin o_mul (dv_bin o_mul (dv_bin o_add (dv_var (pv 2)) dv_int) (dv_bin o_add (dv_var (pv 1)) dv_int)) dv_int) da_nil)) dv_int))))))
abbrev s__law_digits : Stmt := top 41
noncomputable def b__law_digits : ES := (sSeq (sOwn 2 aNil) (sSeq (sSet 3 (eAll mInt (aCons (eVar 0) aNil))) (sSeq (sIf (bVal (eBin gGe (eVar 3) (eBin gPow (eC (.int 10)) (eC (.int 18))))) (sSeq (sSet 3 (eBin gSub (eVar 3) (eBin gPow (eC (.int 10)) (eC (.int 18))))) (sSeq (sFor (iSeq (eVar 1)) (gNm 4) (sSeq (sApp 2 (eBin gMod (eAll mInt (aCons (eVar 3) aNil)) (eVar 4))) (sSet 3 (eBin gFdiv (eAll mInt (aCons (eVar 3) aNil)) (eVar 4))))) (sFrz [2] (sRet (eVar 2))))) sNx) (sSeq (sSet 5 (eBin gMod (eAll mInt (aCons (eVar 3) aNil)) (eC (.int 2147483629)))) (sSeq (sFor (iRg1 (eAll mLen (aCons (eVar 1) aNil))) (gNm 6) (sSeq (sSet 5 (eBin gMod (eAll mInt (aCons (eBin gAdd (eBin gAdd (eBin gMul (eVar 5) (eC (.int 48271))) (eBin gMul (eC (.int 974711)) (eVar 6))) (eC (.int 12345))) aNil)) (eC (.int 2147483647)))) (sSeq (sSet 7 (eBin gMod (eAll mInt (aCons (eBin gMul (eVar 5) (eBin gAdd (eBin gFdiv (eVar 5) (eC (.int 65537))) (eC (.int 3)))) aNil)) (eC (.int 2147483629)))) (sApp 2 (eBin gMod (eBin gFdiv (eVar 7) (eC (.int 19))) (eBin gIx (eVar 1) (eVar 6))))))) (sFrz [2] (sRet (eVar 2))))))))
noncomputable def m__law_digits : List PyData → Option PyData := runD 6 b__law_digits
abbrev N__law_digits : List Str := ["cell", "limits", "row", "rest", "limit", "seed", "k", "twice"]
theorem ok__law_digits (F : Fd K mg "_law_digits" s__law_digits) (z_int : mg "int" = none) (z_range : mg "range" = none) (z_len : mg "len" = none) : Def P w K mg base "_law_digits" 1 2 m__law_digits := by
  have sc : FnScope N__law_digits ["cell", "limits"] (defScope s__law_digits) := ⟨rfl, rfl, rfl, by decide +kernel, rfl, by decide +kernel, by decide +kernel⟩
  refine F.mk sc rfl rfl (fun _ _ _ _ _ _ us hl => match us, hl with | [_, _], _ => rfl) fun cdv A outer s H E hr => ?_
  exact (dss_cons (ds_own (i := 2) sc.nd rfl (by first | exact Or.inl rfl | exact Or.inr rfl) (df_lst da_nil)) (dss_cons (ds_set (i := 3) sc.nd rfl (by first | exact Or.inl rfl | exact Or.inr rfl) (dv_ty c_int (by rfl) z_int (by decide +kernel) (da_cons (dv_var (pv 0)) da_nil))) (dss_cons (ds_if (dt_cmp o_ge (dv_var (pv 3)) (dv_bin o_pow dv_int dv_int)) (dss_cons (ds_set (i := 3) sc.nd rfl (by first | exact Or.inl rfl | exact Or.inr rfl) (dv_bin o_sub (dv_var (pv 3)) (dv_bin o_pow dv_int dv_int))) (dss_cons (ds_for PassesOwn.never rfl (di_seq (dv_var (pv 1))) (dg_name (pg_name (i := 4) sc.nd rfl (by first | exact Or.inl rfl | exact Or.inr rfl))) (dss_cons (ds_app (i := 2) (pv 2) (dv_bin o_mod (dv_ty c_int (by rfl) z_int (by decide +kernel) (da_cons (dv_var (pv 3)) da_nil)) (dv_var (pv 4)))) (dss_one (ds_set (i := 3) sc.nd rfl (by first | exact Or.inl rfl | exact Or.inr rfl) (dv_bin o_fdiv (dv_ty c_int (by rfl) z_int (by decide +kernel) (da_cons (dv_var (pv 3)) da_nil)) (dv_var (pv 4))))))) (dss_one (ds_frz (S := [2]) (ds_ret (dv_var (pv 2))))))) dss_nil) (dss_cons (ds_set (i := 5) sc.nd rfl (by first | exact Or.inl rfl | exact Or.inr rfl) (dv_bin o_mod (dv_ty c_int (by rfl) z_int (by decide +kernel) (da_cons (dv_var (pv 3)) da_nil)) dv_int)) (dss_cons (ds_for PassesOwn.never rfl (di_rg1 (by rfl) z_range (dv_blt c_len (by rfl) z_len (by decide +kernel) (da_cons (dv_var (pv 1)) da_nil))) (dg_name (pg_name (i := 6) sc.nd rfl (by first | exact Or.inl rfl | exact Or.inr rfl))) (dss_cons (ds_set (i := 5) sc.nd rfl (by first | exact Or.inl rfl | exact Or.inr rfl) (dv_bin o_mod (dv_ty c_int (by rfl) z_int (by decide +kernel) (da_cons (dv_bin o_add (dv_bin o_add (dv_bin o_mul (dv_var (pv 5)) dv_int) (dv_bin o_mul dv_int (dv_var (pv 6)))) dv_int) da_nil)) dv_int)) (dss_cons (ds_set (i := 7) sc.nd rfl (by first | exact Or.inl rfl | exact Or.inr rfl) (dv_bin o_mod (dv_ty c_int (by rfl) z_int (by decide +kernel) (da_cons (dv_bin o_mul (dv_var (pv 5)) (dv_bin o_add (dv_bin o_fdiv (dv_var (pv 5)) dv_int) dv_int)) da_nil)) dv_int)) (dss_one (ds_app (i := 2) (pv 2) (dv_bin o_mod (dv_bin o_fdiv (dv_var (pv 7)) dv_int) (dv_ix ix_g (dv_var (pv 1)) (dv_var (pv 6))))))))) (dss_one (ds_frz (S := [2]) (ds_ret (dv_var (pv 2))))))))))
abbrev s__law_number : Stmt := top 42
noncomputable def b__law_number : ES := (sSeq (sSet 1 (eCall m__law_digits (aCons (eVar 0) (aCons (eOfF (aCons (eC (.int 8)) (aCons (eC (.int 2)) (aCons (eC (.int 100000)) (aCons (eC (.int 100000)) (aCons (eC (.int 100000)) (aCons (eC (.int 100000)) (aCons (eC (.int 100000)) (aCons (eC (.int 100000)) aNil))))))))) aNil)))) (sSeq (sSet 2 (eBin gMod (eAll mInt (aCons (eBin gIx (eVar 1) (eC (.int 2))) aNil)) (eBin gIx (eOfF (aCons (eC (.int 1)) (aCons (eC (.int 4)) (aCons (eC (.int 4)) (aCons (eC (.int 31)) (aCons (eC (.int 31)) (aCons (eC (.int 100000)) (aCons (eC (.int 100000)) (aCons (eC (.int 100000)) aNil))))))))) (eBin gIx (eVar 1) (eC (.int 0)))))) (sSeq (sIf (bVal (eBin gEq (eBin gIx (eVar 1) (eC (.int 0))) (eC (.int 6)))) (sSet 2 (eBin gAdd (eBin gMul (eBin gIx (eVar 1) (eC (.int 2))) (eC (.int 100000))) (eBin gIx (eVar 1) (eC (.int 3))))) sNx) (sSeq (sIf (bVal (eBin gEq (eBin gIx (eVar 1) (eC (.int 0))) (eC (.int 7)))) (sFor (iSeq (eSl (eVar 1) (oSome (eC (.int 3))) oNone)) (gNm 3) (sSet 2 (eBin gAdd (eBin gMul (eVar 2) (eC (.int 100000))) (eVar 3)))) sNx) (sRet (eBin gMul (eVar 2) (eBin gSub (eC (.int 1)) (eBin gMul (eC (.int 2)) (eBin gIx (eVar 1) (eC (.int 1)))))))))))
noncomputable def m__law_number : List PyData → Option PyData := runD 3 b__law_number
abbrev N__law_number : List Str := ["cell", "row", "number", "digit"]
theorem ok__law_number (F : Fd K mg "_law_number" s__law_number) (d__law_digits : Def P w K mg base "_law_digits" 1 2 m__law_digits) (z_int : mg "int" = none) : Def P w K mg base "_law_number" 2 1 m__law_number := by
  have sc : FnScope N__law_number ["cell"] (defScope s__law_number) := ⟨rfl, rfl, rfl, by decide +kernel, rfl, by decide +kernel, by decide +kernel⟩
  refine F.mk sc rfl rfl (fun _ _ _ _ _ _ us hl => match us, hl with | [_], _ => rfl) fun cdv A outer s H E hr => ?_
  exact (dss_cons (ds_set (i := 1) sc.nd rfl (by first | exact Or.inl rfl | exact Or.inr rfl) (dv_callD d__law_digits hr (da_cons (dv_var (pv 0)) (da_cons (dv_ofF (df_lst (da_cons dv_int (da_cons dv_int (da_cons dv_int (da_cons dv_int (da_cons dv_int (da_cons dv_int (da_cons dv_int (da_cons dv_int da_nil)))))))))) da_nil)))) (dss_cons (ds_set (i := 2) sc.nd rfl (by first | exact Or.inl rfl | exact Or.inr rfl) (dv_bin o_mod (dv_ty c_int (by rfl) z_int (by decide +kernel) (da_cons (dv_ix ix_g (dv_var (pv 1)) dv_int) da_nil)) (dv_ix ix_g (dv_ofF (df_lst (da_cons dv_int (da_cons dv_int (da_cons dv_int (da_cons dv_int (da_cons dv_int (da_cons dv_int (da_cons dv_int (da_cons dv_int da_nil)))))))))) (dv_ix ix_g (dv_var (pv 1)) dv_int)))) (dss_cons (ds_if (dt_cmp (o_eq hr.units) (dv_ix ix_g (dv_var (pv 1)) dv_int) dv_int) (dss_one (ds_set (i := 2) sc.nd rfl (by first | exact Or.inl rfl | exact Or.inr rfl) (dv_bin o_add (dv_bin o_mul (dv_ix ix_g (dv_var (pv 1)) dv_int) dv_int) (dv_ix ix_g (dv_var (pv 1)) dv_int)))) dss_nil) (dss_cons (ds_if (dt_cmp (o_eq hr.units) (dv_ix ix_g (dv_var (pv 1)) dv_int) dv_int) (dss_one (ds_for PassesOwn.never rfl (di_seq (dv_sl (dv_var (pv 1)) (do_some dv_int) do_none)) (dg_name (pg_name (i := 3) sc.nd rfl (by first | exact Or.inl rfl | exact Or.inr rfl))) (dss_one (ds_set (i := 2) sc.nd rfl (by first | exact Or.inl rfl | exact Or.inr rfl) (dv_bin o_add (dv_bin o_mul (dv_var (pv 2)) dv_int) (dv_var (pv 3))))))) dss_nil) (dss_one (ds_ret (dv_bin o_mul (dv_var (pv 2)) (dv_bin o_sub dv_int (dv_bin o_mul dv_int (dv_ix ix_g (dv_var (pv 1)) dv_int))))))))))
abbrev s__law_dot : Stmt := top 43
noncomputable def b__law_dot : ES := (sRet (eBin gAdd (eBin gAdd (eBin gMul (eBin gIx (eVar 0) (eC (.int 0))) (eBin gIx (eVar 1) (eC (.int 0)))) (eBin gMul (eBin gIx (eVar 0) (eC (.int 1))) (eBin gIx (eVar 1) (eC (.int 1))))) (eBin gMul (eBin gIx (eVar 0) (eC (.int 2))) (eBin gIx (eVar 1) (eC (.int 2))))))
noncomputable def m__law_dot : List PyData → Option PyData := runD 0 b__law_dot
abbrev N__law_dot : List Str := ["one", "two"]
theorem ok__law_dot (F : Fd K mg "_law_dot" s__law_dot) : Def P w K mg base "_law_dot" 1 2 m__law_dot := by
  have sc : FnScope N__law_dot ["one", "two"] (defScope s__law_dot) := ⟨rfl, rfl, rfl, by decide +kernel, rfl, by decide +kernel, by decide +kernel⟩
  refine F.mk sc rfl rfl (fun _ _ _ _ _ _ us hl => match us, hl with | [_, _], _ => rfl) fun cdv A outer s H E hr => ?_
  exact (dss_one (ds_ret (dv_bin o_add (dv_bin o_add (dv_bin o_mul (dv_ix ix_g (dv_var (pv 0)) dv_int) (dv_ix ix_g (dv_var (pv 1)) dv_int)) (dv_bin o_mul (dv_ix ix_g (dv_var (pv 0)) dv_int) (dv_ix ix_g (dv_var (pv 1)) dv_int))) (dv_bin o_mul (dv_ix ix_g (dv_var (pv 0)) dv_int) (dv_ix ix_g (dv_var (pv 1)) dv_int)))))
abbrev s__law_cross : Stmt := top 44
noncomputable def b__law_cross : ES := (sRet (eTup (aCons (eBin gSub (eBin gMul (eBin gIx (eVar 0) (eC (.int 1))) (eBin gIx (eVar 1) (eC (.int 2)))) (eBin gMul (eBin gIx (eVar 0) (eC (.int 2))) (eBin gIx (eVar 1) (eC (.int 1))))) (aCons (eBin gSub (eBin gMul (eBin gIx (eVar 0) (eC (.int 2))) (eBin gIx (eVar 1) (eC (.int 0)))) (eBin gMul (eBin gIx (eVar 0) (eC (.int 0))) (eBin gIx (eVar 1) (eC (.int 2))))) (aCons (eBin gSub (eBin gMul (eBin gIx (eVar 0) (eC (.int 0))) (eBin gIx (eVar 1) (eC (.int 1)))) (eBin gMul (eBin gIx (eVar 0) (eC (.int 1))) (eBin gIx (eVar 1) (eC (.int 0))))) aNil)))))
noncomputable def m__law_cross : List PyData → Option PyData := runD 0 b__law_cross
abbrev N__law_cross : List Str := ["one", "two"]
theorem ok__law_cross (F : Fd K mg "_law_cross" s__law_cross) : Def P w K mg base "_law_cross" 1 2 m__law_cross := by
  have sc : FnScope N__law_cross ["one", "two"] (defScope s__law_cross) := ⟨rfl, rfl, rfl, by decide +kernel, rfl, by decide +kernel, by decide +kernel⟩
  refine F.mk sc rfl rfl (fun _ _ _ _ _ _ us hl => match us, hl with | [_, _], _ => rfl) fun cdv A outer s H E hr => ?_
  exact (dss_one (ds_ret (dv_tup (da_cons (dv_bin o_sub (dv_bin o_mul (dv_ix ix_g (dv_var (pv 0)) dv_int) (dv_ix ix_g (dv_var (pv 1)) dv_int)) (dv_bin o_mul (dv_ix ix_g (dv_var (pv 0)) dv_int) (dv_ix ix_g (dv_var (pv 1)) dv_int))) (da_cons (dv_bin o_sub (dv_bin o_mul (dv_ix ix_g (dv_var (pv 0)) dv_int) (dv_ix ix_g (dv_var (pv 1)) dv_int)) (dv_bin o_mul (dv_ix ix_g (dv_var (pv 0)) dv_int) (dv_ix ix_g (dv_var (pv 1)) dv_int))) (da_cons (dv_bin o_sub (dv_bin o_mul (dv_ix ix_g (dv_var (pv 0)) dv_int) (dv_ix ix_g (dv_var (pv 1)) dv_int)) (dv_bin o_mul (dv_ix ix_g (dv_var (pv 0)) dv_int) (dv_ix ix_g (dv_var (pv 1)) dv_int))) da_nil))))))
abbrev s__law_times : Stmt := top 45
noncomputable def b__law_times : ES := (sRet (eTup (aCons (eBin gMul (eVar 0) (eBin gIx (eVar 1) (eC (.int 0)))) (aCons (eBin gMul (eVar 0) (eBin gIx (eVar 1) (eC (.int 1)))) (aCons (eBin gMul (eVar 0) (eBin gIx (eVar 1) (eC (.int 2)))) aNil)))))
noncomputable def m__law_times : List PyData → Option PyData := runD 0 b__law_times
abbrev N__law_times : List Str := ["number", "row"]
theorem ok__law_times (F : Fd K mg "_law_times" s__law_times) : Def P w K mg base "_law_times" 1 2 m__law_times := by
  have sc : FnScope N__law_times ["number", "row"] (defScope s__law_times) := ⟨rfl, rfl, rfl, by decide +kernel, rfl, by decide +kernel, by decide +kernel⟩
  refine F.mk sc rfl rfl (fun _ _ _ _ _ _ us hl => match us, hl with | [_, _], _ => rfl) fun cdv A outer s H E hr => ?_
  exact (dss_one (ds_ret (dv_tup (da_cons (dv_bin o_mul (dv_var (pv 0)) (dv_ix ix_g (dv_var (pv 1)) dv_int)) (da_cons (dv_bin o_mul (dv_var (pv 0)) (dv_ix ix_g (dv_var (pv 1)) dv_int)) (da_cons (dv_bin o_mul (dv_var (pv 0)) (dv_ix ix_g (dv_var (pv 1)) dv_int)) da_nil))))))
abbrev s__law_image : Stmt := top 46
noncomputable def b__law_image : ES := (sRet (eTup (aCons (eCall m__law_dot (aCons (eBin gIx (eVar 0) (eC (.int 0))) (aCons (eVar 1) aNil))) (aCons (eCall m__law_dot (aCons (eBin gIx (eVar 0) (eC (.int 1))) (aCons (eVar 1) aNil))) (aCons (eCall m__law_dot (aCons (eBin gIx (eVar 0) (eC (.int 2))) (aCons (eVar 1) aNil))) aNil)))))
noncomputable def m__law_image : List PyData → Option PyData := runD 0 b__law_image
abbrev N__law_image : List Str := ["table", "row"]
theorem ok__law_image (F : Fd K mg "_law_image" s__law_image) (d__law_dot : Def P w K mg base "_law_dot" 1 2 m__law_dot) : Def P w K mg base "_law_image" 2 2 m__law_image := by
  have sc : FnScope N__law_image ["table", "row"] (defScope s__law_image) := ⟨rfl, rfl, rfl, by decide +kernel, rfl, by decide +kernel, by decide +kernel⟩
  refine F.mk sc rfl rfl (fun _ _ _ _ _ _ us hl => match us, hl with | [_, _], _ => rfl) fun cdv A outer s H E hr => ?_
  exact (dss_one (ds_ret (dv_tup (da_cons (dv_callD d__law_dot hr (da_cons (dv_ix ix_g (dv_var (pv 0)) dv_int) (da_cons (dv_var (pv 1)) da_nil))) (da_cons (dv_callD d__law_dot hr (da_cons (dv_ix ix_g (dv_var (pv 0)) dv_int) (da_cons (dv_var (pv 1)) da_nil))) (da_cons (dv_callD d__law_dot hr (da_cons (dv_ix ix_g (dv_var (pv 0)) dv_int) (da_cons (dv_var (pv 1)) da_nil))) da_nil))))))
abbrev s__law_turned : Stmt := top 47
noncomputable def b__law_turned : ES := (sRet (eAll mTuple (aCons (eOfF (fComp (iRg1 (eC (.int 3))) (gNm 1) bYes (eTup (aCons (eBin gIx (eBin gIx (eVar 0) (eC (.int 0))) (eVar 1)) (aCons (eBin gIx (eBin gIx (eVar 0) (eC (.int 1))) (eVar 1)) (aCons (eBin gIx (eBin gIx (eVar 0) (eC (.int 2))) (eVar 1)) aNil)))) [1])) aNil)))
noncomputable def m__law_turned : List PyData → Option PyData := runD 1 b__law_turned
abbrev N__law_turned : List Str := ["table", "k"]
theorem ok__law_turned (F : Fd K mg "_law_turned" s__law_turned) (z_range : mg "range" = none) (z_tuple : mg "tuple" = none) : Def P w K mg base "_law_turned" 1 1 m__law_turned := by
  have sc : FnScope N__law_turned ["table"] (defScope s__law_turned) := ⟨rfl, rfl, rfl, by decide +kernel, rfl, by decide +kernel, by decide +kernel⟩
  refine F.mk sc rfl rfl (fun _ _ _ _ _ _ us hl => match us, hl with | [_], _ => rfl) fun cdv A outer s H E hr => ?_
  exact (dss_one (ds_ret (dv_ty c_tuple (by rfl) z_tuple (by decide +kernel) (da_cons (dv_ofF (df_comp (own := [("k", 1)]) rfl sc.nd (di_rg1 (by rfl) z_range dv_int) (blkOk_by (N := N__law_turned) (sc := defScope s__law_turned) (by decide +kernel)) (fun _ _ _ _ _ => (dg_name (pg_name (i := 1) sc.nd rfl (by first | exact Or.inl rfl | exact Or.inr rfl)))) (fun _ _ _ _ _ => dx_nil) (fun _ _ _ _ _ => (dv_tup (da_cons (dv_ix ix_g (dv_ix ix_g (dv_var (pv 0)) dv_int) (dv_var (pv 1))) (da_cons (dv_ix ix_g (dv_ix ix_g (dv_var (pv 0)) dv_int) (dv_var (pv 1))) (da_cons (dv_ix ix_g (dv_ix ix_g (dv_var (pv 0)) dv_int) (dv_var (pv 1))) da_nil))))))) da_nil))))
abbrev s__law_product : Stmt := top 48
noncomputable def b__law_product : ES := (sSeq (sSet 2 (eCall m__law_turned (aCons (eVar 1) aNil))) (sRet (eAll mTuple (aCons (eOfF (fComp (iSeq (eVar 0)) (gNm 3) bYes (eTup (aCons (eCall m__law_dot (aCons (eVar 3) (aCons (eBin gIx (eVar 2) (eC (.int 0))) aNil))) (aCons (eCall m__law_dot (aCons (eVar 3) (aCons (eBin gIx (eVar 2) (eC (.int 1))) aNil))) (aCons (eCall m__law_dot (aCons (eVar 3) (aCons (eBin gIx (eVar 2) (eC (.int 2))) aNil))) aNil)))) [3])) aNil))))
noncomputable def m__law_product : List PyData → Option PyData := runD 2 b__law_product
abbrev N__law_product : List Str := ["one", "two", "sides", "line"]
theorem ok__law_product (F : Fd K mg "_law_product" s__law_product) (d__law_turned : Def P w K mg base "_law_turned" 1 1 m__law_turned) (d__law_dot : Def P w K mg base "_law_dot" 1 2 m__law_dot) (z_tuple : mg "tuple" = none) : Def P w K mg base "_law_product" 2 2 m__law_product := by
  have sc : FnScope N__law_product ["one", "two"] (defScope s__law_product) := ⟨rfl, rfl, rfl, by decide +kernel, rfl, by decide +kernel, by decide +kernel⟩
  refine F.mk sc rfl rfl (fun _ _ _ _ _ _ us hl => match us, hl with | [_, _], _ => rfl) fun cdv A outer s H E hr => ?_
  exact (dss_cons (ds_set (i := 2) sc.nd rfl (by first | exact Or.inl rfl | exact Or.inr rfl) (dv_callD d__law_turned hr (da_cons (dv_var (pv 1)) da_nil))) (dss_one (ds_ret (dv_ty c_tuple (by rfl) z_tuple (by decide +kernel) (da_cons (dv_ofF (df_comp (own := [("line", 3)]) rfl sc.nd (di_seq (dv_var (pv 0))) (blkOk_by (N := N__law_product) (sc := defScope s__law_product) (by decide +kernel)) (fun _ _ _ _ _ => (dg_name (pg_name (i := 3) sc.nd rfl (by first | exact Or.inl rfl | exact Or.inr rfl)))) (fun _ _ _ _ _ => dx_nil) (fun _ _ _ _ _ => (dv_tup (da_cons (dv_callD d__law_dot hr (da_cons (dv_var (pv 3)) (da_cons (dv_ix ix_g (dv_var (pv 2)) dv_int) da_nil))) (da_cons (dv_callD d__law_dot hr (da_cons (dv_var (pv 3)) (da_cons (dv_ix ix_g (dv_var (pv 2)) dv_int) da_nil))) (da_cons (dv_callD d__law_dot hr (da_cons (dv_var (pv 3)) (da_cons (dv_ix ix_g (dv_var (pv 2)) dv_int) da_nil))) da_nil))))))) da_nil)))))
abbrev s__law_determinant : Stmt := top 49
noncomputable def b__law_determinant : ES := (sRet (eCall m__law_dot (aCons (eBin gIx (eVar 0) (eC (.int 0))) (aCons (eCall m__law_cross (aCons (eBin gIx (eVar 0) (eC (.int 1))) (aCons (eBin gIx (eVar 0) (eC (.int 2))) aNil))) aNil))))
noncomputable def m__law_determinant : List PyData → Option PyData := runD 0 b__law_determinant
abbrev N__law_determinant : List Str := ["table"]
theorem ok__law_determinant (F : Fd K mg "_law_determinant" s__law_determinant) (d__law_cross : Def P w K mg base "_law_cross" 1 2 m__law_cross) (d__law_dot : Def P w K mg base "_law_dot" 1 2 m__law_dot) : Def P w K mg base "_law_determinant" 2 1 m__law_determinant := by
  have sc : FnScope N__law_determinant ["table"] (defScope s__law_determinant) := ⟨rfl, rfl, rfl, by decide +kernel, rfl, by decide +kernel, by decide +kernel⟩
  refine F.mk sc rfl rfl (fun _ _ _ _ _ _ us hl => match us, hl with | [_], _ => rfl) fun cdv A outer s H E hr => ?_
  exact (dss_one (ds_ret (dv_callD d__law_dot hr (da_cons (dv_ix ix_g (dv_var (pv 0)) dv_int) (da_cons (dv_callD d__law_cross hr (da_cons (dv_ix ix_g (dv_var (pv 0)) dv_int) (da_cons (dv_ix ix_g (dv_var (pv 0)) dv_int) da_nil))) da_nil)))))
abbrev s__law_gram : Stmt := top 50
noncomputable def b__law_gram : ES := (sRet (eTup (aCons (eTup (aCons (eBin gIx (eVar 0) (eC (.int 0))) (aCons (eBin gIx (eVar 0) (eC (.int 5))) (aCons (eBin gIx (eVar 0) (eC (.int 4))) aNil)))) (aCons (eTup (aCons (eBin gIx (eVar 0) (eC (.int 5))) (aCons (eBin gIx (eVar 0) (eC (.int 1))) (aCons (eBin gIx (eVar 0) (eC (.int 3))) aNil)))) (aCons (eTup (aCons (eBin gIx (eVar 0) (eC (.int 4))) (aCons (eBin gIx (eVar 0) (eC (.int 3))) (aCons (eBin gIx (eVar 0) (eC (.int 2))) aNil)))) aNil)))))
noncomputable def m__law_gram : List PyData → Option PyData := runD 0 b__law_gram
abbrev N__law_gram : List Str := ["form"]
theorem ok__law_gram (F : Fd K mg "_law_gram" s__law_gram) : Def P w K mg base "_law_gram" 1 1 m__law_gram := by
  have sc : FnScope N__law_gram ["form"] (defScope s__law_gram) := ⟨rfl, rfl, rfl, by decide +kernel, rfl, by decide +kernel, by decide +kernel⟩
  refine F.mk sc rfl rfl (fun _ _ _ _ _ _ us hl => match us, hl with | [_], _ => rfl) fun cdv A outer s H E hr => ?_
  exact (dss_one (ds_ret (dv_tup (da_cons (dv_tup (da_cons (dv_ix ix_g (dv_var (pv 0)) dv_int) (da_cons (dv_ix ix_g (dv_var (pv 0)) dv_int) (da_cons (dv_ix ix_g (dv_var (pv 0)) dv_int) da_nil)))) (da_cons (dv_tup (da_cons (dv_ix ix_g (dv_var (pv 0)) dv_int) (da_cons (dv_ix ix_g (dv_var (pv 0)) dv_int) (da_cons (dv_ix ix_g (dv_var (pv 0)) dv_int) da_nil)))) (da_cons (dv_tup (da_cons (dv_ix ix_g (dv_var (pv 0)) dv_int) (da_cons (dv_ix ix_g (dv_var (pv 0)) dv_int) (da_cons (dv_ix ix_g (dv_var (pv 0)) dv_int) da_nil)))) da_nil))))))
abbrev s__law_value : Stmt := top 51
noncomputable def b__law_value : ES := (sSeq (sSet 2 (eBin gAdd (eBin gAdd (eBin gMul (eBin gMul (eBin gIx (eVar 0) (eC (.int 0))) (eBin gIx (eVar 1) (eC (.int 0)))) (eBin gIx (eVar 1) (eC (.int 0)))) (eBin gMul (eBin gMul (eBin gIx (eVar 0) (eC (.int 1))) (eBin gIx (eVar 1) (eC (.int 1)))) (eBin gIx (eVar 1) (eC (.int 1))))) (eBin gMul (eBin gMul (eBin gIx (eVar 0) (eC (.int 2))) (eBin gIx (eVar 1) (eC (.int 2)))) (eBin gIx (eVar 1) (eC (.int 2)))))) (sRet (eBin gAdd (eVar 2) (eBin gMul (eC (.int 2)) (eBin gAdd (eBin gAdd (eBin gMul (eBin gMul (eBin gIx (eVar 0) (eC (.int 3))) (eBin gIx (eVar 1) (eC (.int 1)))) (eBin gIx (eVar 1) (eC (.int 2)))) (eBin gMul (eBin gMul (eBin gIx (eVar 0) (eC (.int 4))) (eBin gIx (eVar 1) (eC (.int 0)))) (eBin gIx (eVar 1) (eC (.int 2))))) (eBin gMul (eBin gMul (eBin gIx (eVar 0) (eC (.int 5))) (eBin gIx (eVar 1) (eC (.int 0)))) (eBin gIx (eVar 1) (eC (.int 1)))))))))
noncomputable def m__law_value : List PyData → Option PyData := runD 1 b__law_value
abbrev N__law_value : List Str := ["form", "row", "squares"]
theorem ok__law_value (F : Fd K mg "_law_value" s__law_value) : Def P w K mg base "_law_value" 1 2 m__law_value := by
  have sc : FnScope N__law_value ["form", "row"] (defScope s__law_value) := ⟨rfl, rfl, rfl, by decide +kernel, rfl, by decide +kernel, by decide +kernel⟩
  refine F.mk sc rfl rfl (fun _ _ _ _ _ _ us hl => match us, hl with | [_, _], _ => rfl) fun cdv A outer s H E hr => ?_
  exact (dss_cons (ds_set (i := 2) sc.nd rfl (by first | exact Or.inl rfl | exact Or.inr rfl) (dv_bin o_add (dv_bin o_add (dv_bin o_mul (dv_bin o_mul (dv_ix ix_g (dv_var (pv 0)) dv_int) (dv_ix ix_g (dv_var (pv 1)) dv_int)) (dv_ix ix_g (dv_var (pv 1)) dv_int)) (dv_bin o_mul (dv_bin o_mul (dv_ix ix_g (dv_var (pv 0)) dv_int) (dv_ix ix_g (dv_var (pv 1)) dv_int)) (dv_ix ix_g (dv_var (pv 1)) dv_int))) (dv_bin o_mul (dv_bin o_mul (dv_ix ix_g (dv_var (pv 0)) dv_int) (dv_ix ix_g (dv_var (pv 1)) dv_int)) (dv_ix ix_g (dv_var (pv 1)) dv_int)))) (dss_one (ds_ret (dv_bin o_add (dv_var (pv 2)) (dv_bin o_mul dv_int (dv_bin o_add (dv_bin o_add (dv_bin o_mul (dv_bin o_mul (dv_ix ix_g (dv_var (pv 0)) dv_int) (dv_ix ix_g (dv_var (pv 1)) dv_int)) (dv_ix ix_g (dv_var (pv 1)) dv_int)) (dv_bin o_mul (dv_bin o_mul (dv_ix ix_g (dv_var (pv 0)) dv_int) (dv_ix ix_g (dv_var (pv 1)) dv_int)) (dv_ix ix_g (dv_var (pv 1)) dv_int))) (dv_bin o_mul (dv_bin o_mul (dv_ix ix_g (dv_var (pv 0)) dv_int) (dv_ix ix_g (dv_var (pv 1)) dv_int)) (dv_ix ix_g (dv_var (pv 1)) dv_int))))))))
abbrev s__law_back : Stmt := top 52
noncomputable def b__law_back : ES := (sSeq (sSet 1 (eCall m__law_determinant (aCons (eVar 0) aNil))) (sSeq (sSet 2 (eTup (aCons (eCall m__law_cross (aCons (eBin gIx (eVar 0) (eC (.int 1))) (aCons (eBin gIx (eVar 0) (eC (.int 2))) aNil))) (aCons (eCall m__law_cross (aCons (eBin gIx (eVar 0) (eC (.int 2))) (aCons (eBin gIx (eVar 0) (eC (.int 0))) aNil))) (aCons (eCall m__law_cross (aCons (eBin gIx (eVar 0) (eC (.int 0))) (aCons (eBin gIx (eVar 0) (eC (.int 1))) aNil))) aNil))))) (sSeq (sSet 3 (eCall m__law_turned (aCons (eVar 2) aNil))) (sRet (eAll mTuple (aCons (eOfF (fComp (iSeq (eVar 3)) (gNm 4) bYes (eCall m__law_times (aCons (eVar 1) (aCons (eVar 4) aNil))) [4])) aNil))))))
noncomputable def m__law_back : List PyData → Option PyData := runD 4 b__law_back
abbrev N__law_back : List Str := ["table", "sign", "lines", "turned", "line"]
theorem ok__law_back (F : Fd K mg "_law_back" s__law_back) (d__law_determinant : Def P w K mg base "_law_determinant" 2 1 m__law_determinant) (d__law_cross : Def P w K mg base "_law_cross" 1 2 m__law_cross) (d__law_turned : Def P w K mg base "_law_turned" 1 1 m__law_turned) (d__law_times : Def P w K mg base "_law_times" 1 2 m__law_times) (z_tuple : mg "tuple" = none) : Def P w K mg base "_law_back" 3 1 m__law_back := by
  have sc : FnScope N__law_back ["table"] (defScope s__law_back) := ⟨rfl, rfl, rfl, by decide +kernel, rfl, by decide +kernel, by decide +kernel⟩
  refine F.mk sc rfl rfl (fun _ _ _ _ _ _ us hl => match us, hl with | [_], _ => rfl) fun cdv A outer s H E hr => ?_
  exact (dss_cons (ds_set (i := 1) sc.nd rfl (by first | exact Or.inl rfl | exact Or.inr rfl) (dv_callD d__law_determinant hr (da_cons (dv_var (pv 0)) da_nil))) (dss_cons (ds_set (i := 2) sc.nd rfl (by first | exact Or.inl rfl | exact Or.inr rfl) (dv_tup (da_cons (dv_callD d__law_cross hr (da_cons (dv_ix ix_g (dv_var (pv 0)) dv_int) (da_cons (dv_ix ix_g (dv_var (pv 0)) dv_int) da_nil))) (da_cons (dv_callD d__law_cross hr (da_cons (dv_ix ix_g (dv_var (pv 0)) dv_int) (da_cons (dv_ix ix_g (dv_var (pv 0)) dv_int) da_nil))) (da_cons (dv_callD d__law_cross hr (da_cons (dv_ix ix_g (dv_var (pv 0)) dv_int) (da_cons (dv_ix ix_g (dv_var (pv 0)) dv_int) da_nil))) da_nil))))) (dss_cons (ds_set (i := 3) sc.nd rfl (by first | exact Or.inl rfl | exact Or.inr rfl) (dv_callD d__law_turned hr (da_cons (dv_var (pv 2)) da_nil))) (dss_one (ds_ret (dv_ty c_tuple (by rfl) z_tuple (by decide +kernel) (da_cons (dv_ofF (df_comp (own := [("line", 4)]) rfl sc.nd (di_seq (dv_var (pv 3))) (blkOk_by (N := N__law_back) (sc := defScope s__law_back) (by decide +kernel)) (fun _ _ _ _ _ => (dg_name (pg_name (i := 4) sc.nd rfl (by first | exact Or.inl rfl | exact Or.inr rfl)))) (fun _ _ _ _ _ => dx_nil) (fun _ _ _ _ _ => (dv_callD d__law_times hr (da_cons (dv_var (pv 1)) (da_cons (dv_var (pv 4)) da_nil)))))) da_nil)))))))
abbrev s__law_changed : Stmt := top 53
noncomputable def b__law_changed : ES := (sSeq (sSet 2 (eCall m__law_product (aCons (eCall m__law_product (aCons (eCall m__law_turned (aCons (eVar 1) aNil)) (aCons (eCall m__law_gram (aCons (eVar 0) aNil)) aNil))) (aCons (eVar 1) aNil)))) (sRet (eTup (aCons (eBin gIx (eBin gIx (eVar 2) (eC (.int 0))) (eC (.int 0))) (aCons (eBin gIx (eBin gIx (eVar 2) (eC (.int 1))) (eC (.int 1))) (aCons (eBin gIx (eBin gIx (eVar 2) (eC (.int 2))) (eC (.int 2))) (aCons (eBin gIx (eBin gIx (eVar 2) (eC (.int 1))) (eC (.int 2))) (aCons (eBin gIx (eBin gIx (eVar 2) (eC (.int 0))) (eC (.int 2))) (aCons (eBin gIx (eBin gIx (eVar 2) (eC (.int 0))) (eC (.int 1))) aNil)))))))))
noncomputable def m__law_changed : List PyData → Option PyData := runD 1 b__law_changed
abbrev N__law_changed : List Str := ["form", "table", "gram_v"]
theorem ok__law_changed (F : Fd K mg "_law_changed" s__law_changed) (d__law_gram : Def P w K mg base "_law_gram" 1 1 m__law_gram) (d__law_turned : Def P w K mg base "_law_turned" 1 1 m__law_turned) (d__law_product : Def P w K mg base "_law_product" 2 2 m__law_product) : Def P w K mg base "_law_changed" 3 2 m__law_changed := by
  have sc : FnScope N__law_changed ["form", "table"] (defScope s__law_changed) := ⟨rfl, rfl, rfl, by decide +kernel, rfl, by decide +kernel, by decide +kernel⟩
  refine F.mk sc rfl rfl (fun _ _ _ _ _ _ us hl => match us, hl with | [_, _], _ => rfl) fun cdv A outer s H E hr => ?_
  exact (dss_cons (ds_set (i := 2) sc.nd rfl (by first | exact Or.inl rfl | exact Or.inr rfl) (dv_callD d__law_product hr (da_cons (dv_callD d__law_product hr (da_cons (dv_callD d__law_turned hr (da_cons (dv_var (pv 1)) da_nil)) (da_cons (dv_callD d__law_gram hr (da_cons (dv_var (pv 0)) da_nil)) da_nil))) (da_cons (dv_var (pv 1)) da_nil)))) (dss_one (ds_ret (dv_tup (da_cons (dv_ix ix_g (dv_ix ix_g (dv_var (pv 2)) dv_int) dv_int) (da_cons (dv_ix ix_g (dv_ix ix_g (dv_var (pv 2)) dv_int) dv_int) (da_cons (dv_ix ix_g (dv_ix ix_g (dv_var (pv 2)) dv_int) dv_int) (da_cons (dv_ix ix_g (dv_ix ix_g (dv_var (pv 2)) dv_int) dv_int) (da_cons (dv_ix ix_g (dv_ix ix_g (dv_var (pv 2)) dv_int) dv_int) (da_cons (dv_ix ix_g (dv_ix ix_g (dv_var (pv 2)) dv_int) dv_int) da_nil))))))))))
abbrev s__law_step_table : Stmt := top 54
noncomputable def b__law_step_table : ES := (sSeq (sOwn 1 aNil) (sSeq (sFor (iRg1 (eC (.int 3))) (gNm 2) (sSeq (sOwn 3 (fComp (iRg1 (eC (.int 3))) (gNm 4) bYes (eAll mInt (aCons (eBin gEq (eVar 2) (eVar 4)) aNil)) [4])) (sSeq (sIf (bVal (eBin gEq (eVar 2) (eBin gIx (eVar 0) (eC (.int 0))))) (sPut 3 (eBin gIx (eVar 0) (eC (.int 1))) (eBin gIx (eVar 0) (eC (.int 2)))) sNx) (sApp 1 (eTup (aCons (eIxO 3 (eC (.int 0))) (aCons (eIxO 3 (eC (.int 1))) (aCons (eIxO 3 (eC (.int 2))) aNil)))))))) (sFrz [1] (sRet (eAll mTuple (aCons (eVar 1) aNil))))))
noncomputable def m__law_step_table : List PyData → Option PyData := runD 4 b__law_step_table
abbrev N__law_step_table : List Str := ["step", "lines", "i", "line", "j"]
theorem ok__law_step_table (F : Fd K mg "_law_step_table" s__law_step_table) (z_range : mg "range" = none) (z_int : mg "int" = none) (z_tuple : mg "tuple" = none) : Def P w K mg base "_law_step_table" 1 1 m__law_step_table := by
  have sc : FnScope N__law_step_table ["step"] (defScope s__law_step_table) := ⟨rfl, rfl, rfl, by decide +kernel, rfl, by decide +kernel, by decide +kernel⟩
  refine F.mk sc rfl rfl (fun _ _ _ _ _ _ us hl => match us, hl with | [_], _ => rfl) fun cdv A outer s H E hr => ?_
  exact (dss_cons (ds_own (i := 1) sc.nd rfl (by first | exact Or.inl rfl | exact Or.inr rfl) (df_lst da_nil)) (dss_cons (ds_for PassesOwn.never rfl (di_rg1 (by rfl) z_range dv_int) (dg_name (pg_name (i := 2) sc.nd rfl (by first | exact Or.inl rfl | exact Or.inr rfl))) (dss_cons (ds_lc (i := 3) (own := [("j", 4)]) rfl sc.nd rfl rfl (sw_true rfl rfl rfl (by decide +kernel)) (di_rg1 (by rfl) z_range dv_int) (blkOk_by (N := N__law_step_table) (sc := defScope s__law_step_table) (by decide +kernel)) (fun _ _ _ _ _ => (dg_name (pg_name (i := 4) sc.nd rfl (by first | exact Or.inl rfl | exact Or.inr rfl)))) (fun _ _ _ _ _ => dx_nil) (fun _ _ _ _ _ => (dv_ty c_int (by rfl) z_int (by decide +kernel) (da_cons (dv_cmp (o_eq hr.units) (dv_var (pv 2)) (dv_var (pv 4))) da_nil)))) (dss_cons (ds_if (dt_cmp (o_eq hr.units) (dv_var (pv 2)) (dv_ix ix_g (dv_var (pv 0)) dv_int)) (dss_one (ds_put (pv 3) (dv_ix ix_g (dv_var (pv 0)) dv_int) (dv_ix ix_g (dv_var (pv 0)) dv_int) (hgs := pg_sub (pv 3) (dv_ix ix_g (dv_var (pv 0)) dv_int) set_list))) dss_nil) (dss_one (ds_app (i := 1) (pv 1) (dv_tup (da_cons (dv_ixO (pv 3) dv_int) (da_cons (dv_ixO (pv 3) dv_int) (da_cons (dv_ixO (pv 3) dv_int) da_nil))))))))) (dss_one (ds_frz (S := [1]) (ds_ret (dv_ty c_tuple (by rfl) z_tuple (by decide +kernel) (da_cons (dv_var (pv 1)) da_nil)))))))
abbrev s__law_steps_table : Stmt := top 55
noncomputable def b__law_steps_table : ES := (sSeq (sSet 1 (eTup (aCons (eTup (aCons (eC (.int 1)) (aCons (eC (.int 0)) (aCons (eC (.int 0)) aNil)))) (aCons (eTup (aCons (eC (.int 0)) (aCons (eC (.int 1)) (aCons (eC (.int 0)) aNil)))) (aCons (eTup (aCons (eC (.int 0)) (aCons (eC (.int 0)) (aCons (eC (.int 1)) aNil)))) aNil))))) (sSeq (sFor (iSeq (eVar 0)) (gNm 2) (sSet 1 (eCall m__law_product (aCons (eVar 1) (aCons (eCall m__law_step_table (aCons (eVar 2) aNil)) aNil))))) (sRet (eVar 1))))
noncomputable def m__law_steps_table : List PyData → Option PyData := runD 2 b__law_steps_table
abbrev N__law_steps_table : List Str := ["steps", "table", "step"]
theorem ok__law_steps_table (F : Fd K mg "_law_steps_table" s__law_steps_table) (d__law_step_table : Def P w K mg base "_law_step_table" 1 1 m__law_step_table) (d__law_product : Def P w K mg base "_law_product" 2 2 m__law_product) : Def P w K mg base "_law_steps_table" 3 1 m__law_steps_table := by
  have sc : FnScope N__law_steps_table ["steps"] (defScope s__law_steps_table) := ⟨rfl, rfl, rfl, by decide +kernel, rfl, by decide +kernel, by decide +kernel⟩
  refine F.mk sc rfl rfl (fun _ _ _ _ _ _ us hl => match us, hl with | [_], _ => rfl) fun cdv A outer s H E hr => ?_
  exact (dss_cons (ds_set (i := 1) sc.nd rfl (by first | exact Or.inl rfl | exact Or.inr rfl) (dv_tup (da_cons (dv_tup (da_cons dv_int (da_cons dv_int (da_cons dv_int da_nil)))) (da_cons (dv_tup (da_cons dv_int (da_cons dv_int (da_cons dv_int da_nil)))) (da_cons (dv_tup (da_cons dv_int (da_cons dv_int (da_cons dv_int da_nil)))) da_nil))))) (dss_cons (ds_for PassesOwn.never rfl (di_seq (dv_var (pv 0))) (dg_name (pg_name (i := 2) sc.nd rfl (by first | exact Or.inl rfl | exact Or.inr rfl))) (dss_one (ds_set (i := 1) sc.nd rfl (by first | exact Or.inl rfl | exact Or.inr rfl) (dv_callD d__law_product hr (da_cons (dv_var (pv 1)) (da_cons (dv_callD d__law_step_table hr (da_cons (dv_var (pv 2)) da_nil)) da_nil)))))) (dss_one (ds_ret (dv_var (pv 1))))))
abbrev s__law_any_form : Stmt := top 56
noncomputable def b__law_any_form : ES := (sSeq (sSet 2 (eCall m__law_digits (aCons (eVar 0) (aCons (eOfF (aCons (eC (.int 12)) (aCons (eC (.int 4)) (aCons (eC (.int 2)) (aCons (eC (.int 7)) (aCons (eC (.int 7)) (aCons (eC (.int 7)) (aCons (eC (.int 5)) (aCons (eC (.int 5)) (aCons (eC (.int 5)) (aCons (eC (.int 5)) (aCons (eC (.int 5)) (aCons (eC (.int 5)) (aCons (eC (.int 5)) (aCons (eC (.int 5)) (aCons (eC (.int 5)) (aCons (eC (.int 3)) aNil))))))))))))))))) aNil)))) (sSeq (sSet 3 (eOfF (fComp (iSeq (eCall m__law_digits (aCons (eVar 1) (aCons (eOfF (aCons (eC (.int 81)) (aCons (eC (.int 81)) (aCons (eC (.int 81)) (aCons (eC (.int 81)) (aCons (eC (.int 81)) (aCons (eC (.int 81)) aNil))))))) aNil)))) (gNm 15) bYes (eBin gSub (eVar 15) (eC (.int 40))) [15]))) (sSeq (sIf (bVal (eBin gLt (eBin gIx (eVar 2) (eC (.int 0))) (eC (.int 2)))) (sRet (eAll mTuple (aCons (eVar 3) aNil))) sNx) (sSeq (sIf (bVal (eBin gEq (eBin gIx (eVar 2) (eC (.int 0))) (eC (.int 2)))) (sRet (eAll mTuple (aCons (eOfF (fComp (iSeq (eVar 3)) (gNm 16) bYes (eBin gSub (eBin gMod (eAll mInt (aCons (eVar 16) aNil)) (eC (.int 5))) (eC (.int 2))) [16])) aNil))) sNx) (sSeq (sIf (bVal (eBin gEq (eBin gIx (eVar 2) (eC (.int 0))) (eC (.int 3)))) (sRet (eAll mTuple (aCons (eOfF (fComp (iSeq (eVar 3)) (gNm 16) bYes (eBin gIx (eOfF (aCons (eUn gNeg (eC (.int 40))) (aCons (eUn gNeg (eC (.int 39))) (aCons (eC (.int 0)) (aCons (eC (.int 39)) (aCons (eC (.int 40)) aNil)))))) (eBin gMod (eAll mInt (aCons (eVar 16) aNil)) (eC (.int 5)))) [16])) aNil))) sNx) (sSeq (sIf (bVal (eBin gLt (eBin gIx (eVar 2) (eC (.int 0))) (eC (.int 6)))) (sSeq (sSet 4 (eOfF (fComp (iRg1 (eC (.int 6))) (gNm 9) bYes (eBin gMod (eAll mInt (aCons (eBin gFdiv (eBin gIx (eVar 2) (eBin gAdd (eC (.int 3)) (eBin gFdiv (eVar 9) (eC (.int 3))))) (eBin gIx (eOfF (aCons (eC (.int 1)) (aCons (eC (.int 2)) (aCons (eC (.int 4)) aNil)))) (eBin gMod (eAll mInt (aCons (eVar 9) aNil)) (eC (.int 3))))) aNil)) (eC (.int 2))) [9]))) (sRet (eAll mTuple (aCons (eOfF (fComp (iRg1 (eC (.int 6))) (gNm 9) bYes (eBin gMul (eBin gIx (eVar 3) (eVar 9)) (eBin gIx (eVar 4) (eVar 9))) [9])) aNil)))) sNx) (sSeq (sIf (bVal (eBin gEq (eBin gIx (eVar 2) (eC (.int 0))) (eC (.int 6)))) (sRet (eAll mTuple (aCons (eOfF (fComp (iRg1 (eC (.int 6))) (gNm 9) bYes (eBin gMul (eBin gIx (eVar 3) (eVar 9)) (eAll mInt (aCons (eOr (eBin gEq (eVar 9) (eBin gAdd (eC (.int 3)) (eBin gIx (eVar 2) (eC (.int 15))))) (eAnd (eBin gLt (eVar 9) (eC (.int 3))) (eBin gEq (eVar 9) (eBin gIx (eVar 2) (eC (.int 3)))))) aNil))) [9])) aNil))) sNx) (sSeq (sSet 5 (eBin gIx (eVar 2) (eC (.int 1)))) (sSeq (sSet 6 (eOfF (fComp (iSeq (eSl (eVar 2) (oSome (eC (.int 3))) (oSome (eC (.int 6))))) (gNm 15) bYes (eBin gSub (eVar 15) (eC (.int 3))) [15]))) (sSeq (sSetF 7 (fComp (iRg1 (eC (.int 3))) (gNm 9) bYes (eOfF (fComp (iSeq (eSl (eVar 2) (oSome (eBin gAdd (eC (.int 6)) (eBin gMul (eC (.int 3)) (eVar 9)))) (oSome (eBin gAdd (eC (.int 9)) (eBin gMul (eC (.int 3)) (eVar 9)))))) (gNm 15) bYes (eBin gSub (eVar 15) (eC (.int 2))) [15])) [9])) (sSeq (sIf (bVal (eBin gGt (eBin gIx (eVar 2) (eC (.int 0))) (eC (.int 7)))) (sSeq (sSet 5 (eBin gIx (eOfF (aCons (eC (.int 3)) (aCons (eC (.int 3)) (aCons (eC (.int 2)) (aCons (eC (.int 1)) aNil))))) (eBin gIx (eVar 2) (eC (.int 1))))) (sSeq (sSet 6 (eOfF (fComp (iRg1 (eC (.int 3))) (gNm 9) bYes (eBin gMul (eBin gAdd (eC (.int 1)) (eBin gMod (eAll mInt (aCons (eBin gIx (eVar 2) (eBin gAdd (eC (.int 3)) (eVar 9))) aNil)) (eC (.int 3)))) (eBin gSub (eC (.int 1)) (eBin gMul (eC (.int 2)) (eBin gMod (eAll mInt (aCons (eBin gIx (eVar 2) (eBin gAdd (eC (.int 9)) (eVar 9))) aNil)) (eC (.int 2)))))) [9]))) (sSet 7 (eOfF (aCons (eOfF (aCons (eC (.int 1)) (aCons (eBin gSub (eBin gIx (eVar 2) (eC (.int 6))) (eC (.int 2))) (aCons (eBin gSub (eBin gIx (eVar 2) (eC (.int 7))) (eC (.int 2))) aNil)))) (aCons (eOfF (aCons (eC (.int 0)) (aCons (eC (.int 1)) (aCons (eBin gSub (eBin gIx (eVar 2) (eC (.int 8))) (eC (.int 2))) aNil)))) (aCons (eOfF (aCons (eC (.int 0)) (aCons (eC (.int 0)) (aCons (eC (.int 1)) aNil)))) aNil))))))) sNx) (sSeq (sIf (bVal (eBin gGt (eBin gIx (eVar 2) (eC (.int 0))) (eC (.int 9)))) (sSet 6 (eOfF (fComp (iSeq (eVar 6)) (gNm 17) bYes (eBin gMul (eAll mAbs (aCons (eVar 17) aNil)) (eBin gSub (eC (.int 1)) (eBin gMul (eC (.int 2)) (eBin gIx (eVar 2) (eC (.int 2)))))) [17]))) sNx) (sSeq (sSet 8 (eOfF (aCons (eC (.int 0)) (aCons (eC (.int 0)) (aCons (eC (.int 0)) (aCons (eC (.int 0)) (aCons (eC (.int 0)) (aCons (eC (.int 0)) aNil)))))))) (sSeq (sFor (iRg1 (eVar 5)) (gNm 9) (sSeq (sSet 10 (eBin gIx (eVar 7) (eVar 9))) (sSeq (sSet 11 (eBin gIx (eVar 10) (eBin gIx (eVar 2) (eC (.int 15))))) (sSeq (sSet 12 (eBin gIx (eVar 10) (eBin gMod (eAll mInt (aCons (eBin gAdd (eBin gIx (eVar 2) (eC (.int 15))) (eC (.int 1))) aNil)) (eC (.int 3))))) (sSeq (sSet 13 (eBin gIx (eVar 10) (eBin gMod (eAll mInt (aCons (eBin gAdd (eBin gIx (eVar 2) (eC (.int 15))) (eC (.int 2))) aNil)) (eC (.int 3))))) (sSeq (sSet 14 (eTup (aCons (eBin gMul (eVar 11) (eVar 11)) (aCons (eBin gMul (eVar 12) (eVar 12)) (aCons (eBin gMul (eVar 13) (eVar 13)) (aCons (eBin gMul (eVar 12) (eVar 13)) (aCons (eBin gMul (eVar 11) (eVar 13)) (aCons (eBin gMul (eVar 11) (eVar 12)) aNil)))))))) (sSet 8 (eOfF (fComp (iRg1 (eC (.int 6))) (gNm 18) bYes (eBin gAdd (eBin gIx (eVar 8) (eVar 18)) (eBin gMul (eBin gIx (eVar 6) (eVar 9)) (eBin gIx (eVar 14) (eVar 18)))) [18]))))))))) (sRet (eAll mTuple (aCons (eVar 8) aNil)))))))))))))))))
noncomputable def m__law_any_form : List PyData → Option PyData := runD 17 b__law_any_form
abbrev N__law_any_form : List Str := ["cell", "other", "row", "drawn", "kept", "many", "factors", "lines", "form", "k", "line", "x", "y", "z", "term", "digit", "number", "factor", "i"]
theorem ok__law_any_form (F : Fd K mg "_law_any_form" s__law_any_form) (d__law_digits : Def P w K mg base "_law_digits" 1 2 m__law_digits) (z_tuple : mg "tuple" = none) (z_int : mg "int" = none) (z_range : mg "range" = none) (z_abs : mg "abs" = none) : Def P w K mg base "_law_any_form" 2 2 m__law_any_form := by
  have sc : FnScope N__law_any_form ["cell", "other"] (defScope s__law_any_form) := ⟨rfl, rfl, rfl, by decide +kernel, rfl, by decide +kernel, by decide +kernel⟩
  refine F.mk sc rfl rfl (fun _ _ _ _ _ _ us hl => match us, hl with | [_, _], _ => rfl) fun cdv A outer s H E hr => ?_
  exact (dss_cons (ds_set (i := 2) sc.nd rfl (by first | exact Or.inl rfl | exact Or.inr rfl) (dv_callD d__law_digits hr (da_cons (dv_var (pv 0)) (da_cons (dv_ofF (df_lst (da_cons dv_int (da_cons dv_int (da_cons dv_int (da_cons dv_int (da_cons dv_int (da_cons dv_int (da_cons dv_int (da_cons dv_int (da_cons dv_int (da_cons dv_int (da_cons dv_int (da_cons dv_int (da_cons dv_int (da_cons dv_int (da_cons dv_int (da_cons dv_int da_nil)))))))))))))))))) da_nil)))) (dss_cons (ds_set (i := 3) sc.nd rfl (by first | exact Or.inl rfl | exact Or.inr rfl) (dv_ofF (df_comp (own := [("digit", 15)]) rfl sc.nd (di_seq (dv_callD d__law_digits hr (da_cons (dv_var (pv 1)) (da_cons (dv_ofF (df_lst (da_cons dv_int (da_cons dv_int (da_cons dv_int (da_cons dv_int (da_cons dv_int (da_cons dv_int da_nil)))))))) da_nil)))) (blkOk_by (N := N__law_any_form) (sc := defScope s__law_any_form) (by decide +kernel)) (fun _ _ _ _ _ => (dg_name (pg_name (i := 15) sc.nd rfl (by first | exact Or.inl rfl | exact Or.inr rfl)))) (fun _ _ _ _ _ => dx_nil) (fun _ _ _ _ _ => (dv_bin o_sub (dv_var (pv 15)) dv_int))))) (dss_cons (ds_if (dt_cmp o_lt (dv_ix ix_g (dv_var (pv 2)) dv_int) dv_int) (dss_one (ds_ret (dv_ty c_tuple (by rfl) z_tuple (by decide +kernel) (da_cons (dv_var (pv 3)) da_nil)))) dss_nil) (dss_cons (ds_if (dt_cmp (o_eq hr.units) (dv_ix ix_g (dv_var (pv 2)) dv_int) dv_int) (dss_one (ds_ret (dv_ty c_tuple (by rfl) z_tuple (by decide +kernel) (da_cons (dv_ofF (df_comp (own := [("number", 16)]) rfl sc.nd (di_seq (dv_var (pv 3))) (blkOk_by (N := N__law_any_form) (sc := defScope s__law_any_form) (by decide +kernel)) (fun _ _ _ _ _ => (dg_name (pg_name (i := 16) sc.nd rfl (by first | exact Or.inl rfl | exact Or.inr rfl)))) (fun _ _ _ _ _ => dx_nil) (fun _ _ _ _ _ => (dv_bin o_sub (dv_bin o_mod (dv_ty c_int (by rfl) z_int (by decide +kernel) (da_cons (dv_var (pv 16)) da_nil)) dv_int) dv_int)))) da_nil)))) dss_nil) (dss_cons (ds_if (dt_cmp (o_eq hr.units) (dv_ix ix_g (dv_var (pv 2)) dv_int) dv_int) (dss_one (ds_ret (dv_ty c_tuple (by rfl) z_tuple (by decide +kernel) (da_cons (dv_ofF (df_comp (own := [("number", 16)]) rfl sc.nd (di_seq (dv_var (pv 3))) (blkOk_by (N := N__law_any_form) (sc := defScope s__law_any_form) (by decide +kernel)) (fun _ _ _ _ _ => (dg_name (pg_name (i := 16) sc.nd rfl (by first | exact Or.inl rfl | exact Or.inr rfl)))) (fun _ _ _ _ _ => dx_nil) (fun _ _ _ _ _ => (dv_ix ix_g (dv_ofF (df_lst (da_cons (dv_un u_neg dv_int) (da_cons (dv_un u_neg dv_int) (da_cons dv_int (da_cons dv_int (da_cons dv_int da_nil))))))) (dv_bin o_mod (dv_ty c_int (by rfl) z_int (by decide +kernel) (da_cons (dv_var (pv 16)) da_nil)) dv_int))))) da_nil)))) dss_nil) (dss_cons (ds_if (dt_cmp o_lt (dv_ix ix_g (dv_var (pv 2)) dv_int) dv_int) (dss_cons (ds_set (i := 4) sc.nd rfl (by first | exact Or.inl rfl | exact Or.inr rfl) (dv_ofF (df_comp (own := [("k", 9)]) rfl sc.nd (di_rg1 (by rfl) z_range dv_int) (blkOk_by (N := N__law_any_form) (sc := defScope s__law_any_form) (by decide +kernel)) (fun _ _ _ _ _ => (dg_name (pg_name (i := 9) sc.nd rfl (by first | exact Or.inl rfl | exact Or.inr rfl)))) (fun _ _ _ _ _ => dx_nil) (fun _ _ _ _ _ => (dv_bin o_mod (dv_ty c_int (by rfl) z_int (by decide +kernel) (da_cons (dv_bin o_fdiv (dv_ix ix_g (dv_var (pv 2)) (dv_bin o_add dv_int (dv_bin o_fdiv (dv_var (pv 9)) dv_int))) (dv_ix ix_g (dv_ofF (df_lst (da_cons dv_int (da_cons dv_int (da_cons dv_int da_nil))))) (dv_bin o_mod (dv_ty c_int (by rfl) z_int (by decide +kernel) (da_cons (dv_var (pv 9)) da_nil)) dv_int))) da_nil)) dv_int))))) (dss_one (ds_ret (dv_ty c_tuple (by rfl) z_tuple (by decide +kernel) (da_cons (dv_ofF (df_comp (own := [("k", 9)]) rfl sc.nd (di_rg1 (by rfl) z_range dv_int) (blkOk_by (N := N__law_any_form) (sc := defScope s__law_any_form) (by decide +kernel)) (fun _ _ _ _ _ => (dg_name (pg_name (i := 9) sc.nd rfl (by first | exact Or.inl rfl | exact Or.inr rfl)))) (fun _ _ _ _ _ => dx_nil) (fun _ _ _ _ _ => (dv_bin o_mul (dv_ix ix_g (dv_var (pv 3)) (dv_var (pv 9))) (dv_ix ix_g (dv_var (pv 4)) (dv_var (pv 9))))))) da_nil))))) dss_nil) (dss_cons (ds_if (dt_cmp (o_eq hr.units) (dv_ix ix_g (dv_var (pv 2)) dv_int) dv_int) (dss_one (ds_ret (dv_ty c_tuple (by rfl) z_tuple (by decide +kernel) (da_cons (dv_ofF (df_comp (own := [("k", 9)]) rfl sc.nd (di_rg1 (by rfl) z_range dv_int) (blkOk_by (N := N__law_any_form) (sc := defScope s__law_any_form) (by decide +kernel)) (fun _ _ _ _ _ => (dg_name (pg_name (i := 9) sc.nd rfl (by first | exact Or.inl rfl | exact Or.inr rfl)))) (fun _ _ _ _ _ => dx_nil) (fun _ _ _ _ _ => (dv_bin o_mul (dv_ix ix_g (dv_var (pv 3)) (dv_var (pv 9))) (dv_ty c_int (by rfl) z_int (by decide +kernel) (da_cons (dv_or (dv_cmp (o_eq hr.units) (dv_var (pv 9)) (dv_bin o_add dv_int (dv_ix ix_g (dv_var (pv 2)) dv_int))) (dv_one (dv_and (dv_cmp o_lt (dv_var (pv 9)) dv_int) (dv_one (dv_cmp (o_eq hr.units) (dv_var (pv 9)) (dv_ix ix_g (dv_var (pv 2)) dv_int)))))) da_nil)))))) da_nil)))) dss_nil) (dss_cons (ds_set (i := 5) sc.nd rfl (by first | exact Or.inl rfl | exact Or.inr rfl) (dv_ix ix_g (dv_var (pv 2)) dv_int)) (dss_cons (ds_set (i := 6) sc.nd rfl (by first | exact Or.inl rfl | exact Or.inr rfl) (dv_ofF (df_comp (own := [("digit", 15)]) rfl sc.nd (di_seq (dv_sl (dv_var (pv 2)) (do_some dv_int) (do_some dv_int))) (blkOk_by (N := N__law_any_form) (sc := defScope s__law_any_form) (by decide +kernel)) (fun _ _ _ _ _ => (dg_name (pg_name (i := 15) sc.nd rfl (by first | exact Or.inl rfl | exact Or.inr rfl)))) (fun _ _ _ _ _ => dx_nil) (fun _ _ _ _ _ => (dv_bin o_sub (dv_var (pv 15)) dv_int))))) (dss_cons (ds_lcV (i := 7) (own := [("k", 9)]) rfl sc.nd rfl rfl (sw_true rfl rfl rfl (by decide +kernel)) (di_rg1 (by rfl) z_range dv_int) (blkOk_by (N := N__law_any_form) (sc := defScope s__law_any_form) (by decide +kernel)) (fun _ _ _ _ _ => (dg_name (pg_name (i := 9) sc.nd rfl (by first | exact Or.inl rfl | exact Or.inr rfl)))) (fun _ _ _ _ _ => dx_nil) (fun _ _ _ _ _ => (dv_ofF (df_comp (own := [("digit", 15)]) rfl sc.nd (di_seq (dv_sl (dv_var (pv 2)) (do_some (dv_bin o_add dv_int (dv_bin o_mul dv_int (dv_var (pv 9))))) (do_some (dv_bin o_add dv_int (dv_bin o_mul dv_int (dv_var (pv 9))))))) (blkOk_by (N := N__law_any_form) (sc := _) (by kernel_rfl)) (fun _ _ _ _ _ => (dg_name (pg_name (i := 15) sc.nd rfl (by first | exact Or.inl rfl | exact Or.inr rfl)))) (fun _ _ _ _ _ => dx_nil) (fun _ _ _ _ _ => (dv_bin o_sub (dv_var (pv 15)) dv_int)))))) (dss_cons (ds_if (dt_cmp o_gt (dv_ix ix_g (dv_var (pv 2)) dv_int) dv_int) (dss_cons (ds_set (i := 5) sc.nd rfl (by first | exact Or.inl rfl | exact Or.inr rfl) (dv_ix ix_g (dv_ofF (df_lst (da_cons dv_int (da_cons dv_int (da_cons dv_int (da_cons dv_int da_nil)))))) (dv_ix ix_g (dv_var (pv 2)) dv_int))) (dss_cons (ds_set (i := 6) sc.nd rfl (by first | exact Or.inl rfl | exact Or.inr rfl) (dv_ofF (df_comp (own := [("k", 9)]) rfl sc.nd (di_rg1 (by rfl) z_range dv_int) (blkOk_by (N := N__law_any_form) (sc := defScope s__law_any_form) (by decide +kernel)) (fun _ _ _ _ _ => (dg_name (pg_name (i := 9) sc.nd rfl (by first | exact Or.inl rfl | exact Or.inr rfl)))) (fun _ _ _ _ _ => dx_nil) (fun _ _ _ _ _ => (dv_bin o_mul (dv_bin o_add dv_int (dv_bin o_mod (dv_ty c_int (by rfl) z_int (by decide +kernel) (da_cons (dv_ix ix_g (dv_var (pv 2)) (dv_bin o_add dv_int (dv_var (pv 9)))) da_nil)) dv_int)) (dv_bin o_sub dv_int (dv_bin o_mul dv_int (dv_bin o_mod (dv_ty c_int (by rfl) z_int (by decide +kernel) (da_cons (dv_ix ix_g (dv_var (pv 2)) (dv_bin o_add dv_int (dv_var (pv 9)))) da_nil)) dv_int)))))))) (dss_one (ds_set (i := 7) sc.nd rfl (by first | exact Or.inl rfl | exact Or.inr rfl) (dv_ofF (df_lst (da_cons (dv_ofF (df_lst (da_cons dv_int (da_cons (dv_bin o_sub (dv_ix ix_g (dv_var (pv 2)) dv_int) dv_int) (da_cons (dv_bin o_sub (dv_ix ix_g (dv_var (pv 2)) dv_int) dv_int) da_nil))))) (da_cons (dv_ofF (df_lst (da_cons dv_int (da_cons dv_int (da_cons (dv_bin o_sub (dv_ix ix_g (dv_var (pv 2)) dv_int) dv_int) da_nil))))) (da_cons (dv_ofF (df_lst (da_cons dv_int (da_cons dv_int (da_cons dv_int da_nil))))) da_nil))))))))) dss_nil) (dss_cons (ds_if (dt_cmp o_gt (dv_ix ix_g (dv_var (pv 2)) dv_int) dv_int) (dss_one (ds_set (i := 6) sc.nd rfl (by first | exact Or.inl rfl | exact Or.inr rfl) (dv_ofF (df_comp (own := [("factor", 17)]) rfl sc.nd (di_seq (dv_var (pv 6))) (blkOk_by (N := N__law_any_form) (sc := defScope s__law_any_form) (by decide +kernel)) (fun _ _ _ _ _ => (dg_name (pg_name (i := 17) sc.nd rfl (by first | exact Or.inl rfl | exact Or.inr rfl)))) (fun _ _ _ _ _ => dx_nil) (fun _ _ _ _ _ => (dv_bin o_mul (dv_blt c_abs (by rfl) z_abs (by decide +kernel) (da_cons (dv_var (pv 17)) da_nil)) (dv_bin o_sub dv_int (dv_bin o_mul dv_int (dv_ix ix_g (dv_var (pv 2)) dv_int))))))))) dss_nil) (dss_cons (ds_set (i := 8) sc.nd rfl (by first | exact Or.inl rfl | exact Or.inr rfl) (dv_ofF (df_lst (da_cons dv_int (da_cons dv_int (da_cons dv_int (da_cons dv_int (da_cons dv_int (da_cons dv_int da_nil))))))))) (dss_cons (ds_for PassesOwn.never rfl (di_rg1 (by rfl) z_range (dv_var (pv 5))) (dg_name (pg_name (i := 9) sc.nd rfl (by first | exact Or.inl rfl | exact Or.inr rfl))) (dss_cons (ds_set (i := 10) sc.nd rfl (by first | exact Or.inl rfl | exact Or.inr rfl) (dv_ix ix_g (dv_var (pv 7)) (dv_var (pv 9)))) (dss_cons (ds_set (i := 11) sc.nd rfl (by first | exact Or.inl rfl | exact Or.inr rfl) (dv_ix ix_g (dv_var (pv 10)) (dv_ix ix_g (dv_var (pv 2)) dv_int))) (dss_cons (ds_set (i := 12) sc.nd rfl (by first | exact Or.inl rfl | exact Or.inr rfl) (dv_ix ix_g (dv_var (pv 10)) (dv_bin o_mod (dv_ty c_int (by rfl) z_int (by decide +kernel) (da_cons (dv_bin o_add (dv_ix ix_g (dv_var (pv 2)) dv_int) dv_int) da_nil)) dv_int))) (dss_cons (ds_set (i := 13) sc.nd rfl (by first | exact Or.inl rfl | exact Or.inr rfl) (dv_ix ix_g (dv_var (pv 10)) (dv_bin o_mod (dv_ty c_int (by rfl) z_int (by decide +kernel) (da_cons (dv_bin o_add (dv_ix ix_g (dv_var (pv 2)) dv_int) dv_int) da_nil)) dv_int))) (dss_cons (ds_set (i := 14) sc.nd rfl (by first | exact Or.inl rfl | exact Or.inr rfl) (dv_tup (da_cons (dv_bin o_mul (dv_var (pv 11)) (dv_var (pv 11))) (da_cons (dv_bin o_mul (dv_var (pv 12)) (dv_var (pv 12))) (da_cons (dv_bin o_mul (dv_var (pv 13)) (dv_var (pv 13))) (da_cons (dv_bin o_mul (dv_var (pv 12)) (dv_var (pv 13))) (da_cons (dv_bin o_mul (dv_var (pv 11)) (dv_var (pv 13))) (da_cons (dv_bin o_mul (dv_var (pv 11)) (dv_var (pv 12))) da_nil)))))))) (dss_one (ds_set (i := 8) sc.nd rfl (by first | exact Or.inl rfl | exact Or.inr rfl) (dv_ofF (df_comp (own := [("i", 18)]) rfl sc.nd (di_rg1 (by rfl) z_range dv_int) (blkOk_by (N := N__law_any_form) (sc := defScope s__law_any_form) (by decide +kernel)) (fun _ _ _ _ _ => (dg_name (pg_name (i := 18) sc.nd rfl (by first | exact Or.inl rfl | exact Or.inr rfl)))) (fun _ _ _ _ _ => dx_nil) (fun _ _ _ _ _ => (dv_bin o_add (dv_ix ix_g (dv_var (pv 8)) (dv_var (pv 18))) (dv_bin o_mul (dv_ix ix_g (dv_var (pv 6)) (dv_var (pv 9))) (dv_ix ix_g (dv_var (pv 14)) (dv_var (pv 18)))))))))))))))) (dss_one (ds_ret (dv_ty c_tuple (by rfl) z_tuple (by decide +kernel) (da_cons (dv_var (pv 8)) da_nil))))))))))))))))))
abbrev s__law_signature : Stmt := top 57
noncomputable def b__law_signature : ES := (sSeq (sPar3 1 2 3 (aCons (eBin gIx (eVar 0) (eC (.int 0))) (aCons (eBin gIx (eVar 0) (eC (.int 1))) (aCons (eBin gIx (eVar 0) (eC (.int 2))) aNil)))) (sSeq (sPar3 4 5 6 (aCons (eBin gIx (eVar 0) (eC (.int 3))) (aCons (eBin gIx (eVar 0) (eC (.int 4))) (aCons (eBin gIx (eVar 0) (eC (.int 5))) aNil)))) (sSeq (sSet 7 (eBin gAdd (eBin gAdd (eVar 1) (eVar 2)) (eVar 3))) (sSeq (sSet 8 (eBin gSub (eBin gAdd (eBin gSub (eBin gAdd (eBin gSub (eBin gMul (eVar 2) (eVar 3)) (eBin gMul (eVar 4) (eVar 4))) (eBin gMul (eVar 1) (eVar 3))) (eBin gMul (eVar 5) (eVar 5))) (eBin gMul (eVar 1) (eVar 2))) (eBin gMul (eVar 6) (eVar 6)))) (sSeq (sSet 9 (eBin gSub (eBin gSub (eBin gSub (eBin gAdd (eBin gMul (eBin gMul (eVar 1) (eVar 2)) (eVar 3)) (eBin gMul (eBin gMul (eBin gMul (eC (.int 2)) (eVar 4)) (eVar 5)) (eVar 6))) (eBin gMul (eBin gMul (eVar 1) (eVar 4)) (eVar 4))) (eBin gMul (eBin gMul (eVar 2) (eVar 5)) (eVar 5))) (eBin gMul (eBin gMul (eVar 3) (eVar 6)) (eVar 6)))) (sSeq (sSetF 10 (fComp (iSeq (eOfF (aCons (eC (.int 1)) (aCons (eUn gNeg (eVar 7)) (aCons (eVar 8) (aCons (eUn gNeg (eVar 9)) aNil)))))) (gNm 14) (bVal (eBin gNe (eVar 14) (eC (.int 0)))) (eVar 14) [14])) (sSeq (sSet 11 (eC (.int 0))) (sSeq (sFor (iRg1 (eBin gSub (eAll mLen (aCons (eVar 10) aNil)) (eC (.int 1)))) (gNm 12) (sIf (bVal (eBin gLt (eBin gMul (eBin gIx (eVar 10) (eVar 12)) (eBin gIx (eVar 10) (eBin gAdd (eVar 12) (eC (.int 1))))) (eC (.int 0)))) (sSet 11 (eBin gAdd (eVar 11) (eC (.int 1)))) sNx)) (sSeq (sSet 13 (eC (.int 0))) (sSeq (sIf (bVal (eBin gEq (eVar 9) (eC (.int 0)))) (sSeq (sSet 13 (eC (.int 1))) (sIf (bVal (eBin gEq (eVar 8) (eC (.int 0)))) (sSeq (sSet 13 (eC (.int 2))) (sIf (bVal (eBin gEq (eVar 7) (eC (.int 0)))) (sSet 13 (eC (.int 3))) sNx)) sNx)) sNx) (sRet (eTup (aCons (eVar 11) (aCons (eBin gSub (eBin gSub (eC (.int 3)) (eVar 13)) (eVar 11)) (aCons (eVar 13) aNil)))))))))))))))
noncomputable def m__law_signature : List PyData → Option PyData := runD 14 b__law_signature
abbrev N__law_signature : List Str := ["form", "a", "b", "c", "p", "q", "r", "sums", "minors", "whole", "kept", "above", "k", "zero", "number"]
theorem ok__law_signature (F : Fd K mg "_law_signature" s__law_signature) (z_range : mg "range" = none) (z_len : mg "len" = none) : Def P w K mg base "_law_signature" 1 1 m__law_signature := by
  have sc : FnScope N__law_signature ["form"] (defScope s__law_signature) := ⟨rfl, rfl, rfl, by decide +kernel, rfl, by decide +kernel, by decide +kernel⟩
  refine F.mk sc rfl rfl (fun _ _ _ _ _ _ us hl => match us, hl with | [_], _ => rfl) fun cdv A outer s H E hr => ?_
  exact (dss_cons (ds_par3 (i := 1) (j := 2) (l := 3) rfl sc.nd rfl rfl rfl (by decide) (by decide) (by decide) rfl rfl rfl (da_cons (dv_ix ix_g (dv_var (pv 0)) dv_int) (da_cons (dv_ix ix_g (dv_var (pv 0)) dv_int) (da_cons (dv_ix ix_g (dv_var (pv 0)) dv_int) da_nil))) rfl) (dss_cons (ds_par3 (i := 4) (j := 5) (l := 6) rfl sc.nd rfl rfl rfl (by decide) (by decide) (by decide) rfl rfl rfl (da_cons (dv_ix ix_g (dv_var (pv 0)) dv_int) (da_cons (dv_ix ix_g (dv_var (pv 0)) dv_int) (da_cons (dv_ix ix_g (dv_var (pv 0)) dv_int) da_nil))) rfl) (dss_cons (ds_set (i := 7) sc.nd rfl (by first | exact Or.inl rfl | exact Or.inr rfl) (dv_bin o_add (dv_bin o_add (dv_var (pv 1)) (dv_var (pv 2))) (dv_var (pv 3)))) (dss_cons (ds_set (i := 8) sc.nd rfl (by first | exact Or.inl rfl | exact Or.inr rfl) (dv_bin o_sub (dv_bin o_add (dv_bin o_sub (dv_bin o_add (dv_bin o_sub (dv_bin o_mul (dv_var (pv 2)) (dv_var (pv 3))) (dv_bin o_mul (dv_var (pv 4)) (dv_var (pv 4)))) (dv_bin o_mul (dv_var (pv 1)) (dv_var (pv 3)))) (dv_bin o_mul (dv_var (pv 5)) (dv_var (pv 5)))) (dv_bin o_mul (dv_var (pv 1)) (dv_var (pv 2)))) (dv_bin o_mul (dv_var (pv 6)) (dv_var (pv 6))))) (dss_cons (ds_set (i := 9) sc.nd rfl (by first | exact Or.inl rfl | exact Or.inr rfl) (dv_bin o_sub (dv_bin o_sub (dv_bin o_sub (dv_bin o_add (dv_bin o_mul (dv_bin o_mul (dv_var (pv 1)) (dv_var (pv 2))) (dv_var (pv 3))) (dv_bin o_mul (dv_bin o_mul (dv_bin o_mul dv_int (dv_var (pv 4))) (dv_var (pv 5))) (dv_var (pv 6)))) (dv_bin o_mul (dv_bin o_mul (dv_var (pv 1)) (dv_var (pv 4))) (dv_var (pv 4)))) (dv_bin o_mul (dv_bin o_mul (dv_var (pv 2)) (dv_var (pv 5))) (dv_var (pv 5)))) (dv_bin o_mul (dv_bin o_mul (dv_var (pv 3)) (dv_var (pv 6))) (dv_var (pv 6))))) (dss_cons (ds_lcV (i := 10) (own := [("number", 14)]) rfl sc.nd rfl rfl (sw_true rfl rfl rfl (by decide +kernel)) (di_seq (dv_ofF (df_lst (da_cons dv_int (da_cons (dv_un u_neg (dv_var (pv 7))) (da_cons (dv_var (pv 8)) (da_cons (dv_un u_neg (dv_var (pv 9))) da_nil))))))) (blkOk_by (N := N__law_signature) (sc := defScope s__law_signature) (by decide +kernel)) (fun _ _ _ _ _ => (dg_name (pg_name (i := 14) sc.nd rfl (by first | exact Or.inl rfl | exact Or.inr rfl)))) (fun _ _ _ _ _ => (dx_one (dt_cmp (o_ne hr.units) (dv_var (pv 14)) dv_int))) (fun _ _ _ _ _ => (dv_var (pv 14)))) (dss_cons (ds_set (i := 11) sc.nd rfl (by first | exact Or.inl rfl | exact Or.inr rfl) dv_int) (dss_cons (ds_for PassesOwn.never rfl (di_rg1 (by rfl) z_range (dv_bin o_sub (dv_blt c_len (by rfl) z_len (by decide +kernel) (da_cons (dv_var (pv 10)) da_nil)) dv_int)) (dg_name (pg_name (i := 12) sc.nd rfl (by first | exact Or.inl rfl | exact Or.inr rfl))) (dss_one (ds_if (dt_cmp o_lt (dv_bin o_mul (dv_ix ix_g (dv_var (pv 10)) (dv_var (pv 12))) (dv_ix ix_g (dv_var (pv 10)) (dv_bin o_add (dv_var (pv 12)) dv_int))) dv_int) (dss_one (ds_set (i := 11) sc.nd rfl (by first | exact Or.inl rfl | exact Or.inr rfl) (dv_bin o_add (dv_var (pv 11)) dv_int))) dss_nil))) (dss_cons (ds_set (i := 13) sc.nd rfl (by first | exact Or.inl rfl | exact Or.inr rfl) dv_int) (dss_cons (ds_if (dt_cmp (o_eq hr.units) (dv_var (pv 9)) dv_int) (dss_cons (ds_set (i := 13) sc.nd rfl (by first | exact Or.inl rfl | exact Or.inr rfl) dv_int) (dss_one (ds_if (dt_cmp (o_eq hr.units) (dv_var (pv 8)) dv_int) (dss_cons (ds_set (i := 13) sc.nd rfl (by first | exact Or.inl rfl | exact Or.inr rfl) dv_int) (dss_one (ds_if (dt_cmp (o_eq hr.units) (dv_var (pv 7)) dv_int) (dss_one (ds_set (i := 13) sc.nd rfl (by first | exact Or.inl rfl | exact Or.inr rfl) dv_int)) dss_nil))) dss_nil))) dss_nil) (dss_one (ds_ret (dv_tup (da_cons (dv_var (pv 11)) (da_cons (dv_bin o_sub (dv_bin o_sub dv_int (dv_var (pv 13))) (dv_var (pv 11))) (da_cons (dv_var (pv 13)) da_nil))))))))))))))))
abbrev s__law_handed : Stmt := top 58
noncomputable def b__law_handed : ES := (sSeq (sIf (bVal (eBin gEq (eVar 1) (eC (.int 0)))) (sRet (eAll mTuple (aCons (eVar 0) aNil))) sNx) (sRet (eOfF (fComp (iSeq (eVar 0)) (gNm 2) bYes (eVar 2) [2]))))
noncomputable def m__law_handed : List PyData → Option PyData := runD 1 b__law_handed
abbrev N__law_handed : List Str := ["row", "wish", "number"]
theorem ok__law_handed (F : Fd K mg "_law_handed" s__law_handed) (z_tuple : mg "tuple" = none) : Def P w K mg base "_law_handed" 1 2 m__law_handed := by
  have sc : FnScope N__law_handed ["row", "wish"] (defScope s__law_handed) := ⟨rfl, rfl, rfl, by decide +kernel, rfl, by decide +kernel, by decide +kernel⟩
  refine F.mk sc rfl rfl (fun _ _ _ _ _ _ us hl => match us, hl with | [_, _], _ => rfl) fun cdv A outer s H E hr => ?_
  exact (dss_cons (ds_if (dt_cmp (o_eq hr.units) (dv_var (pv 1)) dv_int) (dss_one (ds_ret (dv_ty c_tuple (by rfl) z_tuple (by decide +kernel) (da_cons (dv_var (pv 0)) da_nil)))) dss_nil) (dss_one (ds_ret (dv_ofF (df_comp (own := [("number", 2)]) rfl sc.nd (di_seq (dv_var (pv 0))) (blkOk_by (N := N__law_handed) (sc := defScope s__law_handed) (by decide +kernel)) (fun _ _ _ _ _ => (dg_name (pg_name (i := 2) sc.nd rfl (by first | exact Or.inl rfl | exact Or.inr rfl)))) (fun _ _ _ _ _ => dx_nil) (fun _ _ _ _ _ => (dv_var (pv 2))))))))
abbrev s__law_handed_table : Stmt := top 59
noncomputable def b__law_handed_table : ES := (sSeq (sSetF 2 (fComp (iSeq (eVar 0)) (gNm 3) bYes (eCall m__law_handed (aCons (eVar 3) (aCons (eBin gFdiv (eVar 1) (eC (.int 2))) aNil))) [3])) (sSeq (sIf (bVal (eBin gEq (eBin gMod (eAll mInt (aCons (eVar 1) aNil)) (eC (.int 2))) (eC (.int 0)))) (sRet (eAll mTuple (aCons (eVar 2) aNil))) sNx) (sRet (eVar 2))))
noncomputable def m__law_handed_table : List PyData → Option PyData := runD 2 b__law_handed_table
abbrev N__law_handed_table : List Str := ["table", "wish", "lines", "line"]
theorem ok__law_handed_table (F : Fd K mg "_law_handed_table" s__law_handed_table) (d__law_handed : Def P w K mg base "_law_handed" 1 2 m__law_handed) (z_int : mg "int" = none) (z_tuple : mg "tuple" = none) : Def P w K mg base "_law_handed_table" 2 2 m__law_handed_table := by
  have sc : FnScope N__law_handed_table ["table", "wish"] (defScope s__law_handed_table) := ⟨rfl, rfl, rfl, by decide +kernel, rfl, by decide +kernel, by decide +kernel⟩
  refine F.mk sc rfl rfl (fun _ _ _ _ _ _ us hl => match us, hl with | [_, _], _ => rfl) fun cdv A outer s H E hr => ?_
  exact (dss_cons (ds_lcV (i := 2) (own := [("line", 3)]) rfl sc.nd rfl rfl (sw_true rfl rfl rfl (by decide +kernel)) (di_seq (dv_var (pv 0))) (blkOk_by (N := N__law_handed_table) (sc := defScope s__law_handed_table) (by decide +kernel)) (fun _ _ _ _ _ => (dg_name (pg_name (i := 3) sc.nd rfl (by first | exact Or.inl rfl | exact Or.inr rfl)))) (fun _ _ _ _ _ => dx_nil) (fun _ _ _ _ _ => (dv_callD d__law_handed hr (da_cons (dv_var (pv 3)) (da_cons (dv_bin o_fdiv (dv_var (pv 1)) dv_int) da_nil))))) (dss_cons (ds_if (dt_cmp (o_eq hr.units) (dv_bin o_mod (dv_ty c_int (by rfl) z_int (by decide +kernel) (da_cons (dv_var (pv 1)) da_nil)) dv_int) dv_int) (dss_one (ds_ret (dv_ty c_tuple (by rfl) z_tuple (by decide +kernel) (da_cons (dv_var (pv 2)) da_nil)))) dss_nil) (dss_one (ds_ret (dv_var (pv 2))))))
abbrev s__law_stayed : Stmt := top 60
noncomputable def b__law_stayed : ES := (sRet (eAnd (eBin gEq (eAll mLen (aCons (eVar 0) aNil)) (eC (.int 3))) (eBin gEq (eAll mTuple (aCons (eOfF (fComp (iSeq (eVar 0)) (gNm 2) bYes (eAll mTuple (aCons (eVar 2) aNil)) [2])) aNil)) (eVar 1))))
noncomputable def m__law_stayed : List PyData → Option PyData := runD 1 b__law_stayed
abbrev N__law_stayed : List Str := ["handed", "table", "line"]
theorem ok__law_stayed (F : Fd K mg "_law_stayed" s__law_stayed) (z_tuple : mg "tuple" = none) (z_len : mg "len" = none) : Def P w K mg base "_law_stayed" 1 2 m__law_stayed := by
  have sc : FnScope N__law_stayed ["handed", "table"] (defScope s__law_stayed) := ⟨rfl, rfl, rfl, by decide +kernel, rfl, by decide +kernel, by decide +kernel⟩
  refine F.mk sc rfl rfl (fun _ _ _ _ _ _ us hl => match us, hl with | [_, _], _ => rfl) fun cdv A outer s H E hr => ?_
  exact (dss_one (ds_ret (dv_and (dv_cmp (o_eq hr.units) (dv_blt c_len (by rfl) z_len (by decide +kernel) (da_cons (dv_var (pv 0)) da_nil)) dv_int) (dv_one (dv_cmp (o_eq hr.units) (dv_ty c_tuple (by rfl) z_tuple (by decide +kernel) (da_cons (dv_ofF (df_comp (own := [("line", 2)]) rfl sc.nd (di_seq (dv_var (pv 0))) (blkOk_by (N := N__law_stayed) (sc := defScope s__law_stayed) (by decide +kernel)) (fun _ _ _ _ _ => (dg_name (pg_name (i := 2) sc.nd rfl (by first | exact Or.inl rfl | exact Or.inr rfl)))) (fun _ _ _ _ _ => dx_nil) (fun _ _ _ _ _ => (dv_ty c_tuple (by rfl) z_tuple (by decide +kernel) (da_cons (dv_var (pv 2)) da_nil))))) da_nil)) (dv_var (pv 1)))))))
abbrev s__law_steps : Stmt := top 61
noncomputable def b__law_steps : ES := (sSeq (sOwn 3 aNil) (sSeq (sFor (iRg1 (eC (.int 3))) (gNm 4) (sSeq (sSet 5 (eCall m__law_digits (aCons (eCall m__law_cell (aCons (eVar 0) (aCons (eBin gAdd (eVar 1) (eVar 4)) aNil))) (aCons (eOfF (aCons (eC (.int 3)) (aCons (eC (.int 2)) (aCons (eC (.int 19)) (aCons (eC (.int 3)) (aCons (eC (.int 2)) (aCons (eC (.int 19)) (aCons (eC (.int 3)) (aCons (eC (.int 2)) (aCons (eC (.int 19)) (aCons (eC (.int 3)) (aCons (eC (.int 2)) (aCons (eC (.int 19)) aNil))))))))))))) aNil)))) (sFor (iRg1 (eC (.int 4))) (gNm 6) (sApp 3 (eTup (aCons (eBin gIx (eVar 5) (eBin gMul (eC (.int 3)) (eVar 6))) (aCons (eBin gMod (eAll mInt (aCons (eBin gAdd (eBin gAdd (eBin gIx (eVar 5) (eBin gMul (eC (.int 3)) (eVar 6))) (eC (.int 1))) (eBin gIx (eVar 5) (eBin gAdd (eBin gMul (eC (.int 3)) (eVar 6)) (eC (.int 1))))) aNil)) (eC (.int 3))) (aCons (eBin gSub (eBin gIx (eVar 5) (eBin gAdd (eBin gMul (eC (.int 3)) (eVar 6)) (eC (.int 2)))) (eC (.int 9))) aNil)))))))) (sFrz [3] (sRet (eSl (eVar 3) (oSome (eC (.int 0))) (oSome (eVar 2)))))))
noncomputable def m__law_steps : List PyData → Option PyData := runD 4 b__law_steps
abbrev N__law_steps : List Str := ["script", "at", "many", "steps", "k", "row", "i"]
theorem ok__law_steps (F : Fd K mg "_law_steps" s__law_steps) (d__law_cell : Def P w K mg base "_law_cell" 1 2 m__law_cell) (d__law_digits : Def P w K mg base "_law_digits" 1 2 m__law_digits) (z_range : mg "range" = none) (z_int : mg "int" = none) : Def P w K mg base "_law_steps" 2 3 m__law_steps := by
  have sc : FnScope N__law_steps ["script", "at", "many"] (defScope s__law_steps) := ⟨rfl, rfl, rfl, by decide +kernel, rfl, by decide +kernel, by decide +kernel⟩
  refine F.mk sc rfl rfl (fun _ _ _ _ _ _ us hl => match us, hl with | [_, _, _], _ => rfl) fun cdv A outer s H E hr => ?_
  exact (dss_cons (ds_own (i := 3) sc.nd rfl (by first | exact Or.inl rfl | exact Or.inr rfl) (df_lst da_nil)) (dss_cons (ds_for PassesOwn.never rfl (di_rg1 (by rfl) z_range dv_int) (dg_name (pg_name (i := 4) sc.nd rfl (by first | exact Or.inl rfl | exact Or.inr rfl))) (dss_cons (ds_set (i := 5) sc.nd rfl (by first | exact Or.inl rfl | exact Or.inr rfl) (dv_callD d__law_digits hr (da_cons (dv_callD d__law_cell hr (da_cons (dv_var (pv 0)) (da_cons (dv_bin o_add (dv_var (pv 1)) (dv_var (pv 4))) da_nil))) (da_cons (dv_ofF (df_lst (da_cons dv_int (da_cons dv_int (da_cons dv_int (da_cons dv_int (da_cons dv_int (da_cons dv_int (da_cons dv_int (da_cons dv_int (da_cons dv_int (da_cons dv_int (da_cons dv_int (da_cons dv_int da_nil)))))))))))))) da_nil)))) (dss_one (ds_for PassesOwn.never rfl (di_rg1 (by rfl) z_range dv_int) (dg_name (pg_name (i := 6) sc.nd rfl (by first | exact Or.inl rfl | exact Or.inr rfl))) (dss_one (ds_app (i := 3) (pv 3) (dv_tup (da_cons (dv_ix ix_g (dv_var (pv 5)) (dv_bin o_mul dv_int (dv_var (pv 6)))) (da_cons (dv_bin o_mod (dv_ty c_int (by rfl) z_int (by decide +kernel) (da_cons (dv_bin o_add (dv_bin o_add (dv_ix ix_g (dv_var (pv 5)) (dv_bin o_mul dv_int (dv_var (pv 6)))) dv_int) (dv_ix ix_g (dv_var (pv 5)) (dv_bin o_add (dv_bin o_mul dv_int (dv_var (pv 6))) dv_int))) da_nil)) dv_int) (da_cons (dv_bin o_sub (dv_ix ix_g (dv_var (pv 5)) (dv_bin o_add (dv_bin o_mul dv_int (dv_var (pv 6))) dv_int)) dv_int) da_nil)))))))))) (dss_one (ds_frz (S := [3]) (ds_ret (dv_sl (dv_var (pv 3)) (do_some dv_int) (do_some (dv_var (pv 2)))))))))
abbrev s__law_small_change : Stmt := top 62
noncomputable def b__law_small_change : ES := (sSeq (sSet 1 (eCall m__law_digits (aCons (eVar 0) (aCons (eOfF (aCons (eC (.int 3)) (aCons (eC (.int 3)) (aCons (eC (.int 2)) (aCons (eC (.int 2)) (aCons (eC (.int 3)) (aCons (eC (.int 2)) (aCons (eC (.int 2)) (aCons (eC (.int 6)) (aCons (eC (.int 2)) (aCons (eC (.int 2)) (aCons (eC (.int 2)) aNil)))))))))))) aNil)))) (sSeq (sSet 2 (eTup (aCons (eTup (aCons (eC (.int 1)) (aCons (eC (.int 0)) (aCons (eC (.int 0)) aNil)))) (aCons (eTup (aCons (eC (.int 0)) (aCons (eC (.int 1)) (aCons (eC (.int 0)) aNil)))) (aCons (eTup (aCons (eC (.int 0)) (aCons (eC (.int 0)) (aCons (eC (.int 1)) aNil)))) aNil))))) (sSeq (sFor (iRg1 (eBin gIx (eVar 1) (eC (.int 0)))) (gNm 3) (sSeq (sSet 4 (eBin gIx (eVar 1) (eBin gAdd (eC (.int 1)) (eBin gMul (eC (.int 3)) (eVar 3))))) (sSeq (sSet 5 (eTup (aCons (eVar 4) (aCons (eBin gMod (eAll mInt (aCons (eBin gAdd (eBin gAdd (eVar 4) (eC (.int 1))) (eBin gIx (eVar 1) (eBin gAdd (eC (.int 2)) (eBin gMul (eC (.int 3)) (eVar 3))))) aNil)) (eC (.int 3))) (aCons (eBin gSub (eC (.int 1)) (eBin gMul (eC (.int 2)) (eBin gIx (eVar 1) (eBin gAdd (eC (.int 3)) (eBin gMul (eC (.int 3)) (eVar 3)))))) aNil))))) (sSet 2 (eCall m__law_product (aCons (eVar 2) (aCons (eCall m__law_step_table (aCons (eVar 5) aNil)) aNil))))))) (sSeq (sSet 6 (eBin gIx (eOfF (aCons (eTup (aCons (eC (.int 0)) (aCons (eC (.int 1)) (aCons (eC (.int 2)) aNil)))) (aCons (eTup (aCons (eC (.int 0)) (aCons (eC (.int 2)) (aCons (eC (.int 1)) aNil)))) (aCons (eTup (aCons (eC (.int 1)) (aCons (eC (.int 0)) (aCons (eC (.int 2)) aNil)))) (aCons (eTup (aCons (eC (.int 1)) (aCons (eC (.int 2)) (aCons (eC (.int 0)) aNil)))) (aCons (eTup (aCons (eC (.int 2)) (aCons (eC (.int 0)) (aCons (eC (.int 1)) aNil)))) (aCons (eTup (aCons (eC (.int 2)) (aCons (eC (.int 1)) (aCons (eC (.int 0)) aNil)))) aNil))))))) (eBin gIx (eVar 1) (eC (.int 7))))) (sRet (eAll mTuple (aCons (eOfF (fComp (iRg1 (eC (.int 3))) (gNm 3) bYes (eCall m__law_times (aCons (eBin gSub (eC (.int 1)) (eBin gMul (eC (.int 2)) (eBin gIx (eVar 1) (eBin gAdd (eC (.int 8)) (eVar 3))))) (aCons (eBin gIx (eVar 2) (eBin gIx (eVar 6) (eVar 3))) aNil))) [3])) aNil)))))))
noncomputable def m__law_small_change : List PyData → Option PyData := runD 6 b__law_small_change
abbrev N__law_small_change : List Str := ["cell", "row", "table", "k", "i", "step", "order"]
theorem ok__law_small_change (F : Fd K mg "_law_small_change" s__law_small_change) (d__law_digits : Def P w K mg base "_law_digits" 1 2 m__law_digits) (d__law_step_table : Def P w K mg base "_law_step_table" 1 1 m__law_step_table) (d__law_product : Def P w K mg base "_law_product" 2 2 m__law_product) (d__law_times : Def P w K mg base "_law_times" 1 2 m__law_times) (z_range : mg "range" = none) (z_int : mg "int" = none) (z_tuple : mg "tuple" = none) : Def P w K mg base "_law_small_change" 3 1 m__law_small_change := by
  have sc : FnScope N__law_small_change ["cell"] (defScope s__law_small_change) := ⟨rfl, rfl, rfl, by decide +kernel, rfl, by decide +kernel, by decide +kernel⟩
  refine F.mk sc rfl rfl (fun _ _ _ _ _ _ us hl => match us, hl with | [_], _ => rfl) fun cdv A outer s H E hr => ?_
  exact (dss_cons (ds_set (i := 1) sc.nd rfl (by first | exact Or.inl rfl | exact Or.inr rfl) (dv_callD d__law_digits hr (da_cons (dv_var (pv 0)) (da_cons (dv_ofF (df_lst (da_cons dv_int (da_cons dv_int (da_cons dv_int (da_cons dv_int (da_cons dv_int (da_cons dv_int (da_cons dv_int (da_cons dv_int (da_cons dv_int (da_cons dv_int (da_cons dv_int da_nil))))))))))))) da_nil)))) (dss_cons (ds_set (i := 2) sc.nd rfl (by first | exact Or.inl rfl | exact Or.inr rfl) (dv_tup (da_cons (dv_tup (da_cons dv_int (da_cons dv_int (da_cons dv_int da_nil)))) (da_cons (dv_tup (da_cons dv_int (da_cons dv_int (da_cons dv_int da_nil)))) (da_cons (dv_tup (da_cons dv_int (da_cons dv_int (da_cons dv_int da_nil)))) da_nil))))) (dss_cons (ds_for PassesOwn.never rfl (di_rg1 (by rfl) z_range (dv_ix ix_g (dv_var (pv 1)) dv_int)) (dg_name (pg_name (i := 3) sc.nd rfl (by first | exact Or.inl rfl | exact Or.inr rfl))) (dss_cons (ds_set (i := 4) sc.nd rfl (by first | exact Or.inl rfl | exact Or.inr rfl) (dv_ix ix_g (dv_var (pv 1)) (dv_bin o_add dv_int (dv_bin o_mul dv_int (dv_var (pv 3)))))) (dss_cons (ds_set (i := 5) sc.nd rfl (by first | exact Or.inl rfl | exact Or.inr rfl) (dv_tup (da_cons (dv_var (pv 4)) (da_cons (dv_bin o_mod (dv_ty c_int (by rfl) z_int (by decide +kernel) (da_cons (dv_bin o_add (dv_bin o_add (dv_var (pv 4)) dv_int) (dv_ix ix_g (dv_var (pv 1)) (dv_bin o_add dv_int (dv_bin o_mul dv_int (dv_var (pv 3)))))) da_nil)) dv_int) (da_cons (dv_bin o_sub dv_int (dv_bin o_mul dv_int (dv_ix ix_g (dv_var (pv 1)) (dv_bin o_add dv_int (dv_bin o_mul dv_int (dv_var (pv 3))))))) da_nil))))) (dss_one (ds_set (i := 2) sc.nd rfl (by first | exact Or.inl rfl | exact Or.inr rfl) (dv_callD d__law_product hr (da_cons (dv_var (pv 2)) (da_cons (dv_callD d__law_step_table hr (da_cons (dv_var (pv 5)) da_nil)) da_nil)))))))) (dss_cons (ds_set (i := 6) sc.nd rfl (by first | exact Or.inl rfl | exact Or.inr rfl) (dv_ix ix_g (dv_ofF (df_lst (da_cons (dv_tup (da_cons dv_int (da_cons dv_int (da_cons dv_int da_nil)))) (da_cons (dv_tup (da_cons dv_int (da_cons dv_int (da_cons dv_int da_nil)))) (da_cons (dv_tup (da_cons dv_int (da_cons dv_int (da_cons dv_int da_nil)))) (da_cons (dv_tup (da_cons dv_int (da_cons dv_int (da_cons dv_int da_nil)))) (da_cons (dv_tup (da_cons dv_int (da_cons dv_int (da_cons dv_int da_nil)))) (da_cons (dv_tup (da_cons dv_int (da_cons dv_int (da_cons dv_int da_nil)))) da_nil)))))))) (dv_ix ix_g (dv_var (pv 1)) dv_int))) (dss_one (ds_ret (dv_ty c_tuple (by rfl) z_tuple (by decide +kernel) (da_cons (dv_ofF (df_comp (own := [("k", 3)]) rfl sc.nd (di_rg1 (by rfl) z_range dv_int) (blkOk_by (N := N__law_small_change) (sc := defScope s__law_small_change) (by decide +kernel)) (fun _ _ _ _ _ => (dg_name (pg_name (i := 3) sc.nd rfl (by first | exact Or.inl rfl | exact Or.inr rfl)))) (fun _ _ _ _ _ => dx_nil) (fun _ _ _ _ _ => (dv_callD d__law_times hr (da_cons (dv_bin o_sub dv_int (dv_bin o_mul dv_int (dv_ix ix_g (dv_var (pv 1)) (dv_bin o_add dv_int (dv_var (pv 3)))))) (da_cons (dv_ix ix_g (dv_var (pv 2)) (dv_ix ix_g (dv_var (pv 6)) (dv_var (pv 3)))) da_nil)))))) da_nil))))))))
abbrev s__law_table : Stmt := top 63
noncomputable def b__law_table : ES := (sSeq (sOwn 4 (aCons (eSl (eVar 0) (oSome (eC (.int 0))) (oSome (eC (.int 3)))) (aCons (eSl (eVar 0) (oSome (eC (.int 3))) (oSome (eC (.int 6)))) (aCons (eSl (eVar 0) (oSome (eC (.int 6))) (oSome (eC (.int 9)))) aNil)))) (sSeq (sIf (bVal (eBin gEq (eVar 1) (eC (.int 0)))) (sPut 4 (eVar 2) (eOfF (fComp (iSeq (eIxO 4 (eBin gMod (eAll mInt (aCons (eBin gAdd (eVar 2) (eC (.int 1))) aNil)) (eC (.int 3))))) (gNm 5) bYes (eBin gMul (eBin gIx (eVar 0) (eC (.int 9))) (eVar 5)) [5]))) sNx) (sSeq (sIf (bVal (eBin gEq (eVar 1) (eC (.int 1)))) (sFrz [4] (sOwn 4 (fComp (iSeq (eVar 4)) (gNm 6) bYes (eOfF (fComp (iSeq (eVar 6)) (gNm 5) bYes (eBin gSub (eBin gMod (eAll mInt (aCons (eVar 5) aNil)) (eC (.int 3))) (eC (.int 1))) [5])) [6]))) sNx) (sSeq (sIf (bVal (eBin gEq (eVar 1) (eC (.int 2)))) (sRet (eCall m__law_steps_table (aCons (eVar 3) aNil))) sNx) (sFrz [4] (sRet (eAll mTuple (aCons (eOfF (fComp (iSeq (eVar 4)) (gNm 6) bYes (eAll mTuple (aCons (eVar 6) aNil)) [6])) aNil))))))))
noncomputable def m__law_table : List PyData → Option PyData := runD 3 b__law_table
abbrev N__law_table : List Str := ["numbers", "kind", "line", "steps", "lines", "number", "row"]
theorem ok__law_table (F : Fd K mg "_law_table" s__law_table) (d__law_steps_table : Def P w K mg base "_law_steps_table" 3 1 m__law_steps_table) (z_int : mg "int" = none) (z_tuple : mg "tuple" = none) : Def P w K mg base "_law_table" 4 4 m__law_table := by
  have sc : FnScope N__law_table ["numbers", "kind", "line", "steps"] (defScope s__law_table) := ⟨rfl, rfl, rfl, by decide +kernel, rfl, by decide +kernel, by decide +kernel⟩
  refine F.mk sc rfl rfl (fun _ _ _ _ _ _ us hl => match us, hl with | [_, _, _, _], _ => rfl) fun cdv A outer s H E hr => ?_
  exact (dss_cons (ds_own (i := 4) sc.nd rfl (by first | exact Or.inl rfl | exact Or.inr rfl) (df_lst (da_cons (dv_sl (dv_var (pv 0)) (do_some dv_int) (do_some dv_int)) (da_cons (dv_sl (dv_var (pv 0)) (do_some dv_int) (do_some dv_int)) (da_cons (dv_sl (dv_var (pv 0)) (do_some dv_int) (do_some dv_int)) da_nil))))) (dss_cons (ds_if (dt_cmp (o_eq hr.units) (dv_var (pv 1)) dv_int) (dss_one (ds_put (pv 4) (dv_var (pv 2)) (dv_ofF (df_comp (own := [("number", 5)]) rfl sc.nd (di_seq (dv_ixO (pv 4) (dv_bin o_mod (dv_ty c_int (by rfl) z_int (by decide +kernel) (da_cons (dv_bin o_add (dv_var (pv 2)) dv_int) da_nil)) dv_int))) (blkOk_by (N := N__law_table) (sc := defScope s__law_table) (by decide +kernel)) (fun _ _ _ _ _ => (dg_name (pg_name (i := 5) sc.nd rfl (by first | exact Or.inl rfl | exact Or.inr rfl)))) (fun _ _ _ _ _ => dx_nil) (fun _ _ _ _ _ => (dv_bin o_mul (dv_ix ix_g (dv_var (pv 0)) dv_int) (dv_var (pv 5)))))) (hgs := pg_sub (pv 4) (dv_var (pv 2)) set_list))) dss_nil) (dss_cons (ds_if (dt_cmp (o_eq hr.units) (dv_var (pv 1)) dv_int) (dss_one (ds_frz (S := [4]) (ds_lc (i := 4) (own := [("row", 6)]) rfl sc.nd rfl rfl (sw_true rfl rfl rfl (by decide +kernel)) (di_seq (dv_var (pv 4))) (blkOk_by (N := N__law_table) (sc := defScope s__law_table) (by decide +kernel)) (fun _ _ _ _ _ => (dg_name (pg_name (i := 6) sc.nd rfl (by first | exact Or.inl rfl | exact Or.inr rfl)))) (fun _ _ _ _ _ => dx_nil) (fun _ _ _ _ _ => (dv_ofF (df_comp (own := [("number", 5)]) rfl sc.nd (di_seq (dv_var (pv 6))) (blkOk_by (N := N__law_table) (sc := _) (by kernel_rfl)) (fun _ _ _ _ _ => (dg_name (pg_name (i := 5) sc.nd rfl (by first | exact Or.inl rfl | exact Or.inr rfl)))) (fun _ _ _ _ _ => dx_nil) (fun _ _ _ _ _ => (dv_bin o_sub (dv_bin o_mod (dv_ty c_int (by rfl) z_int (by decide +kernel) (da_cons (dv_var (pv 5)) da_nil)) dv_int) dv_int)))))))) dss_nil) (dss_cons (ds_if (dt_cmp (o_eq hr.units) (dv_var (pv 1)) dv_int) (dss_one (ds_ret (dv_callD d__law_steps_table hr (da_cons (dv_var (pv 3)) da_nil)))) dss_nil) (dss_one (ds_frz (S := [4]) (ds_ret (dv_ty c_tuple (by rfl) z_tuple (by decide +kernel) (da_cons (dv_ofF (df_comp (own := [("row", 6)]) rfl sc.nd (di_seq (dv_var (pv 4))) (blkOk_by (N := N__law_table) (sc := defScope s__law_table) (by decide +kernel)) (fun _ _ _ _ _ => (dg_name (pg_name (i := 6) sc.nd rfl (by first | exact Or.inl rfl | exact Or.inr rfl)))) (fun _ _ _ _ _ => dx_nil) (fun _ _ _ _ _ => (dv_ty c_tuple (by rfl) z_tuple (by decide +kernel) (da_cons (dv_var (pv 6)) da_nil))))) da_nil)))))))))
abbrev s__law_new_form : Stmt := top 64
noncomputable def b__law_new_form : ES := (sSeq (sSet 4 (eCall m__law_handed (aCons (eVar 0) (aCons (eBin gMod (eAll mInt (aCons (eVar 3) aNil)) (eC (.int 2))) aNil)))) (sSeq (sSet 5 (eCall m__law_handed_table (aCons (eVar 1) (aCons (eVar 3) aNil)))) (sSeq (sSet 6 (eCall m_changed (aCons (eVar 4) (aCons (eVar 5) aNil)))) (sSeq (sIf (bOr (bNot (bVal (eCall m__law_is_row (aCons (eVar 6) (aCons (eC (.int 6)) aNil))))) (bVal (eBin gNe (eVar 6) (eCall m__law_changed (aCons (eVar 0) (aCons (eVar 1) aNil)))))) (sRet (eC .none)) sNx) (sSeq (sIf (bOr (bVal (eBin gNe (eAll mTuple (aCons (eVar 4) aNil)) (eVar 0))) (bNot (bVal (eCall m__law_stayed (aCons (eVar 5) (aCons (eVar 1) aNil)))))) (sRet (eC .none)) sNx) (sSeq (sSet 7 (eCall m_value (aCons (eVar 6) (aCons (eCall m__law_handed (aCons (eVar 2) (aCons (eBin gFdiv (eVar 3) (eC (.int 2))) aNil))) aNil)))) (sSeq (sIf (bOr (bNot (bVal (eCall m__law_whole (aCons (eVar 7) aNil)))) (bVal (eBin gNe (eVar 7) (eCall m__law_value (aCons (eVar 0) (aCons (eCall m__law_image (aCons (eVar 1) (aCons (eVar 2) aNil))) aNil)))))) (sRet (eC .none)) sNx) (sSeq (sSet 8 (eBin gMul (eCall m__law_determinant (aCons (eVar 1) aNil)) (eCall m__law_determinant (aCons (eVar 1) aNil)))) (sSeq (sSet 9 (eCall m_form_determinant (aCons (eVar 6) aNil))) (sSeq (sIf (bOr (bNot (bVal (eCall m__law_whole (aCons (eVar 9) aNil)))) (bVal (eBin gNe (eVar 9) (eBin gMul (eVar 8) (eCall m__law_determinant (aCons (eCall m__law_gram (aCons (eVar 0) aNil)) aNil)))))) (sRet (eC .none)) sNx) (sRet (eVar 6))))))))))))
noncomputable def m__law_new_form : List PyData → Option PyData := runD 6 b__law_new_form
abbrev N__law_new_form : List Str := ["form", "table", "row", "wish", "handed", "lines", "told", "reached", "scale", "whole"]
theorem ok__law_new_form (F : Fd K mg "_law_new_form" s__law_new_form) (d__law_handed : Def P w K mg base "_law_handed" 1 2 m__law_handed) (d__law_handed_table : Def P w K mg base "_law_handed_table" 2 2 m__law_handed_table) (d_changed : Def P w K mg base "changed" 3 2 m_changed) (d__law_changed : Def P w K mg base "_law_changed" 3 2 m__law_changed) (d__law_is_row : Def P w K mg base "_law_is_row" 2 2 m__law_is_row) (d__law_stayed : Def P w K mg base "_law_stayed" 1 2 m__law_stayed) (d_value : Def P w K mg base "value" 1 2 m_value) (d__law_image : Def P w K mg base "_law_image" 2 2 m__law_image) (d__law_value : Def P w K mg base "_law_value" 1 2 m__law_value) (d__law_whole : Def P w K mg base "_law_whole" 1 1 m__law_whole) (d__law_determinant : Def P w K mg base "_law_determinant" 2 1 m__law_determinant) (d_form_determinant : Def P w K mg base "form_determinant" 3 1 m_form_determinant) (d__law_gram : Def P w K mg base "_law_gram" 1 1 m__law_gram) (z_int : mg "int" = none) (z_tuple : mg "tuple" = none) : Def P w K mg base "_law_new_form" 4 4 m__law_new_form := by
  have sc : FnScope N__law_new_form ["form", "table", "row", "wish"] (defScope s__law_new_form) := ⟨rfl, rfl, rfl, by decide +kernel, rfl, by decide +kernel, by decide +kernel⟩
  refine F.mk sc rfl rfl (fun _ _ _ _ _ _ us hl => match us, hl with | [_, _, _, _], _ => rfl) fun cdv A outer s H E hr => ?_
  exact (dss_cons (ds_set (i := 4) sc.nd rfl (by first | exact Or.inl rfl | exact Or.inr rfl) (dv_callD d__law_handed hr (da_cons (dv_var (pv 0)) (da_cons (dv_bin o_mod (dv_ty c_int (by rfl) z_int (by decide +kernel) (da_cons (dv_var (pv 3)) da_nil)) dv_int) da_nil)))) (dss_cons (ds_set (i := 5) sc.nd rfl (by first | exact Or.inl rfl | exact Or.inr rfl) (dv_callD d__law_handed_table hr (da_cons (dv_var (pv 1)) (da_cons (dv_var (pv 3)) da_nil)))) (dss_cons (ds_set (i := 6) sc.nd rfl (by first | exact Or.inl rfl | exact Or.inr rfl) (dv_callD d_changed hr (da_cons (dv_var (pv 4)) (da_cons (dv_var (pv 5)) da_nil)))) (dss_cons (ds_if (dt_w (dw_or (dt_not (dt_val (dv_callD d__law_is_row hr (da_cons (dv_var (pv 6)) (da_cons dv_int da_nil))))) (dw_or1 (dt_cmp (o_ne hr.units) (dv_var (pv 6)) (dv_callD d__law_changed hr (da_cons (dv_var (pv 0)) (da_cons (dv_var (pv 1)) da_nil))))))) (dss_one (ds_ret dv_non)) dss_nil) (dss_cons (ds_if (dt_w (dw_or (dt_cmp (o_ne hr.units) (dv_ty c_tuple (by rfl) z_tuple (by decide +kernel) (da_cons (dv_var (pv 4)) da_nil)) (dv_var (pv 0))) (dw_or1 (dt_not (dt_val (dv_callD d__law_stayed hr (da_cons (dv_var (pv 5)) (da_cons (dv_var (pv 1)) da_nil)))))))) (dss_one (ds_ret dv_non)) dss_nil) (dss_cons (ds_set (i := 7) sc.nd rfl (by first | exact Or.inl rfl | exact Or.inr rfl) (dv_callD d_value hr (da_cons (dv_var (pv 6)) (da_cons (dv_callD d__law_handed hr (da_cons (dv_var (pv 2)) (da_cons (dv_bin o_fdiv (dv_var (pv 3)) dv_int) da_nil))) da_nil)))) (dss_cons (ds_if (dt_w (dw_or (dt_not (dt_val (dv_callD d__law_whole hr (da_cons (dv_var (pv 7)) da_nil)))) (dw_or1 (dt_cmp (o_ne hr.units) (dv_var (pv 7)) (dv_callD d__law_value hr (da_cons (dv_var (pv 0)) (da_cons (dv_callD d__law_image hr (da_cons (dv_var (pv 1)) (da_cons (dv_var (pv 2)) da_nil))) da_nil))))))) (dss_one (ds_ret dv_non)) dss_nil) (dss_cons (ds_set (i := 8) sc.nd rfl (by first | exact Or.inl rfl | exact Or.inr rfl) (dv_bin o_mul (dv_callD d__law_determinant hr (da_cons (dv_var (pv 1)) da_nil)) (dv_callD d__law_determinant hr (da_cons (dv_var (pv 1)) da_nil)))) (dss_cons (ds_set (i := 9) sc.nd rfl (by first | exact Or.inl rfl | exact Or.inr rfl) (dv_callD d_form_determinant hr (da_cons (dv_var (pv 6)) da_nil))) (dss_cons (ds_if (dt_w (dw_or (dt_not (dt_val (dv_callD d__law_whole hr (da_cons (dv_var (pv 9)) da_nil)))) (dw_or1 (dt_cmp (o_ne hr.units) (dv_var (pv 9)) (dv_bin o_mul (dv_var (pv 8)) (dv_callD d__law_determinant hr (da_cons (dv_callD d__law_gram hr (da_cons (dv_var (pv 0)) da_nil)) da_nil))))))) (dss_one (ds_ret dv_non)) dss_nil) (dss_one (ds_ret (dv_var (pv 6))))))))))))))
abbrev s__law_signature_stays : Stmt := top 65
noncomputable def b__law_signature_stays : ES := (sSeq (sSet 3 (eCall m__law_signature (aCons (eVar 0) aNil))) (sSeq (sSet 4 (eCall m_signature (aCons (eCall m__law_handed (aCons (eVar 1) (aCons (eVar 2) aNil))) aNil))) (sSeq (sSet 5 (eCall m_is_one_minus (aCons (eCall m__law_handed (aCons (eVar 1) (aCons (eVar 2) aNil))) aNil))) (sSeq (sIf (bOr (bNot (bVal (eCall m__law_is_row (aCons (eVar 4) (aCons (eC (.int 3)) aNil))))) (bVal (eBin gNe (eVar 4) (eVar 3)))) (sRet (eC (.bool false))) sNx) (sSeq (sIf (bVal (eBin gEq (eVar 3) (eTup (aCons (eC (.int 2)) (aCons (eC (.int 1)) (aCons (eC (.int 0)) aNil)))))) (sRet (eBin gIsB (eVar 5) (eC (.bool true)))) sNx) (sRet (eBin gIsB (eVar 5) (eC (.bool false)))))))))
noncomputable def m__law_signature_stays : List PyData → Option PyData := runD 3 b__law_signature_stays
abbrev N__law_signature_stays : List Str := ["form", "new", "wish", "due", "named", "told"]
theorem ok__law_signature_stays (F : Fd K mg "_law_signature_stays" s__law_signature_stays) (d__law_signature : Def P w K mg base "_law_signature" 1 1 m__law_signature) (d__law_handed : Def P w K mg base "_law_handed" 1 2 m__law_handed) (d_signature : Def P w K mg base "signature" 5 1 m_signature) (d_is_one_minus : Def P w K mg base "is_one_minus" 6 1 m_is_one_minus) (d__law_is_row : Def P w K mg base "_law_is_row" 2 2 m__law_is_row) : Def P w K mg base "_law_signature_stays" 7 3 m__law_signature_stays := by
  have sc : FnScope N__law_signature_stays ["form", "new", "wish"] (defScope s__law_signature_stays) := ⟨rfl, rfl, rfl, by decide +kernel, rfl, by decide +kernel, by decide +kernel⟩
  refine F.mk sc rfl rfl (fun _ _ _ _ _ _ us hl => match us, hl with | [_, _, _], _ => rfl) fun cdv A outer s H E hr => ?_
  exact (dss_cons (ds_set (i := 3) sc.nd rfl (by first | exact Or.inl rfl | exact Or.inr rfl) (dv_callD d__law_signature hr (da_cons (dv_var (pv 0)) da_nil))) (dss_cons (ds_set (i := 4) sc.nd rfl (by first | exact Or.inl rfl | exact Or.inr rfl) (dv_callD d_signature hr (da_cons (dv_callD d__law_handed hr (da_cons (dv_var (pv 1)) (da_cons (dv_var (pv 2)) da_nil))) da_nil))) (dss_cons (ds_set (i := 5) sc.nd rfl (by first | exact Or.inl rfl | exact Or.inr rfl) (dv_callD d_is_one_minus hr (da_cons (dv_callD d__law_handed hr (da_cons (dv_var (pv 1)) (da_cons (dv_var (pv 2)) da_nil))) da_nil))) (dss_cons (ds_if (dt_w (dw_or (dt_not (dt_val (dv_callD d__law_is_row hr (da_cons (dv_var (pv 4)) (da_cons dv_int da_nil))))) (dw_or1 (dt_cmp (o_ne hr.units) (dv_var (pv 4)) (dv_var (pv 3)))))) (dss_one (ds_ret dv_bl)) dss_nil) (dss_cons (ds_if (dt_cmp (o_eq hr.units) (dv_var (pv 3)) (dv_tup (da_cons dv_int (da_cons dv_int (da_cons dv_int da_nil))))) (dss_one (ds_ret (dv_cmp o_isB (dv_var (pv 5)) dv_bl))) dss_nil) (dss_one (ds_ret (dv_cmp o_isB (dv_var (pv 5)) dv_bl))))))))
abbrev s__law_changes_right : Stmt := top 66
noncomputable def b__law_changes_right : ES := (sSeq (sOwn 4 (fAll mList (aCons (eVar 0) aNil))) (sSeq (sFor (iSeq (eOfF (aCons (eC (.int 0)) (aCons (eC (.int 2)) (aCons (eUn gNeg (eC (.int 1))) (aCons (eC (.int 1)) aNil)))))) (gNm 5) (sSeq (sOwn 6 (fAll mList (aCons (eVar 1) aNil))) (sSeq (sPut 6 (eVar 2) (eCall m__law_times (aCons (eVar 5) (aCons (eBin gIx (eVar 1) (eVar 2)) aNil)))) (sFrz [6] (sApp 4 (eAll mTuple (aCons (eVar 6) aNil))))))) (sSeq (sFrz [4] (sFor (iSeq (eVar 4)) (gNm 7) (sSeq (sSet 8 (eCall m_is_change (aCons (eCall m__law_handed_table (aCons (eVar 7) (aCons (eVar 3) aNil))) aNil))) (sSeq (sSet 9 (eCall m__law_determinant (aCons (eVar 7) aNil))) (sSeq (sIf (bAnd (bVal (eBin gIsntB (eVar 8) (eC (.bool true)))) (bOr (bVal (eBin gEq (eVar 9) (eC (.int 1)))) (bVal (eBin gEq (eVar 9) (eUn gNeg (eC (.int 1))))))) (sRet (eC (.bool false))) sNx) (sIf (bAnd (bVal (eBin gIsntB (eVar 8) (eC (.bool false)))) (bAnd (bVal (eBin gNe (eVar 9) (eC (.int 1)))) (bVal (eBin gNe (eVar 9) (eUn gNeg (eC (.int 1))))))) (sRet (eC (.bool false))) sNx)))))) (sRet (eC (.bool true))))))
noncomputable def m__law_changes_right : List PyData → Option PyData := runD 6 b__law_changes_right
abbrev N__law_changes_right : List Str := ["tables", "change", "line", "wish", "asked", "factor", "lines", "table", "told", "whole"]
theorem ok__law_changes_right (F : Fd K mg "_law_changes_right" s__law_changes_right) (d__law_times : Def P w K mg base "_law_times" 1 2 m__law_times) (d__law_handed_table : Def P w K mg base "_law_handed_table" 2 2 m__law_handed_table) (d_is_change : Def P w K mg base "is_change" 3 1 m_is_change) (d__law_determinant : Def P w K mg base "_law_determinant" 2 1 m__law_determinant) (z_list : mg "list" = none) (z_tuple : mg "tuple" = none) : Def P w K mg base "_law_changes_right" 4 4 m__law_changes_right := by
  have sc : FnScope N__law_changes_right ["tables", "change", "line", "wish"] (defScope s__law_changes_right) := ⟨rfl, rfl, rfl, by decide +kernel, rfl, by decide +kernel, by decide +kernel⟩
  refine F.mk sc rfl rfl (fun _ _ _ _ _ _ us hl => match us, hl with | [_, _, _, _], _ => rfl) fun cdv A outer s H E hr => ?_
  exact (dss_cons (ds_own (i := 4) sc.nd rfl (by first | exact Or.inl rfl | exact Or.inr rfl) (df_ty c_list (by rfl) z_list (by decide +kernel) (da_cons (dv_var (pv 0)) da_nil))) (dss_cons (ds_for PassesOwn.never rfl (di_seq (dv_ofF (df_lst (da_cons dv_int (da_cons dv_int (da_cons (dv_un u_neg dv_int) (da_cons dv_int da_nil))))))) (dg_name (pg_name (i := 5) sc.nd rfl (by first | exact Or.inl rfl | exact Or.inr rfl))) (dss_cons (ds_own (i := 6) sc.nd rfl (by first | exact Or.inl rfl | exact Or.inr rfl) (df_ty c_list (by rfl) z_list (by decide +kernel) (da_cons (dv_var (pv 1)) da_nil))) (dss_cons (ds_put (pv 6) (dv_var (pv 2)) (dv_callD d__law_times hr (da_cons (dv_var (pv 5)) (da_cons (dv_ix ix_g (dv_var (pv 1)) (dv_var (pv 2))) da_nil))) (hgs := pg_sub (pv 6) (dv_var (pv 2)) set_list)) (dss_one (ds_frz (S := [6]) (ds_app (i := 4) (pv 4) (dv_ty c_tuple (by rfl) z_tuple (by decide +kernel) (da_cons (dv_var (pv 6)) da_nil)))))))) (dss_cons (ds_frz (S := [4]) (ds_for PassesOwn.never rfl (di_seq (dv_var (pv 4))) (dg_name (pg_name (i := 7) sc.nd rfl (by first | exact Or.inl rfl | exact Or.inr rfl))) (dss_cons (ds_set (i := 8) sc.nd rfl (by first | exact Or.inl rfl | exact Or.inr rfl) (dv_callD d_is_change hr (da_cons (dv_callD d__law_handed_table hr (da_cons (dv_var (pv 7)) (da_cons (dv_var (pv 3)) da_nil))) da_nil))) (dss_cons (ds_set (i := 9) sc.nd rfl (by first | exact Or.inl rfl | exact Or.inr rfl) (dv_callD d__law_determinant hr (da_cons (dv_var (pv 7)) da_nil))) (dss_cons (ds_if (dt_w (dw_and (dt_cmp o_isntB (dv_var (pv 8)) dv_bl) (dw_and1 (dt_w (dw_or (dt_cmp (o_eq hr.units) (dv_var (pv 9)) dv_int) (dw_or1 (dt_cmp (o_eq hr.units) (dv_var (pv 9)) (dv_un u_neg dv_int)))))))) (dss_one (ds_ret dv_bl)) dss_nil) (dss_one (ds_if (dt_w (dw_and (dt_cmp o_isntB (dv_var (pv 8)) dv_bl) (dw_and (dt_cmp (o_ne hr.units) (dv_var (pv 9)) dv_int) (dw_and1 (dt_cmp (o_ne hr.units) (dv_var (pv 9)) (dv_un u_neg dv_int)))))) (dss_one (ds_ret dv_bl)) dss_nil))))))) (dss_one (ds_ret dv_bl)))))
abbrev s__law_steps_right : Stmt := top 67
noncomputable def b__law_steps_right : ES := (sSeq (sSet 2 (eCall m__law_steps_table (aCons (eVar 0) aNil))) (sSeq (sSet 3 (eCall m__law_handed (aCons (eOfF (fComp (iSeq (eVar 0)) (gNm 5) bYes (eCall m__law_handed (aCons (eVar 5) (aCons (eVar 1) aNil))) [5])) (aCons (eBin gSub (eC (.int 1)) (eVar 1)) aNil)))) (sSeq (sSet 4 (eCall m_table_of_steps (aCons (eVar 3) aNil))) (sRet (eAnd (eCall m__law_is_table (aCons (eVar 4) aNil)) (eAnd (eBin gEq (eVar 4) (eVar 2)) (eBin gEq (eOfF (fComp (iSeq (eVar 3)) (gNm 5) bYes (eAll mTuple (aCons (eVar 5) aNil)) [5])) (eVar 0))))))))
noncomputable def m__law_steps_right : List PyData → Option PyData := runD 4 b__law_steps_right
abbrev N__law_steps_right : List Str := ["steps", "wish", "due", "passed", "told", "step"]
theorem ok__law_steps_right (F : Fd K mg "_law_steps_right" s__law_steps_right) (d__law_steps_table : Def P w K mg base "_law_steps_table" 3 1 m__law_steps_table) (d__law_handed : Def P w K mg base "_law_handed" 1 2 m__law_handed) (d_table_of_steps : Def P w K mg base "table_of_steps" 3 1 m_table_of_steps) (d__law_is_table : Def P w K mg base "_law_is_table" 3 1 m__law_is_table) (z_tuple : mg "tuple" = none) : Def P w K mg base "_law_steps_right" 4 2 m__law_steps_right := by
  have sc : FnScope N__law_steps_right ["steps", "wish"] (defScope s__law_steps_right) := ⟨rfl, rfl, rfl, by decide +kernel, rfl, by decide +kernel, by decide +kernel⟩
  refine F.mk sc rfl rfl (fun _ _ _ _ _ _ us hl => match us, hl with | [_, _], _ => rfl) fun cdv A outer s H E hr => ?_
  exact (dss_cons (ds_set (i := 2) sc.nd rfl (by first | exact Or.inl rfl | exact Or.inr rfl) (dv_callD d__law_steps_table hr (da_cons (dv_var (pv 0)) da_nil))) (dss_cons (ds_set (i := 3) sc.nd rfl (by first | exact Or.inl rfl | exact Or.inr rfl) (dv_callD d__law_handed hr (da_cons (dv_ofF (df_comp (own := [("step", 5)]) rfl sc.nd (di_seq (dv_var (pv 0))) (blkOk_by (N := N__law_steps_right) (sc := defScope s__law_steps_right) (by decide +kernel)) (fun _ _ _ _ _ => (dg_name (pg_name (i := 5) sc.nd rfl (by first | exact Or.inl rfl | exact Or.inr rfl)))) (fun _ _ _ _ _ => dx_nil) (fun _ _ _ _ _ => (dv_callD d__law_handed hr (da_cons (dv_var (pv 5)) (da_cons (dv_var (pv 1)) da_nil)))))) (da_cons (dv_bin o_sub dv_int (dv_var (pv 1))) da_nil)))) (dss_cons (ds_set (i := 4) sc.nd rfl (by first | exact Or.inl rfl | exact Or.inr rfl) (dv_callD d_table_of_steps hr (da_cons (dv_var (pv 3)) da_nil))) (dss_one (ds_ret (dv_and (dv_callD d__law_is_table hr (da_cons (dv_var (pv 4)) da_nil)) (dv_and (dv_cmp (o_eq hr.units) (dv_var (pv 4)) (dv_var (pv 2))) (dv_one (dv_cmp (o_eq hr.units) (dv_ofF (df_comp (own := [("step", 5)]) rfl sc.nd (di_seq (dv_var (pv 3))) (blkOk_by (N := N__law_steps_right) (sc := defScope s__law_steps_right) (by decide +kernel)) (fun _ _ _ _ _ => (dg_name (pg_name (i := 5) sc.nd rfl (by first | exact Or.inl rfl | exact Or.inr rfl)))) (fun _ _ _ _ _ => dx_nil) (fun _ _ _ _ _ => (dv_ty c_tuple (by rfl) z_tuple (by decide +kernel) (da_cons (dv_var (pv 5)) da_nil))))) (dv_var (pv 0)))))))))))
abbrev s_law : Stmt := top 68
noncomputable def b_law : ES := (sSeq (sSet 1 (eCall m__law_digits (aCons (eCall m__law_cell (aCons (eVar 0) (aCons (eC (.int 0)) aNil))) (aCons (eOfF (aCons (eC (.int 5)) (aCons (eC (.int 3)) (aCons (eC (.int 4)) (aCons (eC (.int 4)) (aCons (eC (.int 13)) (aCons (eC (.int 2)) (aCons (eC (.int 2)) (aCons (eC (.int 3)) aNil))))))))) aNil)))) (sSeq (sSetF 2 (fComp (iRg2 (eC (.int 1)) (eC (.int 14))) (gNm 11) bYes (eCall m__law_number (aCons (eCall m__law_cell (aCons (eVar 0) (aCons (eVar 11) aNil))) aNil)) [11])) (sSeq (sSet 3 (eCall m__law_steps (aCons (eVar 0) (aCons (eC (.int 14)) (aCons (eBin gIx (eVar 1) (eC (.int 4))) aNil))))) (sSeq (sSet 4 (eCall m__law_any_form (aCons (eCall m__law_cell (aCons (eVar 0) (aCons (eC (.int 17)) aNil))) (aCons (eCall m__law_cell (aCons (eVar 0) (aCons (eC (.int 18)) aNil))) aNil)))) (sSeq (sIf (bVal (eBin gEq (eBin gIx (eVar 1) (eC (.int 7))) (eC (.int 0)))) (sSet 4 (eAll mTuple (aCons (eOfF (fComp (iRg2 (eC (.int 21)) (eC (.int 27))) (gNm 11) bYes (eCall m__law_number (aCons (eCall m__law_cell (aCons (eVar 0) (aCons (eVar 11) aNil))) aNil)) [11])) aNil))) sNx) (sSeq (sSet 5 (eCall m__law_table (aCons (eVar 2) (aCons (eBin gIx (eVar 1) (eC (.int 0))) (aCons (eBin gIx (eVar 1) (eC (.int 1))) (aCons (eVar 3) aNil)))))) (sSeq (sSet 6 (eAll mTuple (aCons (eSl (eVar 2) (oSome (eC (.int 10))) (oSome (eC (.int 13)))) aNil))) (sSeq (sSet 7 (eCall m__law_new_form (aCons (eVar 4) (aCons (eVar 5) (aCons (eVar 6) (aCons (eBin gIx (eVar 1) (eC (.int 2))) aNil)))))) (sSeq (sIf (bVal (eBin gIs (eVar 7) (eC .none))) (sRet (eC (.bool false))) sNx) (sSeq (sIf (bAnd (bVal (eBin gLe (eAll mMaxL (aCons (eOfF (fComp (iSeq (eVar 7)) (gNm 12) bYes (eAll mAbs (aCons (eVar 12) aNil)) [12])) aNil)) (eC (.int 40)))) (bVal (eBin gNe (eCall m__law_determinant (aCons (eVar 5) aNil)) (eC (.int 0))))) (sIf (bNot (bVal (eCall m__law_signature_stays (aCons (eVar 4) (aCons (eVar 7) (aCons (eBin gIx (eVar 1) (eC (.int 5))) aNil)))))) (sRet (eC (.bool false))) sNx) sNx) (sSeq (sSet 8 (eCall m__law_small_change (aCons (eCall m__law_cell (aCons (eVar 0) (aCons (eC (.int 19)) aNil))) aNil))) (sSeq (sIf (bVal (eBin gNe (eCall m__law_new_form (aCons (eVar 7) (aCons (eVar 8) (aCons (eVar 6) (aCons (eBin gIx (eVar 1) (eC (.int 3))) aNil))))) (eCall m__law_changed (aCons (eVar 4) (aCons (eCall m__law_product (aCons (eVar 5) (aCons (eVar 8) aNil))) aNil))))) (sRet (eC (.bool false))) sNx) (sSeq (sSet 9 (eAll mTuple (aCons (eOfF (fComp (iSeq (eCall m__law_digits (aCons (eCall m__law_cell (aCons (eVar 0) (aCons (eC (.int 20)) aNil))) (aCons (eOfF (aCons (eC (.int 5)) (aCons (eC (.int 5)) (aCons (eC (.int 5)) (aCons (eC (.int 5)) (aCons (eC (.int 5)) (aCons (eC (.int 5)) aNil))))))) aNil)))) (gNm 13) bYes (eBin gSub (eVar 13) (eC (.int 2))) [13])) aNil))) (sSeq (sSet 7 (eCall m__law_new_form (aCons (eVar 9) (aCons (eVar 8) (aCons (eVar 6) (aCons (eBin gIx (eVar 1) (eC (.int 3))) aNil)))))) (sSeq (sIf (bOr (bVal (eBin gIs (eVar 7) (eC .none))) (bNot (bVal (eCall m__law_signature_stays (aCons (eVar 9) (aCons (eVar 7) (aCons (eBin gIx (eVar 1) (eC (.int 6))) aNil))))))) (sRet (eC (.bool false))) sNx) (sSeq (sSet 10 (eCall m_changed (aCons (eVar 7) (aCons (eCall m__law_back (aCons (eVar 8) aNil)) aNil)))) (sSeq (sIf (bOr (bNot (bVal (eCall m__law_is_row (aCons (eVar 10) (aCons (eC (.int 6)) aNil))))) (bVal (eBin gNe (eVar 10) (eVar 9)))) (sRet (eC (.bool false))) sNx) (sSeq (sIf (bOr (bNot (bVal (eCall m__law_steps_right (aCons (eVar 3) (aCons (eBin gIx (eVar 1) (eC (.int 5))) aNil))))) (bNot (bVal (eCall m__law_steps_right (aCons (eOfF aNil) (aCons (eBin gIx (eVar 1) (eC (.int 5))) aNil)))))) (sRet (eC (.bool false))) sNx) (sRet (eCall m__law_changes_right (aCons (eOfF (aCons (eVar 5) (aCons (eCall m__law_steps_table (aCons (eVar 3) aNil)) aNil))) (aCons (eVar 8) (aCons (eBin gIx (eVar 1) (eC (.int 1))) (aCons (eBin gIx (eVar 1) (eC (.int 2))) aNil))))))))))))))))))))))))
noncomputable def m_law : List PyData → Option PyData := runD 13 b_law
abbrev N_law : List Str := ["script", "shape", "numbers", "steps", "form", "table", "row", "new", "change", "small", "back", "k", "number", "digit"]
theorem ok_law (F : Fd K mg "law" s_law) (d__law_cell : Def P w K mg base "_law_cell" 1 2 m__law_cell) (d__law_digits : Def P w K mg base "_law_digits" 1 2 m__law_digits) (d__law_number : Def P w K mg base "_law_number" 2 1 m__law_number) (d__law_steps : Def P w K mg base "_law_steps" 2 3 m__law_steps) (d__law_any_form : Def P w K mg base "_law_any_form" 2 2 m__law_any_form) (d__law_table : Def P w K mg base "_law_table" 4 4 m__law_table) (d__law_new_form : Def P w K mg base "_law_new_form" 4 4 m__law_new_form) (d__law_determinant : Def P w K mg base "_law_determinant" 2 1 m__law_determinant) (d__law_signature_stays : Def P w K mg base "_law_signature_stays" 7 3 m__law_signature_stays) (d__law_small_change : Def P w K mg base "_law_small_change" 3 1 m__law_small_change) (d__law_product : Def P w K mg base "_law_product" 2 2 m__law_product) (d__law_changed : Def P w K mg base "_law_changed" 3 2 m__law_changed) (d__law_back : Def P w K mg base "_law_back" 3 1 m__law_back) (d_changed : Def P w K mg base "changed" 3 2 m_changed) (d__law_is_row : Def P w K mg base "_law_is_row" 2 2 m__law_is_row) (d__law_steps_right : Def P w K mg base "_law_steps_right" 4 2 m__law_steps_right) (d__law_steps_table : Def P w K mg base "_law_steps_table" 3 1 m__law_steps_table) (d__law_changes_right : Def P w K mg base "_law_changes_right" 4 4 m__law_changes_right) (z_range : mg "range" = none) (z_tuple : mg "tuple" = none) (z_abs : mg "abs" = none) (z_max : mg "max" = none) : Def P w K mg base "law" 8 1 m_law := by
  have sc : FnScope N_law ["script"] (defScope s_law) := ⟨rfl, rfl, rfl, by decide +kernel, rfl, by decide +kernel, by decide +kernel⟩
  refine F.mk sc rfl rfl (fun _ _ _ _ _ _ us hl => match us, hl with | [_], _ => rfl) fun cdv A outer s H E hr => ?_
  exact (dss_cons (ds_set (i := 1) sc.nd rfl (by first | exact Or.inl rfl | exact Or.inr rfl) (dv_callD d__law_digits hr (da_cons (dv_callD d__law_cell hr (da_cons (dv_var (pv 0)) (da_cons dv_int da_nil))) (da_cons (dv_ofF (df_lst (da_cons dv_int (da_cons dv_int (da_cons dv_int (da_cons dv_int (da_cons dv_int (da_cons dv_int (da_cons dv_int (da_cons dv_int da_nil)))))))))) da_nil)))) (dss_cons (ds_lcV (i := 2) (own := [("k", 11)]) rfl sc.nd rfl rfl (sw_true rfl rfl rfl (by decide +kernel)) (di_rg2 (by rfl) z_range dv_int dv_int) (blkOk_by (N := N_law) (sc := defScope s_law) (by decide +kernel)) (fun _ _ _ _ _ => (dg_name (pg_name (i := 11) sc.nd rfl (by first | exact Or.inl rfl | exact Or.inr rfl)))) (fun _ _ _ _ _ => dx_nil) (fun _ _ _ _ _ => (dv_callD d__law_number hr (da_cons (dv_callD d__law_cell hr (da_cons (dv_var (pv 0)) (da_cons (dv_var (pv 11)) da_nil))) da_nil)))) (dss_cons (ds_set (i := 3) sc.nd rfl (by first | exact Or.inl rfl | exact Or.inr rfl) (dv_callD d__law_steps hr (da_cons (dv_var (pv 0)) (da_cons dv_int (da_cons (dv_ix ix_g (dv_var (pv 1)) dv_int) da_nil))))) (dss_cons (ds_set (i := 4) sc.nd rfl (by first | exact Or.inl rfl | exact Or.inr rfl) (dv_callD d__law_any_form hr (da_cons (dv_callD d__law_cell hr (da_cons (dv_var (pv 0)) (da_cons dv_int da_nil))) (da_cons (dv_callD d__law_cell hr (da_cons (dv_var (pv 0)) (da_cons dv_int da_nil))) da_nil)))) (dss_cons (ds_if (dt_cmp (o_eq hr.units) (dv_ix ix_g (dv_var (pv 1)) dv_int) dv_int) (dss_one (ds_set (i := 4) sc.nd rfl (by first | exact Or.inl rfl | exact Or.inr rfl) (dv_ty c_tuple (by rfl) z_tuple (by decide +kernel) (da_cons (dv_ofF (df_comp (own := [("k", 11)]) rfl sc.nd (di_rg2 (by rfl) z_range dv_int dv_int) (blkOk_by (N := N_law) (sc := defScope s_law) (by decide +kernel)) (fun _ _ _ _ _ => (dg_name (pg_name (i := 11) sc.nd rfl (by first | exact Or.inl rfl | exact Or.inr rfl)))) (fun _ _ _ _ _ => dx_nil) (fun _ _ _ _ _ => (dv_callD d__law_number hr (da_cons (dv_callD d__law_cell hr (da_cons (dv_var (pv 0)) (da_cons (dv_var (pv 11)) da_nil))) da_nil))))) da_nil)))) dss_nil) (dss_cons (ds_set (i := 5) sc.nd rfl (by first | exact Or.inl rfl | exact Or.inr rfl) (dv_callD d__law_table hr (da_cons (dv_var (pv 2)) (da_cons (dv_ix ix_g (dv_var (pv 1)) dv_int) (da_cons (dv_ix ix_g (dv_var (pv 1)) dv_int) (da_cons (dv_var (pv 3)) da_nil)))))) (dss_cons (ds_set (i := 6) sc.nd rfl (by first | exact Or.inl rfl | exact Or.inr rfl) (dv_ty c_tuple (by rfl) z_tuple (by decide +kernel) (da_cons (dv_sl (dv_var (pv 2)) (do_some dv_int) (do_some dv_int)) da_nil))) (dss_cons (ds_set (i := 7) sc.nd rfl (by first | exact Or.inl rfl | exact Or.inr rfl) (dv_callD d__law_new_form hr (da_cons (dv_var (pv 4)) (da_cons (dv_var (pv 5)) (da_cons (dv_var (pv 6)) (da_cons (dv_ix ix_g (dv_var (pv 1)) dv_int) da_nil)))))) (dss_cons (ds_if (dt_cmp o_isN (dv_var (pv 7)) dv_non) (dss_one (ds_ret dv_bl)) dss_nil) (dss_cons (ds_if (dt_w (dw_and (dt_cmp o_le (dv_blt (c_maxL rfl) (by rfl) z_max (by decide +kernel) (da_cons (dv_ofF (df_comp (own := [("number", 12)]) rfl sc.nd (di_seq (dv_var (pv 7))) (blkOk_by (N := N_law) (sc := defScope s_law) (by decide +kernel)) (fun _ _ _ _ _ => (dg_name (pg_name (i := 12) sc.nd rfl (by first | exact Or.inl rfl | exact Or.inr rfl)))) (fun _ _ _ _ _ => dx_nil) (fun _ _ _ _ _ => (dv_blt c_abs (by rfl) z_abs (by decide +kernel) (da_cons (dv_var (pv 12)) da_nil))))) da_nil)) dv_int) (dw_and1 (dt_cmp (o_ne hr.units) (dv_callD d__law_determinant hr (da_cons (dv_var (pv 5)) da_nil)) dv_int)))) (dss_one (ds_if (dt_not (dt_val (dv_callD d__law_signature_stays hr (da_cons (dv_var (pv 4)) (da_cons (dv_var (pv 7)) (da_cons (dv_ix ix_g (dv_var (pv 1)) dv_int) da_nil)))))) (dss_one (ds_ret dv_bl)) dss_nil)) dss_nil) (dss_cons (ds_set (i := 8) sc.nd rfl (by first | exact Or.inl rfl | exact Or.inr rfl) (dv_callD d__law_small_change hr (da_cons (dv_callD d__law_cell hr (da_cons (dv_var (pv 0)) (da_cons dv_int da_nil))) da_nil))) (dss_cons (ds_if (dt_cmp (o_ne hr.units) (dv_callD d__law_new_form hr (da_cons (dv_var (pv 7)) (da_cons (dv_var (pv 8)) (da_cons (dv_var (pv 6)) (da_cons (dv_ix ix_g (dv_var (pv 1)) dv_int) da_nil))))) (dv_callD d__law_changed hr (da_cons (dv_var (pv 4)) (da_cons (dv_callD d__law_product hr (da_cons (dv_var (pv 5)) (da_cons (dv_var (pv 8)) da_nil))) da_nil)))) (dss_one (ds_ret dv_bl)) dss_nil) (dss_cons (ds_set (i := 9) sc.nd rfl (by first | exact Or.inl rfl | exact Or.inr rfl) (dv_ty c_tuple (by rfl) z_tuple (by decide +kernel) (da_cons (dv_ofF (df_comp (own := [("digit", 13)]) rfl sc.nd (di_seq (dv_callD d__law_digits hr (da_cons (dv_callD d__law_cell hr (da_cons (dv_var (pv 0)) (da_cons dv_int da_nil))) (da_cons (dv_ofF (df_lst (da_cons dv_int (da_cons dv_int (da_cons dv_int (da_cons dv_int (da_cons dv_int (da_cons dv_int da_nil)))))))) da_nil)))) (blkOk_by (N := N_law) (sc := defScope s_law) (by decide +kernel)) (fun _ _ _ _ _ => (dg_name (pg_name (i := 13) sc.nd rfl (by first | exact Or.inl rfl | exact Or.inr rfl)))) (fun _ _ _ _ _ => dx_nil) (fun _ _ _ _ _ => (dv_bin o_sub (dv_var (pv 13)) dv_int)))) da_nil))) (dss_cons (ds_set (i := 7) sc.nd rfl (by first | exact Or.inl rfl | exact Or.inr rfl) (dv_callD d__law_new_form hr (da_cons (dv_var (pv 9)) (da_cons (dv_var (pv 8)) (da_cons (dv_var (pv 6)) (da_cons (dv_ix ix_g (dv_var (pv 1)) dv_int) da_nil)))))) (dss_cons (ds_if (dt_w (dw_or (dt_cmp o_isN (dv_var (pv 7)) dv_non) (dw_or1 (dt_not (dt_val (dv_callD d__law_signature_stays hr (da_cons (dv_var (pv 9)) (da_cons (dv_var (pv 7)) (da_cons (dv_ix ix_g (dv_var (pv 1)) dv_int) da_nil))))))))) (dss_one (ds_ret dv_bl)) dss_nil) (dss_cons (ds_set (i := 10) sc.nd rfl (by first | exact Or.inl rfl | exact Or.inr rfl) (dv_callD d_changed hr (da_cons (dv_var (pv 7)) (da_cons (dv_callD d__law_back hr (da_cons (dv_var (pv 8)) da_nil)) da_nil)))) (dss_cons (ds_if (dt_w (dw_or (dt_not (dt_val (dv_callD d__law_is_row hr (da_cons (dv_var (pv 10)) (da_cons dv_int da_nil))))) (dw_or1 (dt_cmp (o_ne hr.units) (dv_var (pv 10)) (dv_var (pv 9)))))) (dss_one (ds_ret dv_bl)) dss_nil) (dss_cons (ds_if (dt_w (dw_or (dt_not (dt_val (dv_callD d__law_steps_right hr (da_cons (dv_var (pv 3)) (da_cons (dv_ix ix_g (dv_var (pv 1)) dv_int) da_nil))))) (dw_or1 (dt_not (dt_val (dv_callD d__law_steps_right hr (da_cons (dv_ofF (df_lst da_nil)) (da_cons (dv_ix ix_g (dv_var (pv 1)) dv_int) da_nil)))))))) (dss_one (ds_ret dv_bl)) dss_nil) (dss_one (ds_ret (dv_callD d__law_changes_right hr (da_cons (dv_ofF (df_lst (da_cons (dv_var (pv 5)) (da_cons (dv_callD d__law_steps_table hr (da_cons (dv_var (pv 3)) da_nil)) da_nil)))) (da_cons (dv_var (pv 8)) (da_cons (dv_ix ix_g (dv_var (pv 1)) dv_int) (da_cons (dv_ix ix_g (dv_var (pv 1)) dv_int) da_nil)))))))))))))))))))))))))
theorem fn_law {fa : Addr} {fd : FuncData} (F0 : FnP K "law" s_law fa fd) (d__law_cell : Def P w K mg base "_law_cell" 1 2 m__law_cell) (d__law_digits : Def P w K mg base "_law_digits" 1 2 m__law_digits) (d__law_number : Def P w K mg base "_law_number" 2 1 m__law_number) (d__law_steps : Def P w K mg base "_law_steps" 2 3 m__law_steps) (d__law_any_form : Def P w K mg base "_law_any_form" 2 2 m__law_any_form) (d__law_table : Def P w K mg base "_law_table" 4 4 m__law_table) (d__law_new_form : Def P w K mg base "_law_new_form" 4 4 m__law_new_form) (d__law_determinant : Def P w K mg base "_law_determinant" 2 1 m__law_determinant) (d__law_signature_stays : Def P w K mg base "_law_signature_stays" 7 3 m__law_signature_stays) (d__law_small_change : Def P w K mg base "_law_small_change" 3 1 m__law_small_change) (d__law_product : Def P w K mg base "_law_product" 2 2 m__law_product) (d__law_changed : Def P w K mg base "_law_changed" 3 2 m__law_changed) (d__law_back : Def P w K mg base "_law_back" 3 1 m__law_back) (d_changed : Def P w K mg base "changed" 3 2 m_changed) (d__law_is_row : Def P w K mg base "_law_is_row" 2 2 m__law_is_row) (d__law_steps_right : Def P w K mg base "_law_steps_right" 4 2 m__law_steps_right) (d__law_steps_table : Def P w K mg base "_law_steps_table" 3 1 m__law_steps_table) (d__law_changes_right : Def P w K mg base "_law_changes_right" 4 4 m__law_changes_right) (z_range : mg "range" = none) (z_tuple : mg "tuple" = none) (z_abs : mg "abs" = none) (z_max : mg "max" = none) : FnOk P w K mg base CX0 8 fa fd ["script"] (spD K 1 m_law) := by
  have sc : FnScope N_law ["script"] (defScope s_law) := ⟨rfl, rfl, rfl, by decide +kernel, rfl, by decide +kernel, by decide +kernel⟩
  refine fnOk F0 sc rfl rfl fun cdv A outer s H E hr => ?_
  exact (dss_cons (ds_set (i := 1) sc.nd rfl (by first | exact Or.inl rfl | exact Or.inr rfl) (dv_callD d__law_digits hr (da_cons (dv_callD d__law_cell hr (da_cons (dv_var (pv 0)) (da_cons dv_int da_nil))) (da_cons (dv_ofF (df_lst (da_cons dv_int (da_cons dv_int (da_cons dv_int (da_cons dv_int (da_cons dv_int (da_cons dv_int (da_cons dv_int (da_cons dv_int da_nil)))))))))) da_nil)))) (dss_cons (ds_lcV (i := 2) (own := [("k", 11)]) rfl sc.nd rfl rfl (sw_true rfl rfl rfl (by decide +kernel)) (di_rg2 (by rfl) z_range dv_int dv_int) (blkOk_by (N := N_law) (sc := defScope s_law) (by decide +kernel)) (fun _ _ _ _ _ => (dg_name (pg_name (i := 11) sc.nd rfl (by first | exact Or.inl rfl | exact Or.inr rfl)))) (fun _ _ _ _ _ => dx_nil) (fun _ _ _ _ _ => (dv_callD d__law_number hr (da_cons (dv_callD d__law_cell hr (da_cons (dv_var (pv 0)) (da_cons (dv_var (pv 11)) da_nil))) da_nil)))) (dss_cons (ds_set (i := 3) sc.nd rfl (by first | exact Or.inl rfl | exact Or.inr rfl) (dv_callD d__law_steps hr (da_cons (dv_var (pv 0)) (da_cons dv_int (da_cons (dv_ix ix_g (dv_var (pv 1)) dv_int) da_nil))))) (dss_cons (ds_set (i := 4) sc.nd rfl (by first | exact Or.inl rfl | exact Or.inr rfl) (dv_callD d__law_any_form hr (da_cons (dv_callD d__law_cell hr (da_cons (dv_var (pv 0)) (da_cons dv_int da_nil))) (da_cons (dv_callD d__law_cell hr (da_cons (dv_var (pv 0)) (da_cons dv_int da_nil))) da_nil)))) (dss_cons (ds_if (dt_cmp (o_eq hr.units) (dv_ix ix_g (dv_var (pv 1)) dv_int) dv_int) (dss_one (ds_set (i := 4) sc.nd rfl (by first | exact Or.inl rfl | exact Or.inr rfl) (dv_ty c_tuple (by rfl) z_tuple (by decide +kernel) (da_cons (dv_ofF (df_comp (own := [("k", 11)]) rfl sc.nd (di_rg2 (by rfl) z_range dv_int dv_int) (blkOk_by (N := N_law) (sc := defScope s_law) (by decide +kernel)) (fun _ _ _ _ _ => (dg_name (pg_name (i := 11) sc.nd rfl (by first | exact Or.inl rfl | exact Or.inr rfl)))) (fun _ _ _ _ _ => dx_nil) (fun _ _ _ _ _ => (dv_callD d__law_number hr (da_cons (dv_callD d__law_cell hr (da_cons (dv_var (pv 0)) (da_cons (dv_var (pv 11)) da_nil))) da_nil))))) da_nil)))) dss_nil) (dss_cons (ds_set (i := 5) sc.nd rfl (by first | exact Or.inl rfl | exact Or.inr rfl) (dv_callD d__law_table hr (da_cons (dv_var (pv 2)) (da_cons (dv_ix ix_g (dv_var (pv 1)) dv_int) (da_cons (dv_ix ix_g (dv_var (pv 1)) dv_int) (da_cons (dv_var (pv 3)) da_nil)))))) (dss_cons (ds_set (i := 6) sc.nd rfl (by first | exact Or.inl rfl | exact Or.inr rfl) (dv_ty c_tuple (by rfl) z_tuple (by decide +kernel) (da_cons (dv_sl (dv_var (pv 2)) (do_some dv_int) (do_some dv_int)) da_nil))) (dss_cons (ds_set (i := 7) sc.nd rfl (by first | exact Or.inl rfl | exact Or.inr rfl) (dv_callD d__law_new_form hr (da_cons (dv_var (pv 4)) (da_cons (dv_var (pv 5)) (da_cons (dv_var (pv 6)) (da_cons (dv_ix ix_g (dv_var (pv 1)) dv_int) da_nil)))))) (dss_cons (ds_if (dt_cmp o_isN (dv_var (pv 7)) dv_non) (dss_one (ds_ret dv_bl)) dss_nil) (dss_cons (ds_if (dt_w (dw_and (dt_cmp o_le (dv_blt (c_maxL rfl) (by rfl) z_max (by decide +kernel) (da_cons (dv_ofF (df_comp (own := [("number", 12)]) rfl sc.nd (di_seq (dv_var (pv 7))) (blkOk_by (N := N_law) (sc := defScope s_law) (by decide +kernel)) (fun _ _ _ _ _ => (dg_name (pg_name (i := 12) sc.nd rfl (by first | exact Or.inl rfl | exact Or.inr rfl)))) (fun _ _ _ _ _ => dx_nil) (fun _ _ _ _ _ => (dv_blt c_abs (by rfl) z_abs (by decide +kernel) (da_cons (dv_var (pv 12)) da_nil))))) da_nil)) dv_int) (dw_and1 (dt_cmp (o_ne hr.units) (dv_callD d__law_determinant hr (da_cons (dv_var (pv 5)) da_nil)) dv_int)))) (dss_one (ds_if (dt_not (dt_val (dv_callD d__law_signature_stays hr (da_cons (dv_var (pv 4)) (da_cons (dv_var (pv 7)) (da_cons (dv_ix ix_g (dv_var (pv 1)) dv_int) da_nil)))))) (dss_one (ds_ret dv_bl)) dss_nil)) dss_nil) (dss_cons (ds_set (i := 8) sc.nd rfl (by first | exact Or.inl rfl | exact Or.inr rfl) (dv_callD d__law_small_change hr (da_cons (dv_callD d__law_cell hr (da_cons (dv_var (pv 0)) (da_cons dv_int da_nil))) da_nil))) (dss_cons (ds_if (dt_cmp (o_ne hr.units) (dv_callD d__law_new_form hr (da_cons (dv_var (pv 7)) (da_cons (dv_var (pv 8)) (da_cons (dv_var (pv 6)) (da_cons (dv_ix ix_g (dv_var (pv 1)) dv_int) da_nil))))) (dv_callD d__law_changed hr (da_cons (dv_var (pv 4)) (da_cons (dv_callD d__law_product hr (da_cons (dv_var (pv 5)) (da_cons (dv_var (pv 8)) da_nil))) da_nil)))) (dss_one (ds_ret dv_bl)) dss_nil) (dss_cons (ds_set (i := 9) sc.nd rfl (by first | exact Or.inl rfl | exact Or.inr rfl) (dv_ty c_tuple (by rfl) z_tuple (by decide +kernel) (da_cons (dv_ofF (df_comp (own := [("digit", 13)]) rfl sc.nd (di_seq (dv_callD d__law_digits hr (da_cons (dv_callD d__law_cell hr (da_cons (dv_var (pv 0)) (da_cons dv_int da_nil))) (da_cons (dv_ofF (df_lst (da_cons dv_int (da_cons dv_int (da_cons dv_int (da_cons dv_int (da_cons dv_int (da_cons dv_int da_nil)))))))) da_nil)))) (blkOk_by (N := N_law) (sc := defScope s_law) (by decide +kernel)) (fun _ _ _ _ _ => (dg_name (pg_name (i := 13) sc.nd rfl (by first | exact Or.inl rfl | exact Or.inr rfl)))) (fun _ _ _ _ _ => dx_nil) (fun _ _ _ _ _ => (dv_bin o_sub (dv_var (pv 13)) dv_int)))) da_nil))) (dss_cons (ds_set (i := 7) sc.nd rfl (by first | exact Or.inl rfl | exact Or.inr rfl) (dv_callD d__law_new_form hr (da_cons (dv_var (pv 9)) (da_cons (dv_var (pv 8)) (da_cons (dv_var (pv 6)) (da_cons (dv_ix ix_g (dv_var (pv 1)) dv_int) da_nil)))))) (dss_cons (ds_if (dt_w (dw_or (dt_cmp o_isN (dv_var (pv 7)) dv_non) (dw_or1 (dt_not (dt_val (dv_callD d__law_signature_stays hr (da_cons (dv_var (pv 9)) (da_cons (dv_var (pv 7)) (da_cons (dv_ix ix_g (dv_var (pv 1)) dv_int) da_nil))))))))) (dss_one (ds_ret dv_bl)) dss_nil) (dss_cons (ds_set (i := 10) sc.nd rfl (by first | exact Or.inl rfl | exact Or.inr rfl) (dv_callD d_changed hr (da_cons (dv_var (pv 7)) (da_cons (dv_callD d__law_back hr (da_cons (dv_var (pv 8)) da_nil)) da_nil)))) (dss_cons (ds_if (dt_w (dw_or (dt_not (dt_val (dv_callD d__law_is_row hr (da_cons (dv_var (pv 10)) (da_cons dv_int da_nil))))) (dw_or1 (dt_cmp (o_ne hr.units) (dv_var (pv 10)) (dv_var (pv 9)))))) (dss_one (ds_ret dv_bl)) dss_nil) (dss_cons (ds_if (dt_w (dw_or (dt_not (dt_val (dv_callD d__law_steps_right hr (da_cons (dv_var (pv 3)) (da_cons (dv_ix ix_g (dv_var (pv 1)) dv_int) da_nil))))) (dw_or1 (dt_not (dt_val (dv_callD d__law_steps_right hr (da_cons (dv_ofF (df_lst da_nil)) (da_cons (dv_ix ix_g (dv_var (pv 1)) dv_int) da_nil)))))))) (dss_one (ds_ret dv_bl)) dss_nil) (dss_one (ds_ret (dv_callD d__law_changes_right hr (da_cons (dv_ofF (df_lst (da_cons (dv_var (pv 5)) (da_cons (dv_callD d__law_steps_table hr (da_cons (dv_var (pv 3)) da_nil)) da_nil)))) (da_cons (dv_var (pv 8)) (da_cons (dv_ix ix_g (dv_var (pv 1)) dv_int) (da_cons (dv_ix ix_g (dv_var (pv 1)) dv_int) da_nil)))))))))))))))))))))))))
end
end W

set_option linter.all false
set_option maxRecDepth 100000
set_option maxHeartbeats 2000000
namespace DL
open PySem
theorem rng_zero (lo : Int) : rng lo 0 = [] := rfl
theorem rng_succ (lo : Int) (n : Nat) : rng lo (n + 1) = .int lo :: rng (lo + 1) n := by
  unfold rng
  rw [List.range_succ_eq_map, List.map_cons, List.map_map]
  congr 1
  · simp
  · apply List.map_congr_left
    intro i _
    simp only [Function.comp]
    congr 1
    omega
/-- digits below their limits -/
def inD : List Int → List Int → Prop
  | [], [] => True
  | d :: ds, l :: ls => 0 ≤ d ∧ d < l ∧ inD ds ls
  | _, _ => False
theorem inD_len : ∀ {ds ls : List Int}, inD ds ls → ds.length = ls.length
  | [], [], _ => rfl
  | _ :: _, _ :: _, h => congrArg (· + 1) (inD_len h.2.2)
  | [], _ :: _, h => h.elim
  | _ :: _, [], h => h.elim
theorem inD_cons {ds ls : List Int} {l : Int} (h : inD ds (l :: ls)) : ∃ d r, ds = d :: r ∧ 0 ≤ d ∧ d < l ∧ inD r ls := by
  cases ds with
  | nil => exact h.elim
  | cons d r => exact ⟨d, r, rfl, h⟩
theorem inD_nil {ds : List Int} (h : inD ds []) : ds = [] := by
  cases ds with
  | nil => rfl
  | cons d r => exact h.elim
end DL
namespace DL
open PySem L2
/-! ### the greatest common divisor by steps -/
theorem half_mod {y r : Nat} {m : Nat} (hr : 0 < r) (h1 : r < y) (h : y < 2 * m) : y % r < m := by
  by_cases c : 2 * r ≤ y
  · have := Nat.mod_lt y hr
    omega
  · rw [Nat.mod_eq_sub_mod (by omega), Nat.mod_eq_of_lt (by omega)]
    omega
theorem abs_nat (a : Int) : (if a < 0 then -a else a) = (a.natAbs : Int) := by split <;> omega
theorem gcd_lt {x y n : Nat} (hx : x < n) (hy : y < n) : x.gcd y < n := by
  by_cases h : x = 0
  · subst h
    rw [Nat.gcd_zero_left]
    exact hy
  · exact Nat.lt_of_le_of_lt (Nat.gcd_le_left y (by omega)) hx
theorem emod_nat (x y : Nat) : (x : Int) % (y : Int) = ((x % y : Nat) : Int) := rfl
def V3.cont (v : V3) : Int := (((v.x.natAbs.gcd v.y.natAbs).gcd v.z.natAbs : Nat) : Int)
def V3.prim (v : V3) : V3 := if v.cont = 0 then ⟨0, 0, 0⟩ else ⟨v.x / v.cont, v.y / v.cont, v.z / v.cont⟩
theorem V3.cont_zero {v : V3} (h : v.cont = 0) : v = ⟨0, 0, 0⟩ := by
  unfold V3.cont at h
  have h1 : (v.x.natAbs.gcd v.y.natAbs).gcd v.z.natAbs = 0 := by omega
  obtain ⟨h2, h3⟩ := Nat.gcd_eq_zero_iff.mp h1
  obtain ⟨h4, h5⟩ := Nat.gcd_eq_zero_iff.mp h2
  exact V3.ext' (by show v.x = 0; omega) (by show v.y = 0; omega) (by show v.z = 0; omega)
theorem V3.cont_lt {n : Nat} {v : V3} (h : BV n v) : (v.x.natAbs.gcd v.y.natAbs).gcd v.z.natAbs < 2 ^ n := gcd_lt (gcd_lt h.x h.y) h.z
theorem V3.cont_pos {v : V3} (h : ¬ v.cont = 0) : 0 < v.cont := by
  unfold V3.cont at h ⊢
  omega
theorem log_lt {n : Nat} {i : Int} (h : i.natAbs < 2 ^ n) (l : n < 8999) : i.natAbs.log2 < 9000 := by
  have h2 : i.natAbs < 2 ^ (n + 1) := Nat.lt_of_lt_of_le h (Nat.pow_le_pow_right (by decide) (Nat.le_succ _))
  exact Nat.lt_of_lt_of_le (PySem.Flt.log2_lt_of (Nat.succ_pos _) h2) (by omega)
theorem ix30 : ixN 3 0 = some 0 := by decide
theorem ix31 : ixN 3 1 = some 1 := by decide
theorem ix32 : ixN 3 2 = some 2 := by decide
end DL
namespace W
open PySem DL L2
section
variable {n m o : Nat} {j k l : Bool} {u v w : V3} {s t : M3} {i : Int}

theorem v_times [Bd n i] [BV m v] (h : n + m + 2 ≤ 1000000) : m_times [.int i, rw3 k v] = some (rw3 true (v.smul i)) := by
  simp only [m_times, b_times, runD, List.map_cons, List.map_nil, List.replicate_zero, List.replicate_succ, List.cons_append, List.nil_append, List.append_nil, sRet, sRetN, sNx, sSeq, sSet, sSetF, sOwn, sTo, gsCons, gsNil, sPar, sPar3, eChain, sExp, sApp, sPut, sIf, sFrz, frz, frz1, List.foldl_cons, List.foldl_nil, eBin, eUn, eVar, eC, eAnd, eOr, eIf, eLend, flat, eIxO, eOfF, eTup, eAll, fAll, eCall, eIs, eSl, fSl, oNone, oSome, aNil, aCons, bVal, bAnd, bOr, bNot, bYes, blOf, gNot, iSeq, iRg1, iRg2, seq_l, seq_t, tup_l, tup_t, lst_l, lst_t, len_l, len_t, gIx_l, gIx_t, gNm, wipeR, List.getElem?_cons_zero, List.getElem?_cons_succ, List.set_cons_zero, List.set_cons_succ, Option.bind_some, Option.bind_none, Option.map_some, Option.map_none, if_true, if_false, decide_true, decide_false, Bool.not_true, Bool.not_false, Bool.false_eq_true, reduceIte, gAdd_i, gSub_i, gNeg_i, gLt_i, gLe_i, gGt_i, gGe_i, gEq_i, gNe_i, gMul_b, gMod_p, gFdiv_p, Nat.reduceAdd, Nat.reduceMul, Nat.reduceLeDiff, at0, at1, at2, at3, at4, at5, at6, at7, at8, at9, at10, at11, at12, at13, at14, at15, gSl_l, cut_pos, cut_from, cut_to, Int.reduceToNat, List.drop_succ_cons, List.drop_zero, List.take_succ_cons, List.take_zero, List.take_nil, Nat.reduceSub, Int.reduceAdd, Int.reduceSub, Int.reduceMul, Int.reduceMod, Int.reduceDiv, Int.reduceNeg, List.length_cons, List.length_nil, Nat.zero_add, fComp, compL, rg1_3, mInt, mAbs, mGcd, mMax2, mMin2, mMax3, mMin3, mIsqrt, isT, ix_r0, ix_r1, ix_r2, h]
  rfl

theorem v_dot [BV n u] [BV m v] (h : n + m + 2 ≤ 1000000) : m_dot [rw3 k u, rw3 l v] = some (.int (u.dot v)) := by
  simp only [m_dot, b_dot, runD, List.map_cons, List.map_nil, List.replicate_zero, List.replicate_succ, List.cons_append, List.nil_append, List.append_nil, sRet, sRetN, sNx, sSeq, sSet, sSetF, sOwn, sTo, gsCons, gsNil, sPar, sPar3, eChain, sExp, sApp, sPut, sIf, sFrz, frz, frz1, List.foldl_cons, List.foldl_nil, eBin, eUn, eVar, eC, eAnd, eOr, eIf, eLend, flat, eIxO, eOfF, eTup, eAll, fAll, eCall, eIs, eSl, fSl, oNone, oSome, aNil, aCons, bVal, bAnd, bOr, bNot, bYes, blOf, gNot, iSeq, iRg1, iRg2, seq_l, seq_t, tup_l, tup_t, lst_l, lst_t, len_l, len_t, gIx_l, gIx_t, gNm, wipeR, List.getElem?_cons_zero, List.getElem?_cons_succ, List.set_cons_zero, List.set_cons_succ, Option.bind_some, Option.bind_none, Option.map_some, Option.map_none, if_true, if_false, decide_true, decide_false, Bool.not_true, Bool.not_false, Bool.false_eq_true, reduceIte, gAdd_i, gSub_i, gNeg_i, gLt_i, gLe_i, gGt_i, gGe_i, gEq_i, gNe_i, gMul_b, gMod_p, gFdiv_p, Nat.reduceAdd, Nat.reduceMul, Nat.reduceLeDiff, at0, at1, at2, at3, at4, at5, at6, at7, at8, at9, at10, at11, at12, at13, at14, at15, gSl_l, cut_pos, cut_from, cut_to, Int.reduceToNat, List.drop_succ_cons, List.drop_zero, List.take_succ_cons, List.take_zero, List.take_nil, Nat.reduceSub, Int.reduceAdd, Int.reduceSub, Int.reduceMul, Int.reduceMod, Int.reduceDiv, Int.reduceNeg, List.length_cons, List.length_nil, Nat.zero_add, fComp, compL, rg1_3, mInt, mAbs, mGcd, mMax2, mMin2, mMax3, mMin3, mIsqrt, isT, ix_r0, ix_r1, ix_r2, h]
  rfl

theorem v_cross [BV n u] [BV m v] (h : n + m + 2 ≤ 1000000) : m_cross [rw3 k u, rw3 l v] = some (rw3 true (u.cross v)) := by
  simp only [m_cross, b_cross, runD, List.map_cons, List.map_nil, List.replicate_zero, List.replicate_succ, List.cons_append, List.nil_append, List.append_nil, sRet, sRetN, sNx, sSeq, sSet, sSetF, sOwn, sTo, gsCons, gsNil, sPar, sPar3, eChain, sExp, sApp, sPut, sIf, sFrz, frz, frz1, List.foldl_cons, List.foldl_nil, eBin, eUn, eVar, eC, eAnd, eOr, eIf, eLend, flat, eIxO, eOfF, eTup, eAll, fAll, eCall, eIs, eSl, fSl, oNone, oSome, aNil, aCons, bVal, bAnd, bOr, bNot, bYes, blOf, gNot, iSeq, iRg1, iRg2, seq_l, seq_t, tup_l, tup_t, lst_l, lst_t, len_l, len_t, gIx_l, gIx_t, gNm, wipeR, List.getElem?_cons_zero, List.getElem?_cons_succ, List.set_cons_zero, List.set_cons_succ, Option.bind_some, Option.bind_none, Option.map_some, Option.map_none, if_true, if_false, decide_true, decide_false, Bool.not_true, Bool.not_false, Bool.false_eq_true, reduceIte, gAdd_i, gSub_i, gNeg_i, gLt_i, gLe_i, gGt_i, gGe_i, gEq_i, gNe_i, gMul_b, gMod_p, gFdiv_p, Nat.reduceAdd, Nat.reduceMul, Nat.reduceLeDiff, at0, at1, at2, at3, at4, at5, at6, at7, at8, at9, at10, at11, at12, at13, at14, at15, gSl_l, cut_pos, cut_from, cut_to, Int.reduceToNat, List.drop_succ_cons, List.drop_zero, List.take_succ_cons, List.take_zero, List.take_nil, Nat.reduceSub, Int.reduceAdd, Int.reduceSub, Int.reduceMul, Int.reduceMod, Int.reduceDiv, Int.reduceNeg, List.length_cons, List.length_nil, Nat.zero_add, fComp, compL, rg1_3, mInt, mAbs, mGcd, mMax2, mMin2, mMax3, mMin3, mIsqrt, isT, ix_r0, ix_r1, ix_r2, h]
  rfl

theorem v_image [BM n t] [BV m v] (h : n + m + 2 ≤ 1000000) : m_image [tb j k t, rw3 l v] = some (rw3 true (t.im v)) := by
  simp only [m_image, b_image, runD, List.map_cons, List.map_nil, List.replicate_zero, List.replicate_succ, List.cons_append, List.nil_append, List.append_nil, sRet, sRetN, sNx, sSeq, sSet, sSetF, sOwn, sTo, gsCons, gsNil, sPar, sPar3, eChain, sExp, sApp, sPut, sIf, sFrz, frz, frz1, List.foldl_cons, List.foldl_nil, eBin, eUn, eVar, eC, eAnd, eOr, eIf, eLend, flat, eIxO, eOfF, eTup, eAll, fAll, eCall, eIs, eSl, fSl, oNone, oSome, aNil, aCons, bVal, bAnd, bOr, bNot, bYes, blOf, gNot, iSeq, iRg1, iRg2, seq_l, seq_t, tup_l, tup_t, lst_l, lst_t, len_l, len_t, gIx_l, gIx_t, gNm, wipeR, List.getElem?_cons_zero, List.getElem?_cons_succ, List.set_cons_zero, List.set_cons_succ, Option.bind_some, Option.bind_none, Option.map_some, Option.map_none, if_true, if_false, decide_true, decide_false, Bool.not_true, Bool.not_false, Bool.false_eq_true, reduceIte, gAdd_i, gSub_i, gNeg_i, gLt_i, gLe_i, gGt_i, gGe_i, gEq_i, gNe_i, gMul_b, gMod_p, gFdiv_p, Nat.reduceAdd, Nat.reduceMul, Nat.reduceLeDiff, at0, at1, at2, at3, at4, at5, at6, at7, at8, at9, at10, at11, at12, at13, at14, at15, gSl_l, cut_pos, cut_from, cut_to, Int.reduceToNat, List.drop_succ_cons, List.drop_zero, List.take_succ_cons, List.take_zero, List.take_nil, Nat.reduceSub, Int.reduceAdd, Int.reduceSub, Int.reduceMul, Int.reduceMod, Int.reduceDiv, Int.reduceNeg, List.length_cons, List.length_nil, Nat.zero_add, fComp, compL, rg1_3, mInt, mAbs, mGcd, mMax2, mMin2, mMax3, mMin3, mIsqrt, isT, ix_t0, ix_t1, ix_t2, v_dot, h]
  rfl

theorem v_transpose : m_transpose [tb j k t] = some (tb true true t.tr) := by
  simp only [m_transpose, b_transpose, runD, List.map_cons, List.map_nil, List.replicate_zero, List.replicate_succ, List.cons_append, List.nil_append, List.append_nil, sRet, sRetN, sNx, sSeq, sSet, sSetF, sOwn, sTo, gsCons, gsNil, sPar, sPar3, eChain, sExp, sApp, sPut, sIf, sFrz, frz, frz1, List.foldl_cons, List.foldl_nil, eBin, eUn, eVar, eC, eAnd, eOr, eIf, eLend, flat, eIxO, eOfF, eTup, eAll, fAll, eCall, eIs, eSl, fSl, oNone, oSome, aNil, aCons, bVal, bAnd, bOr, bNot, bYes, blOf, gNot, iSeq, iRg1, iRg2, seq_l, seq_t, tup_l, tup_t, lst_l, lst_t, len_l, len_t, gIx_l, gIx_t, gNm, wipeR, List.getElem?_cons_zero, List.getElem?_cons_succ, List.set_cons_zero, List.set_cons_succ, Option.bind_some, Option.bind_none, Option.map_some, Option.map_none, if_true, if_false, decide_true, decide_false, Bool.not_true, Bool.not_false, Bool.false_eq_true, reduceIte, gAdd_i, gSub_i, gNeg_i, gLt_i, gLe_i, gGt_i, gGe_i, gEq_i, gNe_i, gMul_b, gMod_p, gFdiv_p, Nat.reduceAdd, Nat.reduceMul, Nat.reduceLeDiff, at0, at1, at2, at3, at4, at5, at6, at7, at8, at9, at10, at11, at12, at13, at14, at15, gSl_l, cut_pos, cut_from, cut_to, Int.reduceToNat, List.drop_succ_cons, List.drop_zero, List.take_succ_cons, List.take_zero, List.take_nil, Nat.reduceSub, Int.reduceAdd, Int.reduceSub, Int.reduceMul, Int.reduceMod, Int.reduceDiv, Int.reduceNeg, List.length_cons, List.length_nil, Nat.zero_add, fComp, compL, rg1_3, mInt, mAbs, mGcd, mMax2, mMin2, mMax3, mMin3, mIsqrt, isT, ix_r0, ix_r1, ix_r2, ix_t0, ix_t1, ix_t2]
  rfl

theorem v_product {j' k' : Bool} [BM n s] [BM m t] (h : n + m + 2 ≤ 1000000) : m_product [tb j k s, tb j' k' t] = some (tb true true (s.mul t)) := by
  simp only [m_product, b_product, runD, List.map_cons, List.map_nil, List.replicate_zero, List.replicate_succ, List.cons_append, List.nil_append, List.append_nil, sRet, sRetN, sNx, sSeq, sSet, sSetF, sOwn, sTo, gsCons, gsNil, sPar, sPar3, eChain, sExp, sApp, sPut, sIf, sFrz, frz, frz1, List.foldl_cons, List.foldl_nil, eBin, eUn, eVar, eC, eAnd, eOr, eIf, eLend, flat, eIxO, eOfF, eTup, eAll, fAll, eCall, eIs, eSl, fSl, oNone, oSome, aNil, aCons, bVal, bAnd, bOr, bNot, bYes, blOf, gNot, iSeq, iRg1, iRg2, seq_l, seq_t, tup_l, tup_t, lst_l, lst_t, len_l, len_t, gIx_l, gIx_t, gNm, wipeR, List.getElem?_cons_zero, List.getElem?_cons_succ, List.set_cons_zero, List.set_cons_succ, Option.bind_some, Option.bind_none, Option.map_some, Option.map_none, if_true, if_false, decide_true, decide_false, Bool.not_true, Bool.not_false, Bool.false_eq_true, reduceIte, gAdd_i, gSub_i, gNeg_i, gLt_i, gLe_i, gGt_i, gGe_i, gEq_i, gNe_i, gMul_b, gMod_p, gFdiv_p, Nat.reduceAdd, Nat.reduceMul, Nat.reduceLeDiff, at0, at1, at2, at3, at4, at5, at6, at7, at8, at9, at10, at11, at12, at13, at14, at15, gSl_l, cut_pos, cut_from, cut_to, Int.reduceToNat, List.drop_succ_cons, List.drop_zero, List.take_succ_cons, List.take_zero, List.take_nil, Nat.reduceSub, Int.reduceAdd, Int.reduceSub, Int.reduceMul, Int.reduceMod, Int.reduceDiv, Int.reduceNeg, List.length_cons, List.length_nil, Nat.zero_add, fComp, compL, rg1_3, mInt, mAbs, mGcd, mMax2, mMin2, mMax3, mMin3, mIsqrt, isT, ix_r0, ix_r1, ix_r2, ix_t0, ix_t1, ix_t2, v_transpose, v_dot, seq_tb, h]
  rfl

theorem v_determinant [BM n t] (h : n + (n + n + 1) + 2 ≤ 1000000) : m_determinant [tb j k t] = some (.int t.det) := by
  simp only [m_determinant, b_determinant, runD, List.map_cons, List.map_nil, List.replicate_zero, List.replicate_succ, List.cons_append, List.nil_append, List.append_nil, sRet, sRetN, sNx, sSeq, sSet, sSetF, sOwn, sTo, gsCons, gsNil, sPar, sPar3, eChain, sExp, sApp, sPut, sIf, sFrz, frz, frz1, List.foldl_cons, List.foldl_nil, eBin, eUn, eVar, eC, eAnd, eOr, eIf, eLend, flat, eIxO, eOfF, eTup, eAll, fAll, eCall, eIs, eSl, fSl, oNone, oSome, aNil, aCons, bVal, bAnd, bOr, bNot, bYes, blOf, gNot, iSeq, iRg1, iRg2, seq_l, seq_t, tup_l, tup_t, lst_l, lst_t, len_l, len_t, gIx_l, gIx_t, gNm, wipeR, List.getElem?_cons_zero, List.getElem?_cons_succ, List.set_cons_zero, List.set_cons_succ, Option.bind_some, Option.bind_none, Option.map_some, Option.map_none, if_true, if_false, decide_true, decide_false, Bool.not_true, Bool.not_false, Bool.false_eq_true, reduceIte, gAdd_i, gSub_i, gNeg_i, gLt_i, gLe_i, gGt_i, gGe_i, gEq_i, gNe_i, gMul_b, gMod_p, gFdiv_p, Nat.reduceAdd, Nat.reduceMul, Nat.reduceLeDiff, at0, at1, at2, at3, at4, at5, at6, at7, at8, at9, at10, at11, at12, at13, at14, at15, gSl_l, cut_pos, cut_from, cut_to, Int.reduceToNat, List.drop_succ_cons, List.drop_zero, List.take_succ_cons, List.take_zero, List.take_nil, Nat.reduceSub, Int.reduceAdd, Int.reduceSub, Int.reduceMul, Int.reduceMod, Int.reduceDiv, Int.reduceNeg, List.length_cons, List.length_nil, Nat.zero_add, fComp, compL, rg1_3, mInt, mAbs, mGcd, mMax2, mMin2, mMax3, mMin3, mIsqrt, isT, ix_t0, ix_t1, ix_t2, v_dot, v_cross, h, show n + n + 2 ≤ 1000000 by omega]
  rfl

theorem w_dot [BV n u] [BV m v] (h : n + m + 2 ≤ 1000000) : m__law_dot [rw3 k u, rw3 l v] = some (.int (u.dot v)) := by
  simp only [m__law_dot, b__law_dot, runD, List.map_cons, List.map_nil, List.replicate_zero, List.replicate_succ, List.cons_append, List.nil_append, List.append_nil, sRet, sRetN, sNx, sSeq, sSet, sSetF, sOwn, sTo, gsCons, gsNil, sPar, sPar3, eChain, sExp, sApp, sPut, sIf, sFrz, frz, frz1, List.foldl_cons, List.foldl_nil, eBin, eUn, eVar, eC, eAnd, eOr, eIf, eLend, flat, eIxO, eOfF, eTup, eAll, fAll, eCall, eIs, eSl, fSl, oNone, oSome, aNil, aCons, bVal, bAnd, bOr, bNot, bYes, blOf, gNot, iSeq, iRg1, iRg2, seq_l, seq_t, tup_l, tup_t, lst_l, lst_t, len_l, len_t, gIx_l, gIx_t, gNm, wipeR, List.getElem?_cons_zero, List.getElem?_cons_succ, List.set_cons_zero, List.set_cons_succ, Option.bind_some, Option.bind_none, Option.map_some, Option.map_none, if_true, if_false, decide_true, decide_false, Bool.not_true, Bool.not_false, Bool.false_eq_true, reduceIte, gAdd_i, gSub_i, gNeg_i, gLt_i, gLe_i, gGt_i, gGe_i, gEq_i, gNe_i, gMul_b, gMod_p, gFdiv_p, Nat.reduceAdd, Nat.reduceMul, Nat.reduceLeDiff, at0, at1, at2, at3, at4, at5, at6, at7, at8, at9, at10, at11, at12, at13, at14, at15, gSl_l, cut_pos, cut_from, cut_to, Int.reduceToNat, List.drop_succ_cons, List.drop_zero, List.take_succ_cons, List.take_zero, List.take_nil, Nat.reduceSub, Int.reduceAdd, Int.reduceSub, Int.reduceMul, Int.reduceMod, Int.reduceDiv, Int.reduceNeg, List.length_cons, List.length_nil, Nat.zero_add, fComp, compL, rg1_3, mInt, mAbs, mGcd, mMax2, mMin2, mMax3, mMin3, mIsqrt, isT, ix_r0, ix_r1, ix_r2, h]
  rfl

theorem w_cross [BV n u] [BV m v] (h : n + m + 2 ≤ 1000000) : m__law_cross [rw3 k u, rw3 l v] = some (rw3 true (u.cross v)) := by
  simp only [m__law_cross, b__law_cross, runD, List.map_cons, List.map_nil, List.replicate_zero, List.replicate_succ, List.cons_append, List.nil_append, List.append_nil, sRet, sRetN, sNx, sSeq, sSet, sSetF, sOwn, sTo, gsCons, gsNil, sPar, sPar3, eChain, sExp, sApp, sPut, sIf, sFrz, frz, frz1, List.foldl_cons, List.foldl_nil, eBin, eUn, eVar, eC, eAnd, eOr, eIf, eLend, flat, eIxO, eOfF, eTup, eAll, fAll, eCall, eIs, eSl, fSl, oNone, oSome, aNil, aCons, bVal, bAnd, bOr, bNot, bYes, blOf, gNot, iSeq, iRg1, iRg2, seq_l, seq_t, tup_l, tup_t, lst_l, lst_t, len_l, len_t, gIx_l, gIx_t, gNm, wipeR, List.getElem?_cons_zero, List.getElem?_cons_succ, List.set_cons_zero, List.set_cons_succ, Option.bind_some, Option.bind_none, Option.map_some, Option.map_none, if_true, if_false, decide_true, decide_false, Bool.not_true, Bool.not_false, Bool.false_eq_true, reduceIte, gAdd_i, gSub_i, gNeg_i, gLt_i, gLe_i, gGt_i, gGe_i, gEq_i, gNe_i, gMul_b, gMod_p, gFdiv_p, Nat.reduceAdd, Nat.reduceMul, Nat.reduceLeDiff, at0, at1, at2, at3, at4, at5, at6, at7, at8, at9, at10, at11, at12, at13, at14, at15, gSl_l, cut_pos, cut_from, cut_to, Int.reduceToNat, List.drop_succ_cons, List.drop_zero, List.take_succ_cons, List.take_zero, List.take_nil, Nat.reduceSub, Int.reduceAdd, Int.reduceSub, Int.reduceMul, Int.reduceMod, Int.reduceDiv, Int.reduceNeg, List.length_cons, List.length_nil, Nat.zero_add, fComp, compL, rg1_3, mInt, mAbs, mGcd, mMax2, mMin2, mMax3, mMin3, mIsqrt, isT, ix_r0, ix_r1, ix_r2, h]
  rfl

theorem w_times [Bd n i] [BV m v] (h : n + m + 2 ≤ 1000000) : m__law_times [.int i, rw3 k v] = some (rw3 true (v.smul i)) := by
  simp only [m__law_times, b__law_times, runD, List.map_cons, List.map_nil, List.replicate_zero, List.replicate_succ, List.cons_append, List.nil_append, List.append_nil, sRet, sRetN, sNx, sSeq, sSet, sSetF, sOwn, sTo, gsCons, gsNil, sPar, sPar3, eChain, sExp, sApp, sPut, sIf, sFrz, frz, frz1, List.foldl_cons, List.foldl_nil, eBin, eUn, eVar, eC, eAnd, eOr, eIf, eLend, flat, eIxO, eOfF, eTup, eAll, fAll, eCall, eIs, eSl, fSl, oNone, oSome, aNil, aCons, bVal, bAnd, bOr, bNot, bYes, blOf, gNot, iSeq, iRg1, iRg2, seq_l, seq_t, tup_l, tup_t, lst_l, lst_t, len_l, len_t, gIx_l, gIx_t, gNm, wipeR, List.getElem?_cons_zero, List.getElem?_cons_succ, List.set_cons_zero, List.set_cons_succ, Option.bind_some, Option.bind_none, Option.map_some, Option.map_none, if_true, if_false, decide_true, decide_false, Bool.not_true, Bool.not_false, Bool.false_eq_true, reduceIte, gAdd_i, gSub_i, gNeg_i, gLt_i, gLe_i, gGt_i, gGe_i, gEq_i, gNe_i, gMul_b, gMod_p, gFdiv_p, Nat.reduceAdd, Nat.reduceMul, Nat.reduceLeDiff, at0, at1, at2, at3, at4, at5, at6, at7, at8, at9, at10, at11, at12, at13, at14, at15, gSl_l, cut_pos, cut_from, cut_to, Int.reduceToNat, List.drop_succ_cons, List.drop_zero, List.take_succ_cons, List.take_zero, List.take_nil, Nat.reduceSub, Int.reduceAdd, Int.reduceSub, Int.reduceMul, Int.reduceMod, Int.reduceDiv, Int.reduceNeg, List.length_cons, List.length_nil, Nat.zero_add, fComp, compL, rg1_3, mInt, mAbs, mGcd, mMax2, mMin2, mMax3, mMin3, mIsqrt, isT, ix_r0, ix_r1, ix_r2, h]
  rfl

theorem w_image [BM n t] [BV m v] (h : n + m + 2 ≤ 1000000) : m__law_image [tb j k t, rw3 l v] = some (rw3 true (t.im v)) := by
  simp only [m__law_image, b__law_image, runD, List.map_cons, List.map_nil, List.replicate_zero, List.replicate_succ, List.cons_append, List.nil_append, List.append_nil, sRet, sRetN, sNx, sSeq, sSet, sSetF, sOwn, sTo, gsCons, gsNil, sPar, sPar3, eChain, sExp, sApp, sPut, sIf, sFrz, frz, frz1, List.foldl_cons, List.foldl_nil, eBin, eUn, eVar, eC, eAnd, eOr, eIf, eLend, flat, eIxO, eOfF, eTup, eAll, fAll, eCall, eIs, eSl, fSl, oNone, oSome, aNil, aCons, bVal, bAnd, bOr, bNot, bYes, blOf, gNot, iSeq, iRg1, iRg2, seq_l, seq_t, tup_l, tup_t, lst_l, lst_t, len_l, len_t, gIx_l, gIx_t, gNm, wipeR, List.getElem?_cons_zero, List.getElem?_cons_succ, List.set_cons_zero, List.set_cons_succ, Option.bind_some, Option.bind_none, Option.map_some, Option.map_none, if_true, if_false, decide_true, decide_false, Bool.not_true, Bool.not_false, Bool.false_eq_true, reduceIte, gAdd_i, gSub_i, gNeg_i, gLt_i, gLe_i, gGt_i, gGe_i, gEq_i, gNe_i, gMul_b, gMod_p, gFdiv_p, Nat.reduceAdd, Nat.reduceMul, Nat.reduceLeDiff, at0, at1, at2, at3, at4, at5, at6, at7, at8, at9, at10, at11, at12, at13, at14, at15, gSl_l, cut_pos, cut_from, cut_to, Int.reduceToNat, List.drop_succ_cons, List.drop_zero, List.take_succ_cons, List.take_zero, List.take_nil, Nat.reduceSub, Int.reduceAdd, Int.reduceSub, Int.reduceMul, Int.reduceMod, Int.reduceDiv, Int.reduceNeg, List.length_cons, List.length_nil, Nat.zero_add, fComp, compL, rg1_3, mInt, mAbs, mGcd, mMax2, mMin2, mMax3, mMin3, mIsqrt, isT, ix_t0, ix_t1, ix_t2, w_dot, h]
  rfl

theorem w_turned : m__law_turned [tb j k t] = some (tb true true t.tr) := by
  simp only [m__law_turned, b__law_turned, runD, List.map_cons, List.map_nil, List.replicate_zero, List.replicate_succ, List.cons_append, List.nil_append, List.append_nil, sRet, sRetN, sNx, sSeq, sSet, sSetF, sOwn, sTo, gsCons, gsNil, sPar, sPar3, eChain, sExp, sApp, sPut, sIf, sFrz, frz, frz1, List.foldl_cons, List.foldl_nil, eBin, eUn, eVar, eC, eAnd, eOr, eIf, eLend, flat, eIxO, eOfF, eTup, eAll, fAll, eCall, eIs, eSl, fSl, oNone, oSome, aNil, aCons, bVal, bAnd, bOr, bNot, bYes, blOf, gNot, iSeq, iRg1, iRg2, seq_l, seq_t, tup_l, tup_t, lst_l, lst_t, len_l, len_t, gIx_l, gIx_t, gNm, wipeR, List.getElem?_cons_zero, List.getElem?_cons_succ, List.set_cons_zero, List.set_cons_succ, Option.bind_some, Option.bind_none, Option.map_some, Option.map_none, if_true, if_false, decide_true, decide_false, Bool.not_true, Bool.not_false, Bool.false_eq_true, reduceIte, gAdd_i, gSub_i, gNeg_i, gLt_i, gLe_i, gGt_i, gGe_i, gEq_i, gNe_i, gMul_b, gMod_p, gFdiv_p, Nat.reduceAdd, Nat.reduceMul, Nat.reduceLeDiff, at0, at1, at2, at3, at4, at5, at6, at7, at8, at9, at10, at11, at12, at13, at14, at15, gSl_l, cut_pos, cut_from, cut_to, Int.reduceToNat, List.drop_succ_cons, List.drop_zero, List.take_succ_cons, List.take_zero, List.take_nil, Nat.reduceSub, Int.reduceAdd, Int.reduceSub, Int.reduceMul, Int.reduceMod, Int.reduceDiv, Int.reduceNeg, List.length_cons, List.length_nil, Nat.zero_add, fComp, compL, rg1_3, mInt, mAbs, mGcd, mMax2, mMin2, mMax3, mMin3, mIsqrt, isT, ix_r0, ix_r1, ix_r2, ix_t0, ix_t1, ix_t2]
  rfl

theorem w_product {j' k' : Bool} [BM n s] [BM m t] (h : n + m + 2 ≤ 1000000) : m__law_product [tb j k s, tb j' k' t] = some (tb true true (s.mul t)) := by
  simp only [m__law_product, b__law_product, runD, List.map_cons, List.map_nil, List.replicate_zero, List.replicate_succ, List.cons_append, List.nil_append, List.append_nil, sRet, sRetN, sNx, sSeq, sSet, sSetF, sOwn, sTo, gsCons, gsNil, sPar, sPar3, eChain, sExp, sApp, sPut, sIf, sFrz, frz, frz1, List.foldl_cons, List.foldl_nil, eBin, eUn, eVar, eC, eAnd, eOr, eIf, eLend, flat, eIxO, eOfF, eTup, eAll, fAll, eCall, eIs, eSl, fSl, oNone, oSome, aNil, aCons, bVal, bAnd, bOr, bNot, bYes, blOf, gNot, iSeq, iRg1, iRg2, seq_l, seq_t, tup_l, tup_t, lst_l, lst_t, len_l, len_t, gIx_l, gIx_t, gNm, wipeR, List.getElem?_cons_zero, List.getElem?_cons_succ, List.set_cons_zero, List.set_cons_succ, Option.bind_some, Option.bind_none, Option.map_some, Option.map_none, if_true, if_false, decide_true, decide_false, Bool.not_true, Bool.not_false, Bool.false_eq_true, reduceIte, gAdd_i, gSub_i, gNeg_i, gLt_i, gLe_i, gGt_i, gGe_i, gEq_i, gNe_i, gMul_b, gMod_p, gFdiv_p, Nat.reduceAdd, Nat.reduceMul, Nat.reduceLeDiff, at0, at1, at2, at3, at4, at5, at6, at7, at8, at9, at10, at11, at12, at13, at14, at15, gSl_l, cut_pos, cut_from, cut_to, Int.reduceToNat, List.drop_succ_cons, List.drop_zero, List.take_succ_cons, List.take_zero, List.take_nil, Nat.reduceSub, Int.reduceAdd, Int.reduceSub, Int.reduceMul, Int.reduceMod, Int.reduceDiv, Int.reduceNeg, List.length_cons, List.length_nil, Nat.zero_add, fComp, compL, rg1_3, mInt, mAbs, mGcd, mMax2, mMin2, mMax3, mMin3, mIsqrt, isT, ix_r0, ix_r1, ix_r2, ix_t0, ix_t1, ix_t2, w_turned, w_dot, seq_tb, h]
  rfl

theorem w_determinant [BM n t] (h : n + (n + n + 1) + 2 ≤ 1000000) : m__law_determinant [tb j k t] = some (.int t.det) := by
  simp only [m__law_determinant, b__law_determinant, runD, List.map_cons, List.map_nil, List.replicate_zero, List.replicate_succ, List.cons_append, List.nil_append, List.append_nil, sRet, sRetN, sNx, sSeq, sSet, sSetF, sOwn, sTo, gsCons, gsNil, sPar, sPar3, eChain, sExp, sApp, sPut, sIf, sFrz, frz, frz1, List.foldl_cons, List.foldl_nil, eBin, eUn, eVar, eC, eAnd, eOr, eIf, eLend, flat, eIxO, eOfF, eTup, eAll, fAll, eCall, eIs, eSl, fSl, oNone, oSome, aNil, aCons, bVal, bAnd, bOr, bNot, bYes, blOf, gNot, iSeq, iRg1, iRg2, seq_l, seq_t, tup_l, tup_t, lst_l, lst_t, len_l, len_t, gIx_l, gIx_t, gNm, wipeR, List.getElem?_cons_zero, List.getElem?_cons_succ, List.set_cons_zero, List.set_cons_succ, Option.bind_some, Option.bind_none, Option.map_some, Option.map_none, if_true, if_false, decide_true, decide_false, Bool.not_true, Bool.not_false, Bool.false_eq_true, reduceIte, gAdd_i, gSub_i, gNeg_i, gLt_i, gLe_i, gGt_i, gGe_i, gEq_i, gNe_i, gMul_b, gMod_p, gFdiv_p, Nat.reduceAdd, Nat.reduceMul, Nat.reduceLeDiff, at0, at1, at2, at3, at4, at5, at6, at7, at8, at9, at10, at11, at12, at13, at14, at15, gSl_l, cut_pos, cut_from, cut_to, Int.reduceToNat, List.drop_succ_cons, List.drop_zero, List.take_succ_cons, List.take_zero, List.take_nil, Nat.reduceSub, Int.reduceAdd, Int.reduceSub, Int.reduceMul, Int.reduceMod, Int.reduceDiv, Int.reduceNeg, List.length_cons, List.length_nil, Nat.zero_add, fComp, compL, rg1_3, mInt, mAbs, mGcd, mMax2, mMin2, mMax3, mMin3, mIsqrt, isT, ix_t0, ix_t1, ix_t2, w_dot, w_cross, h, show n + n + 2 ≤ 1000000 by omega]
  rfl

theorem w_whole : m__law_whole [.int i] = some (.bool true) := rfl

theorem is_row_go {K N c : SC} : ∀ l : List Int, ∃ c', forL (gNm 2) (sIf (bNot (bVal (eCall m__law_whole (aCons (eVar 2) aNil)))) (sRet (eC (.bool false))) sNx) (l.map PyData.int) [K, N, c] = some (.nx [K, N, c'])
  | [] => ⟨c, rfl⟩
  | x :: l => by
    obtain ⟨c', e⟩ := is_row_go (K := K) (N := N) (c := .va (.int x)) l
    refine ⟨c', ?_⟩
    simp only [List.map_cons, forL, runD, List.map_cons, List.map_nil, List.replicate_zero, List.replicate_succ, List.cons_append, List.nil_append, List.append_nil, sRet, sRetN, sNx, sSeq, sSet, sSetF, sOwn, sTo, gsCons, gsNil, sPar, sPar3, eChain, sExp, sApp, sPut, sIf, sFrz, frz, frz1, List.foldl_cons, List.foldl_nil, eBin, eUn, eVar, eC, eAnd, eOr, eIf, eLend, flat, eIxO, eOfF, eTup, eAll, fAll, eCall, eIs, eSl, fSl, oNone, oSome, aNil, aCons, bVal, bAnd, bOr, bNot, bYes, blOf, gNot, iSeq, iRg1, iRg2, seq_l, seq_t, tup_l, tup_t, lst_l, lst_t, len_l, len_t, gIx_l, gIx_t, gNm, wipeR, List.getElem?_cons_zero, List.getElem?_cons_succ, List.set_cons_zero, List.set_cons_succ, Option.bind_some, Option.bind_none, Option.map_some, Option.map_none, if_true, if_false, decide_true, decide_false, Bool.not_true, Bool.not_false, Bool.false_eq_true, reduceIte, gAdd_i, gSub_i, gNeg_i, gLt_i, gLe_i, gGt_i, gGe_i, gEq_i, gNe_i, gMul_b, gMod_p, gFdiv_p, Nat.reduceAdd, Nat.reduceMul, Nat.reduceLeDiff, at0, at1, at2, at3, at4, at5, at6, at7, at8, at9, at10, at11, at12, at13, at14, at15, gSl_l, cut_pos, cut_from, cut_to, Int.reduceToNat, List.drop_succ_cons, List.drop_zero, List.take_succ_cons, List.take_zero, List.take_nil, Nat.reduceSub, Int.reduceAdd, Int.reduceSub, Int.reduceMul, Int.reduceMod, Int.reduceDiv, Int.reduceNeg, List.length_cons, List.length_nil, Nat.zero_add, fComp, compL, rg1_3, mInt, mAbs, mGcd, mMax2, mMin2, mMax3, mMin3, mIsqrt, isT, w_whole]
    exact e
/-- a tuple of so many whole numbers -/
theorem w_is_row_g {l : List Int} {n : Nat} (h : l.length = n) : m__law_is_row [.tuple (l.map .int), .int n] = some (.bool true) := by
  obtain ⟨c', e⟩ := is_row_go (K := .va (.tuple (l.map .int))) (N := .va (.int n)) (c := .un) l
  simp only [m__law_is_row, b__law_is_row, runD, List.map_cons, List.map_nil, List.replicate_zero, List.replicate_succ, List.cons_append, List.nil_append, List.append_nil, sRet, sRetN, sNx, sSeq, sSet, sSetF, sOwn, sTo, gsCons, gsNil, sPar, sPar3, eChain, sExp, sApp, sPut, sIf, sFrz, frz, frz1, List.foldl_cons, List.foldl_nil, eBin, eUn, eVar, eC, eAnd, eOr, eIf, eLend, flat, eIxO, eOfF, eTup, eAll, fAll, eCall, eIs, eSl, fSl, oNone, oSome, aNil, aCons, bVal, bAnd, bOr, bNot, bYes, blOf, gNot, iSeq, iRg1, iRg2, seq_l, seq_t, tup_l, tup_t, lst_l, lst_t, len_l, len_t, gIx_l, gIx_t, gNm, wipeR, List.getElem?_cons_zero, List.getElem?_cons_succ, List.set_cons_zero, List.set_cons_succ, Option.bind_some, Option.bind_none, Option.map_some, Option.map_none, if_true, if_false, decide_true, decide_false, Bool.not_true, Bool.not_false, Bool.false_eq_true, reduceIte, gAdd_i, gSub_i, gNeg_i, gLt_i, gLe_i, gGt_i, gGe_i, gEq_i, gNe_i, gMul_b, gMod_p, gFdiv_p, Nat.reduceAdd, Nat.reduceMul, Nat.reduceLeDiff, at0, at1, at2, at3, at4, at5, at6, at7, at8, at9, at10, at11, at12, at13, at14, at15, gSl_l, cut_pos, cut_from, cut_to, Int.reduceToNat, List.drop_succ_cons, List.drop_zero, List.take_succ_cons, List.take_zero, List.take_nil, Nat.reduceSub, Int.reduceAdd, Int.reduceSub, Int.reduceMul, Int.reduceMod, Int.reduceDiv, Int.reduceNeg, List.length_cons, List.length_nil, Nat.zero_add, fComp, compL, rg1_3, mInt, mAbs, mGcd, mMax2, mMin2, mMax3, mMin3, mIsqrt, isT, List.length_map, h, sFor, e]
theorem w_is_row : m__law_is_row [rw3 k v, .int 3] = some (.bool k) := by
  simp only [m__law_is_row, b__law_is_row, runD, List.map_cons, List.map_nil, List.replicate_zero, List.replicate_succ, List.cons_append, List.nil_append, List.append_nil, sRet, sRetN, sNx, sSeq, sSet, sSetF, sOwn, sTo, gsCons, gsNil, sPar, sPar3, eChain, sExp, sApp, sPut, sIf, sFrz, frz, frz1, List.foldl_cons, List.foldl_nil, eBin, eUn, eVar, eC, eAnd, eOr, eIf, eLend, flat, eIxO, eOfF, eTup, eAll, fAll, eCall, eIs, eSl, fSl, oNone, oSome, aNil, aCons, bVal, bAnd, bOr, bNot, bYes, blOf, gNot, iSeq, iRg1, iRg2, seq_l, seq_t, tup_l, tup_t, lst_l, lst_t, len_l, len_t, gIx_l, gIx_t, gNm, wipeR, List.getElem?_cons_zero, List.getElem?_cons_succ, List.set_cons_zero, List.set_cons_succ, Option.bind_some, Option.bind_none, Option.map_some, Option.map_none, if_true, if_false, decide_true, decide_false, Bool.not_true, Bool.not_false, Bool.false_eq_true, reduceIte, gAdd_i, gSub_i, gNeg_i, gLt_i, gLe_i, gGt_i, gGe_i, gEq_i, gNe_i, gMul_b, gMod_p, gFdiv_p, Nat.reduceAdd, Nat.reduceMul, Nat.reduceLeDiff, at0, at1, at2, at3, at4, at5, at6, at7, at8, at9, at10, at11, at12, at13, at14, at15, gSl_l, cut_pos, cut_from, cut_to, Int.reduceToNat, List.drop_succ_cons, List.drop_zero, List.take_succ_cons, List.take_zero, List.take_nil, Nat.reduceSub, Int.reduceAdd, Int.reduceSub, Int.reduceMul, Int.reduceMod, Int.reduceDiv, Int.reduceNeg, List.length_cons, List.length_nil, Nat.zero_add, fComp, compL, rg1_3, mInt, mAbs, mGcd, mMax2, mMin2, mMax3, mMin3, mIsqrt, isT, isTup_r, len_r]
  cases k
  · rfl
  · rfl

theorem w_is_table : m__law_is_table [tb j k t] = some (.bool (j && k)) := by
  simp only [m__law_is_table, b__law_is_table, runD, List.map_cons, List.map_nil, List.replicate_zero, List.replicate_succ, List.cons_append, List.nil_append, List.append_nil, sRet, sRetN, sNx, sSeq, sSet, sSetF, sOwn, sTo, gsCons, gsNil, sPar, sPar3, eChain, sExp, sApp, sPut, sIf, sFrz, frz, frz1, List.foldl_cons, List.foldl_nil, eBin, eUn, eVar, eC, eAnd, eOr, eIf, eLend, flat, eIxO, eOfF, eTup, eAll, fAll, eCall, eIs, eSl, fSl, oNone, oSome, aNil, aCons, bVal, bAnd, bOr, bNot, bYes, blOf, gNot, iSeq, iRg1, iRg2, seq_l, seq_t, tup_l, tup_t, lst_l, lst_t, len_l, len_t, gIx_l, gIx_t, gNm, wipeR, List.getElem?_cons_zero, List.getElem?_cons_succ, List.set_cons_zero, List.set_cons_succ, Option.bind_some, Option.bind_none, Option.map_some, Option.map_none, if_true, if_false, decide_true, decide_false, Bool.not_true, Bool.not_false, Bool.false_eq_true, reduceIte, gAdd_i, gSub_i, gNeg_i, gLt_i, gLe_i, gGt_i, gGe_i, gEq_i, gNe_i, gMul_b, gMod_p, gFdiv_p, Nat.reduceAdd, Nat.reduceMul, Nat.reduceLeDiff, at0, at1, at2, at3, at4, at5, at6, at7, at8, at9, at10, at11, at12, at13, at14, at15, gSl_l, cut_pos, cut_from, cut_to, Int.reduceToNat, List.drop_succ_cons, List.drop_zero, List.take_succ_cons, List.take_zero, List.take_nil, Nat.reduceSub, Int.reduceAdd, Int.reduceSub, Int.reduceMul, Int.reduceMod, Int.reduceDiv, Int.reduceNeg, List.length_cons, List.length_nil, Nat.zero_add, fComp, compL, rg1_3, mInt, mAbs, mGcd, mMax2, mMin2, mMax3, mMin3, mIsqrt, isT, isTup_tb, len_tb]
  cases j
  · rfl
  · simp only [runD, List.map_cons, List.map_nil, List.replicate_zero, List.replicate_succ, List.cons_append, List.nil_append, List.append_nil, sRet, sRetN, sNx, sSeq, sSet, sSetF, sOwn, sTo, gsCons, gsNil, sPar, sPar3, eChain, sExp, sApp, sPut, sIf, sFrz, frz, frz1, List.foldl_cons, List.foldl_nil, eBin, eUn, eVar, eC, eAnd, eOr, eIf, eLend, flat, eIxO, eOfF, eTup, eAll, fAll, eCall, eIs, eSl, fSl, oNone, oSome, aNil, aCons, bVal, bAnd, bOr, bNot, bYes, blOf, gNot, iSeq, iRg1, iRg2, seq_l, seq_t, tup_l, tup_t, lst_l, lst_t, len_l, len_t, gIx_l, gIx_t, gNm, wipeR, List.getElem?_cons_zero, List.getElem?_cons_succ, List.set_cons_zero, List.set_cons_succ, Option.bind_some, Option.bind_none, Option.map_some, Option.map_none, if_true, if_false, decide_true, decide_false, Bool.not_true, Bool.not_false, Bool.false_eq_true, reduceIte, gAdd_i, gSub_i, gNeg_i, gLt_i, gLe_i, gGt_i, gGe_i, gEq_i, gNe_i, gMul_b, gMod_p, gFdiv_p, Nat.reduceAdd, Nat.reduceMul, Nat.reduceLeDiff, at0, at1, at2, at3, at4, at5, at6, at7, at8, at9, at10, at11, at12, at13, at14, at15, gSl_l, cut_pos, cut_from, cut_to, Int.reduceToNat, List.drop_succ_cons, List.drop_zero, List.take_succ_cons, List.take_zero, List.take_nil, Nat.reduceSub, Int.reduceAdd, Int.reduceSub, Int.reduceMul, Int.reduceMod, Int.reduceDiv, Int.reduceNeg, List.length_cons, List.length_nil, Nat.zero_add, fComp, compL, rg1_3, mInt, mAbs, mGcd, mMax2, mMin2, mMax3, mMin3, mIsqrt, isT, seq_tb, forL, w_is_row, sFor]
    cases k <;> rfl

theorem w_handed : m__law_handed [rw3 k v, .int i] = some (rw3 (decide (i = 0)) v) := by
  simp only [m__law_handed, b__law_handed, runD, List.map_cons, List.map_nil, List.replicate_zero, List.replicate_succ, List.cons_append, List.nil_append, List.append_nil, sRet, sRetN, sNx, sSeq, sSet, sSetF, sOwn, sTo, gsCons, gsNil, sPar, sPar3, eChain, sExp, sApp, sPut, sIf, sFrz, frz, frz1, List.foldl_cons, List.foldl_nil, eBin, eUn, eVar, eC, eAnd, eOr, eIf, eLend, flat, eIxO, eOfF, eTup, eAll, fAll, eCall, eIs, eSl, fSl, oNone, oSome, aNil, aCons, bVal, bAnd, bOr, bNot, bYes, blOf, gNot, iSeq, iRg1, iRg2, seq_l, seq_t, tup_l, tup_t, lst_l, lst_t, len_l, len_t, gIx_l, gIx_t, gNm, wipeR, List.getElem?_cons_zero, List.getElem?_cons_succ, List.set_cons_zero, List.set_cons_succ, Option.bind_some, Option.bind_none, Option.map_some, Option.map_none, if_true, if_false, decide_true, decide_false, Bool.not_true, Bool.not_false, Bool.false_eq_true, reduceIte, gAdd_i, gSub_i, gNeg_i, gLt_i, gLe_i, gGt_i, gGe_i, gEq_i, gNe_i, gMul_b, gMod_p, gFdiv_p, Nat.reduceAdd, Nat.reduceMul, Nat.reduceLeDiff, at0, at1, at2, at3, at4, at5, at6, at7, at8, at9, at10, at11, at12, at13, at14, at15, gSl_l, cut_pos, cut_from, cut_to, Int.reduceToNat, List.drop_succ_cons, List.drop_zero, List.take_succ_cons, List.take_zero, List.take_nil, Nat.reduceSub, Int.reduceAdd, Int.reduceSub, Int.reduceMul, Int.reduceMod, Int.reduceDiv, Int.reduceNeg, List.length_cons, List.length_nil, Nat.zero_add, fComp, compL, rg1_3, mInt, mAbs, mGcd, mMax2, mMin2, mMax3, mMin3, mIsqrt, isT, tup_r, seq_r]
  by_cases h : i = 0
  · simp only [h, runD, List.map_cons, List.map_nil, List.replicate_zero, List.replicate_succ, List.cons_append, List.nil_append, List.append_nil, sRet, sRetN, sNx, sSeq, sSet, sSetF, sOwn, sTo, gsCons, gsNil, sPar, sPar3, eChain, sExp, sApp, sPut, sIf, sFrz, frz, frz1, List.foldl_cons, List.foldl_nil, eBin, eUn, eVar, eC, eAnd, eOr, eIf, eLend, flat, eIxO, eOfF, eTup, eAll, fAll, eCall, eIs, eSl, fSl, oNone, oSome, aNil, aCons, bVal, bAnd, bOr, bNot, bYes, blOf, gNot, iSeq, iRg1, iRg2, seq_l, seq_t, tup_l, tup_t, lst_l, lst_t, len_l, len_t, gIx_l, gIx_t, gNm, wipeR, List.getElem?_cons_zero, List.getElem?_cons_succ, List.set_cons_zero, List.set_cons_succ, Option.bind_some, Option.bind_none, Option.map_some, Option.map_none, if_true, if_false, decide_true, decide_false, Bool.not_true, Bool.not_false, Bool.false_eq_true, reduceIte, gAdd_i, gSub_i, gNeg_i, gLt_i, gLe_i, gGt_i, gGe_i, gEq_i, gNe_i, gMul_b, gMod_p, gFdiv_p, Nat.reduceAdd, Nat.reduceMul, Nat.reduceLeDiff, at0, at1, at2, at3, at4, at5, at6, at7, at8, at9, at10, at11, at12, at13, at14, at15, gSl_l, cut_pos, cut_from, cut_to, Int.reduceToNat, List.drop_succ_cons, List.drop_zero, List.take_succ_cons, List.take_zero, List.take_nil, Nat.reduceSub, Int.reduceAdd, Int.reduceSub, Int.reduceMul, Int.reduceMod, Int.reduceDiv, Int.reduceNeg, List.length_cons, List.length_nil, Nat.zero_add, fComp, compL, rg1_3, mInt, mAbs, mGcd, mMax2, mMin2, mMax3, mMin3, mIsqrt, isT, decide_true, tup_r]
  · simp only [h, runD, List.map_cons, List.map_nil, List.replicate_zero, List.replicate_succ, List.cons_append, List.nil_append, List.append_nil, sRet, sRetN, sNx, sSeq, sSet, sSetF, sOwn, sTo, gsCons, gsNil, sPar, sPar3, eChain, sExp, sApp, sPut, sIf, sFrz, frz, frz1, List.foldl_cons, List.foldl_nil, eBin, eUn, eVar, eC, eAnd, eOr, eIf, eLend, flat, eIxO, eOfF, eTup, eAll, fAll, eCall, eIs, eSl, fSl, oNone, oSome, aNil, aCons, bVal, bAnd, bOr, bNot, bYes, blOf, gNot, iSeq, iRg1, iRg2, seq_l, seq_t, tup_l, tup_t, lst_l, lst_t, len_l, len_t, gIx_l, gIx_t, gNm, wipeR, List.getElem?_cons_zero, List.getElem?_cons_succ, List.set_cons_zero, List.set_cons_succ, Option.bind_some, Option.bind_none, Option.map_some, Option.map_none, if_true, if_false, decide_true, decide_false, Bool.not_true, Bool.not_false, Bool.false_eq_true, reduceIte, gAdd_i, gSub_i, gNeg_i, gLt_i, gLe_i, gGt_i, gGe_i, gEq_i, gNe_i, gMul_b, gMod_p, gFdiv_p, Nat.reduceAdd, Nat.reduceMul, Nat.reduceLeDiff, at0, at1, at2, at3, at4, at5, at6, at7, at8, at9, at10, at11, at12, at13, at14, at15, gSl_l, cut_pos, cut_from, cut_to, Int.reduceToNat, List.drop_succ_cons, List.drop_zero, List.take_succ_cons, List.take_zero, List.take_nil, Nat.reduceSub, Int.reduceAdd, Int.reduceSub, Int.reduceMul, Int.reduceMod, Int.reduceDiv, Int.reduceNeg, List.length_cons, List.length_nil, Nat.zero_add, fComp, compL, rg1_3, mInt, mAbs, mGcd, mMax2, mMin2, mMax3, mMin3, mIsqrt, isT, decide_false, seq_r]
    rfl
theorem comp_id {g : Rho} (h0 : ∀ d, ∃ ρ1, gNm 2 d g = some ρ1 ∧ ρ1[2]? = some (.va d)) : ∀ ds : List PyData, compL (gNm 2) bYes (eVar 2) g ds = some ds
  | [] => rfl
  | d :: ds => by
    obtain ⟨ρ1, h1, h2⟩ := h0 d
    simp only [compL, h1, Option.bind_some, bYes, if_true, eVar, h2, comp_id h0 ds]
theorem w_handed_g {l : List PyData} (hl : l.length ≤ 1000000) : m__law_handed [sq k l, .int i] = some (sq (decide (i = 0)) l) := by
  have e := comp_id (g := [.va (sq k l), .va (.int i), .un]) (fun d => ⟨_, rfl, rfl⟩) l
  simp only [m__law_handed, b__law_handed, runD, List.map_cons, List.map_nil, List.replicate_zero, List.replicate_succ, List.cons_append, List.nil_append, List.append_nil, sRet, sRetN, sNx, sSeq, sSet, sSetF, sOwn, sTo, gsCons, gsNil, sPar, sPar3, eChain, sExp, sApp, sPut, sIf, sFrz, frz, frz1, List.foldl_cons, List.foldl_nil, eBin, eUn, eVar, eC, eAnd, eOr, eIf, eLend, flat, eIxO, eOfF, eTup, eAll, fAll, eCall, eIs, eSl, fSl, oNone, oSome, aNil, aCons, bVal, bAnd, bOr, bNot, bYes, blOf, gNot, iSeq, iRg1, iRg2, seq_l, seq_t, tup_l, tup_t, lst_l, lst_t, len_l, len_t, gIx_l, gIx_t, gNm, wipeR, List.getElem?_cons_zero, List.getElem?_cons_succ, List.set_cons_zero, List.set_cons_succ, Option.bind_some, Option.bind_none, Option.map_some, Option.map_none, if_true, if_false, decide_true, decide_false, Bool.not_true, Bool.not_false, Bool.false_eq_true, reduceIte, gAdd_i, gSub_i, gNeg_i, gLt_i, gLe_i, gGt_i, gGe_i, gEq_i, gNe_i, gMul_b, gMod_p, gFdiv_p, Nat.reduceAdd, Nat.reduceMul, Nat.reduceLeDiff, at0, at1, at2, at3, at4, at5, at6, at7, at8, at9, at10, at11, at12, at13, at14, at15, gSl_l, cut_pos, cut_from, cut_to, Int.reduceToNat, List.drop_succ_cons, List.drop_zero, List.take_succ_cons, List.take_zero, List.take_nil, Nat.reduceSub, Int.reduceAdd, Int.reduceSub, Int.reduceMul, Int.reduceMod, Int.reduceDiv, Int.reduceNeg, List.length_cons, List.length_nil, Nat.zero_add, fComp, compL, rg1_3, mInt, mAbs, mGcd, mMax2, mMin2, mMax3, mMin3, mIsqrt, isT, tup_sq, seq_sq, show l.length ≤ 16000000 by omega]
  by_cases h : i = 0
  · simp only [h, runD, List.map_cons, List.map_nil, List.replicate_zero, List.replicate_succ, List.cons_append, List.nil_append, List.append_nil, sRet, sRetN, sNx, sSeq, sSet, sSetF, sOwn, sTo, gsCons, gsNil, sPar, sPar3, eChain, sExp, sApp, sPut, sIf, sFrz, frz, frz1, List.foldl_cons, List.foldl_nil, eBin, eUn, eVar, eC, eAnd, eOr, eIf, eLend, flat, eIxO, eOfF, eTup, eAll, fAll, eCall, eIs, eSl, fSl, oNone, oSome, aNil, aCons, bVal, bAnd, bOr, bNot, bYes, blOf, gNot, iSeq, iRg1, iRg2, seq_l, seq_t, tup_l, tup_t, lst_l, lst_t, len_l, len_t, gIx_l, gIx_t, gNm, wipeR, List.getElem?_cons_zero, List.getElem?_cons_succ, List.set_cons_zero, List.set_cons_succ, Option.bind_some, Option.bind_none, Option.map_some, Option.map_none, if_true, if_false, decide_true, decide_false, Bool.not_true, Bool.not_false, Bool.false_eq_true, reduceIte, gAdd_i, gSub_i, gNeg_i, gLt_i, gLe_i, gGt_i, gGe_i, gEq_i, gNe_i, gMul_b, gMod_p, gFdiv_p, Nat.reduceAdd, Nat.reduceMul, Nat.reduceLeDiff, at0, at1, at2, at3, at4, at5, at6, at7, at8, at9, at10, at11, at12, at13, at14, at15, gSl_l, cut_pos, cut_from, cut_to, Int.reduceToNat, List.drop_succ_cons, List.drop_zero, List.take_succ_cons, List.take_zero, List.take_nil, Nat.reduceSub, Int.reduceAdd, Int.reduceSub, Int.reduceMul, Int.reduceMod, Int.reduceDiv, Int.reduceNeg, List.length_cons, List.length_nil, Nat.zero_add, fComp, compL, rg1_3, mInt, mAbs, mGcd, mMax2, mMin2, mMax3, mMin3, mIsqrt, isT, tup_sq]
  · simp only [h, runD, List.map_cons, List.map_nil, List.replicate_zero, List.replicate_succ, List.cons_append, List.nil_append, List.append_nil, sRet, sRetN, sNx, sSeq, sSet, sSetF, sOwn, sTo, gsCons, gsNil, sPar, sPar3, eChain, sExp, sApp, sPut, sIf, sFrz, frz, frz1, List.foldl_cons, List.foldl_nil, eBin, eUn, eVar, eC, eAnd, eOr, eIf, eLend, flat, eIxO, eOfF, eTup, eAll, fAll, eCall, eIs, eSl, fSl, oNone, oSome, aNil, aCons, bVal, bAnd, bOr, bNot, bYes, blOf, gNot, iSeq, iRg1, iRg2, seq_l, seq_t, tup_l, tup_t, lst_l, lst_t, len_l, len_t, gIx_l, gIx_t, gNm, wipeR, List.getElem?_cons_zero, List.getElem?_cons_succ, List.set_cons_zero, List.set_cons_succ, Option.bind_some, Option.bind_none, Option.map_some, Option.map_none, if_true, if_false, decide_true, decide_false, Bool.not_true, Bool.not_false, Bool.false_eq_true, reduceIte, gAdd_i, gSub_i, gNeg_i, gLt_i, gLe_i, gGt_i, gGe_i, gEq_i, gNe_i, gMul_b, gMod_p, gFdiv_p, Nat.reduceAdd, Nat.reduceMul, Nat.reduceLeDiff, at0, at1, at2, at3, at4, at5, at6, at7, at8, at9, at10, at11, at12, at13, at14, at15, gSl_l, cut_pos, cut_from, cut_to, Int.reduceToNat, List.drop_succ_cons, List.drop_zero, List.take_succ_cons, List.take_zero, List.take_nil, Nat.reduceSub, Int.reduceAdd, Int.reduceSub, Int.reduceMul, Int.reduceMod, Int.reduceDiv, Int.reduceNeg, List.length_cons, List.length_nil, Nat.zero_add, fComp, compL, rg1_3, mInt, mAbs, mGcd, mMax2, mMin2, mMax3, mMin3, mIsqrt, isT, seq_sq, e, show l.length ≤ 16000000 by omega]
    rfl

theorem w_handed_table : m__law_handed_table [tb j k t, .int i] = some (tb (decide (i % 2 = 0)) (decide (i / 2 = 0)) t) := by
  simp only [m__law_handed_table, b__law_handed_table, runD, List.map_cons, List.map_nil, List.replicate_zero, List.replicate_succ, List.cons_append, List.nil_append, List.append_nil, sRet, sRetN, sNx, sSeq, sSet, sSetF, sOwn, sTo, gsCons, gsNil, sPar, sPar3, eChain, sExp, sApp, sPut, sIf, sFrz, frz, frz1, List.foldl_cons, List.foldl_nil, eBin, eUn, eVar, eC, eAnd, eOr, eIf, eLend, flat, eIxO, eOfF, eTup, eAll, fAll, eCall, eIs, eSl, fSl, oNone, oSome, aNil, aCons, bVal, bAnd, bOr, bNot, bYes, blOf, gNot, iSeq, iRg1, iRg2, seq_l, seq_t, tup_l, tup_t, lst_l, lst_t, len_l, len_t, gIx_l, gIx_t, gNm, wipeR, List.getElem?_cons_zero, List.getElem?_cons_succ, List.set_cons_zero, List.set_cons_succ, Option.bind_some, Option.bind_none, Option.map_some, Option.map_none, if_true, if_false, decide_true, decide_false, Bool.not_true, Bool.not_false, Bool.false_eq_true, reduceIte, gAdd_i, gSub_i, gNeg_i, gLt_i, gLe_i, gGt_i, gGe_i, gEq_i, gNe_i, gMul_b, gMod_p, gFdiv_p, Nat.reduceAdd, Nat.reduceMul, Nat.reduceLeDiff, at0, at1, at2, at3, at4, at5, at6, at7, at8, at9, at10, at11, at12, at13, at14, at15, gSl_l, cut_pos, cut_from, cut_to, Int.reduceToNat, List.drop_succ_cons, List.drop_zero, List.take_succ_cons, List.take_zero, List.take_nil, Nat.reduceSub, Int.reduceAdd, Int.reduceSub, Int.reduceMul, Int.reduceMod, Int.reduceDiv, Int.reduceNeg, List.length_cons, List.length_nil, Nat.zero_add, fComp, compL, rg1_3, mInt, mAbs, mGcd, mMax2, mMin2, mMax3, mMin3, mIsqrt, isT, seq_tb, gFdiv_p (show (0 : Int) < 2 by decide) (show (2 : Int).natAbs.log2 < 9000 by decide), gMod_p (show (0 : Int) < 2 by decide), w_handed]
  by_cases h : i % 2 = 0
  · simp only [h, runD, List.map_cons, List.map_nil, List.replicate_zero, List.replicate_succ, List.cons_append, List.nil_append, List.append_nil, sRet, sRetN, sNx, sSeq, sSet, sSetF, sOwn, sTo, gsCons, gsNil, sPar, sPar3, eChain, sExp, sApp, sPut, sIf, sFrz, frz, frz1, List.foldl_cons, List.foldl_nil, eBin, eUn, eVar, eC, eAnd, eOr, eIf, eLend, flat, eIxO, eOfF, eTup, eAll, fAll, eCall, eIs, eSl, fSl, oNone, oSome, aNil, aCons, bVal, bAnd, bOr, bNot, bYes, blOf, gNot, iSeq, iRg1, iRg2, seq_l, seq_t, tup_l, tup_t, lst_l, lst_t, len_l, len_t, gIx_l, gIx_t, gNm, wipeR, List.getElem?_cons_zero, List.getElem?_cons_succ, List.set_cons_zero, List.set_cons_succ, Option.bind_some, Option.bind_none, Option.map_some, Option.map_none, if_true, if_false, decide_true, decide_false, Bool.not_true, Bool.not_false, Bool.false_eq_true, reduceIte, gAdd_i, gSub_i, gNeg_i, gLt_i, gLe_i, gGt_i, gGe_i, gEq_i, gNe_i, gMul_b, gMod_p, gFdiv_p, Nat.reduceAdd, Nat.reduceMul, Nat.reduceLeDiff, at0, at1, at2, at3, at4, at5, at6, at7, at8, at9, at10, at11, at12, at13, at14, at15, gSl_l, cut_pos, cut_from, cut_to, Int.reduceToNat, List.drop_succ_cons, List.drop_zero, List.take_succ_cons, List.take_zero, List.take_nil, Nat.reduceSub, Int.reduceAdd, Int.reduceSub, Int.reduceMul, Int.reduceMod, Int.reduceDiv, Int.reduceNeg, List.length_cons, List.length_nil, Nat.zero_add, fComp, compL, rg1_3, mInt, mAbs, mGcd, mMax2, mMin2, mMax3, mMin3, mIsqrt, isT, decide_true]
    rfl
  · simp only [h, runD, List.map_cons, List.map_nil, List.replicate_zero, List.replicate_succ, List.cons_append, List.nil_append, List.append_nil, sRet, sRetN, sNx, sSeq, sSet, sSetF, sOwn, sTo, gsCons, gsNil, sPar, sPar3, eChain, sExp, sApp, sPut, sIf, sFrz, frz, frz1, List.foldl_cons, List.foldl_nil, eBin, eUn, eVar, eC, eAnd, eOr, eIf, eLend, flat, eIxO, eOfF, eTup, eAll, fAll, eCall, eIs, eSl, fSl, oNone, oSome, aNil, aCons, bVal, bAnd, bOr, bNot, bYes, blOf, gNot, iSeq, iRg1, iRg2, seq_l, seq_t, tup_l, tup_t, lst_l, lst_t, len_l, len_t, gIx_l, gIx_t, gNm, wipeR, List.getElem?_cons_zero, List.getElem?_cons_succ, List.set_cons_zero, List.set_cons_succ, Option.bind_some, Option.bind_none, Option.map_some, Option.map_none, if_true, if_false, decide_true, decide_false, Bool.not_true, Bool.not_false, Bool.false_eq_true, reduceIte, gAdd_i, gSub_i, gNeg_i, gLt_i, gLe_i, gGt_i, gGe_i, gEq_i, gNe_i, gMul_b, gMod_p, gFdiv_p, Nat.reduceAdd, Nat.reduceMul, Nat.reduceLeDiff, at0, at1, at2, at3, at4, at5, at6, at7, at8, at9, at10, at11, at12, at13, at14, at15, gSl_l, cut_pos, cut_from, cut_to, Int.reduceToNat, List.drop_succ_cons, List.drop_zero, List.take_succ_cons, List.take_zero, List.take_nil, Nat.reduceSub, Int.reduceAdd, Int.reduceSub, Int.reduceMul, Int.reduceMod, Int.reduceDiv, Int.reduceNeg, List.length_cons, List.length_nil, Nat.zero_add, fComp, compL, rg1_3, mInt, mAbs, mGcd, mMax2, mMin2, mMax3, mMin3, mIsqrt, isT, decide_false]
    rfl

theorem w_stayed : m__law_stayed [tb j k t, tb true true s] = some (.bool (decide (t = s))) := by
  simp only [m__law_stayed, b__law_stayed, runD, List.map_cons, List.map_nil, List.replicate_zero, List.replicate_succ, List.cons_append, List.nil_append, List.append_nil, sRet, sRetN, sNx, sSeq, sSet, sSetF, sOwn, sTo, gsCons, gsNil, sPar, sPar3, eChain, sExp, sApp, sPut, sIf, sFrz, frz, frz1, List.foldl_cons, List.foldl_nil, eBin, eUn, eVar, eC, eAnd, eOr, eIf, eLend, flat, eIxO, eOfF, eTup, eAll, fAll, eCall, eIs, eSl, fSl, oNone, oSome, aNil, aCons, bVal, bAnd, bOr, bNot, bYes, blOf, gNot, iSeq, iRg1, iRg2, seq_l, seq_t, tup_l, tup_t, lst_l, lst_t, len_l, len_t, gIx_l, gIx_t, gNm, wipeR, List.getElem?_cons_zero, List.getElem?_cons_succ, List.set_cons_zero, List.set_cons_succ, Option.bind_some, Option.bind_none, Option.map_some, Option.map_none, if_true, if_false, decide_true, decide_false, Bool.not_true, Bool.not_false, Bool.false_eq_true, reduceIte, gAdd_i, gSub_i, gNeg_i, gLt_i, gLe_i, gGt_i, gGe_i, gEq_i, gNe_i, gMul_b, gMod_p, gFdiv_p, Nat.reduceAdd, Nat.reduceMul, Nat.reduceLeDiff, at0, at1, at2, at3, at4, at5, at6, at7, at8, at9, at10, at11, at12, at13, at14, at15, gSl_l, cut_pos, cut_from, cut_to, Int.reduceToNat, List.drop_succ_cons, List.drop_zero, List.take_succ_cons, List.take_zero, List.take_nil, Nat.reduceSub, Int.reduceAdd, Int.reduceSub, Int.reduceMul, Int.reduceMod, Int.reduceDiv, Int.reduceNeg, List.length_cons, List.length_nil, Nat.zero_add, fComp, compL, rg1_3, mInt, mAbs, mGcd, mMax2, mMin2, mMax3, mMin3, mIsqrt, isT, seq_tb, len_tb, tup_r, decide_true, tab_t, eq_tb]

end

theorem w_cell_go (K : PyData) : ∀ (ns : List Int) (s : Int) (sc : PyData) (c : SC), 0 ≤ s → s < 1000003 → ∃ s' c', 0 ≤ s' ∧ s' < 1000003 ∧
    forL (gNm 3) (sSet 2 (eBin gMod (eAll mInt (aCons (eBin gAdd (eBin gMul (eVar 2) (eC (.int 31))) (eBin gMod (eAll mInt (aCons (eVar 3) aNil)) (eC (.int 1000003)))) aNil)) (eC (.int 1000003)))) (ns.map PyData.int) [.va sc, .va K, .va (.int s), c] = some (.nx [.va sc, .va K, .va (.int s'), c'])
  | [], s, sc, c, h1, h2 => ⟨s, c, h1, h2, rfl⟩
  | n :: ns, s, sc, c, h1, h2 => by
    haveI : Bd 20 s := ⟨by omega⟩
    obtain ⟨s', c', q1, q2, q3⟩ := w_cell_go K ns ((s * 31 + n % 1000003) % 1000003) sc (.va (.int n)) (by omega) (by omega)
    refine ⟨s', c', q1, q2, ?_⟩
    rw [List.map_cons]
    simp (config := {decide := true}) only [forL, runD, List.map_cons, List.map_nil, List.replicate_zero, List.replicate_succ, List.cons_append, List.nil_append, List.append_nil, sRet, sRetN, sNx, sSeq, sSet, sSetF, sOwn, sTo, gsCons, gsNil, sPar, sPar3, eChain, sExp, sApp, sPut, sIf, sFrz, frz, frz1, List.foldl_cons, List.foldl_nil, eBin, eUn, eVar, eC, eAnd, eOr, eIf, eLend, flat, eIxO, eOfF, eTup, eAll, fAll, eCall, eIs, eSl, fSl, oNone, oSome, aNil, aCons, bVal, bAnd, bOr, bNot, bYes, blOf, gNot, iSeq, iRg1, iRg2, seq_l, seq_t, tup_l, tup_t, lst_l, lst_t, len_l, len_t, gIx_l, gIx_t, gNm, wipeR, List.getElem?_cons_zero, List.getElem?_cons_succ, List.set_cons_zero, List.set_cons_succ, Option.bind_some, Option.bind_none, Option.map_some, Option.map_none, if_true, if_false, decide_true, decide_false, Bool.not_true, Bool.not_false, Bool.false_eq_true, reduceIte, gAdd_i, gSub_i, gNeg_i, gLt_i, gLe_i, gGt_i, gGe_i, gEq_i, gNe_i, gMul_b, gMod_p, gFdiv_p, Nat.reduceAdd, Nat.reduceMul, Nat.reduceLeDiff, at0, at1, at2, at3, at4, at5, at6, at7, at8, at9, at10, at11, at12, at13, at14, at15, gSl_l, cut_pos, cut_from, cut_to, Int.reduceToNat, List.drop_succ_cons, List.drop_zero, List.take_succ_cons, List.take_zero, List.take_nil, Nat.reduceSub, Int.reduceAdd, Int.reduceSub, Int.reduceMul, Int.reduceMod, Int.reduceDiv, Int.reduceNeg, List.length_cons, List.length_nil, Nat.zero_add, fComp, compL, rg1_3, mInt, mAbs, mGcd, mMax2, mMin2, mMax3, mMin3, mIsqrt, isT]
    exact q3
theorem w_cell (ns : List Int) (k : Int) (hk : 0 ≤ k) (hk2 : k < 1000) : ∃ c, m__law_cell [.list (ns.map .int), .int k] = some (.int c) := by
  by_cases h : k < ns.length
  · obtain ⟨i, rfl⟩ : ∃ i : Nat, k = i := ⟨k.toNat, by omega⟩
    have hi : i < ns.length := by omega
    have e : atI (ns.map PyData.int) (i : Int) = some (.int ns[i]) := by
      rw [atI_nat', List.getElem?_map, List.getElem?_eq_getElem hi]
      rfl
    refine ⟨ns[i], ?_⟩
    simp only [m__law_cell, b__law_cell, runD, List.map_cons, List.map_nil, List.replicate_zero, List.replicate_succ, List.cons_append, List.nil_append, List.append_nil, sRet, sRetN, sNx, sSeq, sSet, sSetF, sOwn, sTo, gsCons, gsNil, sPar, sPar3, eChain, sExp, sApp, sPut, sIf, sFrz, frz, frz1, List.foldl_cons, List.foldl_nil, eBin, eUn, eVar, eC, eAnd, eOr, eIf, eLend, flat, eIxO, eOfF, eTup, eAll, fAll, eCall, eIs, eSl, fSl, oNone, oSome, aNil, aCons, bVal, bAnd, bOr, bNot, bYes, blOf, gNot, iSeq, iRg1, iRg2, seq_l, seq_t, tup_l, tup_t, lst_l, lst_t, len_l, len_t, gIx_l, gIx_t, gNm, wipeR, List.getElem?_cons_zero, List.getElem?_cons_succ, List.set_cons_zero, List.set_cons_succ, Option.bind_some, Option.bind_none, Option.map_some, Option.map_none, if_true, if_false, decide_true, decide_false, Bool.not_true, Bool.not_false, Bool.false_eq_true, reduceIte, gAdd_i, gSub_i, gNeg_i, gLt_i, gLe_i, gGt_i, gGe_i, gEq_i, gNe_i, gMul_b, gMod_p, gFdiv_p, Nat.reduceAdd, Nat.reduceMul, Nat.reduceLeDiff, at0, at1, at2, at3, at4, at5, at6, at7, at8, at9, at10, at11, at12, at13, at14, at15, gSl_l, cut_pos, cut_from, cut_to, Int.reduceToNat, List.drop_succ_cons, List.drop_zero, List.take_succ_cons, List.take_zero, List.take_nil, Nat.reduceSub, Int.reduceAdd, Int.reduceSub, Int.reduceMul, Int.reduceMod, Int.reduceDiv, Int.reduceNeg, List.length_cons, List.length_nil, Nat.zero_add, fComp, compL, rg1_3, mInt, mAbs, mGcd, mMax2, mMin2, mMax3, mMin3, mIsqrt, isT, List.length_map, h, decide_true, e]
  · obtain ⟨s, c, h1, h2, h3⟩ := w_cell_go (.int k) ns 17 (.list (ns.map .int)) .un (by decide) (by decide)
    haveI : Bd 21 (s + 7) := ⟨by omega⟩
    haveI : Bd 11 (k + 3) := ⟨by omega⟩
    refine ⟨(s + 7) * (k + 3) * 69621 % 2147483647, ?_⟩
    simp (config := {decide := true}) only [m__law_cell, b__law_cell, runD, List.map_cons, List.map_nil, List.replicate_zero, List.replicate_succ, List.cons_append, List.nil_append, List.append_nil, sRet, sRetN, sNx, sSeq, sSet, sSetF, sOwn, sTo, gsCons, gsNil, sPar, sPar3, eChain, sExp, sApp, sPut, sIf, sFrz, frz, frz1, List.foldl_cons, List.foldl_nil, eBin, eUn, eVar, eC, eAnd, eOr, eIf, eLend, flat, eIxO, eOfF, eTup, eAll, fAll, eCall, eIs, eSl, fSl, oNone, oSome, aNil, aCons, bVal, bAnd, bOr, bNot, bYes, blOf, gNot, iSeq, iRg1, iRg2, seq_l, seq_t, tup_l, tup_t, lst_l, lst_t, len_l, len_t, gIx_l, gIx_t, gNm, wipeR, List.getElem?_cons_zero, List.getElem?_cons_succ, List.set_cons_zero, List.set_cons_succ, Option.bind_some, Option.bind_none, Option.map_some, Option.map_none, if_true, if_false, decide_true, decide_false, Bool.not_true, Bool.not_false, Bool.false_eq_true, reduceIte, gAdd_i, gSub_i, gNeg_i, gLt_i, gLe_i, gGt_i, gGe_i, gEq_i, gNe_i, gMul_b, gMod_p, gFdiv_p, Nat.reduceAdd, Nat.reduceMul, Nat.reduceLeDiff, at0, at1, at2, at3, at4, at5, at6, at7, at8, at9, at10, at11, at12, at13, at14, at15, gSl_l, cut_pos, cut_from, cut_to, Int.reduceToNat, List.drop_succ_cons, List.drop_zero, List.take_succ_cons, List.take_zero, List.take_nil, Nat.reduceSub, Int.reduceAdd, Int.reduceSub, Int.reduceMul, Int.reduceMod, Int.reduceDiv, Int.reduceNeg, List.length_cons, List.length_nil, Nat.zero_add, fComp, compL, rg1_3, mInt, mAbs, mGcd, mMax2, mMin2, mMax3, mMin3, mIsqrt, isT, List.length_map, h, decide_false, sFor, h3]

theorem gPow_18 : gPow (.int 10) (.int 18) = some (.int 1000000000000000000) := by
  show (if CPow 10 18 then some (PyData.int (10 ^ (18 : Int).toNat)) else none) = _
  rw [if_pos (by decide +kernel)]
  rfl
/-! digits -/
noncomputable abbrev bodyA : ES := sSeq (sApp 2 (eBin gMod (eAll mInt (aCons (eVar 3) aNil)) (eVar 4))) (sSet 3 (eBin gFdiv (eAll mInt (aCons (eVar 3) aNil)) (eVar 4)))
noncomputable abbrev bodyB : ES := sSeq (sSet 5 (eBin gMod (eAll mInt (aCons (eBin gAdd (eBin gAdd (eBin gMul (eVar 5) (eC (.int 48271))) (eBin gMul (eC (.int 974711)) (eVar 6))) (eC (.int 12345))) aNil)) (eC (.int 2147483647)))) (sSeq (sSet 7 (eBin gMod (eAll mInt (aCons (eBin gMul (eVar 5) (eBin gAdd (eBin gFdiv (eVar 5) (eC (.int 65537))) (eC (.int 3)))) aNil)) (eC (.int 2147483629)))) (sApp 2 (eBin gMod (eBin gFdiv (eVar 7) (eC (.int 19))) (eBin gIx (eVar 1) (eVar 6)))))
theorem log_small {l : Int} (h : 0 < l) (h2 : l < 18446744073709551616) : l.natAbs.log2 < 9000 := by
  have : l.natAbs < 2 ^ 64 := by omega
  exact Nat.lt_of_lt_of_le (PySem.Flt.log2_lt_of (by decide) this) (by decide)
theorem digA (c ls : PyData) (x y z : SC) : ∀ (L : List Int) (acc : List PyData) (r : Int) (w : SC), (∀ l ∈ L, 0 < l ∧ l < 18446744073709551616) → acc.length + L.length ≤ 10000 → ∃ (ds : List Int) (r' : Int) (w' : SC), inD ds L ∧
    forL (gNm 4) bodyA (L.map PyData.int) [.va c, .va ls, .ow acc, .va (.int r), w, x, y, z] = some (.nx [.va c, .va ls, .ow (acc ++ ds.map PyData.int), .va (.int r'), w', x, y, z])
  | [], acc, r, w, _, _ => ⟨[], r, w, trivial, by simp only [List.map_nil, List.append_nil, forL]⟩
  | l :: L, acc, r, w, hL, hl => by
    obtain ⟨p1, p2⟩ := hL l List.mem_cons_self
    rw [List.length_cons] at hl
    obtain ⟨ds, r', w', q1, q2⟩ := digA c ls x y z L (acc ++ [.int (r % l)]) (r / l) (.va (.int l)) (fun k hk => hL k (List.mem_cons_of_mem _ hk)) (by rw [List.length_append]; simp; omega)
    refine ⟨r % l :: ds, r', w', ⟨Int.emod_nonneg _ (by omega), Int.emod_lt_of_pos _ p1, q1⟩, ?_⟩
    rw [List.map_cons]
    simp (config := {decide := true}) only [forL, runD, List.map_cons, List.map_nil, List.replicate_zero, List.replicate_succ, List.cons_append, List.nil_append, List.append_nil, sRet, sRetN, sNx, sSeq, sSet, sSetF, sOwn, sTo, gsCons, gsNil, sPar, sPar3, eChain, sExp, sApp, sPut, sIf, sFrz, frz, frz1, List.foldl_cons, List.foldl_nil, eBin, eUn, eVar, eC, eAnd, eOr, eIf, eLend, flat, eIxO, eOfF, eTup, eAll, fAll, eCall, eIs, eSl, fSl, oNone, oSome, aNil, aCons, bVal, bAnd, bOr, bNot, bYes, blOf, gNot, iSeq, iRg1, iRg2, seq_l, seq_t, tup_l, tup_t, lst_l, lst_t, len_l, len_t, gIx_l, gIx_t, gNm, wipeR, List.getElem?_cons_zero, List.getElem?_cons_succ, List.set_cons_zero, List.set_cons_succ, Option.bind_some, Option.bind_none, Option.map_some, Option.map_none, if_true, if_false, decide_true, decide_false, Bool.not_true, Bool.not_false, Bool.false_eq_true, reduceIte, gAdd_i, gSub_i, gNeg_i, gLt_i, gLe_i, gGt_i, gGe_i, gEq_i, gNe_i, gMul_b, gMod_p, gFdiv_p, Nat.reduceAdd, Nat.reduceMul, Nat.reduceLeDiff, at0, at1, at2, at3, at4, at5, at6, at7, at8, at9, at10, at11, at12, at13, at14, at15, gSl_l, cut_pos, cut_from, cut_to, Int.reduceToNat, List.drop_succ_cons, List.drop_zero, List.take_succ_cons, List.take_zero, List.take_nil, Nat.reduceSub, Int.reduceAdd, Int.reduceSub, Int.reduceMul, Int.reduceMod, Int.reduceDiv, Int.reduceNeg, List.length_cons, List.length_nil, Nat.zero_add, fComp, compL, rg1_3, mInt, mAbs, mGcd, mMax2, mMin2, mMax3, mMin3, mIsqrt, isT, bodyA, p1, log_small p1 p2, show acc.length < 16000000 by omega]
    rw [q2, List.append_assoc]
    rfl
theorem bd31 {x : Int} : Bd 31 (x % 2147483647) := ⟨by omega⟩
theorem digB (c : PyData) (L : List Int) (hL : ∀ l ∈ L, 0 < l ∧ l < 18446744073709551616) (hl : L.length ≤ 1000) (r w : SC) : ∀ (m i : Nat) (acc : List PyData) (s : Int) (k t : SC), i + m = L.length → acc.length = i → 0 ≤ s → s < 2147483647 → ∃ (ds : List Int) (s' k' t' : SC), inD ds (L.drop i) ∧
    forL (gNm 6) bodyB (rng i m) [.va c, .va (.list (L.map PyData.int)), .ow acc, r, w, .va (.int s), k, t] = some (.nx [.va c, .va (.list (L.map PyData.int)), .ow (acc ++ ds.map PyData.int), r, w, s', k', t'])
  | 0, i, acc, s, k, t, h1, h2, h3, h4 => ⟨[], _, _, _, by rw [List.drop_eq_nil_of_le (by omega)]; trivial, by rw [rng_zero]; simp only [List.map_nil, List.append_nil, forL]; rfl⟩
  | m + 1, i, acc, s, k, t, h1, h2, h3, h4 => by
    have hi : i < L.length := by omega
    obtain ⟨p1, p2⟩ := hL L[i] (List.getElem_mem hi)
    generalize es : (s * 48271 + 974711 * (i : Int) + 12345) % 2147483647 = s1
    have b1 : 0 ≤ s1 ∧ s1 < 2147483647 := by omega
    obtain ⟨ds, s', k', t', q1, q2⟩ := digB c L hL hl r w m (i + 1) (acc ++ [.int (s1 * (s1 / 65537 + 3) % 2147483629 / 19 % L[i])]) s1 (.va (.int i)) (.va (.int (s1 * (s1 / 65537 + 3) % 2147483629))) (by omega) (by simp [h2]) b1.1 b1.2
    refine ⟨s1 * (s1 / 65537 + 3) % 2147483629 / 19 % L[i] :: ds, s', k', t', ?_, ?_⟩
    · rw [List.drop_eq_getElem_cons hi]
      exact ⟨Int.emod_nonneg _ (by omega), Int.emod_lt_of_pos _ p1, q1⟩
    · haveI : Bd 31 s := ⟨by omega⟩
      haveI : Bd 10 (i : Int) := ⟨by omega⟩
      haveI : Bd 31 s1 := ⟨by omega⟩
      haveI : Bd 31 (s1 / 65537 + 3) := ⟨by omega⟩
      have e : atI (L.map PyData.int) (i : Int) = some (.int L[i]) := by
        rw [atI_nat', List.getElem?_map, List.getElem?_eq_getElem hi]
        rfl
      rw [rng_succ]
      simp (config := {decide := true}) only [forL, runD, List.map_cons, List.map_nil, List.replicate_zero, List.replicate_succ, List.cons_append, List.nil_append, List.append_nil, sRet, sRetN, sNx, sSeq, sSet, sSetF, sOwn, sTo, gsCons, gsNil, sPar, sPar3, eChain, sExp, sApp, sPut, sIf, sFrz, frz, frz1, List.foldl_cons, List.foldl_nil, eBin, eUn, eVar, eC, eAnd, eOr, eIf, eLend, flat, eIxO, eOfF, eTup, eAll, fAll, eCall, eIs, eSl, fSl, oNone, oSome, aNil, aCons, bVal, bAnd, bOr, bNot, bYes, blOf, gNot, iSeq, iRg1, iRg2, seq_l, seq_t, tup_l, tup_t, lst_l, lst_t, len_l, len_t, gIx_l, gIx_t, gNm, wipeR, List.getElem?_cons_zero, List.getElem?_cons_succ, List.set_cons_zero, List.set_cons_succ, Option.bind_some, Option.bind_none, Option.map_some, Option.map_none, if_true, if_false, decide_true, decide_false, Bool.not_true, Bool.not_false, Bool.false_eq_true, reduceIte, gAdd_i, gSub_i, gNeg_i, gLt_i, gLe_i, gGt_i, gGe_i, gEq_i, gNe_i, gMul_b, gMod_p, gFdiv_p, Nat.reduceAdd, Nat.reduceMul, Nat.reduceLeDiff, at0, at1, at2, at3, at4, at5, at6, at7, at8, at9, at10, at11, at12, at13, at14, at15, gSl_l, cut_pos, cut_from, cut_to, Int.reduceToNat, List.drop_succ_cons, List.drop_zero, List.take_succ_cons, List.take_zero, List.take_nil, Nat.reduceSub, Int.reduceAdd, Int.reduceSub, Int.reduceMul, Int.reduceMod, Int.reduceDiv, Int.reduceNeg, List.length_cons, List.length_nil, Nat.zero_add, fComp, compL, rg1_3, mInt, mAbs, mGcd, mMax2, mMin2, mMax3, mMin3, mIsqrt, isT, bodyB, es, e, p1, log_small p1 p2, show acc.length < 16000000 by omega]
      rw [show (i : Int) + 1 = ((i + 1 : Nat) : Int) by omega, q2, List.append_assoc]
      rfl
theorem w_digits (c : Int) (L : List Int) (hL : ∀ l ∈ L, 0 < l ∧ l < 18446744073709551616) (hl : L.length ≤ 1000) : ∃ ds, inD ds L ∧ m__law_digits [.int c, .list (L.map .int)] = some (.list (ds.map .int)) := by
  by_cases h : 1000000000000000000 ≤ c
  · obtain ⟨ds, r', w', q1, q2⟩ := digA (.int c) (.list (L.map .int)) .un .un .un L [] (c - 1000000000000000000) .un hL (by simp; omega)
    refine ⟨ds, q1, ?_⟩
    simp (config := {decide := true}) only [m__law_digits, b__law_digits, runD, List.map_cons, List.map_nil, List.replicate_zero, List.replicate_succ, List.cons_append, List.nil_append, List.append_nil, sRet, sRetN, sNx, sSeq, sSet, sSetF, sOwn, sTo, gsCons, gsNil, sPar, sPar3, eChain, sExp, sApp, sPut, sIf, sFrz, frz, frz1, List.foldl_cons, List.foldl_nil, eBin, eUn, eVar, eC, eAnd, eOr, eIf, eLend, flat, eIxO, eOfF, eTup, eAll, fAll, eCall, eIs, eSl, fSl, oNone, oSome, aNil, aCons, bVal, bAnd, bOr, bNot, bYes, blOf, gNot, iSeq, iRg1, iRg2, seq_l, seq_t, tup_l, tup_t, lst_l, lst_t, len_l, len_t, gIx_l, gIx_t, gNm, wipeR, List.getElem?_cons_zero, List.getElem?_cons_succ, List.set_cons_zero, List.set_cons_succ, Option.bind_some, Option.bind_none, Option.map_some, Option.map_none, if_true, if_false, decide_true, decide_false, Bool.not_true, Bool.not_false, Bool.false_eq_true, reduceIte, gAdd_i, gSub_i, gNeg_i, gLt_i, gLe_i, gGt_i, gGe_i, gEq_i, gNe_i, gMul_b, gMod_p, gFdiv_p, Nat.reduceAdd, Nat.reduceMul, Nat.reduceLeDiff, at0, at1, at2, at3, at4, at5, at6, at7, at8, at9, at10, at11, at12, at13, at14, at15, gSl_l, cut_pos, cut_from, cut_to, Int.reduceToNat, List.drop_succ_cons, List.drop_zero, List.take_succ_cons, List.take_zero, List.take_nil, Nat.reduceSub, Int.reduceAdd, Int.reduceSub, Int.reduceMul, Int.reduceMod, Int.reduceDiv, Int.reduceNeg, List.length_cons, List.length_nil, Nat.zero_add, fComp, compL, rg1_3, mInt, mAbs, mGcd, mMax2, mMin2, mMax3, mMin3, mIsqrt, isT, gPow_18, h, sFor, q2]
  · obtain ⟨ds, s', k', t', q1, q2⟩ := digB (.int c) L hL hl (.va (.int c)) .un L.length 0 [] (c % 2147483629) .un .un (by omega) rfl (by omega) (by omega)
    refine ⟨ds, q1, ?_⟩
    change forL (gNm 6) bodyB (rng 0 L.length) _ = _ at q2
    have e : rg1 (.int ((L.map PyData.int).length : Nat)) = some (rng 0 L.length) := by
      rw [List.length_map]
      exact rg1_nat _ (by omega)
    simp (config := {decide := true}) only [m__law_digits, b__law_digits, runD, List.map_cons, List.map_nil, List.replicate_zero, List.replicate_succ, List.cons_append, List.nil_append, List.append_nil, sRet, sRetN, sNx, sSeq, sSet, sSetF, sOwn, sTo, gsCons, gsNil, sPar, sPar3, eChain, sExp, sApp, sPut, sIf, sFrz, frz, frz1, List.foldl_cons, List.foldl_nil, eBin, eUn, eVar, eC, eAnd, eOr, eIf, eLend, flat, eIxO, eOfF, eTup, eAll, fAll, eCall, eIs, eSl, fSl, oNone, oSome, aNil, aCons, bVal, bAnd, bOr, bNot, bYes, blOf, gNot, iSeq, iRg1, iRg2, seq_l, seq_t, tup_l, tup_t, lst_l, lst_t, len_l, len_t, gIx_l, gIx_t, gNm, wipeR, List.getElem?_cons_zero, List.getElem?_cons_succ, List.set_cons_zero, List.set_cons_succ, Option.bind_some, Option.bind_none, Option.map_some, Option.map_none, if_true, if_false, decide_true, decide_false, Bool.not_true, Bool.not_false, Bool.false_eq_true, reduceIte, gAdd_i, gSub_i, gNeg_i, gLt_i, gLe_i, gGt_i, gGe_i, gEq_i, gNe_i, gMul_b, gMod_p, gFdiv_p, Nat.reduceAdd, Nat.reduceMul, Nat.reduceLeDiff, at0, at1, at2, at3, at4, at5, at6, at7, at8, at9, at10, at11, at12, at13, at14, at15, gSl_l, cut_pos, cut_from, cut_to, Int.reduceToNat, List.drop_succ_cons, List.drop_zero, List.take_succ_cons, List.take_zero, List.take_nil, Nat.reduceSub, Int.reduceAdd, Int.reduceSub, Int.reduceMul, Int.reduceMod, Int.reduceDiv, Int.reduceNeg, List.length_cons, List.length_nil, Nat.zero_add, fComp, compL, rg1_3, mInt, mAbs, mGcd, mMax2, mMin2, mMax3, mMin3, mIsqrt, isT, gPow_18, h, sFor, e, q2]

/-! a number -/
theorem six {d : Int} (h : 0 ≤ d) (h2 : d < 8) : d = 0 ∨ d = 1 ∨ d = 2 ∨ d = 3 ∨ d = 4 ∨ d = 5 ∨ d = 6 ∨ d = 7 := by omega
theorem w_number (c : Int) : ∃ n, Bd 103 n ∧ m__law_number [.int c] = some (.int n) := by
  obtain ⟨ds, q1, q2⟩ := w_digits c [8, 2, 100000, 100000, 100000, 100000, 100000, 100000] (by decide) (by decide)
  obtain ⟨d0, r, rfl, a0, b0, q1⟩ := inD_cons q1
  obtain ⟨d1, r, rfl, a1, b1, q1⟩ := inD_cons q1
  obtain ⟨d2, r, rfl, a2, b2, q1⟩ := inD_cons q1
  obtain ⟨d3, r, rfl, a3, b3, q1⟩ := inD_cons q1
  obtain ⟨d4, r, rfl, a4, b4, q1⟩ := inD_cons q1
  obtain ⟨d5, r, rfl, a5, b5, q1⟩ := inD_cons q1
  obtain ⟨d6, r, rfl, a6, b6, q1⟩ := inD_cons q1
  obtain ⟨d7, r, rfl, a7, b7, q1⟩ := inD_cons q1
  obtain rfl := inD_nil q1
  simp only [List.map_cons, List.map_nil] at q2
  haveI : Bd 1 d1 := ⟨by omega⟩
  haveI : Bd 17 d2 := ⟨by omega⟩
  haveI : Bd 17 d3 := ⟨by omega⟩
  haveI : Bd 17 d4 := ⟨by omega⟩
  haveI : Bd 17 d5 := ⟨by omega⟩
  haveI : Bd 17 d6 := ⟨by omega⟩
  haveI : Bd 17 d7 := ⟨by omega⟩
  have fin : ∀ x : Int, Bd 101 x → ∃ n, Bd 103 n ∧ x * (1 - 2 * d1) = n := fun x h => ⟨_, ⟨by
    have h1 : (x * (1 - 2 * d1)).natAbs < 2 ^ (101 + 1) := wide_lt h.lt (show (1 - 2 * d1).natAbs < 2 ^ 1 by omega)
    exact Nat.lt_of_lt_of_le h1 (by decide)⟩, rfl⟩
  haveI big : Bd 101 (((((d3 * 100000 + d4) * 100000 + d5) * 100000 + d6) * 100000 + d7)) := ⟨by omega⟩
  have key : ∃ x, Bd 101 x ∧ m__law_number [.int c] = some (.int (x * (1 - 2 * d1))) := by
    rcases six a0 b0 with rfl | rfl | rfl | rfl | rfl | rfl | rfl | rfl
    · haveI : Bd 101 (d2 % 1) := ⟨by omega⟩
      exact ⟨_, this, by simp (config := {decide := true}) only [m__law_number, b__law_number, runD, List.map_cons, List.map_nil, List.replicate_zero, List.replicate_succ, List.cons_append, List.nil_append, List.append_nil, sRet, sRetN, sNx, sSeq, sSet, sSetF, sOwn, sTo, gsCons, gsNil, sPar, sPar3, eChain, sExp, sApp, sPut, sIf, sFrz, frz, frz1, List.foldl_cons, List.foldl_nil, eBin, eUn, eVar, eC, eAnd, eOr, eIf, eLend, flat, eIxO, eOfF, eTup, eAll, fAll, eCall, eIs, eSl, fSl, oNone, oSome, aNil, aCons, bVal, bAnd, bOr, bNot, bYes, blOf, gNot, iSeq, iRg1, iRg2, seq_l, seq_t, tup_l, tup_t, lst_l, lst_t, len_l, len_t, gIx_l, gIx_t, gNm, wipeR, List.getElem?_cons_zero, List.getElem?_cons_succ, List.set_cons_zero, List.set_cons_succ, Option.bind_some, Option.bind_none, Option.map_some, Option.map_none, if_true, if_false, decide_true, decide_false, Bool.not_true, Bool.not_false, Bool.false_eq_true, reduceIte, gAdd_i, gSub_i, gNeg_i, gLt_i, gLe_i, gGt_i, gGe_i, gEq_i, gNe_i, gMul_b, gMod_p, gFdiv_p, Nat.reduceAdd, Nat.reduceMul, Nat.reduceLeDiff, at0, at1, at2, at3, at4, at5, at6, at7, at8, at9, at10, at11, at12, at13, at14, at15, gSl_l, cut_pos, cut_from, cut_to, Int.reduceToNat, List.drop_succ_cons, List.drop_zero, List.take_succ_cons, List.take_zero, List.take_nil, Nat.reduceSub, Int.reduceAdd, Int.reduceSub, Int.reduceMul, Int.reduceMod, Int.reduceDiv, Int.reduceNeg, List.length_cons, List.length_nil, Nat.zero_add, fComp, compL, rg1_3, mInt, mAbs, mGcd, mMax2, mMin2, mMax3, mMin3, mIsqrt, isT, q2]⟩
    · haveI : Bd 101 (d2 % 4) := ⟨by omega⟩
      exact ⟨_, this, by simp (config := {decide := true}) only [m__law_number, b__law_number, runD, List.map_cons, List.map_nil, List.replicate_zero, List.replicate_succ, List.cons_append, List.nil_append, List.append_nil, sRet, sRetN, sNx, sSeq, sSet, sSetF, sOwn, sTo, gsCons, gsNil, sPar, sPar3, eChain, sExp, sApp, sPut, sIf, sFrz, frz, frz1, List.foldl_cons, List.foldl_nil, eBin, eUn, eVar, eC, eAnd, eOr, eIf, eLend, flat, eIxO, eOfF, eTup, eAll, fAll, eCall, eIs, eSl, fSl, oNone, oSome, aNil, aCons, bVal, bAnd, bOr, bNot, bYes, blOf, gNot, iSeq, iRg1, iRg2, seq_l, seq_t, tup_l, tup_t, lst_l, lst_t, len_l, len_t, gIx_l, gIx_t, gNm, wipeR, List.getElem?_cons_zero, List.getElem?_cons_succ, List.set_cons_zero, List.set_cons_succ, Option.bind_some, Option.bind_none, Option.map_some, Option.map_none, if_true, if_false, decide_true, decide_false, Bool.not_true, Bool.not_false, Bool.false_eq_true, reduceIte, gAdd_i, gSub_i, gNeg_i, gLt_i, gLe_i, gGt_i, gGe_i, gEq_i, gNe_i, gMul_b, gMod_p, gFdiv_p, Nat.reduceAdd, Nat.reduceMul, Nat.reduceLeDiff, at0, at1, at2, at3, at4, at5, at6, at7, at8, at9, at10, at11, at12, at13, at14, at15, gSl_l, cut_pos, cut_from, cut_to, Int.reduceToNat, List.drop_succ_cons, List.drop_zero, List.take_succ_cons, List.take_zero, List.take_nil, Nat.reduceSub, Int.reduceAdd, Int.reduceSub, Int.reduceMul, Int.reduceMod, Int.reduceDiv, Int.reduceNeg, List.length_cons, List.length_nil, Nat.zero_add, fComp, compL, rg1_3, mInt, mAbs, mGcd, mMax2, mMin2, mMax3, mMin3, mIsqrt, isT, q2]⟩
    · haveI : Bd 101 (d2 % 4) := ⟨by omega⟩
      exact ⟨_, this, by simp (config := {decide := true}) only [m__law_number, b__law_number, runD, List.map_cons, List.map_nil, List.replicate_zero, List.replicate_succ, List.cons_append, List.nil_append, List.append_nil, sRet, sRetN, sNx, sSeq, sSet, sSetF, sOwn, sTo, gsCons, gsNil, sPar, sPar3, eChain, sExp, sApp, sPut, sIf, sFrz, frz, frz1, List.foldl_cons, List.foldl_nil, eBin, eUn, eVar, eC, eAnd, eOr, eIf, eLend, flat, eIxO, eOfF, eTup, eAll, fAll, eCall, eIs, eSl, fSl, oNone, oSome, aNil, aCons, bVal, bAnd, bOr, bNot, bYes, blOf, gNot, iSeq, iRg1, iRg2, seq_l, seq_t, tup_l, tup_t, lst_l, lst_t, len_l, len_t, gIx_l, gIx_t, gNm, wipeR, List.getElem?_cons_zero, List.getElem?_cons_succ, List.set_cons_zero, List.set_cons_succ, Option.bind_some, Option.bind_none, Option.map_some, Option.map_none, if_true, if_false, decide_true, decide_false, Bool.not_true, Bool.not_false, Bool.false_eq_true, reduceIte, gAdd_i, gSub_i, gNeg_i, gLt_i, gLe_i, gGt_i, gGe_i, gEq_i, gNe_i, gMul_b, gMod_p, gFdiv_p, Nat.reduceAdd, Nat.reduceMul, Nat.reduceLeDiff, at0, at1, at2, at3, at4, at5, at6, at7, at8, at9, at10, at11, at12, at13, at14, at15, gSl_l, cut_pos, cut_from, cut_to, Int.reduceToNat, List.drop_succ_cons, List.drop_zero, List.take_succ_cons, List.take_zero, List.take_nil, Nat.reduceSub, Int.reduceAdd, Int.reduceSub, Int.reduceMul, Int.reduceMod, Int.reduceDiv, Int.reduceNeg, List.length_cons, List.length_nil, Nat.zero_add, fComp, compL, rg1_3, mInt, mAbs, mGcd, mMax2, mMin2, mMax3, mMin3, mIsqrt, isT, q2]⟩
    · haveI : Bd 101 (d2 % 31) := ⟨by omega⟩
      exact ⟨_, this, by simp (config := {decide := true}) only [m__law_number, b__law_number, runD, List.map_cons, List.map_nil, List.replicate_zero, List.replicate_succ, List.cons_append, List.nil_append, List.append_nil, sRet, sRetN, sNx, sSeq, sSet, sSetF, sOwn, sTo, gsCons, gsNil, sPar, sPar3, eChain, sExp, sApp, sPut, sIf, sFrz, frz, frz1, List.foldl_cons, List.foldl_nil, eBin, eUn, eVar, eC, eAnd, eOr, eIf, eLend, flat, eIxO, eOfF, eTup, eAll, fAll, eCall, eIs, eSl, fSl, oNone, oSome, aNil, aCons, bVal, bAnd, bOr, bNot, bYes, blOf, gNot, iSeq, iRg1, iRg2, seq_l, seq_t, tup_l, tup_t, lst_l, lst_t, len_l, len_t, gIx_l, gIx_t, gNm, wipeR, List.getElem?_cons_zero, List.getElem?_cons_succ, List.set_cons_zero, List.set_cons_succ, Option.bind_some, Option.bind_none, Option.map_some, Option.map_none, if_true, if_false, decide_true, decide_false, Bool.not_true, Bool.not_false, Bool.false_eq_true, reduceIte, gAdd_i, gSub_i, gNeg_i, gLt_i, gLe_i, gGt_i, gGe_i, gEq_i, gNe_i, gMul_b, gMod_p, gFdiv_p, Nat.reduceAdd, Nat.reduceMul, Nat.reduceLeDiff, at0, at1, at2, at3, at4, at5, at6, at7, at8, at9, at10, at11, at12, at13, at14, at15, gSl_l, cut_pos, cut_from, cut_to, Int.reduceToNat, List.drop_succ_cons, List.drop_zero, List.take_succ_cons, List.take_zero, List.take_nil, Nat.reduceSub, Int.reduceAdd, Int.reduceSub, Int.reduceMul, Int.reduceMod, Int.reduceDiv, Int.reduceNeg, List.length_cons, List.length_nil, Nat.zero_add, fComp, compL, rg1_3, mInt, mAbs, mGcd, mMax2, mMin2, mMax3, mMin3, mIsqrt, isT, q2]⟩
    · haveI : Bd 101 (d2 % 31) := ⟨by omega⟩
      exact ⟨_, this, by simp (config := {decide := true}) only [m__law_number, b__law_number, runD, List.map_cons, List.map_nil, List.replicate_zero, List.replicate_succ, List.cons_append, List.nil_append, List.append_nil, sRet, sRetN, sNx, sSeq, sSet, sSetF, sOwn, sTo, gsCons, gsNil, sPar, sPar3, eChain, sExp, sApp, sPut, sIf, sFrz, frz, frz1, List.foldl_cons, List.foldl_nil, eBin, eUn, eVar, eC, eAnd, eOr, eIf, eLend, flat, eIxO, eOfF, eTup, eAll, fAll, eCall, eIs, eSl, fSl, oNone, oSome, aNil, aCons, bVal, bAnd, bOr, bNot, bYes, blOf, gNot, iSeq, iRg1, iRg2, seq_l, seq_t, tup_l, tup_t, lst_l, lst_t, len_l, len_t, gIx_l, gIx_t, gNm, wipeR, List.getElem?_cons_zero, List.getElem?_cons_succ, List.set_cons_zero, List.set_cons_succ, Option.bind_some, Option.bind_none, Option.map_some, Option.map_none, if_true, if_false, decide_true, decide_false, Bool.not_true, Bool.not_false, Bool.false_eq_true, reduceIte, gAdd_i, gSub_i, gNeg_i, gLt_i, gLe_i, gGt_i, gGe_i, gEq_i, gNe_i, gMul_b, gMod_p, gFdiv_p, Nat.reduceAdd, Nat.reduceMul, Nat.reduceLeDiff, at0, at1, at2, at3, at4, at5, at6, at7, at8, at9, at10, at11, at12, at13, at14, at15, gSl_l, cut_pos, cut_from, cut_to, Int.reduceToNat, List.drop_succ_cons, List.drop_zero, List.take_succ_cons, List.take_zero, List.take_nil, Nat.reduceSub, Int.reduceAdd, Int.reduceSub, Int.reduceMul, Int.reduceMod, Int.reduceDiv, Int.reduceNeg, List.length_cons, List.length_nil, Nat.zero_add, fComp, compL, rg1_3, mInt, mAbs, mGcd, mMax2, mMin2, mMax3, mMin3, mIsqrt, isT, q2]⟩
    · haveI : Bd 101 (d2 % 100000) := ⟨by omega⟩
      exact ⟨_, this, by simp (config := {decide := true}) only [m__law_number, b__law_number, runD, List.map_cons, List.map_nil, List.replicate_zero, List.replicate_succ, List.cons_append, List.nil_append, List.append_nil, sRet, sRetN, sNx, sSeq, sSet, sSetF, sOwn, sTo, gsCons, gsNil, sPar, sPar3, eChain, sExp, sApp, sPut, sIf, sFrz, frz, frz1, List.foldl_cons, List.foldl_nil, eBin, eUn, eVar, eC, eAnd, eOr, eIf, eLend, flat, eIxO, eOfF, eTup, eAll, fAll, eCall, eIs, eSl, fSl, oNone, oSome, aNil, aCons, bVal, bAnd, bOr, bNot, bYes, blOf, gNot, iSeq, iRg1, iRg2, seq_l, seq_t, tup_l, tup_t, lst_l, lst_t, len_l, len_t, gIx_l, gIx_t, gNm, wipeR, List.getElem?_cons_zero, List.getElem?_cons_succ, List.set_cons_zero, List.set_cons_succ, Option.bind_some, Option.bind_none, Option.map_some, Option.map_none, if_true, if_false, decide_true, decide_false, Bool.not_true, Bool.not_false, Bool.false_eq_true, reduceIte, gAdd_i, gSub_i, gNeg_i, gLt_i, gLe_i, gGt_i, gGe_i, gEq_i, gNe_i, gMul_b, gMod_p, gFdiv_p, Nat.reduceAdd, Nat.reduceMul, Nat.reduceLeDiff, at0, at1, at2, at3, at4, at5, at6, at7, at8, at9, at10, at11, at12, at13, at14, at15, gSl_l, cut_pos, cut_from, cut_to, Int.reduceToNat, List.drop_succ_cons, List.drop_zero, List.take_succ_cons, List.take_zero, List.take_nil, Nat.reduceSub, Int.reduceAdd, Int.reduceSub, Int.reduceMul, Int.reduceMod, Int.reduceDiv, Int.reduceNeg, List.length_cons, List.length_nil, Nat.zero_add, fComp, compL, rg1_3, mInt, mAbs, mGcd, mMax2, mMin2, mMax3, mMin3, mIsqrt, isT, q2]⟩
    · haveI : Bd 101 (d2 * 100000 + d3) := ⟨by omega⟩
      exact ⟨_, this, by simp (config := {decide := true}) only [m__law_number, b__law_number, runD, List.map_cons, List.map_nil, List.replicate_zero, List.replicate_succ, List.cons_append, List.nil_append, List.append_nil, sRet, sRetN, sNx, sSeq, sSet, sSetF, sOwn, sTo, gsCons, gsNil, sPar, sPar3, eChain, sExp, sApp, sPut, sIf, sFrz, frz, frz1, List.foldl_cons, List.foldl_nil, eBin, eUn, eVar, eC, eAnd, eOr, eIf, eLend, flat, eIxO, eOfF, eTup, eAll, fAll, eCall, eIs, eSl, fSl, oNone, oSome, aNil, aCons, bVal, bAnd, bOr, bNot, bYes, blOf, gNot, iSeq, iRg1, iRg2, seq_l, seq_t, tup_l, tup_t, lst_l, lst_t, len_l, len_t, gIx_l, gIx_t, gNm, wipeR, List.getElem?_cons_zero, List.getElem?_cons_succ, List.set_cons_zero, List.set_cons_succ, Option.bind_some, Option.bind_none, Option.map_some, Option.map_none, if_true, if_false, decide_true, decide_false, Bool.not_true, Bool.not_false, Bool.false_eq_true, reduceIte, gAdd_i, gSub_i, gNeg_i, gLt_i, gLe_i, gGt_i, gGe_i, gEq_i, gNe_i, gMul_b, gMod_p, gFdiv_p, Nat.reduceAdd, Nat.reduceMul, Nat.reduceLeDiff, at0, at1, at2, at3, at4, at5, at6, at7, at8, at9, at10, at11, at12, at13, at14, at15, gSl_l, cut_pos, cut_from, cut_to, Int.reduceToNat, List.drop_succ_cons, List.drop_zero, List.take_succ_cons, List.take_zero, List.take_nil, Nat.reduceSub, Int.reduceAdd, Int.reduceSub, Int.reduceMul, Int.reduceMod, Int.reduceDiv, Int.reduceNeg, List.length_cons, List.length_nil, Nat.zero_add, fComp, compL, rg1_3, mInt, mAbs, mGcd, mMax2, mMin2, mMax3, mMin3, mIsqrt, isT, q2]⟩
    · have hx : Bd 101 (((((d2 % 100000 * 100000 + d3) * 100000 + d4) * 100000 + d5) * 100000 + d6) * 100000 + d7) := ⟨by omega⟩
      haveI : Bd 101 (((((d2 % 100000 * 100000 + d3) * 100000 + d4) * 100000 + d5) * 100000 + d6)) := ⟨by omega⟩
      haveI : Bd 101 (((((d2 % 100000 * 100000 + d3) * 100000 + d4) * 100000 + d5))) := ⟨by omega⟩
      haveI : Bd 101 (((((d2 % 100000 * 100000 + d3) * 100000 + d4)))) := ⟨by omega⟩
      haveI : Bd 101 (((((d2 % 100000 * 100000 + d3))))) := ⟨by omega⟩
      haveI : Bd 101 (d2 % 100000) := ⟨by omega⟩
      exact ⟨_, hx, by simp (config := {decide := true}) only [m__law_number, b__law_number, runD, List.map_cons, List.map_nil, List.replicate_zero, List.replicate_succ, List.cons_append, List.nil_append, List.append_nil, sRet, sRetN, sNx, sSeq, sSet, sSetF, sOwn, sTo, gsCons, gsNil, sPar, sPar3, eChain, sExp, sApp, sPut, sIf, sFrz, frz, frz1, List.foldl_cons, List.foldl_nil, eBin, eUn, eVar, eC, eAnd, eOr, eIf, eLend, flat, eIxO, eOfF, eTup, eAll, fAll, eCall, eIs, eSl, fSl, oNone, oSome, aNil, aCons, bVal, bAnd, bOr, bNot, bYes, blOf, gNot, iSeq, iRg1, iRg2, seq_l, seq_t, tup_l, tup_t, lst_l, lst_t, len_l, len_t, gIx_l, gIx_t, gNm, wipeR, List.getElem?_cons_zero, List.getElem?_cons_succ, List.set_cons_zero, List.set_cons_succ, Option.bind_some, Option.bind_none, Option.map_some, Option.map_none, if_true, if_false, decide_true, decide_false, Bool.not_true, Bool.not_false, Bool.false_eq_true, reduceIte, gAdd_i, gSub_i, gNeg_i, gLt_i, gLe_i, gGt_i, gGe_i, gEq_i, gNe_i, gMul_b, gMod_p, gFdiv_p, Nat.reduceAdd, Nat.reduceMul, Nat.reduceLeDiff, at0, at1, at2, at3, at4, at5, at6, at7, at8, at9, at10, at11, at12, at13, at14, at15, gSl_l, cut_pos, cut_from, cut_to, Int.reduceToNat, List.drop_succ_cons, List.drop_zero, List.take_succ_cons, List.take_zero, List.take_nil, Nat.reduceSub, Int.reduceAdd, Int.reduceSub, Int.reduceMul, Int.reduceMod, Int.reduceDiv, Int.reduceNeg, List.length_cons, List.length_nil, Nat.zero_add, fComp, compL, rg1_3, mInt, mAbs, mGcd, mMax2, mMin2, mMax3, mMin3, mIsqrt, isT, q2, sFor, forL]⟩
  obtain ⟨x, hx, e⟩ := key
  obtain ⟨n, hn, rfl⟩ := fin x hx
  exact ⟨_, hn, e⟩

section
variable {n m : Nat} {j k l : Bool} {u v w : V3} {s t : M3} {i : Int}

theorem v_content : m_content [rw3 k v] = some (.int v.cont) := by
  simp only [m_content, b_content, runD, List.map_cons, List.map_nil, List.replicate_zero, List.replicate_succ, List.cons_append, List.nil_append, List.append_nil, sRet, sRetN, sNx, sSeq, sSet, sSetF, sOwn, sTo, gsCons, gsNil, sPar, sPar3, eChain, sExp, sApp, sPut, sIf, sFrz, frz, frz1, List.foldl_cons, List.foldl_nil, eBin, eUn, eVar, eC, eAnd, eOr, eIf, eLend, flat, eIxO, eOfF, eTup, eAll, fAll, eCall, eIs, eSl, fSl, oNone, oSome, aNil, aCons, bVal, bAnd, bOr, bNot, bYes, blOf, gNot, iSeq, iRg1, iRg2, seq_l, seq_t, tup_l, tup_t, lst_l, lst_t, len_l, len_t, gIx_l, gIx_t, gNm, wipeR, List.getElem?_cons_zero, List.getElem?_cons_succ, List.set_cons_zero, List.set_cons_succ, Option.bind_some, Option.bind_none, Option.map_some, Option.map_none, if_true, if_false, decide_true, decide_false, Bool.not_true, Bool.not_false, Bool.false_eq_true, reduceIte, gAdd_i, gSub_i, gNeg_i, gLt_i, gLe_i, gGt_i, gGe_i, gEq_i, gNe_i, gMul_b, gMod_p, gFdiv_p, Nat.reduceAdd, Nat.reduceMul, Nat.reduceLeDiff, at0, at1, at2, at3, at4, at5, at6, at7, at8, at9, at10, at11, at12, at13, at14, at15, gSl_l, cut_pos, cut_from, cut_to, Int.reduceToNat, List.drop_succ_cons, List.drop_zero, List.take_succ_cons, List.take_zero, List.take_nil, Nat.reduceSub, Int.reduceAdd, Int.reduceSub, Int.reduceMul, Int.reduceMod, Int.reduceDiv, Int.reduceNeg, List.length_cons, List.length_nil, Nat.zero_add, fComp, compL, rg1_3, mInt, mAbs, mGcd, mMax2, mMin2, mMax3, mMin3, mIsqrt, isT, ix_r0, ix_r1, ix_r2, Int.natAbs_natCast]
  rfl

theorem v_primitive [h : BV n v] (hn : n < 8000) : m_primitive [rw3 k v] = some (rw3 true v.prim) := by
  have hl : v.cont.natAbs < 2 ^ n := V3.cont_lt h
  by_cases c : v.cont = 0
  · simp only [m_primitive, b_primitive, runD, List.map_cons, List.map_nil, List.replicate_zero, List.replicate_succ, List.cons_append, List.nil_append, List.append_nil, sRet, sRetN, sNx, sSeq, sSet, sSetF, sOwn, sTo, gsCons, gsNil, sPar, sPar3, eChain, sExp, sApp, sPut, sIf, sFrz, frz, frz1, List.foldl_cons, List.foldl_nil, eBin, eUn, eVar, eC, eAnd, eOr, eIf, eLend, flat, eIxO, eOfF, eTup, eAll, fAll, eCall, eIs, eSl, fSl, oNone, oSome, aNil, aCons, bVal, bAnd, bOr, bNot, bYes, blOf, gNot, iSeq, iRg1, iRg2, seq_l, seq_t, tup_l, tup_t, lst_l, lst_t, len_l, len_t, gIx_l, gIx_t, gNm, wipeR, List.getElem?_cons_zero, List.getElem?_cons_succ, List.set_cons_zero, List.set_cons_succ, Option.bind_some, Option.bind_none, Option.map_some, Option.map_none, if_true, if_false, decide_true, decide_false, Bool.not_true, Bool.not_false, Bool.false_eq_true, reduceIte, gAdd_i, gSub_i, gNeg_i, gLt_i, gLe_i, gGt_i, gGe_i, gEq_i, gNe_i, gMul_b, gMod_p, gFdiv_p, Nat.reduceAdd, Nat.reduceMul, Nat.reduceLeDiff, at0, at1, at2, at3, at4, at5, at6, at7, at8, at9, at10, at11, at12, at13, at14, at15, gSl_l, cut_pos, cut_from, cut_to, Int.reduceToNat, List.drop_succ_cons, List.drop_zero, List.take_succ_cons, List.take_zero, List.take_nil, Nat.reduceSub, Int.reduceAdd, Int.reduceSub, Int.reduceMul, Int.reduceMod, Int.reduceDiv, Int.reduceNeg, List.length_cons, List.length_nil, Nat.zero_add, fComp, compL, rg1_3, mInt, mAbs, mGcd, mMax2, mMin2, mMax3, mMin3, mIsqrt, isT, v_content, c, V3.prim, row_t]
  · simp only [m_primitive, b_primitive, runD, List.map_cons, List.map_nil, List.replicate_zero, List.replicate_succ, List.cons_append, List.nil_append, List.append_nil, sRet, sRetN, sNx, sSeq, sSet, sSetF, sOwn, sTo, gsCons, gsNil, sPar, sPar3, eChain, sExp, sApp, sPut, sIf, sFrz, frz, frz1, List.foldl_cons, List.foldl_nil, eBin, eUn, eVar, eC, eAnd, eOr, eIf, eLend, flat, eIxO, eOfF, eTup, eAll, fAll, eCall, eIs, eSl, fSl, oNone, oSome, aNil, aCons, bVal, bAnd, bOr, bNot, bYes, blOf, gNot, iSeq, iRg1, iRg2, seq_l, seq_t, tup_l, tup_t, lst_l, lst_t, len_l, len_t, gIx_l, gIx_t, gNm, wipeR, List.getElem?_cons_zero, List.getElem?_cons_succ, List.set_cons_zero, List.set_cons_succ, Option.bind_some, Option.bind_none, Option.map_some, Option.map_none, if_true, if_false, decide_true, decide_false, Bool.not_true, Bool.not_false, Bool.false_eq_true, reduceIte, gAdd_i, gSub_i, gNeg_i, gLt_i, gLe_i, gGt_i, gGe_i, gEq_i, gNe_i, gMul_b, gMod_p, gFdiv_p, Nat.reduceAdd, Nat.reduceMul, Nat.reduceLeDiff, at0, at1, at2, at3, at4, at5, at6, at7, at8, at9, at10, at11, at12, at13, at14, at15, gSl_l, cut_pos, cut_from, cut_to, Int.reduceToNat, List.drop_succ_cons, List.drop_zero, List.take_succ_cons, List.take_zero, List.take_nil, Nat.reduceSub, Int.reduceAdd, Int.reduceSub, Int.reduceMul, Int.reduceMod, Int.reduceDiv, Int.reduceNeg, List.length_cons, List.length_nil, Nat.zero_add, fComp, compL, rg1_3, mInt, mAbs, mGcd, mMax2, mMin2, mMax3, mMin3, mIsqrt, isT, v_content, c, V3.prim, row_t, ix_r0, ix_r1, ix_r2, gFdiv_p (V3.cont_pos c) (log_lt hl (by omega))]

end
/-- n ints below 2 ^ 103 -/
def Nums (n : Nat) (l : List Int) : Prop := l.length = n ∧ ∀ x ∈ l, x.natAbs < 2 ^ 103
theorem Nums.cons {n : Nat} {l : List Int} (h : Nums (n + 1) l) : ∃ x r, l = x :: r ∧ Bd 103 x ∧ Nums n r := by
  cases l with
  | nil => cases h.1
  | cons x r => exact ⟨x, r, rfl, ⟨h.2 x List.mem_cons_self⟩, Nat.succ.inj h.1, fun y hy => h.2 y (List.mem_cons_of_mem _ hy)⟩
theorem Nums.nil {l : List Int} (h : Nums 0 l) : l = [] := List.length_eq_zero_iff.mp h.1
end W

set_option linter.all false
set_option maxRecDepth 100000
set_option maxHeartbeats 2000000
/-! binary forms: values, bases, reduced triples -/
namespace DL
structure V2 where
  x : Int
  y : Int
  deriving DecidableEq
theorem V2.ext' {u v : V2} (h1 : u.x = v.x) (h2 : u.y = v.y) : u = v := by
  cases u
  cases v
  cases h1
  cases h2
  rfl
/-- the product of two vectors under a triple -/
def V3.at2 (t : V3) (u v : V2) : Int := t.x * u.x * v.x + t.y * (u.x * v.y + u.y * v.x) + t.z * u.y * v.y
def V3.led (t : V3) (u v : V2) : V3 := ⟨t.at2 u u, t.at2 u v, t.at2 v v⟩
def V3.D (t : V3) : Int := t.x * t.z - t.y * t.y
def det2 (u v : V2) : Int := u.x * v.y - u.y * v.x
/-- definite -/
structure Dfn (t : V3) : Prop where
  x : 0 < t.x
  d : 0 < t.D
structure Redd (t : V3) : Prop where
  x : 0 < t.x
  y : 0 ≤ t.y
  h : 2 * t.y ≤ t.x
  z : t.x ≤ t.z
def unim (u v : V2) : Prop := det2 u v = 1 ∨ det2 u v = -1
theorem led_D (t : V3) (u v : V2) : (t.led u v).D = t.D * (det2 u v * det2 u v) := by
  unfold V3.led V3.D V3.at2 det2
  grind
theorem val_x (t : V3) (u : V2) : t.x * t.at2 u u = (t.x * u.x + t.y * u.y) * (t.x * u.x + t.y * u.y) + t.D * (u.y * u.y) := by
  unfold V3.D V3.at2
  grind
theorem val_z (t : V3) (u : V2) : t.z * t.at2 u u = (t.y * u.x + t.z * u.y) * (t.y * u.x + t.z * u.y) + t.D * (u.x * u.x) := by
  unfold V3.D V3.at2
  grind
theorem sq_nn (a : Int) : 0 ≤ a * a := by
  rcases Int.le_total 0 a with h | h
  · exact Int.mul_nonneg h h
  · exact Int.mul_nonneg_of_nonpos_of_nonpos h h
theorem sq_pos {a : Int} (h : a ≠ 0) : 0 < a * a := by
  rcases Int.lt_or_gt_of_ne h with h | h
  · exact Int.mul_pos_of_neg_of_neg h h
  · exact Int.mul_pos h h
theorem Dfn.z {t : V3} (h : Dfn t) : 0 < t.z := by
  have h1 := h.d
  unfold V3.D at h1
  have h2 := sq_nn t.y
  have h3 : 0 < t.x * t.z := by omega
  rcases Int.lt_or_le 0 t.z with c | c
  · exact c
  · have := Int.mul_nonneg (Int.le_of_lt h.x) (show 0 ≤ -t.z by omega)
    rw [Int.mul_neg] at this
    omega
theorem val_pos {t : V3} (h : Dfn t) {u : V2} (n : u.x ≠ 0 ∨ u.y ≠ 0) : 0 < t.at2 u u := by
  have h1 := val_x t u
  have p : 0 < t.x * t.at2 u u := by
    rw [h1]
    have s1 := sq_nn (t.x * u.x + t.y * u.y)
    by_cases c : u.y = 0
    · rw [c]
      have c2 : u.x ≠ 0 := by
        rcases n with n | n
        · exact n
        · exact absurd c n
      have s2 : t.x * u.x + t.y * 0 ≠ 0 := by
        rw [Int.mul_zero, Int.add_zero]
        exact Int.mul_ne_zero (by have := h.x; omega) c2
      have := sq_pos s2
      rw [Int.mul_zero, Int.mul_zero] at *
      omega
    · have := Int.mul_pos h.d (sq_pos c)
      omega
  rcases Int.lt_or_le 0 (t.at2 u u) with c | c
  · exact c
  · have := Int.mul_nonneg (Int.le_of_lt h.x) (show 0 ≤ -t.at2 u u by omega)
    rw [Int.mul_neg] at this
    omega
theorem unim_sq {u v : V2} (h : unim u v) : det2 u v * det2 u v = 1 := by
  rcases h with h | h <;> rw [h] <;> decide
theorem unim_x {u v : V2} (h : unim u v) : u.x ≠ 0 ∨ u.y ≠ 0 := by
  by_cases a : u.x = 0
  · by_cases b : u.y = 0
    · unfold unim det2 at h
      rw [a, b] at h
      simp at h
    · exact .inr b
  · exact .inl a
theorem unim_y {u v : V2} (h : unim u v) : v.x ≠ 0 ∨ v.y ≠ 0 := by
  by_cases a : v.x = 0
  · by_cases b : v.y = 0
    · unfold unim det2 at h
      rw [a, b] at h
      simp at h
    · exact .inr b
  · exact .inl a
theorem led_dfn {t : V3} (h : Dfn t) {u v : V2} (n : unim u v) : Dfn (t.led u v) := by
  refine ⟨val_pos h (unim_x n), ?_⟩
  rw [led_D, unim_sq n, Int.mul_one]
  exact h.d
/-- bounds: all of a definite triple and of a vector from the outer values -/
theorem sq_lt {a : Int} {n : Nat} (h : a * a < 2 ^ n * 2 ^ n) : a.natAbs < 2 ^ n := by
  rcases Nat.lt_or_ge a.natAbs (2 ^ n) with c | c
  · exact c
  · have h1 : 2 ^ n * 2 ^ n ≤ a.natAbs * a.natAbs := Nat.mul_le_mul c c
    have h2 : ((a.natAbs * a.natAbs : Nat) : Int) = a * a := Int.natAbs_mul_self
    have h3 : ((2 ^ n * 2 ^ n : Nat) : Int) = 2 ^ n * 2 ^ n := by push_cast; rfl
    omega
theorem mul_lt' {a b m : Int} (ha : 0 ≤ a) (hb : 0 ≤ b) (h1 : a < m) (h2 : b < m) : a * b < m * m := by
  have h3 : a * b ≤ a * m := Int.mul_le_mul_of_nonneg_left (Int.le_of_lt h2) ha
  have h4 : a * m < m * m := Int.mul_lt_mul_of_pos_right h1 (by omega)
  omega
theorem Dfn.y_lt {t : V3} (h : Dfn t) {n : Nat} (hx : t.x < 2 ^ n) (hz : t.z < 2 ^ n) : t.y.natAbs < 2 ^ n := by
  refine sq_lt ?_
  have h1 := h.d
  unfold V3.D at h1
  have h2 := mul_lt' (Int.le_of_lt h.x) (Int.le_of_lt h.z) hx hz
  omega
theorem Dfn.bv {t : V3} (h : Dfn t) {n : Nat} (hx : t.x < 2 ^ n) (hz : t.z < 2 ^ n) : BV n t := by
  have e : ((2 ^ n : Nat) : Int) = 2 ^ n := by push_cast; rfl
  refine ⟨?_, h.y_lt hx hz, ?_⟩
  · have := h.x
    omega
  · have := h.z
    omega
theorem vec_lt {t : V3} (h : Dfn t) {u : V2} {n : Nat} (hx : t.x < 2 ^ n) (hz : t.z < 2 ^ n) (hv : t.at2 u u < 2 ^ n) (h0 : 0 ≤ t.at2 u u) : u.x.natAbs < 2 ^ n ∧ u.y.natAbs < 2 ^ n := by
  have hd : 1 ≤ t.D := h.d
  constructor
  · refine sq_lt ?_
    have h1 := val_z t u
    have h2 := mul_lt' (Int.le_of_lt h.z) h0 hz hv
    have h3 := sq_nn (t.y * u.x + t.z * u.y)
    have h4 : u.x * u.x ≤ t.D * (u.x * u.x) := by
      have := Int.mul_le_mul_of_nonneg_right hd (sq_nn u.x)
      omega
    omega
  · refine sq_lt ?_
    have h1 := val_x t u
    have h2 := mul_lt' (Int.le_of_lt h.x) h0 hx hv
    have h3 := sq_nn (t.x * u.x + t.y * u.y)
    have h4 : u.y * u.y ≤ t.D * (u.y * u.y) := by
      have := Int.mul_le_mul_of_nonneg_right hd (sq_nn u.y)
      omega
    omega
/-- a vector by a basis -/
def V2.cmb (s t : Int) (u v : V2) : V2 := ⟨s * u.x + t * v.x, s * u.y + t * v.y⟩
theorem cmb_of {u v : V2} (h : unim u v) (w : V2) : w = V2.cmb (det2 u v * det2 w v) (det2 u v * det2 u w) u v := by
  have e := unim_sq h
  refine V2.ext' ?_ ?_
  · show w.x = det2 u v * det2 w v * u.x + det2 u v * det2 u w * v.x
    have : det2 u v * det2 w v * u.x + det2 u v * det2 u w * v.x = (det2 u v * det2 u v) * w.x := by unfold det2; grind
    rw [this, e, Int.one_mul]
  · show w.y = det2 u v * det2 w v * u.y + det2 u v * det2 u w * v.y
    have : det2 u v * det2 w v * u.y + det2 u v * det2 u w * v.y = (det2 u v * det2 u v) * w.y := by unfold det2; grind
    rw [this, e, Int.one_mul]
theorem at_cmb (T : V3) (s t s' t' : Int) (u v : V2) : T.at2 (V2.cmb s t u v) (V2.cmb s' t' u v) = (T.led u v).at2 ⟨s, t⟩ ⟨s', t'⟩ := by
  unfold V3.at2 V2.cmb V3.led V3.at2
  grind
/-- the least values of a reduced triple -/
theorem Redd.dfn {t : V3} (h : Redd t) : Dfn t := by
  refine ⟨h.x, ?_⟩
  unfold V3.D
  have h1 : t.x * t.x ≤ t.x * t.z := Int.mul_le_mul_of_nonneg_left h.z (Int.le_of_lt h.x)
  have h2 : t.y * t.y ≤ t.y * t.x := Int.mul_le_mul_of_nonneg_left (by have := h.h; have := h.y; omega) h.y
  have h3 : 2 * t.y * t.x ≤ t.x * t.x := Int.mul_le_mul_of_nonneg_right h.h (Int.le_of_lt h.x)
  have h4 := sq_pos (a := t.x) (by have := h.x; omega)
  have h5 : 2 * t.y * t.x = 2 * (t.y * t.x) := by grind
  omega
theorem key_st (S T : Int) (hS : 0 ≤ S) (hT : 1 ≤ T) : 1 ≤ S * S - S * T + T * T := by
  have h : 4 * (S * S - S * T + T * T) = (2 * S - T) * (2 * S - T) + 3 * (T * T) := by grind
  have h1 := sq_nn (2 * S - T)
  have h2 := sq_pos (a := T) (by omega)
  omega
theorem abs_mul_self' (a : Int) : ((a.natAbs : Int)) * a.natAbs = a * a := by
  rcases Int.natAbs_eq a with h | h
  · rw [← h]
  · have e : (a.natAbs : Int) = -a := by omega
    rw [e]
    grind
theorem Redd.least {t : V3} (h : Redd t) (i j : Int) (hj : j ≠ 0) : t.z ≤ t.at2 ⟨i, j⟩ ⟨i, j⟩ := by
  have hx := h.x
  have hy := h.y
  have hh := h.h
  have hz := h.z
  have hv : t.at2 ⟨i, j⟩ ⟨i, j⟩ = t.x * (i * i) + 2 * t.y * (i * j) + t.z * (j * j) := by
    unfold V3.at2
    grind
  rw [hv]
  have a1 := abs_mul_self' i
  have a2 := abs_mul_self' j
  have a3 : -((i.natAbs : Int) * j.natAbs) ≤ i * j := by
    have := Int.natAbs_mul i j
    have : ((i * j).natAbs : Int) = (i.natAbs : Int) * j.natAbs := by rw [this]; push_cast; rfl
    omega
  have a4 : 0 ≤ (i.natAbs : Int) * j.natAbs := Int.mul_nonneg (by omega) (by omega)
  have k := key_st i.natAbs j.natAbs (by omega) (by omega)
  generalize (i.natAbs : Int) * j.natAbs = P at a3 a4 k
  rw [a1, a2] at k
  have b1 : 2 * t.y * (i * j) ≥ -(t.x * P) := by
    have c1 : 2 * t.y * -P ≤ 2 * t.y * (i * j) := Int.mul_le_mul_of_nonneg_left a3 (by omega)
    have c2 : 2 * t.y * P ≤ t.x * P := Int.mul_le_mul_of_nonneg_right hh a4
    rw [Int.mul_neg] at c1
    omega
  have b2 : t.x * (j * j - 1) ≤ t.z * (j * j - 1) := Int.mul_le_mul_of_nonneg_right hz (by have := sq_pos hj; omega)
  have b3 : t.x * 1 ≤ t.x * (i * i - P + j * j) := Int.mul_le_mul_of_nonneg_left k (by omega)
  have e1 : t.x * (j * j - 1) = t.x * (j * j) - t.x := by grind
  have e2 : t.z * (j * j - 1) = t.z * (j * j) - t.z := by grind
  have e3 : t.x * (i * i - P + j * j) = t.x * (i * i) - t.x * P + t.x * (j * j) := by grind
  omega
theorem Redd.least1 {t : V3} (h : Redd t) (i j : Int) (n : i ≠ 0 ∨ j ≠ 0) : t.x ≤ t.at2 ⟨i, j⟩ ⟨i, j⟩ := by
  by_cases c : j = 0
  · subst c
    have hi : i ≠ 0 := by
      rcases n with n | n
      · exact n
      · exact absurd rfl n
    have hv : t.at2 ⟨i, 0⟩ ⟨i, 0⟩ = t.x * (i * i) := by
      unfold V3.at2
      grind
    rw [hv]
    have h1 : 1 ≤ i * i := sq_pos hi
    have h2 : t.x * 1 ≤ t.x * (i * i) := Int.mul_le_mul_of_nonneg_left h1 (Int.le_of_lt h.x)
    omega
  · have := h.least i j c
    have := h.z
    omega
/-- led by u, v: what is told of a triple T -/
structure Told (T t : V3) (u v : V2) : Prop where
  r : Redd t
  n : unim u v
  e : t = T.led u v
theorem Told.val {T t : V3} {u v : V2} (h : Told T t u v) (w : V2) : T.at2 w w = t.at2 ⟨det2 u v * det2 w v, det2 u v * det2 u w⟩ ⟨det2 u v * det2 w v, det2 u v * det2 u w⟩ := by
  have e := cmb_of h.n w
  have e2 := at_cmb T (det2 u v * det2 w v) (det2 u v * det2 u w) (det2 u v * det2 w v) (det2 u v * det2 u w) u v
  rw [← e, ← h.e] at e2
  exact e2
theorem unim_ne {u v : V2} (h : unim u v) : det2 u v ≠ 0 := by
  rcases h with h | h <;> rw [h] <;> decide
theorem Told.ge_z {T t : V3} {u v : V2} (h : Told T t u v) {w : V2} (n : det2 u w ≠ 0) : t.z ≤ T.at2 w w := by
  rw [h.val w]
  exact h.r.least _ _ (Int.mul_ne_zero (unim_ne h.n) n)
theorem Told.ge_x {T t : V3} {u v : V2} (h : Told T t u v) {w : V2} (n : w.x ≠ 0 ∨ w.y ≠ 0) : t.x ≤ T.at2 w w := by
  rw [h.val w]
  refine h.r.least1 _ _ ?_
  by_cases c : det2 u v * det2 u w = 0
  · by_cases c2 : det2 u v * det2 w v = 0
    · exfalso
      have e := cmb_of h.n w
      rw [c, c2] at e
      unfold V2.cmb at e
      simp only [Int.zero_mul, Int.add_zero] at e
      rw [e] at n
      simp at n
    · exact .inl c2
  · exact .inr c
/-- two reduced triples of one -/
theorem told_le {T t t' : V3} {u v u' v' : V2} (h : Told T t u v) (h' : Told T t' u' v') : t.x ≤ t'.x ∧ t.z ≤ t'.z := by
  have e1 : t'.x = T.at2 u' u' := by rw [h'.e]; rfl
  have e2 : t'.z = T.at2 v' v' := by rw [h'.e]; rfl
  refine ⟨by rw [e1]; exact h.ge_x (unim_x h'.n), ?_⟩
  by_cases c : det2 u v' = 0
  · by_cases c2 : det2 u u' = 0
    · exfalso
      have hu := unim_x h.n
      have hn := h'.n
      have hd := unim_ne hn
      have k1 : u.x * det2 u' v' = u'.x * det2 u v' - v'.x * det2 u u' := by unfold det2; grind
      have k2 : u.y * det2 u' v' = u'.y * det2 u v' - v'.y * det2 u u' := by unfold det2; grind
      rw [c, c2, Int.mul_zero, Int.mul_zero, Int.sub_zero] at k1 k2
      rcases hu with hu | hu
      · exact Int.mul_ne_zero hu hd k1
      · exact Int.mul_ne_zero hu hd k2
    · have := h.ge_z c2
      rw [← e1] at this
      have := h'.r.z
      omega
  · rw [e2]
    exact h.ge_z c
theorem told_eq {T t t' : V3} {u v u' v' : V2} (h : Told T t u v) (h' : Told T t' u' v') : t = t' := by
  obtain ⟨a1, a2⟩ := told_le h h'
  obtain ⟨b1, b2⟩ := told_le h' h
  have hx : t.x = t'.x := by omega
  have hz : t.z = t'.z := by omega
  have d1 : t.D = T.D := by rw [h.e, led_D, unim_sq h.n, Int.mul_one]
  have d2 : t'.D = T.D := by rw [h'.e, led_D, unim_sq h'.n, Int.mul_one]
  have d3 : t.y * t.y = t'.y * t'.y := by
    unfold V3.D at d1 d2
    rw [← hx, ← hz] at d2
    omega
  refine V3.ext' hx ?_ hz
  have y1 := h.r.y
  have y2 := h'.r.y
  rcases Int.lt_trichotomy t.y t'.y with c | c | c
  · have : t.y * t.y < t'.y * t'.y := by
      have p1 : t.y * t.y ≤ t.y * t'.y := Int.mul_le_mul_of_nonneg_left (Int.le_of_lt c) y1
      have p2 : t.y * t'.y < t'.y * t'.y := Int.mul_lt_mul_of_pos_right c (by omega)
      omega
    omega
  · exact c
  · have : t'.y * t'.y < t.y * t.y := by
      have p1 : t'.y * t'.y ≤ t'.y * t.y := Int.mul_le_mul_of_nonneg_left (Int.le_of_lt c) y2
      have p2 : t'.y * t.y < t.y * t.y := Int.mul_lt_mul_of_pos_right c (by omega)
      omega
    omega
/-- led twice -/
theorem led_led (T : V3) (u v : V2) (p q : V2) : (T.led u v).led p q = T.led (V2.cmb p.x p.y u v) (V2.cmb q.x q.y u v) := by
  unfold V3.led
  rw [at_cmb, at_cmb, at_cmb]
  rfl
theorem det_cmb (u v p q : V2) : det2 (V2.cmb p.x p.y u v) (V2.cmb q.x q.y u v) = det2 p q * det2 u v := by
  unfold det2 V2.cmb
  grind
theorem unim_cmb {u v p q : V2} (h : unim u v) (h' : unim p q) : unim (V2.cmb p.x p.y u v) (V2.cmb q.x q.y u v) := by
  unfold unim
  rw [det_cmb]
  rcases h with h | h <;> rcases h' with h' | h' <;> rw [h, h'] <;> decide
theorem told_led {T t : V3} {u v p q : V2} (hu : unim u v) (h : Told (T.led u v) t p q) : Told T t (V2.cmb p.x p.y u v) (V2.cmb q.x q.y u v) :=
  ⟨h.r, unim_cmb hu h.n, by rw [h.e, led_led]⟩
theorem told_self {t : V3} (h : Redd t) : Told t t ⟨1, 0⟩ ⟨0, 1⟩ := by
  refine ⟨h, .inl (by decide), ?_⟩
  unfold V3.led V3.at2
  refine V3.ext' ?_ ?_ ?_ <;> simp
/-- the numbers of the pair are not great -/
theorem Told.small {T t : V3} {u v : V2} (hT : Dfn T) (h : Told T t u v) {n : Nat} (hx : T.x < 2 ^ (2 * n)) (hz : T.z < 2 ^ (2 * n)) (w : V2) (hw : T.at2 w w ≤ t.z) (h0 : 0 ≤ T.at2 w w) : w.x.natAbs < 2 ^ (n + 1) ∧ w.y.natAbs < 2 ^ (n + 1) := by
  have d1 : t.D = T.D := by rw [h.e, led_D, unim_sq h.n, Int.mul_one]
  have hr := h.r
  have h1 : 3 * t.z ≤ 4 * t.D := by
    unfold V3.D
    have p1 : 2 * t.y * t.y ≤ t.x * t.y := Int.mul_le_mul_of_nonneg_right hr.h hr.y
    have p2 : t.x * (2 * t.y) ≤ t.x * t.x := Int.mul_le_mul_of_nonneg_left hr.h (Int.le_of_lt hr.x)
    have p3 : t.x * t.x ≤ t.x * t.z := Int.mul_le_mul_of_nonneg_left hr.z (Int.le_of_lt hr.x)
    have p4 : 1 * t.z ≤ t.x * t.z := Int.mul_le_mul_of_nonneg_right (show 1 ≤ t.x from hr.x) (by have := hr.x; have := hr.z; omega)
    have e1 : 2 * t.y * t.y = 2 * (t.y * t.y) := by grind
    have e2 : t.x * (2 * t.y) = 2 * (t.x * t.y) := by grind
    omega
  rw [d1] at h1
  have hD := hT.d
  have e4 : ((2 : Int) ^ (n + 1)) * 2 ^ (n + 1) = 4 * 2 ^ (2 * n) := by
    have : (2 : Int) ^ (2 * n) = 2 ^ n * 2 ^ n := by rw [← Int.pow_add]; congr 1; omega
    rw [this, Int.pow_succ]
    grind
  have fin : ∀ (c s : Int), 0 < c → c < 2 ^ (2 * n) → T.D * (s * s) ≤ c * T.at2 w w → s.natAbs < 2 ^ (n + 1) := by
    intro c s c0 c1 c2
    refine sq_lt ?_
    rw [e4]
    have q1 : c * T.at2 w w ≤ c * t.z := Int.mul_le_mul_of_nonneg_left hw (Int.le_of_lt c0)
    have q2 : c * (3 * t.z) ≤ c * (4 * T.D) := Int.mul_le_mul_of_nonneg_left h1 (Int.le_of_lt c0)
    have q3 : T.D * (3 * (s * s)) ≤ T.D * (4 * c) := by
      have r1 : T.D * (3 * (s * s)) = 3 * (T.D * (s * s)) := by grind
      have r2 : T.D * (4 * c) = c * (4 * T.D) := by grind
      have r3 : c * (3 * t.z) = 3 * (c * t.z) := by grind
      omega
    have q4 : 3 * (s * s) ≤ 4 * c := Int.le_of_mul_le_mul_left q3 hD
    have := sq_nn s
    omega
  constructor
  · refine fin T.z w.x hT.z hz ?_
    have := val_z T w
    have := sq_nn (T.y * w.x + T.z * w.y)
    omega
  · refine fin T.x w.y hT.x hx ?_
    have := val_x T w
    have := sq_nn (T.x * w.x + T.y * w.y)
    omega
theorem Redd.z_le {t : V3} (hr : Redd t) : 3 * t.z ≤ 4 * t.D := by
  unfold V3.D
  have p1 : 2 * t.y * t.y ≤ t.x * t.y := Int.mul_le_mul_of_nonneg_right hr.h hr.y
  have p2 : t.x * (2 * t.y) ≤ t.x * t.x := Int.mul_le_mul_of_nonneg_left hr.h (Int.le_of_lt hr.x)
  have p3 : t.x * t.x ≤ t.x * t.z := Int.mul_le_mul_of_nonneg_left hr.z (Int.le_of_lt hr.x)
  have p4 : 1 * t.z ≤ t.x * t.z := Int.mul_le_mul_of_nonneg_right (show 1 ≤ t.x from hr.x) (by have := hr.x; have := hr.z; omega)
  have e1 : 2 * t.y * t.y = 2 * (t.y * t.y) := by grind
  have e2 : t.x * (2 * t.y) = 2 * (t.x * t.y) := by grind
  omega
theorem pw (n : Nat) : ((2 ^ n : Nat) : Int) = 2 ^ n := by push_cast; rfl
theorem Told.bv {T t : V3} {u v : V2} (hT : Dfn T) (h : Told T t u v) {n : Nat} (hx : T.x < 2 ^ n) (hz : T.z < 2 ^ n) : BV (n + n + 1) t := by
  have d1 : t.D = T.D := by rw [h.e, led_D, unim_sq h.n, Int.mul_one]
  have h1 := h.r.z_le
  have h2 := mul_lt' (Int.le_of_lt hT.x) (Int.le_of_lt hT.z) hx hz
  have h3 : T.D ≤ T.x * T.z := by
    have := sq_nn T.y
    unfold V3.D
    omega
  rw [d1] at h1
  have e : (2 : Int) ^ (n + n + 1) = 2 ^ n * 2 ^ n * 2 := by rw [Int.pow_succ, Int.pow_add]
  have h5 := Int.mul_pos hT.x hT.z
  have h4 : t.z < 2 ^ (n + n + 1) := by rw [e]; omega
  have e2 := pw (n + n + 1)
  have hr := h.r
  have := hr.x
  have := hr.y
  have := hr.h
  have := hr.z
  exact ⟨by omega, by omega, by omega⟩
end DL

set_option linter.all false
set_option maxRecDepth 100000
set_option maxHeartbeats 4000000
/-! pairs as data; loops -/
namespace DL
open PySem
def r2 (k : Bool) (v : V2) : PyData := sq k [.int v.x, .int v.y]
section
variable {k j : Bool} {u v w z : V2} {a b : Int} {t s : V3}
theorem row2_t : PyData.tuple [.int a, .int b] = r2 true ⟨a, b⟩ := rfl
theorem row2_l : PyData.list [.int a, .int b] = r2 false ⟨a, b⟩ := rfl
theorem ix_p0 : gIx (r2 k v) (.int 0) = some (.int v.x) := by cases k <;> rfl
theorem ix_p1 : gIx (r2 k v) (.int 1) = some (.int v.y) := by cases k <;> rfl
theorem len_p : mLen [r2 k v] = some (.int 2) := by cases k <;> rfl
theorem tup_p : mTuple [r2 k v] = some (r2 true v) := by cases k <;> rfl
theorem seq_p : seqOf (r2 k v) = some [.int v.x, .int v.y] := by cases k <;> rfl
theorem isTup_p : isT .tuple (r2 k v) = some k := by cases k <;> rfl
theorem un2 {h : List PyData → Rho → Option Rho} {ρ : Rho} {x y : PyData} : gTp 2 h (.tuple [x, y]) ρ = h [x, y] ρ := rfl
theorem eqv_p : PyData.eqv (r2 true u) (r2 true v) = decide (u = v) := by
  show (u.x == v.x && (u.y == v.y && true)) = _
  rw [Bool.eq_iff_iff]
  simp only [Bool.and_eq_true, beq_iff_eq, decide_eq_true_eq, and_true]
  exact ⟨fun ⟨h1, h2⟩ => V2.ext' h1 h2, fun h => by subst h; exact ⟨rfl, rfl⟩⟩
theorem eq_p : gEq (r2 true u) (r2 true v) = some (.bool (decide (u = v))) := by
  show some (PyData.bool (PyData.eqv (r2 true u) (r2 true v))) = _
  rw [eqv_p]
theorem ix_l0 {x y : PyData} : gIx (sq k [x, y]) (.int 0) = some x := by cases k <;> rfl
theorem ix_l1 {x y : PyData} : gIx (sq k [x, y]) (.int 1) = some y := by cases k <;> rfl
end
class BW (n : outParam Nat) (v : V2) : Prop where
  x : v.x.natAbs < 2 ^ n
  y : v.y.natAbs < 2 ^ n
section
variable {n m : Nat} {v : V2}
instance bwx [h : BW n v] : Bd n v.x := ⟨h.x⟩
instance bwy [h : BW n v] : Bd n v.y := ⟨h.y⟩
theorem BW.mono (h : BW n v) (l : n ≤ m) : BW m v := ⟨Bd.mono h.x l, Bd.mono h.y l⟩
end
theorem whileF_nx {c : EB} {f : ES} {n : Nat} {ρ ρ' : Rho} (h1 : c ρ = some true) (h2 : f ρ = some (.nx ρ')) : whileF c f (n + 1) ρ = whileF c f n ρ' := by
  rw [whileF, h1, Option.bind_some, if_pos rfl, h2]
  rfl
theorem whileF_end {c : EB} {f : ES} {n : Nat} {ρ : Rho} (h1 : c ρ = some false) : whileF c f (n + 1) ρ = some (.nx ρ) := by
  rw [whileF, h1]
  rfl
/-- a loop whose body goes on each time -/
theorem forL_nx {g : EG} {f : ES} (P : Rho → Prop) : ∀ (ds : List PyData) (ρ : Rho), P ρ → (∀ d ∈ ds, ∀ ρ, P ρ → ∃ ρ1 ρ2, g d ρ = some ρ1 ∧ f ρ1 = some (.nx ρ2) ∧ P ρ2) → ∃ ρ', P ρ' ∧ forL g f ds ρ = some (.nx ρ')
  | [], ρ, h, _ => ⟨ρ, h, rfl⟩
  | d :: ds, ρ, h, hb => by
    obtain ⟨ρ1, ρ2, e1, e2, p⟩ := hb d List.mem_cons_self ρ h
    obtain ⟨ρ', q1, q2⟩ := forL_nx P ds ρ2 p fun d hd => hb d (List.mem_cons_of_mem _ hd)
    refine ⟨ρ', q1, ?_⟩
    rw [forL, e1]
    show (f ρ1).bind _ = _
    rw [e2]
    exact q2
theorem mem_rng {lo : Int} {n : Nat} {d : PyData} (h : d ∈ rng lo n) : ∃ i : Int, d = .int i ∧ lo ≤ i ∧ i < lo + n := by
  unfold rng at h
  obtain ⟨i, h1, rfl⟩ := List.mem_map.mp h
  have := List.mem_range.mp h1
  exact ⟨_, rfl, by omega, by omega⟩
theorem gFdiv_n {i j : Int} (h : j ≠ 0) (h2 : j.natAbs.log2 < 9000) : gFdiv (.int i) (.int j) = some (.int (i.fdiv j)) := if_pos ⟨h, h2⟩
theorem gMod_n {i j : Int} (h : j ≠ 0) : gMod (.int i) (.int j) = some (.int (i.fmod j)) := if_pos h
end DL

set_option linter.all false
set_option maxRecDepth 100000
set_option maxHeartbeats 4000000
set_option exponentiation.threshold 20000
/-! lowest terms -/
namespace DL
open PySem
structure Lowest (a b x y : Int) : Prop where
  e : x * b = a * y
  pos : 1 ≤ y
  g : Int.gcd x y = 1
  bx : x.natAbs ≤ a.natAbs
  by' : y.natAbs ≤ b.natAbs
theorem lowest_ex (a b : Int) (hb : b ≠ 0) : ∃ x y, Lowest a b x y ∧ ∀ G : Int, G = (Int.gcd a b : Nat) → (0 < b → a.fdiv G = x ∧ b.fdiv G = y) ∧ (b < 0 → a.fdiv (-G) = x ∧ b.fdiv (-G) = y) := by
  have hG : 0 < Int.gcd a b := Nat.pos_of_ne_zero fun z => hb (Int.gcd_eq_zero_iff.mp z).2
  obtain ⟨a', ha⟩ := Int.gcd_dvd_left (a := a) (b := b)
  obtain ⟨b', hb'⟩ := Int.gcd_dvd_right (a := a) (b := b)
  generalize hgg : Int.gcd a b = g at *
  have g1 : Int.gcd a' b' = 1 := by
    have h1 : Int.gcd a b = g := hgg
    rw [ha, hb', Int.gcd_mul_left] at h1
    rw [Int.natAbs_natCast] at h1
    have h2 : g * Int.gcd a' b' = g * 1 := by omega
    exact Nat.eq_of_mul_eq_mul_left hG h2
  have n1 : a'.natAbs ≤ a.natAbs := by
    rw [ha, Int.natAbs_mul, Int.natAbs_natCast]
    exact Nat.le_mul_of_pos_left _ hG
  have n2 : b'.natAbs ≤ b.natAbs := by
    rw [hb', Int.natAbs_mul, Int.natAbs_natCast]
    exact Nat.le_mul_of_pos_left _ hG
  have f1 : ∀ z : Int, ((g : Int) * z).fdiv g = z := fun z => Int.mul_fdiv_cancel_left z (by omega)
  have f2 : ∀ z : Int, ((g : Int) * z).fdiv (-(g : Int)) = -z := fun z => by
    have e : (g : Int) * z = -(g : Int) * -z := by grind
    rw [e]
    exact Int.mul_fdiv_cancel_left _ (by omega)
  by_cases hp : 0 < b
  · have hb0 : 0 < b' := by
      rcases Int.lt_or_le 0 b' with z | z
      · exact z
      · have := Int.mul_nonneg (show (0 : Int) ≤ g by omega) (show 0 ≤ -b' by omega)
        rw [Int.mul_neg] at this
        omega
    refine ⟨a', b', ⟨?_, hb0, g1, n1, n2⟩, fun G e => ⟨fun _ => ?_, fun z => by omega⟩⟩
    · rw [ha, hb']
      grind
    · subst e
      rw [ha, hb']
      exact ⟨f1 a', f1 b'⟩
  · have hb0 : b' < 0 := by
      rcases Int.lt_or_le b' 0 with z | z
      · exact z
      · have := Int.mul_nonneg (show (0 : Int) ≤ g by omega) z
        omega
    refine ⟨-a', -b', ⟨?_, by omega, ?_, by rw [Int.natAbs_neg]; exact n1, by rw [Int.natAbs_neg]; exact n2⟩, fun G e => ⟨fun z => by omega, fun _ => ?_⟩⟩
    · rw [ha, hb']
      grind
    · rw [Int.gcd_neg, Int.neg_gcd]
      exact g1
    · subst e
      rw [ha, hb']
      exact ⟨f2 a', f2 b'⟩
theorem gcdLog {n : Nat} {a b : Int} (hb : b ≠ 0) (h : b.natAbs < 2 ^ n) (hn : n < 8000) : ((Int.gcd a b : Nat) : Int).natAbs.log2 < 9000 := by
  rw [Int.natAbs_natCast]
  have h1 : Int.gcd a b ≤ b.natAbs := Nat.gcd_le_right _ (by omega)
  have h2 : Int.gcd a b < 2 ^ (n + 1) := Nat.lt_of_le_of_lt h1 (Nat.lt_of_lt_of_le h (Nat.pow_le_pow_right (by decide) (by omega)))
  exact Nat.lt_of_lt_of_le (PySem.Flt.log2_lt_of (by omega) h2) (by omega)
end DL

set_option linter.all false
set_option maxRecDepth 100000
set_option maxHeartbeats 4000000
/-! the signature of a sum of squares, by the signs of the numbers of the polynomial -/
namespace DL
theorem claim_s {a b W x y z c1 c2 c3 : Int} (hW : 0 < W) (hX1 : 0 < a * W - x * x) (hX2 : 0 ≤ b * W - y * y) (hG : 0 < a * b * W + 2 * x * y * z - a * y * y - b * x * x - W * z * z) (h1 : 0 < c1) (h2 : 0 < c2)
    (hR : 0 ≤ W * (c1 * c1 * (x * x) * a + c2 * c2 * (y * y) * b + 2 * (c1 * c2) * (x * y * z)) - (c1 * (x * x) + c2 * (y * y)) * (c1 * (x * x) + c2 * (y * y)))
    (ht : c1 * a + c2 * b + c3 * W ≤ 0) : c1 * c2 * (a * b - z * z) + c1 * c3 * (a * W - x * x) + c2 * c3 * (b * W - y * y) < 0 := by
  have id1 : W * W * (c1 * c2 * (a * b - z * z) + c1 * c3 * (a * W - x * x) + c2 * c3 * (b * W - y * y)) = W * (c1 * c2 * (a * b * W + 2 * x * y * z - a * y * y - b * x * x - W * z * z)) + (c1 * (a * W - x * x) + c2 * (b * W - y * y)) * (c1 * (x * x) + c2 * (y * y) + c3 * (W * W)) - (W * (c1 * c1 * (x * x) * a + c2 * c2 * (y * y) * b + 2 * (c1 * c2) * (x * y * z)) - (c1 * (x * x) + c2 * (y * y)) * (c1 * (x * x) + c2 * (y * y))) := by grind
  have id2 : W * (c1 * a + c2 * b + c3 * W) = (c1 * (a * W - x * x) + c2 * (b * W - y * y)) + (c1 * (x * x) + c2 * (y * y) + c3 * (W * W)) := by grind
  have id3 : (a * W - x * x) * (b * W - y * y) - W * (a * b * W + 2 * x * y * z - a * y * y - b * x * x - W * z * z) = (x * y - W * z) * (x * y - W * z) := by grind
  generalize hG' : a * b * W + 2 * x * y * z - a * y * y - b * x * x - W * z * z = G at *
  generalize hX1' : a * W - x * x = X1 at *
  generalize hX2' : b * W - y * y = X2 at *
  generalize hA : c1 * (x * x) + c2 * (y * y) + c3 * (W * W) = A at *
  generalize W * (c1 * c1 * (x * x) * a + c2 * c2 * (y * y) * b + 2 * (c1 * c2) * (x * y * z)) - (c1 * (x * x) + c2 * (y * y)) * (c1 * (x * x) + c2 * (y * y)) = R at *
  generalize c1 * c2 * (a * b - z * z) + c1 * c3 * X1 + c2 * c3 * X2 = m at *
  have htp : 0 < c1 * X1 + c2 * X2 := by
    have := Int.mul_pos h1 hX1
    have := Int.mul_nonneg (Int.le_of_lt h2) hX2
    omega
  have q1 := sq_nn (c1 * X1 - c2 * X2)
  have q2 := sq_nn (x * y - W * z)
  have e1 : (c1 * X1 - c2 * X2) * (c1 * X1 - c2 * X2) = (c1 * X1 + c2 * X2) * (c1 * X1 + c2 * X2) - 4 * (c1 * c2 * (X1 * X2)) := by grind
  have hc : 0 < c1 * c2 := Int.mul_pos h1 h2
  have hWG : W * G ≤ X1 * X2 := by omega
  have h3 : c1 * c2 * (W * G) ≤ c1 * c2 * (X1 * X2) := Int.mul_le_mul_of_nonneg_left hWG (Int.le_of_lt hc)
  have h4 : W * (c1 * c2 * G) = c1 * c2 * (W * G) := by grind
  have h5 : 0 < c1 * c2 * (W * G) := Int.mul_pos hc (Int.mul_pos hW hG)
  have h6 : W * (c1 * a + c2 * b + c3 * W) ≤ 0 := by
    have := Int.mul_nonneg (Int.le_of_lt hW) (show 0 ≤ -(c1 * a + c2 * b + c3 * W) by omega)
    rw [Int.mul_neg] at this
    omega
  have h7 : A ≤ -(c1 * X1 + c2 * X2) := by omega
  have h8 : (c1 * X1 + c2 * X2) * A ≤ (c1 * X1 + c2 * X2) * -(c1 * X1 + c2 * X2) := Int.mul_le_mul_of_nonneg_left h7 (Int.le_of_lt htp)
  rw [Int.mul_neg] at h8
  have h9 : W * W * m < 0 := by
    rw [id1, h4]
    omega
  rcases Int.lt_or_le m 0 with c | c
  · exact c
  · have := Int.mul_nonneg (Int.mul_nonneg (Int.le_of_lt hW) (Int.le_of_lt hW)) c
    omega
namespace V3
def nn (u : V3) : Int := u.dot u
theorem nn_nn (u : V3) : 0 ≤ u.nn := by
  have := sq_nn u.x
  have := sq_nn u.y
  have := sq_nn u.z
  show 0 ≤ u.x * u.x + u.y * u.y + u.z * u.z
  omega
theorem nn_pos {u : V3} (h : u ≠ ⟨0, 0, 0⟩) : 0 < u.nn := by
  have h1 := sq_nn u.x
  have h2 := sq_nn u.y
  have h3 := sq_nn u.z
  show 0 < u.x * u.x + u.y * u.y + u.z * u.z
  by_cases a : u.x = 0
  · by_cases b : u.y = 0
    · by_cases c : u.z = 0
      · exact absurd (V3.ext' a b c) h
      · have := sq_pos c
        omega
    · have := sq_pos b
      omega
  · have := sq_pos a
    omega
theorem lagr (u v : V3) : (u.cross v).nn = u.nn * v.nn - u.dot v * u.dot v := by
  unfold nn cross dot
  grind
theorem gram3 (u v w : V3) : u.dot (v.cross w) * u.dot (v.cross w) = u.nn * v.nn * w.nn + 2 * u.dot w * v.dot w * u.dot v - u.nn * v.dot w * v.dot w - v.nn * u.dot w * u.dot w - w.nn * u.dot v * u.dot v := by
  unfold nn cross dot
  grind
end V3
/-- c1 l1 l1 + c2 l2 l2 + c3 l3 l3 -/
def sum3 (c1 : Int) (l1 : V3) (c2 : Int) (l2 : V3) (c3 : Int) (l3 : V3) : F6 :=
  ⟨c1 * (l1.x * l1.x) + c2 * (l2.x * l2.x) + c3 * (l3.x * l3.x), c1 * (l1.y * l1.y) + c2 * (l2.y * l2.y) + c3 * (l3.y * l3.y), c1 * (l1.z * l1.z) + c2 * (l2.z * l2.z) + c3 * (l3.z * l3.z),
   c1 * (l1.y * l1.z) + c2 * (l2.y * l2.z) + c3 * (l3.y * l3.z), c1 * (l1.x * l1.z) + c2 * (l2.x * l2.z) + c3 * (l3.x * l3.z), c1 * (l1.x * l1.y) + c2 * (l2.x * l2.y) + c3 * (l3.x * l3.y)⟩
namespace F6
def tr (f : F6) : Int := f.a + f.b + f.c
def mi (f : F6) : Int := f.b * f.c - f.p * f.p + f.a * f.c - f.q * f.q + f.a * f.b - f.r * f.r
def dt (f : F6) : Int := f.a * f.b * f.c + 2 * f.p * f.q * f.r - f.a * f.p * f.p - f.b * f.q * f.q - f.c * f.r * f.r
end F6
section
variable (c1 c2 c3 : Int) (l1 l2 l3 : V3)
theorem sum_tr : (sum3 c1 l1 c2 l2 c3 l3).tr = c1 * l1.nn + c2 * l2.nn + c3 * l3.nn := by
  unfold sum3 F6.tr V3.nn V3.dot
  grind
theorem sum_mi : (sum3 c1 l1 c2 l2 c3 l3).mi = c1 * c2 * (l1.cross l2).nn + c1 * c3 * (l1.cross l3).nn + c2 * c3 * (l2.cross l3).nn := by
  unfold sum3 F6.mi V3.nn V3.cross V3.dot
  grind
theorem sum_dt : (sum3 c1 l1 c2 l2 c3 l3).dt = c1 * c2 * c3 * (l1.dot (l2.cross l3) * l1.dot (l2.cross l3)) := by
  unfold sum3 F6.dt V3.cross V3.dot
  grind
end
theorem claimC {c1 c2 c3 : Int} {l1 l2 l3 : V3} (h1 : 0 < c1) (h2 : 0 < c2) (hD : l1.dot (l2.cross l3) ≠ 0) (ht : (sum3 c1 l1 c2 l2 c3 l3).tr ≤ 0) : (sum3 c1 l1 c2 l2 c3 l3).mi < 0 := by
  rw [sum_tr] at ht
  rw [sum_mi, V3.lagr, V3.lagr, V3.lagr]
  have hG := V3.gram3 l1 l2 l3
  have hG0 := sq_pos hD
  have n13 : l1.cross l3 ≠ ⟨0, 0, 0⟩ := fun z => by
    refine hD ?_
    have e : l1.dot (l2.cross l3) = -(l2.dot (l1.cross l3)) := by
      unfold V3.dot V3.cross
      grind
    rw [e, z]
    unfold V3.dot
    simp
  have n3 : l3 ≠ ⟨0, 0, 0⟩ := fun z => by
    refine hD ?_
    rw [z]
    unfold V3.dot V3.cross
    simp
  have hX1 := V3.nn_pos n13
  rw [V3.lagr] at hX1
  have hX2 := V3.nn_nn (l2.cross l3)
  rw [V3.lagr] at hX2
  have hW := V3.nn_pos n3
  have hR := V3.nn_nn (l3.cross ((l1.smul (c1 * l1.dot l3)).add (l2.smul (c2 * l2.dot l3))))
  rw [V3.lagr] at hR
  refine claim_s (x := l1.dot l3) (y := l2.dot l3) (z := l1.dot l2) hW hX1 hX2 (by rw [← hG]; exact hG0) h1 h2 ?_ ht
  have e1 : ((l1.smul (c1 * l1.dot l3)).add (l2.smul (c2 * l2.dot l3))).nn = c1 * c1 * (l1.dot l3 * l1.dot l3) * l1.nn + c2 * c2 * (l2.dot l3 * l2.dot l3) * l2.nn + 2 * (c1 * c2) * (l1.dot l3 * l2.dot l3 * l1.dot l2) := by
    generalize l1.dot l3 = x
    generalize l2.dot l3 = y
    unfold V3.nn V3.add V3.smul V3.dot
    grind
  have e2 : l3.dot ((l1.smul (c1 * l1.dot l3)).add (l2.smul (c2 * l2.dot l3))) = c1 * (l1.dot l3 * l1.dot l3) + c2 * (l2.dot l3 * l2.dot l3) := by
    have : l3.dot ((l1.smul (c1 * l1.dot l3)).add (l2.smul (c2 * l2.dot l3))) = c1 * l1.dot l3 * l1.dot l3 + c2 * l2.dot l3 * l2.dot l3 := by
      have g1 : ∀ s t : Int, l3.dot ((l1.smul s).add (l2.smul t)) = s * l1.dot l3 + t * l2.dot l3 := by
        intro s t
        unfold V3.add V3.smul V3.dot
        grind
      exact g1 _ _
    rw [this]
    grind
  rw [e1, e2] at hR
  exact hR
end DL

set_option linter.all false
set_option maxRecDepth 100000
set_option maxHeartbeats 4000000
/-! changes of sign -/
namespace DL
def sg (x : Int) : Int := if 0 < x then 1 else if x < 0 then -1 else 0
theorem sg_pos {x : Int} (h : 0 < x) : sg x = 1 := if_pos h
theorem sg_neg {x : Int} (h : x < 0) : sg x = -1 := by
  unfold sg
  rw [if_neg (by omega), if_pos h]
theorem sg_zero : sg 0 = 0 := by decide
theorem sg_cases (x : Int) : (0 < x ∧ sg x = 1) ∨ (x < 0 ∧ sg x = -1) ∨ (x = 0 ∧ sg x = 0) := by
  rcases Int.lt_trichotomy x 0 with h | h | h
  · exact .inr (.inl ⟨h, sg_neg h⟩)
  · exact .inr (.inr ⟨h, by rw [h]; exact sg_zero⟩)
  · exact .inl ⟨h, sg_pos h⟩
theorem sg_minus (x : Int) : sg (-x) = -sg x := by
  rcases sg_cases x with ⟨h, e⟩ | ⟨h, e⟩ | ⟨h, e⟩
  · rw [e, sg_neg (by omega)]
  · rw [e, sg_pos (by omega)]
    decide
  · rw [e, h]
    decide
theorem sg_nz (x : Int) : (sg x = 0) = (x = 0) := by
  rcases sg_cases x with ⟨h, e⟩ | ⟨h, e⟩ | ⟨h, e⟩ <;> rw [e] <;> simp <;> omega
theorem sg_scale {c x : Int} (h : 0 < c) : sg (c * x) = sg x := by
  rcases sg_cases x with ⟨q, e⟩ | ⟨q, e⟩ | ⟨q, e⟩
  · rw [e, sg_pos (Int.mul_pos h q)]
  · rw [e, sg_neg (Int.mul_neg_of_pos_of_neg h q)]
  · rw [e, q, Int.mul_zero]
    decide
theorem mul_sg (a b : Int) : (a * b < 0) = (sg a * sg b < 0) := by
  rcases sg_cases a with ⟨h, e⟩ | ⟨h, e⟩ | ⟨h, e⟩ <;> rcases sg_cases b with ⟨h', e'⟩ | ⟨h', e'⟩ | ⟨h', e'⟩ <;> rw [e, e']
  · have := Int.mul_pos h h'
    simp
    omega
  · have := Int.mul_neg_of_pos_of_neg h h'
    simp
    omega
  · rw [h']
    simp
  · have := Int.mul_neg_of_neg_of_pos h h'
    simp
    omega
  · have := Int.mul_pos_of_neg_of_neg h h'
    simp
    omega
  · rw [h']
    simp
  · rw [h]
    simp
  · rw [h]
    simp
  · rw [h]
    simp
def chL : List Int → Int
  | a :: b :: l => (if a * b < 0 then 1 else 0) + chL (b :: l)
  | _ => 0
def kp (l : List Int) : List Int := l.filter fun x => decide (x ≠ 0)
theorem chL_sg : ∀ l : List Int, chL (l.map sg) = chL l
  | [] => rfl
  | [a] => rfl
  | a :: b :: l => by
    have h := chL_sg (b :: l)
    simp only [List.map_cons] at h ⊢
    rw [chL, chL, h]
    have e := mul_sg a b
    simp only [e]
theorem kp_sg : ∀ l : List Int, (kp l).map sg = kp (l.map sg)
  | [] => rfl
  | a :: l => by
    have h := kp_sg l
    unfold kp at h ⊢
    rw [List.map_cons, List.filter_cons, List.filter_cons]
    have e := sg_nz a
    by_cases c : a = 0
    · simp only [c, sg_zero]
      simpa using h
    · have c2 : ¬ sg a = 0 := by rw [e]; exact c
      simp only [c, c2, ne_eq, not_false_eq_true, decide_true, if_true, List.map_cons]
      rw [h]
/-- how many above 0, by the polynomial's numbers -/
def abv (t m d : Int) : Int := chL (kp [1, -t, m, -d])
def zro (t m d : Int) : Int := if d = 0 then (if m = 0 then (if t = 0 then 3 else 2) else 1) else 0
theorem abv_sg (t m d : Int) : abv t m d = chL (kp [1, -sg t, sg m, -sg d]) := by
  unfold abv
  rw [← chL_sg, kp_sg]
  simp only [List.map_cons, List.map_nil, sg_minus]
  rfl
theorem abv_scale {c t m d : Int} (h : 0 < c) : abv (c * t) (c * c * m) (c * c * c * d) = abv t m d := by
  rw [abv_sg, abv_sg, sg_scale h, sg_scale (Int.mul_pos h h), sg_scale (Int.mul_pos (Int.mul_pos h h) h)]
theorem zro_scale {c t m d : Int} (h : 0 < c) : zro (c * t) (c * c * m) (c * c * c * d) = zro t m d := by
  have z : ∀ k x : Int, 0 < k → ((k * x = 0) = (x = 0)) := fun k x hk => by
    have := sg_scale (x := x) hk
    rw [← sg_nz, ← sg_nz x, this]
  unfold zro
  simp only [z c t h, z (c * c) m (Int.mul_pos h h), z (c * c * c) d (Int.mul_pos (Int.mul_pos h h) h)]
/-- the positive ones -/
def pos1 (c : Int) : Int := if 0 < c then 1 else 0
theorem sum3_12 (c1 c2 c3 : Int) (l1 l2 l3 : V3) : sum3 c1 l1 c2 l2 c3 l3 = sum3 c2 l2 c1 l1 c3 l3 := by
  unfold sum3
  congr 1 <;> omega
theorem sum3_23 (c1 c2 c3 : Int) (l1 l2 l3 : V3) : sum3 c1 l1 c2 l2 c3 l3 = sum3 c1 l1 c3 l3 c2 l2 := by
  unfold sum3
  congr 1 <;> omega
theorem det_12 (u v w : V3) (h : u.dot (v.cross w) ≠ 0) : v.dot (u.cross w) ≠ 0 := fun z => h (by
  have : u.dot (v.cross w) = -(v.dot (u.cross w)) := by unfold V3.dot V3.cross; grind
  rw [this, z]
  rfl)
theorem det_23 (u v w : V3) (h : u.dot (v.cross w) ≠ 0) : u.dot (w.cross v) ≠ 0 := fun z => h (by
  have : u.dot (v.cross w) = -(u.dot (w.cross v)) := by unfold V3.dot V3.cross; grind
  rw [this, z]
  rfl)
section
variable {c1 c2 c3 : Int} {l1 l2 l3 : V3}
theorem cross_nz (h : l1.dot (l2.cross l3) ≠ 0) : l2.cross l3 ≠ ⟨0, 0, 0⟩ := fun z => h (by rw [z]; unfold V3.dot; simp)
theorem first_nz (h : l1.dot (l2.cross l3) ≠ 0) : l1 ≠ ⟨0, 0, 0⟩ := fun z => h (by rw [z]; unfold V3.dot; simp)
theorem ppp (h1 : 0 < c1) (h2 : 0 < c2) (h3 : 0 < c3) (hD : l1.dot (l2.cross l3) ≠ 0) : 0 < (sum3 c1 l1 c2 l2 c3 l3).tr ∧ 0 < (sum3 c1 l1 c2 l2 c3 l3).mi ∧ 0 < (sum3 c1 l1 c2 l2 c3 l3).dt := by
  rw [sum_tr, sum_mi, sum_dt]
  have n1 := Int.mul_pos h1 (V3.nn_pos (first_nz hD))
  have n2 := Int.mul_nonneg (Int.le_of_lt h2) (V3.nn_nn l2)
  have n3 := Int.mul_nonneg (Int.le_of_lt h3) (V3.nn_nn l3)
  have m1 := Int.mul_nonneg (Int.le_of_lt (Int.mul_pos h1 h2)) (V3.nn_nn (l1.cross l2))
  have m2 := Int.mul_nonneg (Int.le_of_lt (Int.mul_pos h1 h3)) (V3.nn_nn (l1.cross l3))
  have m3 := Int.mul_pos (Int.mul_pos h2 h3) (V3.nn_pos (cross_nz hD))
  have d1 := Int.mul_pos (Int.mul_pos (Int.mul_pos h1 h2) h3) (sq_pos hD)
  exact ⟨by omega, by omega, d1⟩
theorem neg_sum : sum3 (-c1) l1 (-c2) l2 (-c3) l3 = ⟨-(sum3 c1 l1 c2 l2 c3 l3).a, -(sum3 c1 l1 c2 l2 c3 l3).b, -(sum3 c1 l1 c2 l2 c3 l3).c, -(sum3 c1 l1 c2 l2 c3 l3).p, -(sum3 c1 l1 c2 l2 c3 l3).q, -(sum3 c1 l1 c2 l2 c3 l3).r⟩ := by
  unfold sum3
  congr 1 <;> grind
theorem neg_tr : (sum3 (-c1) l1 (-c2) l2 (-c3) l3).tr = -(sum3 c1 l1 c2 l2 c3 l3).tr := by
  rw [sum_tr, sum_tr]
  grind
theorem neg_mi : (sum3 (-c1) l1 (-c2) l2 (-c3) l3).mi = (sum3 c1 l1 c2 l2 c3 l3).mi := by
  rw [sum_mi, sum_mi]
  grind
theorem neg_dt : (sum3 (-c1) l1 (-c2) l2 (-c3) l3).dt = -(sum3 c1 l1 c2 l2 c3 l3).dt := by
  rw [sum_dt, sum_dt]
  grind
/-- two above, one below -/
theorem ppn (h1 : 0 < c1) (h2 : 0 < c2) (h3 : c3 < 0) (hD : l1.dot (l2.cross l3) ≠ 0) : abv (sum3 c1 l1 c2 l2 c3 l3).tr (sum3 c1 l1 c2 l2 c3 l3).mi (sum3 c1 l1 c2 l2 c3 l3).dt = 2 ∧ (sum3 c1 l1 c2 l2 c3 l3).dt < 0 := by
  have hd : (sum3 c1 l1 c2 l2 c3 l3).dt < 0 := by
    rw [sum_dt]
    exact Int.mul_neg_of_neg_of_pos (Int.mul_neg_of_pos_of_neg (Int.mul_pos h1 h2) h3) (sq_pos hD)
  refine ⟨?_, hd⟩
  have hc := claimC (c3 := c3) h1 h2 hD
  rw [abv_sg, sg_neg hd]
  generalize (sum3 c1 l1 c2 l2 c3 l3).tr = t at *
  generalize (sum3 c1 l1 c2 l2 c3 l3).mi = m at *
  rcases sg_cases t with ⟨ht, et⟩ | ⟨ht, et⟩ | ⟨ht, et⟩ <;> rcases sg_cases m with ⟨hm, em⟩ | ⟨hm, em⟩ | ⟨hm, em⟩ <;> rw [et, em] <;> first | decide | (exfalso; have := hc (by omega); omega)
theorem pnn (h1 : 0 < c1) (h2 : c2 < 0) (h3 : c3 < 0) (hD : l1.dot (l2.cross l3) ≠ 0) : abv (sum3 c1 l1 c2 l2 c3 l3).tr (sum3 c1 l1 c2 l2 c3 l3).mi (sum3 c1 l1 c2 l2 c3 l3).dt = 1 ∧ 0 < (sum3 c1 l1 c2 l2 c3 l3).dt := by
  have hd : 0 < (sum3 c1 l1 c2 l2 c3 l3).dt := by
    rw [sum_dt, Int.mul_assoc c1]
    exact Int.mul_pos (Int.mul_pos h1 (Int.mul_pos_of_neg_of_neg h2 h3)) (sq_pos hD)
  refine ⟨?_, hd⟩
  have hD2 : l2.dot (l3.cross l1) ≠ 0 := by
    have : l2.dot (l3.cross l1) = l1.dot (l2.cross l3) := by unfold V3.dot V3.cross; grind
    rw [this]
    exact hD
  have hc := claimC (c1 := -c2) (c2 := -c3) (c3 := -c1) (l1 := l2) (l2 := l3) (l3 := l1) (by omega) (by omega) hD2
  rw [neg_tr, neg_mi, sum3_23, sum3_12] at hc
  rw [abv_sg, sg_pos hd]
  generalize (sum3 c1 l1 c2 l2 c3 l3).tr = t at *
  generalize (sum3 c1 l1 c2 l2 c3 l3).mi = m at *
  rcases sg_cases t with ⟨ht, et⟩ | ⟨ht, et⟩ | ⟨ht, et⟩ <;> rcases sg_cases m with ⟨hm, em⟩ | ⟨hm, em⟩ | ⟨hm, em⟩ <;> rw [et, em] <;> first | decide | (exfalso; have := hc (by omega); omega)
end
end DL

set_option linter.all false
set_option maxRecDepth 100000
set_option maxHeartbeats 4000000
/-! rank 3, 2, 1, 0 -/
namespace DL
section
variable {c1 c2 c3 : Int} {l1 l2 l3 : V3}
theorem pos1_p {c : Int} (h : 0 < c) : pos1 c = 1 := if_pos h
theorem pos1_n {c : Int} (h : c < 0) : pos1 c = 0 := if_neg (by omega)
theorem rank3 (h1 : c1 ≠ 0) (h2 : c2 ≠ 0) (h3 : c3 ≠ 0) (hD : l1.dot (l2.cross l3) ≠ 0) : abv (sum3 c1 l1 c2 l2 c3 l3).tr (sum3 c1 l1 c2 l2 c3 l3).mi (sum3 c1 l1 c2 l2 c3 l3).dt = pos1 c1 + pos1 c2 + pos1 c3 ∧ (sum3 c1 l1 c2 l2 c3 l3).dt ≠ 0 := by
  rcases Int.lt_or_lt_of_ne h1 with a | a <;> rcases Int.lt_or_lt_of_ne h2 with b | b <;> rcases Int.lt_or_lt_of_ne h3 with c | c
  · obtain ⟨q1, q2, q3⟩ := ppp (c1 := -c1) (c2 := -c2) (c3 := -c3) (l1 := l1) (l2 := l2) (l3 := l3) (by omega) (by omega) (by omega) hD
    rw [neg_tr] at q1
    rw [neg_mi] at q2
    rw [neg_dt] at q3
    refine ⟨?_, by omega⟩
    rw [abv_sg, sg_neg (show (sum3 c1 l1 c2 l2 c3 l3).tr < 0 by omega), sg_pos q2, sg_neg (show (sum3 c1 l1 c2 l2 c3 l3).dt < 0 by omega), pos1_n a, pos1_n b, pos1_n c]
    decide
  · rw [sum3_23, sum3_12, pos1_n a, pos1_n b, pos1_p c]
    obtain ⟨q1, q2⟩ := pnn c a b (det_12 _ _ _ (det_23 _ _ _ hD))
    exact ⟨by rw [q1]; decide, by omega⟩
  · rw [sum3_12, pos1_n a, pos1_p b, pos1_n c]
    obtain ⟨q1, q2⟩ := pnn b a c (det_12 _ _ _ hD)
    exact ⟨by rw [q1]; decide, by omega⟩
  · rw [sum3_12, sum3_23, pos1_n a, pos1_p b, pos1_p c]
    obtain ⟨q1, q2⟩ := ppn b c a (det_23 _ _ _ (det_12 _ _ _ hD))
    exact ⟨by rw [q1]; decide, by omega⟩
  · rw [pos1_p a, pos1_n b, pos1_n c]
    obtain ⟨q1, q2⟩ := pnn a b c hD
    exact ⟨by rw [q1]; decide, by omega⟩
  · rw [sum3_23, pos1_p a, pos1_n b, pos1_p c]
    obtain ⟨q1, q2⟩ := ppn a c b (det_23 _ _ _ hD)
    exact ⟨by rw [q1]; decide, by omega⟩
  · rw [pos1_p a, pos1_p b, pos1_n c]
    obtain ⟨q1, q2⟩ := ppn a b c hD
    exact ⟨by rw [q1]; decide, by omega⟩
  · obtain ⟨q1, q2, q3⟩ := ppp a b c hD
    refine ⟨?_, by omega⟩
    rw [abv_sg, sg_pos q1, sg_pos q2, sg_pos q3, pos1_p a, pos1_p b, pos1_p c]
    decide
theorem rank2 (h1 : c1 ≠ 0) (h2 : c2 ≠ 0) (hD : l1.cross l2 ≠ ⟨0, 0, 0⟩) : abv (sum3 c1 l1 c2 l2 0 l3).tr (sum3 c1 l1 c2 l2 0 l3).mi (sum3 c1 l1 c2 l2 0 l3).dt = pos1 c1 + pos1 c2 ∧ (sum3 c1 l1 c2 l2 0 l3).dt = 0 ∧ (sum3 c1 l1 c2 l2 0 l3).mi ≠ 0 := by
  have hN := V3.nn_pos hD
  have n1 := V3.nn_pos (show l1 ≠ ⟨0, 0, 0⟩ from fun z => hD (by rw [z]; unfold V3.cross; simp))
  have n2 := V3.nn_pos (show l2 ≠ ⟨0, 0, 0⟩ from fun z => hD (by rw [z]; unfold V3.cross; simp))
  have ed : (sum3 c1 l1 c2 l2 0 l3).dt = 0 := by rw [sum_dt]; simp
  have em : (sum3 c1 l1 c2 l2 0 l3).mi = c1 * c2 * (l1.cross l2).nn := by rw [sum_mi]; simp
  have et : (sum3 c1 l1 c2 l2 0 l3).tr = c1 * l1.nn + c2 * l2.nn := by rw [sum_tr]; simp
  rw [ed, em, et, abv_sg, sg_zero]
  rcases Int.lt_or_lt_of_ne h1 with a | a <;> rcases Int.lt_or_lt_of_ne h2 with b | b
  · have m := Int.mul_pos (Int.mul_pos_of_neg_of_neg a b) hN
    have t1 := Int.mul_neg_of_neg_of_pos a n1
    have t2 := Int.mul_neg_of_neg_of_pos b n2
    rw [sg_pos m, sg_neg (show c1 * l1.nn + c2 * l2.nn < 0 by omega), pos1_n a, pos1_n b]
    exact ⟨by decide, rfl, by omega⟩
  · have m := Int.mul_neg_of_neg_of_pos (Int.mul_neg_of_neg_of_pos a b) hN
    rw [sg_neg m, pos1_n a, pos1_p b]
    refine ⟨?_, rfl, by omega⟩
    rcases sg_cases (c1 * l1.nn + c2 * l2.nn) with ⟨_, e⟩ | ⟨_, e⟩ | ⟨_, e⟩ <;> rw [e] <;> decide
  · have m := Int.mul_neg_of_neg_of_pos (Int.mul_neg_of_pos_of_neg a b) hN
    rw [sg_neg m, pos1_p a, pos1_n b]
    refine ⟨?_, rfl, by omega⟩
    rcases sg_cases (c1 * l1.nn + c2 * l2.nn) with ⟨_, e⟩ | ⟨_, e⟩ | ⟨_, e⟩ <;> rw [e] <;> decide
  · have m := Int.mul_pos (Int.mul_pos a b) hN
    have t1 := Int.mul_pos a n1
    have t2 := Int.mul_pos b n2
    rw [sg_pos m, sg_pos (show 0 < c1 * l1.nn + c2 * l2.nn by omega), pos1_p a, pos1_p b]
    exact ⟨by decide, rfl, by omega⟩
theorem rank1 (h1 : c1 ≠ 0) (hD : l1 ≠ ⟨0, 0, 0⟩) : abv (sum3 c1 l1 0 l2 0 l3).tr (sum3 c1 l1 0 l2 0 l3).mi (sum3 c1 l1 0 l2 0 l3).dt = pos1 c1 ∧ (sum3 c1 l1 0 l2 0 l3).dt = 0 ∧ (sum3 c1 l1 0 l2 0 l3).mi = 0 ∧ (sum3 c1 l1 0 l2 0 l3).tr ≠ 0 := by
  have n1 := V3.nn_pos hD
  have ed : (sum3 c1 l1 0 l2 0 l3).dt = 0 := by rw [sum_dt]; simp
  have em : (sum3 c1 l1 0 l2 0 l3).mi = 0 := by rw [sum_mi]; simp
  have et : (sum3 c1 l1 0 l2 0 l3).tr = c1 * l1.nn := by rw [sum_tr]; simp
  rw [ed, em, et, abv_sg, sg_zero]
  rcases Int.lt_or_lt_of_ne h1 with a | a
  · have t1 := Int.mul_neg_of_neg_of_pos a n1
    rw [sg_neg t1, pos1_n a]
    exact ⟨by decide, rfl, rfl, by omega⟩
  · have t1 := Int.mul_pos a n1
    rw [sg_pos t1, pos1_p a]
    exact ⟨by decide, rfl, rfl, by omega⟩
end
end DL

set_option linter.all false
set_option maxRecDepth 100000
set_option maxHeartbeats 4000000
/-! squares taken one by one -/
namespace DL
/-- n f - l l -/
def F6.tk (f : F6) (l : V3) (n : Int) : F6 := ⟨n * f.a - l.x * l.x, n * f.b - l.y * l.y, n * f.c - l.z * l.z, n * f.p - l.y * l.z, n * f.q - l.x * l.z, n * f.r - l.x * l.y⟩
def F6.im (f : F6) (r : V3) : V3 := f.gram.im r
theorem im_sym (f : F6) (r s : V3) : r.dot (f.im s) = s.dot (f.im r) := by
  unfold F6.im M3.im F6.gram V3.dot
  grind
theorem tk_im (f : F6) (l : V3) (n : Int) (r : V3) : (f.tk l n).im r = ((f.im r).smul n).sub (l.smul (l.dot r)) := by
  unfold F6.im M3.im F6.gram F6.tk V3.dot V3.sub V3.smul
  refine V3.ext' ?_ ?_ ?_ <;> grind
theorem tk_kills (f : F6) (r : V3) : (f.tk (f.im r) (r.dot (f.im r))).im r = ⟨0, 0, 0⟩ := by
  rw [tk_im]
  have e : (f.im r).dot r = r.dot (f.im r) := by unfold V3.dot; grind
  rw [e]
  unfold V3.sub V3.smul
  refine V3.ext' ?_ ?_ ?_ <;> simp
theorem dot0 (r : V3) : r.dot ⟨0, 0, 0⟩ = 0 := by
  unfold V3.dot
  simp
theorem tk_keeps (f : F6) (r s : V3) (h : f.im s = ⟨0, 0, 0⟩) : (f.tk (f.im r) (r.dot (f.im r))).im s = ⟨0, 0, 0⟩ := by
  rw [tk_im, h]
  have e : (f.im r).dot s = 0 := by
    have : (f.im r).dot s = s.dot (f.im r) := by unfold V3.dot; grind
    rw [this, im_sym, h, dot0]
  rw [e]
  unfold V3.sub V3.smul
  refine V3.ext' ?_ ?_ ?_ <;> simp
theorem det_mul (a b c r s t : V3) : a.dot (b.cross c) * r.dot (s.cross t) = a.dot r * (b.dot s * c.dot t - b.dot t * c.dot s) - a.dot s * (b.dot r * c.dot t - b.dot t * c.dot r) + a.dot t * (b.dot r * c.dot s - b.dot s * c.dot r) := by
  unfold V3.dot V3.cross
  grind
theorem cross_mul (a b r s : V3) : (a.cross b).dot (r.cross s) = a.dot r * b.dot s - a.dot s * b.dot r := by
  unfold V3.dot V3.cross
  grind
theorem zero_of {g r s t : V3} (h : r.dot (s.cross t) ≠ 0) (h1 : g.dot r = 0) (h2 : g.dot s = 0) (h3 : g.dot t = 0) : g = ⟨0, 0, 0⟩ := by
  have k : ∀ u : V3, u.dot g * r.dot (s.cross t) = g.dot r * u.dot (s.cross t) + g.dot s * u.dot (t.cross r) + g.dot t * u.dot (r.cross s) := by
    intro u
    unfold V3.dot V3.cross
    grind
  have z : ∀ u : V3, u.dot g = 0 := fun u => by
    have := k u
    rw [h1, h2, h3] at this
    simp only [Int.zero_mul, Int.add_zero] at this
    exact (Int.mul_eq_zero.mp this).resolve_right h
  have a := z ⟨1, 0, 0⟩
  have b := z ⟨0, 1, 0⟩
  have c := z ⟨0, 0, 1⟩
  unfold V3.dot at a b c
  simp at a b c
  exact V3.ext' a b c
theorem F6.zero_of {f : F6} {r s t : V3} (h : r.dot (s.cross t) ≠ 0) (h1 : f.im r = ⟨0, 0, 0⟩) (h2 : f.im s = ⟨0, 0, 0⟩) (h3 : f.im t = ⟨0, 0, 0⟩) : f = ⟨0, 0, 0, 0, 0, 0⟩ := by
  have a1 : f.gram.a = ⟨0, 0, 0⟩ := DL.zero_of h (congrArg V3.x h1) (congrArg V3.x h2) (congrArg V3.x h3)
  have a2 : f.gram.b = ⟨0, 0, 0⟩ := DL.zero_of h (congrArg V3.y h1) (congrArg V3.y h2) (congrArg V3.y h3)
  have a3 : f.gram.c = ⟨0, 0, 0⟩ := DL.zero_of h (congrArg V3.z h1) (congrArg V3.z h2) (congrArg V3.z h3)
  exact F6.ext' (congrArg V3.x a1) (congrArg V3.y a2) (congrArg V3.z a3) (congrArg V3.z a2) (congrArg V3.z a1) (congrArg V3.y a1)
end DL

set_option linter.all false
set_option maxRecDepth 100000
set_option maxHeartbeats 4000000
/-! MP: tables of three rows: products, inverse, powers -/
namespace DL
namespace M3
theorem ext' {s t : M3} (h1 : s.a.x = t.a.x) (h2 : s.a.y = t.a.y) (h3 : s.a.z = t.a.z) (h4 : s.b.x = t.b.x) (h5 : s.b.y = t.b.y) (h6 : s.b.z = t.b.z) (h7 : s.c.x = t.c.x) (h8 : s.c.y = t.c.y) (h9 : s.c.z = t.c.z) : s = t := by
  obtain ⟨⟨a, b, c⟩, ⟨d, e, f⟩, ⟨g, h, i⟩⟩ := s
  obtain ⟨⟨a', b', c'⟩, ⟨d', e', f'⟩, ⟨g', h', i'⟩⟩ := t
  cases h1; cases h2; cases h3; cases h4; cases h5; cases h6; cases h7; cases h8; cases h9
  rfl
def sm (n : Int) (t : M3) : M3 := ⟨t.a.smul n, t.b.smul n, t.c.smul n⟩
def inv (t : M3) : M3 := t.adj.sm t.det
def pw (t : M3) : Nat → M3
  | 0 => one
  | n + 1 => (pw t n).mul t
theorem mul_assoc (s t u : M3) : (s.mul t).mul u = s.mul (t.mul u) := by refine ext' ?_ ?_ ?_ ?_ ?_ ?_ ?_ ?_ ?_ <;> simp only [M3.mul, M3.tr, M3.adj, M3.one, M3.det, M3.sm, V3.dot, V3.cross, V3.smul] <;> grind
theorem one_mul (t : M3) : one.mul t = t := by refine ext' ?_ ?_ ?_ ?_ ?_ ?_ ?_ ?_ ?_ <;> simp only [M3.mul, M3.tr, M3.adj, M3.one, M3.det, M3.sm, V3.dot, V3.cross, V3.smul] <;> grind
theorem mul_one (t : M3) : t.mul one = t := by refine ext' ?_ ?_ ?_ ?_ ?_ ?_ ?_ ?_ ?_ <;> simp only [M3.mul, M3.tr, M3.adj, M3.one, M3.det, M3.sm, V3.dot, V3.cross, V3.smul] <;> grind
theorem mul_adj (t : M3) : t.mul t.adj = one.sm t.det := by refine ext' ?_ ?_ ?_ ?_ ?_ ?_ ?_ ?_ ?_ <;> simp only [M3.mul, M3.tr, M3.adj, M3.one, M3.det, M3.sm, V3.dot, V3.cross, V3.smul] <;> grind
theorem adj_mul (t : M3) : t.adj.mul t = one.sm t.det := by refine ext' ?_ ?_ ?_ ?_ ?_ ?_ ?_ ?_ ?_ <;> simp only [M3.mul, M3.tr, M3.adj, M3.one, M3.det, M3.sm, V3.dot, V3.cross, V3.smul] <;> grind
theorem adj_adj (t : M3) : t.adj.adj = t.sm t.det := by refine ext' ?_ ?_ ?_ ?_ ?_ ?_ ?_ ?_ ?_ <;> simp only [M3.mul, M3.tr, M3.adj, M3.one, M3.det, M3.sm, V3.dot, V3.cross, V3.smul] <;> grind
theorem adj_sm (n : Int) (t : M3) : (t.sm n).adj = t.adj.sm (n * n) := by refine ext' ?_ ?_ ?_ ?_ ?_ ?_ ?_ ?_ ?_ <;> simp only [M3.mul, M3.tr, M3.adj, M3.one, M3.det, M3.sm, V3.dot, V3.cross, V3.smul] <;> grind
theorem sm_sm (m n : Int) (t : M3) : (t.sm n).sm m = t.sm (m * n) := by refine ext' ?_ ?_ ?_ ?_ ?_ ?_ ?_ ?_ ?_ <;> simp only [M3.mul, M3.tr, M3.adj, M3.one, M3.det, M3.sm, V3.dot, V3.cross, V3.smul] <;> grind
theorem sm_one (t : M3) : t.sm 1 = t := by refine ext' ?_ ?_ ?_ ?_ ?_ ?_ ?_ ?_ ?_ <;> simp only [M3.mul, M3.tr, M3.adj, M3.one, M3.det, M3.sm, V3.dot, V3.cross, V3.smul] <;> grind
theorem mul_sm (n : Int) (s t : M3) : s.mul (t.sm n) = (s.mul t).sm n := by refine ext' ?_ ?_ ?_ ?_ ?_ ?_ ?_ ?_ ?_ <;> simp only [M3.mul, M3.tr, M3.adj, M3.one, M3.det, M3.sm, V3.dot, V3.cross, V3.smul] <;> grind
theorem sm_mul (n : Int) (s t : M3) : (s.sm n).mul t = (s.mul t).sm n := by refine ext' ?_ ?_ ?_ ?_ ?_ ?_ ?_ ?_ ?_ <;> simp only [M3.mul, M3.tr, M3.adj, M3.one, M3.det, M3.sm, V3.dot, V3.cross, V3.smul] <;> grind
theorem det_sm (n : Int) (t : M3) : (t.sm n).det = n * n * n * t.det := by
  simp only [M3.det, M3.sm, V3.dot, V3.cross, V3.smul]
  grind
theorem det_adj (t : M3) : t.adj.det = t.det * t.det := by
  simp only [M3.det, M3.adj, M3.tr, V3.dot, V3.cross, V3.smul]
  grind
theorem det_mul (s t : M3) : (s.mul t).det = s.det * t.det := by
  simp only [M3.det, M3.mul, M3.tr, V3.dot, V3.cross, V3.smul]
  grind
theorem det_tr (t : M3) : t.tr.det = t.det := by
  simp only [M3.det, M3.tr, V3.dot, V3.cross, V3.smul]
  grind
theorem det_one : one.det = 1 := by decide
section
variable {t : M3} (h : t.det = 1 ∨ t.det = -1)
include h
theorem dd_one : t.det * t.det = 1 := by
  rcases h with h | h <;> rw [h] <;> rfl
theorem mul_inv : t.mul t.inv = one := by
  unfold inv
  rw [mul_sm, mul_adj, sm_sm, dd_one h, sm_one]
theorem inv_mul : t.inv.mul t = one := by
  unfold inv
  rw [sm_mul, adj_mul, sm_sm, dd_one h, sm_one]
theorem det_inv : t.inv.det = t.det := by
  unfold inv
  rw [det_sm, det_adj]
  rcases h with h | h <;> rw [h] <;> rfl
theorem inv_inv : t.inv.inv = t := by
  have e : t.inv.inv = t.inv.adj.sm t.inv.det := rfl
  rw [e, det_inv h]
  unfold inv
  rw [adj_sm, adj_adj, sm_sm, sm_sm, dd_one h]
  rw [show t.det * 1 * t.det = t.det * t.det by rw [Int.mul_one], dd_one h, sm_one]
end
theorem pw_succ' (t : M3) : ∀ n, pw t (n + 1) = t.mul (pw t n)
  | 0 => by show one.mul t = t.mul one; rw [one_mul, mul_one]
  | n + 1 => by
    show (pw t (n + 1)).mul t = _
    rw [pw_succ' t n, mul_assoc, show (pw t n).mul t = pw t (n + 1) from rfl, pw_succ' t n]
theorem pw_two (t : M3) : ∀ n, pw (t.mul t) n = pw t (2 * n)
  | 0 => rfl
  | n + 1 => by
    show (pw (t.mul t) n).mul (t.mul t) = _
    rw [pw_two t n, ← mul_assoc]
    rfl
theorem pw_even (t : M3) {e : Nat} (h : e % 2 = 0) : pw (t.mul t) (e / 2) = pw t e := by
  rw [pw_two]
  congr 1
  omega
theorem pw_odd (t : M3) {e : Nat} (h : e % 2 = 1) : t.mul (pw (t.mul t) (e / 2)) = pw t e := by
  rw [pw_two, ← pw_succ']
  congr 1
  omega
theorem pw_one (t : M3) : pw t 1 = t := one_mul t
end M3
section
variable {n m : Nat} {t : M3} {i : Int}
instance bm_one : BM 1 M3.one := ⟨⟨by decide, by decide, by decide⟩, ⟨by decide, by decide, by decide⟩, ⟨by decide, by decide, by decide⟩⟩
instance bm_sm [a : Bd n i] [b : BM m t] : BM (n + m) (t.sm i) := ⟨bv_smul (v := t.a), bv_smul (v := t.b), bv_smul (v := t.c)⟩
end
end DL

set_option linter.all false
set_option maxRecDepth 100000
set_option maxHeartbeats 4000000
/-! MO: changed forms; the signature stays -/
namespace DL
open PySem
namespace M3
theorem tr_mul (s t : M3) : (s.mul t).tr = t.tr.mul s.tr := by refine ext' ?_ ?_ ?_ ?_ ?_ ?_ ?_ ?_ ?_ <;> simp only [M3.mul, M3.tr, M3.adj, M3.one, M3.det, M3.sm, V3.dot, V3.cross, V3.smul] <;> grind
theorem tr_tr (t : M3) : t.tr.tr = t := rfl
theorem im_mul (s t : M3) (v : V3) : (s.mul t).im v = s.im (t.im v) := by
  simp only [M3.im, M3.mul, M3.tr, V3.dot]
  refine V3.ext' ?_ ?_ ?_ <;> grind
theorem dot_tr (t : M3) (u v : V3) : u.dot (t.tr.im v) = (t.im u).dot v := by
  simp only [M3.im, M3.tr, V3.dot]
  grind
theorem one_im (v : V3) : one.im v = v := by
  simp only [M3.im, M3.one, V3.dot]
  refine V3.ext' ?_ ?_ ?_ <;> grind
theorem sm_im (n : Int) (t : M3) (v : V3) : (t.sm n).im v = (t.im v).smul n := by
  simp only [M3.im, M3.sm, V3.dot, V3.smul]
  refine V3.ext' ?_ ?_ ?_ <;> grind
theorem tr_adj (t : M3) : t.tr.adj = t.adj.tr := by refine ext' ?_ ?_ ?_ ?_ ?_ ?_ ?_ ?_ ?_ <;> simp only [M3.mul, M3.tr, M3.adj, M3.one, M3.det, M3.sm, V3.dot, V3.cross, V3.smul] <;> grind
theorem cross_im (t : M3) (u v : V3) : (t.im u).cross (t.im v) = t.adj.tr.im (u.cross v) := by
  simp only [M3.im, M3.adj, M3.tr, V3.dot, V3.cross]
  refine V3.ext' ?_ ?_ ?_ <;> grind
/-- the form of a table that is the same about its diagonal -/
def fo (t : M3) : F6 := ⟨t.a.x, t.b.y, t.c.z, t.b.z, t.a.z, t.a.y⟩
theorem fo_gram {t : M3} (h : t.tr = t) : t.fo.gram = t := by
  obtain ⟨⟨a, b, c⟩, ⟨d, e, f⟩, ⟨g, i, j⟩⟩ := t
  unfold tr at h
  injection h with h1 h2 h3
  injection h1 with k1 k2 k3
  injection h2 with l1 l2 l3
  have q1 : d = b := k2
  have q2 : g = c := k3
  have q3 : i = f := l3
  subst q1 q2 q3
  rfl
theorem im_zero {t : M3} (h : t.det ≠ 0) {v : V3} (e : t.im v = ⟨0, 0, 0⟩) : v = ⟨0, 0, 0⟩ := by
  have h1 : t.adj.im (t.im v) = v.smul t.det := by
    rw [← im_mul, adj_mul, sm_im, one_im]
  rw [e] at h1
  have z : t.adj.im ⟨0, 0, 0⟩ = ⟨0, 0, 0⟩ := by
    simp only [M3.im, V3.dot]
    refine V3.ext' ?_ ?_ ?_ <;> grind
  rw [z] at h1
  unfold V3.smul at h1
  injection h1 with a b c
  have k : ∀ x : Int, 0 = t.det * x → x = 0 := fun x q => by
    rcases Int.mul_eq_zero.mp q.symm with q | q
    · exact absurd q h
    · exact q
  exact V3.ext' (k _ a) (k _ b) (k _ c)
end M3
theorem gram_tr (f : F6) : f.gram.tr = f.gram := rfl
theorem gram_fo (f : F6) : f.gram.fo = f := rfl
namespace F6
def chg (f : F6) (t : M3) : F6 := ((t.tr.mul f.gram).mul t).fo
theorem chg_gram (f : F6) (t : M3) : (f.chg t).gram = (t.tr.mul f.gram).mul t := by
  refine M3.fo_gram ?_
  rw [M3.tr_mul, M3.tr_mul, M3.tr_tr, gram_tr, M3.mul_assoc]
theorem gram_inj {f g : F6} (h : f.gram = g.gram) : f = g := by
  rw [← gram_fo f, h, gram_fo]
theorem chg_chg (f : F6) (t u : M3) : (f.chg t).chg u = f.chg (t.mul u) := by
  refine gram_inj ?_
  rw [chg_gram, chg_gram, chg_gram, M3.tr_mul, M3.mul_assoc, M3.mul_assoc, M3.mul_assoc, M3.mul_assoc, M3.mul_assoc]
theorem chg_one (f : F6) : f.chg M3.one = f := by
  refine gram_inj ?_
  rw [chg_gram, M3.mul_one]
  exact M3.one_mul _
theorem val_gram (f : F6) (v : V3) : f.val v = v.dot (f.gram.im v) := by
  unfold F6.val F6.gram M3.im V3.dot
  grind
theorem chg_val (f : F6) (t : M3) (v : V3) : (f.chg t).val v = f.val (t.im v) := by
  rw [val_gram, val_gram, chg_gram, M3.mul_assoc, M3.im_mul, M3.dot_tr, M3.im_mul]
theorem chg_det (f : F6) (t : M3) : (f.chg t).gram.det = t.det * t.det * f.gram.det := by
  rw [chg_gram, M3.det_mul, M3.det_mul, M3.det_tr]
  grind
end F6
/-! ### the signature stays -/
theorem sum3_chg (c1 : Int) (l1 : V3) (c2 : Int) (l2 : V3) (c3 : Int) (l3 : V3) (u : M3) : (sum3 c1 l1 c2 l2 c3 l3).chg u = sum3 c1 (u.tr.im l1) c2 (u.tr.im l2) c3 (u.tr.im l3) := by
  simp only [F6.chg, sum3, F6.gram, M3.fo, M3.mul, M3.tr, M3.im, V3.dot]
  refine F6.ext' ?_ ?_ ?_ ?_ ?_ ?_ <;> grind
end DL

set_option linter.all false
set_option maxRecDepth 100000
set_option maxHeartbeats 4000000
/-! a form as a sum of at most three squares, step by step -/
namespace DL
open PySem
def trials : List V3 := [⟨1, 0, 0⟩, ⟨0, 1, 0⟩, ⟨0, 0, 1⟩, ⟨0, 1, 1⟩, ⟨1, 0, 1⟩, ⟨1, 1, 0⟩]
def vis (T : M3) : List V3 → Option V3
  | [] => none
  | r :: l => if r.dot (T.im r) ≠ 0 then some r else vis T l
def rowO : Option V3 → PyData
  | some r => rw3 true r
  | none => .none
/-- n T - l l -/
def tkn (T : M3) (l : V3) (n : Int) : M3 := ⟨⟨n * T.a.x - l.x * l.x, n * T.a.y - l.x * l.y, n * T.a.z - l.x * l.z⟩, ⟨n * T.b.x - l.y * l.x, n * T.b.y - l.y * l.y, n * T.b.z - l.y * l.z⟩, ⟨n * T.c.x - l.z * l.x, n * T.c.y - l.z * l.y, n * T.c.z - l.z * l.z⟩⟩
theorem vis_some {T : M3} : ∀ {l : List V3} {r : V3}, vis T l = some r → r ∈ l ∧ r.dot (T.im r) ≠ 0
  | [], r, h => by cases h
  | q :: l, r, h => by
    unfold vis at h
    split at h
    · rename_i c
      cases h
      exact ⟨List.mem_cons_self, c⟩
    · obtain ⟨h1, h2⟩ := vis_some h
      exact ⟨List.mem_cons_of_mem _ h1, h2⟩
theorem vis_none {T : M3} : ∀ {l : List V3}, vis T l = none → ∀ r ∈ l, r.dot (T.im r) = 0
  | [], _, r, hr => by simp at hr
  | q :: l, h, r, hr => by
    unfold vis at h
    split at h
    · cases h
    · rename_i c
      rcases List.mem_cons.mp hr with rfl | hr
      · exact Classical.not_not.mp c
      · exact vis_none h r hr
theorem tkn_gram (f : F6) (l : V3) (n : Int) : tkn f.gram l n = (f.tk l n).gram := by
  unfold tkn F6.gram F6.tk
  congr 1 <;> congr 1 <;> grind
def F6.zero : F6 := ⟨0, 0, 0, 0, 0, 0⟩
theorem vis_zero : vis F6.zero.gram trials = none := by decide
theorem zero_vis {f : F6} (h : vis f.gram trials = none) : f = F6.zero := by
  have k := vis_none h
  have h1 := k ⟨1, 0, 0⟩ (by unfold trials; simp)
  have h2 := k ⟨0, 1, 0⟩ (by unfold trials; simp)
  have h3 := k ⟨0, 0, 1⟩ (by unfold trials; simp)
  have h4 := k ⟨0, 1, 1⟩ (by unfold trials; simp)
  have h5 := k ⟨1, 0, 1⟩ (by unfold trials; simp)
  have h6 := k ⟨1, 1, 0⟩ (by unfold trials; simp)
  unfold M3.im F6.gram V3.dot at h1 h2 h3 h4 h5 h6
  simp at h1 h2 h3 h4 h5 h6
  exact F6.ext' (by show f.a = 0; omega) (by show f.b = 0; omega) (by show f.c = 0; omega) (by show f.p = 0; omega) (by show f.q = 0; omega) (by show f.r = 0; omega)
theorem trials_bd : ∀ r ∈ trials, BV 2 r := by
  intro r hr
  unfold trials at hr
  simp only [List.mem_cons, List.not_mem_nil, or_false] at hr
  rcases hr with rfl | rfl | rfl | rfl | rfl | rfl <;> exact ⟨by decide, by decide, by decide⟩
/-- one square: fraction x / y, line l -/
structure Sq where
  x : Int
  y : Int
  l : V3
def prd (s : Sq) : PyData := .tuple [r2 true ⟨s.x, s.y⟩, rw3 true s.l]
structure SqOk (s : Sq) : Prop where
  x0 : s.x ≠ 0
  y1 : 1 ≤ s.y
  g : Int.gcd s.x s.y = 1
  bx : s.x.natAbs < 2 ^ 2000
  by' : s.y.natAbs < 2 ^ 2000
  bl : BV 2000 s.l
/-- what one turn makes of (f, B) at r -/
structure Turn (f : F6) (B : Int) (r : V3) (s : Sq) : Prop where
  low : Lowest ((f.im r).cont * (f.im r).cont) (B * r.dot (f.im r)) s.x s.y
  l : s.l = (f.im r).prim
theorem V3.prim_smul (v : V3) : v = v.prim.smul v.cont := by
  unfold V3.prim
  by_cases c : v.cont = 0
  · rw [if_pos c, V3.cont_zero c]
    rfl
  · rw [if_neg c]
    have d : ((v.x.natAbs.gcd v.y.natAbs).gcd v.z.natAbs) ∣ v.x.natAbs := Nat.dvd_trans (Nat.gcd_dvd_left _ _) (Nat.gcd_dvd_left _ _)
    have d2 : ((v.x.natAbs.gcd v.y.natAbs).gcd v.z.natAbs) ∣ v.y.natAbs := Nat.dvd_trans (Nat.gcd_dvd_left _ _) (Nat.gcd_dvd_right _ _)
    have d3 : ((v.x.natAbs.gcd v.y.natAbs).gcd v.z.natAbs) ∣ v.z.natAbs := Nat.gcd_dvd_right _ _
    have e1 : v.cont ∣ v.x := Int.ofNat_dvd_left.mpr d
    have e2 : v.cont ∣ v.y := Int.ofNat_dvd_left.mpr d2
    have e3 : v.cont ∣ v.z := Int.ofNat_dvd_left.mpr d3
    unfold V3.smul
    exact V3.ext' (Int.mul_ediv_cancel' e1).symm (Int.mul_ediv_cancel' e2).symm (Int.mul_ediv_cancel' e3).symm
theorem dot_nz {r l : V3} (h : r.dot l ≠ 0) : l ≠ ⟨0, 0, 0⟩ := fun z => h (by rw [z, dot0])
theorem cont_nz {l : V3} (h : l ≠ ⟨0, 0, 0⟩) : 0 < l.cont := V3.cont_pos fun z => h (V3.cont_zero z)
theorem Turn.x0 {f : F6} {B : Int} {r : V3} {s : Sq} (t : Turn f B r s) (h : r.dot (f.im r) ≠ 0) (hB : B ≠ 0) : s.x ≠ 0 := fun z => by
  have e := t.low.e
  rw [z, Int.zero_mul] at e
  have c := cont_nz (dot_nz h)
  have := Int.mul_pos (Int.mul_pos c c) (show 0 < s.y from t.low.pos)
  omega
def F6.smul (n : Int) (f : F6) : F6 := ⟨n * f.a, n * f.b, n * f.c, n * f.p, n * f.q, n * f.r⟩
theorem smul_tr (n : Int) (f : F6) : (f.smul n).tr = n * f.tr := by unfold F6.smul F6.tr; grind
theorem smul_mi (n : Int) (f : F6) : (f.smul n).mi = n * n * f.mi := by unfold F6.smul F6.mi; grind
theorem smul_dt (n : Int) (f : F6) : (f.smul n).dt = n * n * n * f.dt := by unfold F6.smul F6.dt; grind
theorem smul_cancel {n : Int} (h : n ≠ 0) {f g : F6} (e : f.smul n = g.smul n) : f = g := by
  have k : ∀ x y : Int, n * x = n * y → x = y := fun x y q => Int.eq_of_mul_eq_mul_left h q
  unfold F6.smul at e
  obtain ⟨e1, e2, e3, e4, e5, e6⟩ := F6.mk.injEq .. ▸ e
  exact F6.ext' (k _ _ e1) (k _ _ e2) (k _ _ e3) (k _ _ e4) (k _ _ e5) (k _ _ e6)
/-- what is told -/
inductive Good (f : F6) : List Sq → Prop where
  | r0 : f = F6.zero → Good f []
  | r1 (s : Sq) : SqOk s → s.l ≠ ⟨0, 0, 0⟩ → f.smul s.y = sum3 s.x s.l 0 s.l 0 s.l → Good f [s]
  | r2 (s t : Sq) : SqOk s → SqOk t → s.l.cross t.l ≠ ⟨0, 0, 0⟩ → f.smul (s.y * t.y) = sum3 (s.x * t.y) s.l (t.x * s.y) t.l 0 s.l → Good f [s, t]
  | r3 (s t u : Sq) : SqOk s → SqOk t → SqOk u → s.l.dot (t.l.cross u.l) ≠ 0 → f.smul (s.y * t.y * u.y) = sum3 (s.x * (t.y * u.y)) s.l (t.x * (s.y * u.y)) t.l (u.x * (s.y * t.y)) u.l → Good f [s, t, u]
theorem pos1_mul {x y : Int} (h : 0 < y) : pos1 (x * y) = pos1 x := by
  rcases Int.lt_or_le 0 x with c | c
  · rw [pos1_p c, pos1_p (Int.mul_pos c h)]
  · unfold pos1
    have := Int.mul_nonneg (show 0 ≤ -x by omega) (Int.le_of_lt h)
    rw [Int.neg_mul] at this
    rw [if_neg (by omega), if_neg (by omega)]
def cnt (S : List Sq) : Int := (S.map fun s => pos1 s.x).sum
theorem abv_of {c : Int} (h : 0 < c) {f g : F6} (e : f.smul c = g) : abv f.tr f.mi f.dt = abv g.tr g.mi g.dt ∧ zro f.tr f.mi f.dt = zro g.tr g.mi g.dt := by
  subst e
  rw [smul_tr, smul_mi, smul_dt]
  exact ⟨(abv_scale h).symm, (zro_scale h).symm⟩
theorem Good.sign {f : F6} {S : List Sq} (h : Good f S) : abv f.tr f.mi f.dt = cnt S ∧ zro f.tr f.mi f.dt = 3 - S.length := by
  cases h with
  | r0 h =>
    subst h
    decide
  | r1 s o n e =>
    obtain ⟨a, z⟩ := abv_of (show 0 < s.y from o.y1) e
    rw [a, z]
    obtain ⟨k1, k2, k3, k4⟩ := rank1 (l2 := s.l) (l3 := s.l) o.x0 n
    rw [k1, k2, k3]
    unfold zro cnt
    rw [if_pos rfl, if_pos rfl, if_neg k4]
    simp
  | r2 s t o1 o2 n e =>
    have y1 : 0 < s.y := o1.y1
    have y2 : 0 < t.y := o2.y1
    obtain ⟨a, z⟩ := abv_of (Int.mul_pos y1 y2) e
    rw [a, z]
    obtain ⟨k1, k2, k3⟩ := rank2 (l3 := s.l) (show s.x * t.y ≠ 0 from fun z => by rcases Int.mul_eq_zero.mp z with q | q; exact o1.x0 q; omega) (show t.x * s.y ≠ 0 from fun z => by rcases Int.mul_eq_zero.mp z with q | q; exact o2.x0 q; omega) n
    rw [k1, k2, pos1_mul y2, pos1_mul y1]
    unfold zro cnt
    rw [if_pos rfl, if_neg k3]
    simp
  | r3 s t u o1 o2 o3 n e =>
    have y1 : 0 < s.y := o1.y1
    have y2 : 0 < t.y := o2.y1
    have y3 : 0 < u.y := o3.y1
    obtain ⟨a, z⟩ := abv_of (Int.mul_pos (Int.mul_pos y1 y2) y3) e
    rw [a, z]
    have nz : ∀ {a b c : Int}, a ≠ 0 → 0 < b → 0 < c → a * (b * c) ≠ 0 := fun h1 h2 h3 z => by
      have := Int.mul_pos h2 h3
      rcases Int.mul_eq_zero.mp z with q | q
      · exact h1 q
      · omega
    obtain ⟨k1, k2⟩ := rank3 (nz o1.x0 y2 y3) (nz o2.x0 y1 y3) (nz o3.x0 y1 y2) n
    rw [k1, pos1_mul (Int.mul_pos y2 y3), pos1_mul (Int.mul_pos y1 y3), pos1_mul (Int.mul_pos y1 y2)]
    unfold zro cnt
    rw [if_neg k2]
    simp [Int.add_assoc]
end DL
namespace DL
theorem sc1 {n a c u x y : Int} (hn : n ≠ 0) (h : n * a = c * c * u) (hl : x * (1 * n) = c * c * y) : y * a = x * u := by
  refine Int.eq_of_mul_eq_mul_left hn ?_
  have : n * (y * a) = y * (n * a) := by grind
  rw [this, h]
  have : n * (x * u) = x * (1 * n) * u := by grind
  rw [this, hl]
  grind
theorem sc2 {n m a a1 c d u v x y z w : Int} (hn : n ≠ 0) (hm : m ≠ 0) (h : n * a = c * c * u + a1) (h1 : m * a1 = d * d * v) (hl : x * (1 * n) = c * c * y) (hl1 : z * (1 * n * m) = d * d * w) : y * w * a = x * w * u + z * y * v := by
  refine Int.eq_of_mul_eq_mul_left (show n * m ≠ 0 from fun z => by rcases Int.mul_eq_zero.mp z with q | q <;> contradiction) ?_
  have e1 : n * m * (y * w * a) = y * w * m * (n * a) := by grind
  have e2 : n * m * (x * w * u + z * y * v) = (x * (1 * n)) * (m * w * u) + (z * (1 * n * m)) * (y * v) := by grind
  rw [e1, e2, h, hl, hl1]
  have e3 : y * w * m * (c * c * u + a1) = y * w * m * (c * c * u) + y * w * (m * a1) := by grind
  rw [e3, h1]
  grind
theorem sc3 {n m k a a1 a2 c d e u v t x y z w o q : Int} (hn : n ≠ 0) (hm : m ≠ 0) (hk : k ≠ 0) (h : n * a = c * c * u + a1) (h1 : m * a1 = d * d * v + a2) (h2 : k * a2 = e * e * t) (hl : x * (1 * n) = c * c * y) (hl1 : z * (1 * n * m) = d * d * w) (hl2 : o * (1 * n * m * k) = e * e * q) :
    y * w * q * a = x * (w * q) * u + z * (y * q) * v + o * (y * w) * t := by
  have nz : n * m * k ≠ 0 := fun z => by
    rcases Int.mul_eq_zero.mp z with q | q
    · rcases Int.mul_eq_zero.mp q with q | q <;> contradiction
    · contradiction
  refine Int.eq_of_mul_eq_mul_left nz ?_
  have e1 : n * m * k * (y * w * q * a) = y * w * q * m * k * (n * a) := by grind
  have e2 : n * m * k * (x * (w * q) * u + z * (y * q) * v + o * (y * w) * t) = (x * (1 * n)) * (m * k * (w * q) * u) + (z * (1 * n * m)) * (k * (y * q) * v) + (o * (1 * n * m * k)) * (y * w * t) := by grind
  rw [e1, e2, h, hl, hl1, hl2]
  have e3 : y * w * q * m * k * (c * c * u + a1) = y * w * q * m * k * (c * c * u) + y * w * q * k * (m * a1) := by grind
  rw [e3, h1]
  have e4 : y * w * q * k * (d * d * v + a2) = y * w * q * k * (d * d * v) + y * w * q * (k * a2) := by grind
  rw [e4, h2]
  grind
theorem cross_smul (a b : Int) (u v : V3) : (u.smul a).cross (v.smul b) = (u.cross v).smul (a * b) := by
  unfold V3.cross V3.smul
  refine V3.ext' ?_ ?_ ?_ <;> grind
theorem dot_smul (a b : Int) (u v : V3) : (u.smul a).dot (v.smul b) = a * b * u.dot v := by
  unfold V3.dot V3.smul
  grind
theorem smul_zero (a : Int) : (⟨0, 0, 0⟩ : V3).smul a = ⟨0, 0, 0⟩ := by
  unfold V3.smul
  simp
theorem prim_nz {l : V3} (h : l ≠ ⟨0, 0, 0⟩) : l.prim ≠ ⟨0, 0, 0⟩ := fun z => h (by rw [V3.prim_smul l, z, smul_zero])
theorem dot_comm (u v : V3) : u.dot v = v.dot u := by
  unfold V3.dot
  grind
section
variable {f : F6} {r1 r2 r3 : V3} {s t u : Sq}
theorem l_entry (l : V3) : l.x = l.cont * l.prim.x ∧ l.y = l.cont * l.prim.y ∧ l.z = l.cont * l.prim.z := by
  have h := V3.prim_smul l
  exact ⟨congrArg V3.x h, congrArg V3.y h, congrArg V3.z h⟩
/-- one component -/
theorem comp_eq {n a c p q x y a1 : Int} (hx : x = c * p) (hy : y = c * q) (h : a1 = n * a - x * y) : n * a = c * c * (p * q) + a1 := by
  rw [h, hx, hy]
  grind
theorem Turn.good1 (h1 : r1.dot (f.im r1) ≠ 0) (T1 : Turn f 1 r1 s) (o : SqOk s) (e : f.tk (f.im r1) (r1.dot (f.im r1)) = F6.zero) : Good f [s] := by
  obtain ⟨lx, ly, lz⟩ := l_entry (f.im r1)
  have sl := T1.l
  have low := T1.low.e
  generalize hn : r1.dot (f.im r1) = n at *
  generalize f.im r1 = l at *
  refine .r1 s o (by rw [sl]; exact prim_nz (dot_nz (by rw [hn]; exact h1))) ?_
  unfold F6.tk F6.zero at e
  obtain ⟨e1, e2, e3, e4, e5, e6⟩ := F6.mk.injEq .. ▸ e
  have k : ∀ {a p q x y : Int}, x = l.cont * p → y = l.cont * q → n * a - x * y = 0 → s.y * a = s.x * (p * q) + 0 * (p * q) + 0 * (p * q) := fun hx hy h => by
    have := sc1 h1 (show n * _ = l.cont * l.cont * _ by have := comp_eq hx hy h.symm; rw [Int.add_zero] at this; exact this) low
    rw [this]
    simp
  rw [sl]
  unfold F6.smul sum3
  exact F6.ext' (k lx lx e1) (k ly ly e2) (k lz lz e3) (k ly lz e4) (k lx lz e5) (k lx ly e6)
theorem cross_of (h1 : r1.dot (f.im r1) ≠ 0) (h2 : r2.dot ((f.tk (f.im r1) (r1.dot (f.im r1))).im r2) ≠ 0) : ((f.im r1).cross ((f.tk (f.im r1) (r1.dot (f.im r1))).im r2)).dot (r1.cross r2) ≠ 0 := by
  rw [cross_mul]
  have z : ((f.tk (f.im r1) (r1.dot (f.im r1))).im r2).dot r1 = 0 := by
    rw [dot_comm, im_sym, tk_kills, dot0]
  rw [z, Int.mul_zero, Int.sub_zero, dot_comm, dot_comm _ r2]
  exact fun q => by rcases Int.mul_eq_zero.mp q with q | q <;> contradiction
theorem Turn.good2 (h1 : r1.dot (f.im r1) ≠ 0) (T1 : Turn f 1 r1 s) (o1 : SqOk s)
    (h2 : r2.dot ((f.tk (f.im r1) (r1.dot (f.im r1))).im r2) ≠ 0) (T2 : Turn (f.tk (f.im r1) (r1.dot (f.im r1))) (1 * r1.dot (f.im r1)) r2 t) (o2 : SqOk t)
    (e : (f.tk (f.im r1) (r1.dot (f.im r1))).tk ((f.tk (f.im r1) (r1.dot (f.im r1))).im r2) (r2.dot ((f.tk (f.im r1) (r1.dot (f.im r1))).im r2)) = F6.zero) : Good f [s, t] := by
  have cr := cross_of h1 h2
  obtain ⟨lx, ly, lz⟩ := l_entry (f.im r1)
  have sl := T1.l
  have low := T1.low.e
  have ef : ∃ f1, f1 = f.tk (f.im r1) (r1.dot (f.im r1)) := ⟨_, rfl⟩
  obtain ⟨f1, ef⟩ := ef
  rw [← ef] at h2 T2 e cr
  obtain ⟨mx, my, mz⟩ := l_entry (f1.im r2)
  have tl := T2.l
  have low2 := T2.low.e
  generalize hn : r1.dot (f.im r1) = n at *
  generalize f.im r1 = l at *
  generalize hm : r2.dot (f1.im r2) = m at *
  generalize f1.im r2 = l' at *
  refine .r2 s t o1 o2 (fun z => cr ?_) ?_
  · rw [V3.prim_smul l, V3.prim_smul l', cross_smul, ← sl, ← tl, z, smul_zero, dot_comm, dot0]
  · unfold F6.tk at ef
    unfold F6.tk F6.zero at e
    obtain ⟨e1, e2, e3, e4, e5, e6⟩ := F6.mk.injEq .. ▸ e
    have k : ∀ {a a1 p q p' q' x y x' y' : Int}, x = l.cont * p → y = l.cont * q → x' = l'.cont * p' → y' = l'.cont * q' → a1 = n * a - x * y → m * a1 - x' * y' = 0 → s.y * t.y * a = s.x * t.y * (p * q) + t.x * s.y * (p' * q') + 0 * (p * q) := fun hx hy hx' hy' h h' => by
      have g := comp_eq hx' hy' h'.symm
      rw [Int.add_zero] at g
      have := sc2 h1 h2 (comp_eq hx hy h) g low low2
      rw [this]
      simp
    rw [sl, tl]
    unfold F6.smul sum3
    exact F6.ext' (k lx lx mx mx (congrArg F6.a ef) e1) (k ly ly my my (congrArg F6.b ef) e2) (k lz lz mz mz (congrArg F6.c ef) e3) (k ly lz my mz (congrArg F6.p ef) e4) (k lx lz mx mz (congrArg F6.q ef) e5) (k lx ly mx my (congrArg F6.r ef) e6)
/-- three turns: independent, and nothing is left -/
theorem three (h1 : r1.dot (f.im r1) ≠ 0) {f1 f2 : F6} (ef1 : f1 = f.tk (f.im r1) (r1.dot (f.im r1))) (h2 : r2.dot (f1.im r2) ≠ 0) (ef2 : f2 = f1.tk (f1.im r2) (r2.dot (f1.im r2))) (h3 : r3.dot (f2.im r3) ≠ 0) :
    (f.im r1).dot ((f1.im r2).cross (f2.im r3)) ≠ 0 ∧ f2.tk (f2.im r3) (r3.dot (f2.im r3)) = F6.zero := by
  have k1 : f1.im r1 = ⟨0, 0, 0⟩ := by rw [ef1]; exact tk_kills _ _
  have k21 : f2.im r1 = ⟨0, 0, 0⟩ := by rw [ef2]; exact tk_keeps _ _ _ k1
  have k22 : f2.im r2 = ⟨0, 0, 0⟩ := by rw [ef2]; exact tk_kills _ _
  have z1 : (f1.im r2).dot r1 = 0 := by rw [dot_comm, im_sym, k1, dot0]
  have z2 : (f2.im r3).dot r1 = 0 := by rw [dot_comm, im_sym, k21, dot0]
  have z3 : (f2.im r3).dot r2 = 0 := by rw [dot_comm, im_sym, k22, dot0]
  have d := det_mul (f.im r1) (f1.im r2) (f2.im r3) r1 r2 r3
  rw [z1, z2, z3] at d
  have d2 : (f.im r1).dot ((f1.im r2).cross (f2.im r3)) * r1.dot (r2.cross r3) = r1.dot (f.im r1) * r2.dot (f1.im r2) * r3.dot (f2.im r3) := by
    rw [d, dot_comm r1, dot_comm r2, dot_comm r3]
    grind
  have nz : (f.im r1).dot ((f1.im r2).cross (f2.im r3)) * r1.dot (r2.cross r3) ≠ 0 := by
    rw [d2]
    exact fun q => by
      rcases Int.mul_eq_zero.mp q with q | q
      · rcases Int.mul_eq_zero.mp q with q | q <;> contradiction
      · contradiction
  refine ⟨fun z => nz (by rw [z, Int.zero_mul]), ?_⟩
  refine F6.zero_of (r := r1) (s := r2) (t := r3) (fun z => nz (by rw [z, Int.mul_zero])) (tk_keeps _ _ _ k21) (tk_keeps _ _ _ k22) (tk_kills _ _)
theorem Turn.good3 {f1 f2 : F6} (h1 : r1.dot (f.im r1) ≠ 0) (T1 : Turn f 1 r1 s) (o1 : SqOk s) (ef1 : f1 = f.tk (f.im r1) (r1.dot (f.im r1)))
    (h2 : r2.dot (f1.im r2) ≠ 0) (T2 : Turn f1 (1 * r1.dot (f.im r1)) r2 t) (o2 : SqOk t) (ef2 : f2 = f1.tk (f1.im r2) (r2.dot (f1.im r2)))
    (h3 : r3.dot (f2.im r3) ≠ 0) (T3 : Turn f2 (1 * r1.dot (f.im r1) * r2.dot (f1.im r2)) r3 u) (o3 : SqOk u) : Good f [s, t, u] := by
  obtain ⟨cr, e⟩ := three h1 ef1 h2 ef2 h3
  obtain ⟨lx, ly, lz⟩ := l_entry (f.im r1)
  obtain ⟨mx, my, mz⟩ := l_entry (f1.im r2)
  obtain ⟨nx, ny, nz⟩ := l_entry (f2.im r3)
  have sl := T1.l
  have tl := T2.l
  have ul := T3.l
  have low := T1.low.e
  have low2 := T2.low.e
  have low3 := T3.low.e
  generalize hn : r1.dot (f.im r1) = n at *
  generalize f.im r1 = l at *
  generalize hm : r2.dot (f1.im r2) = m at *
  generalize f1.im r2 = l' at *
  generalize hk : r3.dot (f2.im r3) = k at *
  generalize f2.im r3 = l'' at *
  refine .r3 s t u o1 o2 o3 (fun z => cr ?_) ?_
  · rw [V3.prim_smul l, V3.prim_smul l', V3.prim_smul l'', cross_smul, dot_smul, ← sl, ← tl, ← ul, z, Int.mul_zero]
  · unfold F6.tk at ef1 ef2
    unfold F6.tk F6.zero at e
    obtain ⟨e1, e2, e3, e4, e5, e6⟩ := F6.mk.injEq .. ▸ e
    have kk : ∀ {a a1 a2 p q p' q' p'' q'' x y x' y' x'' y'' : Int}, x = l.cont * p → y = l.cont * q → x' = l'.cont * p' → y' = l'.cont * q' → x'' = l''.cont * p'' → y'' = l''.cont * q'' → a1 = n * a - x * y → a2 = m * a1 - x' * y' → k * a2 - x'' * y'' = 0 →
        s.y * t.y * u.y * a = s.x * (t.y * u.y) * (p * q) + t.x * (s.y * u.y) * (p' * q') + u.x * (s.y * t.y) * (p'' * q'') := fun hx hy hx' hy' hx'' hy'' h h' h'' => by
      have g := comp_eq hx'' hy'' h''.symm
      rw [Int.add_zero] at g
      exact sc3 h1 h2 h3 (comp_eq hx hy h) (comp_eq hx' hy' h') g low low2 low3
    rw [sl, tl, ul]
    unfold F6.smul sum3
    exact F6.ext' (kk lx lx mx mx nx nx (congrArg F6.a ef1) (congrArg F6.a ef2) e1) (kk ly ly my my ny ny (congrArg F6.b ef1) (congrArg F6.b ef2) e2) (kk lz lz mz mz nz nz (congrArg F6.c ef1) (congrArg F6.c ef2) e3) (kk ly lz my mz ny nz (congrArg F6.p ef1) (congrArg F6.p ef2) e4) (kk lx lz mx mz nx nz (congrArg F6.q ef1) (congrArg F6.q ef2) e5) (kk lx ly mx my nx ny (congrArg F6.r ef1) (congrArg F6.r ef2) e6)
end
end DL

set_option linter.all false
set_option maxRecDepth 100000
set_option maxHeartbeats 4000000
/-! AI: kinds and ranges of what a def works out, by a reckoning that the kernel does. -/
namespace DL
open PySem
inductive AV where
  | any | num | int (lo hi : Int) | bo (t f : Bool) | non | seq (k : Bool) (l : Nat) (xs : List AV)
inductive AS where
  | un | va (a : AV) | ow (l : Nat) (xs : List AV)
mutual
def AV.g : AV → PyData → Prop
  | .any, _ => True
  | .num, d => ∃ i, d = .int i
  | .int lo hi, d => ∃ i, d = .int i ∧ lo ≤ i ∧ i ≤ hi
  | .bo t f, d => ∃ b, d = .bool b ∧ (b = true → t = true) ∧ (b = false → f = true)
  | .non, d => d = .none
  | .seq k l xs, d => ∃ ds, d = sq k ds ∧ l ≤ ds.length ∧ AV.gp xs ds
/-- the items of ds, one by one; ds may end early -/
def AV.gp : List AV → List PyData → Prop
  | [], ds => ds = []
  | x :: xs, ds => ds = [] ∨ ∃ d r, ds = d :: r ∧ x.g d ∧ AV.gp xs r
end
mutual
def AV.jn : AV → AV → AV
  | .num, y => (match y with
    | .num => .num
    | .int _ _ => .num
    | _ => .any)
  | .int a b, y => (match y with
    | .num => .num
    | .int c d => .int (min a c) (max b d)
    | _ => .any)
  | .bo t f, y => (match y with
    | .bo t' f' => .bo (t || t') (f || f')
    | _ => .any)
  | .non, y => (match y with
    | .non => .non
    | _ => .any)
  | .seq k l xs, y => (match y with
    | .seq k' l' ys => if k = k' then .seq k (min l l') (AV.jp xs ys) else .any
    | _ => .any)
  | .any, _ => .any
def AV.jp : List AV → List AV → List AV
  | [], ys => ys
  | x :: xs, ys => (match ys with
    | [] => x :: xs
    | y :: ys => x.jn y :: AV.jp xs ys)
end
theorem gp_nil : ∀ xs : List AV, AV.gp xs []
  | [] => by unfold AV.gp; rfl
  | x :: xs => by unfold AV.gp; exact .inl rfl
mutual
theorem jn_l : ∀ (x y : AV) (d : PyData), x.g d → (x.jn y).g d
  | .any, y, d, _ => by unfold AV.jn; unfold AV.g; trivial
  | .num, y, d, h => by
    cases y <;> unfold AV.jn <;> first | exact h | (unfold AV.g; trivial)
  | .int a b, y, d, h => by
    unfold AV.g at h
    obtain ⟨i, rfl, h1, h2⟩ := h
    cases y <;> unfold AV.jn <;> unfold AV.g <;> first | trivial | exact ⟨i, rfl⟩ | exact ⟨i, rfl, by omega, by omega⟩
  | .bo t f, y, d, h => by
    unfold AV.g at h
    obtain ⟨b, rfl, h1, h2⟩ := h
    cases y <;> unfold AV.jn <;> unfold AV.g <;> first | trivial | exact ⟨b, rfl, fun z => by simp [h1 z], fun z => by simp [h2 z]⟩
  | .non, y, d, h => by
    cases y <;> unfold AV.jn <;> first | exact h | (unfold AV.g; trivial)
  | .seq k l xs, y, d, h => by
    cases y <;> unfold AV.jn
    case seq k' l' ys =>
      simp only
      by_cases c : k = k'
      · rw [if_pos c]
        unfold AV.g at h ⊢
        obtain ⟨ds, rfl, h1, h2⟩ := h
        exact ⟨ds, rfl, by omega, jp_l xs ys ds h2⟩
      · rw [if_neg c]
        unfold AV.g
        trivial
    all_goals (unfold AV.g; trivial)
theorem jp_l : ∀ (xs ys : List AV) (ds : List PyData), AV.gp xs ds → AV.gp (AV.jp xs ys) ds
  | [], ys, ds, h => by
    unfold AV.gp at h
    subst h
    exact gp_nil _
  | x :: xs, [], ds, h => by unfold AV.jp; exact h
  | x :: xs, y :: ys, ds, h => by
    unfold AV.jp
    unfold AV.gp at h ⊢
    rcases h with h | ⟨d, r, e, h1, h2⟩
    · exact .inl h
    · exact .inr ⟨d, r, e, jn_l x y d h1, jp_l xs ys r h2⟩
end
mutual
theorem jn_r : ∀ (x y : AV) (d : PyData), y.g d → (x.jn y).g d
  | .any, y, d, _ => by unfold AV.jn; unfold AV.g; trivial
  | .num, y, d, h => by
    cases y <;> unfold AV.jn <;> first | exact h | (unfold AV.g at h ⊢; obtain ⟨i, rfl, _⟩ := h; exact ⟨i, rfl⟩) | (unfold AV.g; trivial)
  | .int a b, y, d, h => by
    cases y <;> unfold AV.jn <;> first | exact h | (unfold AV.g at h ⊢; obtain ⟨i, rfl, h1, h2⟩ := h; exact ⟨i, rfl, by omega, by omega⟩) | (unfold AV.g; trivial)
  | .bo t f, y, d, h => by
    cases y <;> unfold AV.jn <;> first | (unfold AV.g at h ⊢; obtain ⟨b, rfl, h1, h2⟩ := h; exact ⟨b, rfl, fun z => by simp [h1 z], fun z => by simp [h2 z]⟩) | (unfold AV.g; trivial)
  | .non, y, d, h => by
    cases y <;> unfold AV.jn <;> first | exact h | (unfold AV.g; trivial)
  | .seq k l xs, y, d, h => by
    cases y <;> unfold AV.jn
    case seq k' l' ys =>
      simp only
      by_cases c : k = k'
      · rw [if_pos c]
        subst c
        unfold AV.g at h ⊢
        obtain ⟨ds, rfl, h1, h2⟩ := h
        exact ⟨ds, rfl, by omega, jp_r xs ys ds h2⟩
      · rw [if_neg c]
        unfold AV.g
        trivial
    all_goals (unfold AV.g; trivial)
theorem jp_r : ∀ (xs ys : List AV) (ds : List PyData), AV.gp ys ds → AV.gp (AV.jp xs ys) ds
  | [], ys, ds, h => by unfold AV.jp; exact h
  | x :: xs, [], ds, h => by
    unfold AV.gp at h
    subst h
    exact gp_nil _
  | x :: xs, y :: ys, ds, h => by
    unfold AV.jp
    unfold AV.gp at h ⊢
    rcases h with h | ⟨d, r, e, h1, h2⟩
    · exact .inl h
    · exact .inr ⟨d, r, e, jn_r x y d h1, jp_r xs ys r h2⟩
end
/-! ### slots -/
def AS.g : AS → SC → Prop
  | .un, _ => True
  | .va a, s => ∃ d, s = .va d ∧ a.g d
  | .ow l xs, s => ∃ ds, s = .ow ds ∧ l ≤ ds.length ∧ AV.gp xs ds
def AS.jn : AS → AS → AS
  | .va a, .va b => .va (a.jn b)
  | .ow l xs, .ow l' ys => .ow (min l l') (AV.jp xs ys)
  | _, _ => .un
theorem AS.jn_l (x y : AS) (s : SC) (h : x.g s) : (x.jn y).g s := by
  cases x <;> cases y <;> first | trivial | skip
  · obtain ⟨d, rfl, h⟩ := h
    exact ⟨d, rfl, DL.jn_l _ _ _ h⟩
  · obtain ⟨d, rfl, h1, h⟩ := h
    exact ⟨d, rfl, by omega, jp_l _ _ _ h⟩
theorem AS.jn_r (x y : AS) (s : SC) (h : y.g s) : (x.jn y).g s := by
  cases x <;> cases y <;> first | trivial | skip
  · obtain ⟨d, rfl, h⟩ := h
    exact ⟨d, rfl, DL.jn_r _ _ _ h⟩
  · obtain ⟨d, rfl, h1, h⟩ := h
    exact ⟨d, rfl, by omega, jp_r _ _ _ h⟩
abbrev AE := List AS
def GR : AE → Rho → Prop
  | [], ρ => ρ = []
  | a :: A, ρ => ∃ s r, ρ = s :: r ∧ a.g s ∧ GR A r
def jZ : AE → AE → AE
  | a :: A, b :: B => a.jn b :: jZ A B
  | _, _ => []
theorem jZ_l : ∀ {A B : AE} {ρ : Rho}, GR A ρ → A.length = B.length → GR (jZ A B) ρ
  | [], _, ρ, h, _ => by cases h; rfl
  | a :: A, [], ρ, h, l => by simp at l
  | a :: A, b :: B, ρ, h, l => by
    obtain ⟨s, r, rfl, h1, h2⟩ := h
    exact ⟨s, r, rfl, a.jn_l b s h1, jZ_l h2 (by simpa using l)⟩
theorem jZ_r : ∀ {A B : AE} {ρ : Rho}, GR B ρ → A.length = B.length → GR (jZ A B) ρ
  | [], [], ρ, h, _ => by cases h; rfl
  | [], b :: B, ρ, h, l => by simp at l
  | a :: A, [], ρ, h, l => by simp at l
  | a :: A, b :: B, ρ, h, l => by
    obtain ⟨s, r, rfl, h1, h2⟩ := h
    exact ⟨s, r, rfl, a.jn_r b s h1, jZ_r h2 (by simpa using l)⟩
theorem GR.get : ∀ {A : AE} {ρ : Rho} {i : Nat} {a : AS}, GR A ρ → A[i]? = some a → ∃ s, ρ[i]? = some s ∧ a.g s
  | [], ρ, i, a, _, e => by simp at e
  | b :: A, ρ, 0, a, h, e => by
    obtain ⟨s, r, rfl, h1, h2⟩ := h
    simp at e
    subst e
    exact ⟨s, rfl, h1⟩
  | b :: A, ρ, i + 1, a, h, e => by
    obtain ⟨s, r, rfl, h1, h2⟩ := h
    obtain ⟨s', q1, q2⟩ := GR.get (i := i) h2 (by simpa using e)
    exact ⟨s', by simpa using q1, q2⟩
theorem GR.set : ∀ {A : AE} {ρ : Rho} {i : Nat} {a : AS} {s : SC}, GR A ρ → a.g s → GR (A.set i a) (ρ.set i s)
  | [], ρ, i, a, s, h, _ => by cases h; rfl
  | b :: A, ρ, 0, a, s, h, hs => by
    obtain ⟨s', r, rfl, h1, h2⟩ := h
    exact ⟨s, r, rfl, hs, h2⟩
  | b :: A, ρ, i + 1, a, s, h, hs => by
    obtain ⟨s', r, rfl, h1, h2⟩ := h
    exact ⟨s', r.set i s, rfl, h1, GR.set h2 hs⟩
theorem GR.len : ∀ {A : AE} {ρ : Rho}, GR A ρ → ρ.length = A.length
  | [], _, h => by cases h; rfl
  | a :: A, _, h => by
    obtain ⟨s, r, rfl, _, h2⟩ := h
    simp [GR.len h2]
/-- an optional state: none where it is not reached -/
def OG (A : Option AE) (ρ : Rho) : Prop := ∃ B, A = some B ∧ GR B ρ
def jO : Option AE → Option AE → Option (Option AE)
  | some A, some B => if A.length = B.length then some (some (jZ A B)) else none
  | none, b => some b
  | a, none => some a
theorem jO_l {a b c : Option AE} {ρ : Rho} (e : jO a b = some c) (h : OG a ρ) : OG c ρ := by
  obtain ⟨A, rfl, h⟩ := h
  cases b with
  | none => cases e; exact ⟨A, rfl, h⟩
  | some B =>
    have e2 : (if A.length = B.length then some (some (jZ A B)) else none) = some c := e
    by_cases l : A.length = B.length
    · rw [if_pos l] at e2
      cases e2
      exact ⟨_, rfl, jZ_l h l⟩
    · rw [if_neg l] at e2
      cases e2
theorem jO_r {a b c : Option AE} {ρ : Rho} (e : jO a b = some c) (h : OG b ρ) : OG c ρ := by
  obtain ⟨A, rfl, h⟩ := h
  cases a with
  | none => cases e; exact ⟨A, rfl, h⟩
  | some B =>
    have e2 : (if B.length = A.length then some (some (jZ B A)) else none) = some c := e
    by_cases l : B.length = A.length
    · rw [if_pos l] at e2
      cases e2
      exact ⟨_, rfl, jZ_r h l⟩
    · rw [if_neg l] at e2
      cases e2
def jV : Option AV → Option AV → Option AV
  | some A, some B => some (A.jn B)
  | none, b => b
  | a, none => a
def VG (A : Option AV) (d : PyData) : Prop := ∃ T, A = some T ∧ T.g d
theorem jV_l {a b : Option AV} {d : PyData} (h : VG a d) : VG (jV a b) d := by
  obtain ⟨T, rfl, h⟩ := h
  cases b with
  | none => exact ⟨T, rfl, h⟩
  | some B => exact ⟨_, rfl, jn_l _ _ _ h⟩
theorem jV_r {a b : Option AV} {d : PyData} (h : VG b d) : VG (jV a b) d := by
  obtain ⟨T, rfl, h⟩ := h
  cases a with
  | none => exact ⟨T, rfl, h⟩
  | some B => exact ⟨_, rfl, jn_r _ _ _ h⟩
end DL

set_option linter.all false
set_option maxRecDepth 100000
set_option maxHeartbeats 4000000
namespace DL
open PySem L2
/-! ### operators -/
def AV.rg : AV → Option (Int × Int)
  | .int a b => some (a, b)
  | _ => none
def AV.nm : AV → Bool
  | .int _ _ => true
  | .num => true
  | _ => false
theorem rg_of {x : AV} {a b : Int} {d : PyData} (e : x.rg = some (a, b)) (h : x.g d) : ∃ i, d = .int i ∧ a ≤ i ∧ i ≤ b := by
  cases x with
  | int c d =>
    cases e
    unfold AV.g at h
    exact h
  | _ => cases e
theorem nm_of {x : AV} {d : PyData} (e : x.nm = true) (h : x.g d) : ∃ i, d = .int i := by
  cases x with
  | int c d =>
    unfold AV.g at h
    obtain ⟨i, rfl, _⟩ := h
    exact ⟨i, rfl⟩
  | num => unfold AV.g at h; exact h
  | _ => cases e
theorem g_int {a b i : Int} (h1 : a ≤ i) (h2 : i ≤ b) : (AV.int a b).g (.int i) := by unfold AV.g; exact ⟨i, rfl, h1, h2⟩
theorem g_num {i : Int} : AV.num.g (.int i) := by unfold AV.g; exact ⟨i, rfl⟩
theorem g_bo {b t f : Bool} (h1 : b = true → t = true) (h2 : b = false → f = true) : (AV.bo t f).g (.bool b) := by unfold AV.g; exact ⟨b, rfl, h1, h2⟩
theorem g_bb {b : Bool} : (AV.bo true true).g (.bool b) := g_bo (fun _ => rfl) (fun _ => rfl)
structure P2 where
  c : PyData → PyData → Option PyData
  a : AV → AV → Option AV
  ok : ∀ {x y T d e}, a x y = some T → x.g d → y.g e → ∃ r, c d e = some r ∧ T.g r
structure P1 where
  c : PyData → Option PyData
  a : AV → Option AV
  ok : ∀ {x T d}, a x = some T → x.g d → ∃ r, c d = some r ∧ T.g r
/-- two ints, known to lie between -/
def aI (f : Int → Int → Int → Int → Int × Int) (x y : AV) : Option AV := match x.rg, y.rg with
  | some (a, b), some (c, d) => some (.int (f a b c d).1 (f a b c d).2)
  | _, _ => if x.nm && y.nm then some .num else none
def pI (r : Int → Int → Int) (f : Int → Int → Int → Int → Int × Int) (h : ∀ a b c d i j, a ≤ i → i ≤ b → c ≤ j → j ≤ d → (f a b c d).1 ≤ r i j ∧ r i j ≤ (f a b c d).2) : P2 where
  c := gI0 fun i j => .int (r i j)
  a := aI f
  ok := fun {x y T d e} q hx hy => by
    unfold aI at q
    split at q
    · rename_i a b c d' e1 e2
      cases q
      obtain ⟨i, rfl, h1, h2⟩ := rg_of e1 hx
      obtain ⟨j, rfl, h3, h4⟩ := rg_of e2 hy
      obtain ⟨k1, k2⟩ := h a b c d' i j h1 h2 h3 h4
      exact ⟨_, rfl, g_int k1 k2⟩
    · split at q
      · rename_i hc
        cases q
        obtain ⟨c1, c2⟩ := Bool.and_eq_true_iff.mp hc
        obtain ⟨i, rfl⟩ := nm_of c1 hx
        obtain ⟨j, rfl⟩ := nm_of c2 hy
        exact ⟨_, rfl, g_num⟩
      · cases q
def pAdd : P2 := pI (fun i j => i + j) (fun a b c d => (a + c, b + d)) fun a b c d i j h1 h2 h3 h4 => by constructor <;> dsimp only <;> omega
def pSub : P2 := pI (fun i j => i - j) (fun a b c d => (a - d, b - c)) fun a b c d i j h1 h2 h3 h4 => by constructor <;> dsimp only <;> omega
/-- comparisons -/
def aC (f : Int → Int → Int → Int → Bool × Bool) (x y : AV) : Option AV := match x.rg, y.rg with
  | some (a, b), some (c, d) => some (.bo (f a b c d).1 (f a b c d).2)
  | _, _ => if x.nm && y.nm then some (.bo true true) else none
theorem aC_ok {f : Int → Int → Int → Int → Bool × Bool} {p : Int → Int → Bool} (h : ∀ a b c d i j, a ≤ i → i ≤ b → c ≤ j → j ≤ d → (p i j = true → (f a b c d).1 = true) ∧ (p i j = false → (f a b c d).2 = true)) {x y T : AV} {d e : PyData} (q : aC f x y = some T) (hx : x.g d) (hy : y.g e) :
    ∃ i j, d = .int i ∧ e = .int j ∧ T.g (.bool (p i j)) := by
  unfold aC at q
  split at q
  · rename_i a b c d' e1 e2
    cases q
    obtain ⟨i, rfl, h1, h2⟩ := rg_of e1 hx
    obtain ⟨j, rfl, h3, h4⟩ := rg_of e2 hy
    obtain ⟨k1, k2⟩ := h a b c d' i j h1 h2 h3 h4
    exact ⟨i, j, rfl, rfl, g_bo k1 k2⟩
  · split at q
    · rename_i hc
      cases q
      obtain ⟨c1, c2⟩ := Bool.and_eq_true_iff.mp hc
      obtain ⟨i, rfl⟩ := nm_of c1 hx
      obtain ⟨j, rfl⟩ := nm_of c2 hy
      exact ⟨i, j, rfl, rfl, g_bb⟩
    · cases q
def pC (p : Int → Int → Bool) (f : Int → Int → Int → Int → Bool × Bool) (h : ∀ a b c d i j, a ≤ i → i ≤ b → c ≤ j → j ≤ d → (p i j = true → (f a b c d).1 = true) ∧ (p i j = false → (f a b c d).2 = true)) : P2 where
  c := gI0 fun i j => .bool (p i j)
  a := aC f
  ok := fun q hx hy => by
    obtain ⟨i, j, rfl, rfl, k⟩ := aC_ok h q hx hy
    exact ⟨_, rfl, k⟩
def pLt : P2 := pC (fun i j => decide (i < j)) (fun a b c d => (decide (a < d), decide (c ≤ b))) fun a b c d i j h1 h2 h3 h4 => by simp only [decide_eq_true_eq, decide_eq_false_iff_not]; exact ⟨fun h => by omega, fun h => by omega⟩
def pLe : P2 := pC (fun i j => decide (i ≤ j)) (fun a b c d => (decide (a ≤ d), decide (c < b))) fun a b c d i j h1 h2 h3 h4 => by simp only [decide_eq_true_eq, decide_eq_false_iff_not]; exact ⟨fun h => by omega, fun h => by omega⟩
def pGt : P2 := pC (fun i j => decide (j < i)) (fun a b c d => (decide (c < b), decide (a ≤ d))) fun a b c d i j h1 h2 h3 h4 => by simp only [decide_eq_true_eq, decide_eq_false_iff_not]; exact ⟨fun h => by omega, fun h => by omega⟩
def pGe : P2 := pC (fun i j => decide (j ≤ i)) (fun a b c d => (decide (c ≤ b), decide (a < d))) fun a b c d i j h1 h2 h3 h4 => by simp only [decide_eq_true_eq, decide_eq_false_iff_not]; exact ⟨fun h => by omega, fun h => by omega⟩
def fEq (a b c d : Int) : Bool × Bool := (decide (a ≤ d) && decide (c ≤ b), !(decide (a = b) && (decide (c = d) && decide (a = c))))
theorem fEq_ok : ∀ a b c d i j : Int, a ≤ i → i ≤ b → c ≤ j → j ≤ d → (decide (i = j) = true → (fEq a b c d).1 = true) ∧ (decide (i = j) = false → (fEq a b c d).2 = true) := fun a b c d i j h1 h2 h3 h4 => by
  unfold fEq
  simp only [decide_eq_true_eq, decide_eq_false_iff_not, Bool.and_eq_true, Bool.not_eq_true', Bool.and_eq_false_iff]
  refine ⟨fun h => by omega, fun h => ?_⟩
  by_cases c1 : a = b
  · by_cases c2 : c = d
    · by_cases c3 : a = c
      · omega
      · exact .inr (.inr c3)
    · exact .inr (.inl c2)
  · exact .inl c1
def pEq : P2 where
  c := gEq
  a := aC fEq
  ok := fun q hx hy => by
    obtain ⟨i, j, rfl, rfl, k⟩ := aC_ok fEq_ok q hx hy
    exact ⟨_, gEq_i, k⟩
def pNe : P2 where
  c := gNe
  a := aC fun a b c d => ((fEq a b c d).2, (fEq a b c d).1)
  ok := fun q hx hy => by
    obtain ⟨i, j, rfl, rfl, k⟩ := aC_ok (p := fun i j => !decide (i = j)) (fun a b c d i j h1 h2 h3 h4 => by
      obtain ⟨k1, k2⟩ := fEq_ok a b c d i j h1 h2 h3 h4
      exact ⟨fun h => k2 (by simpa using h), fun h => k1 (by simpa using h)⟩) q hx hy
    exact ⟨_, gNe_i, k⟩
/-- products -/
def min4 (a b c d : Int) : Int := min (min a b) (min c d)
def max4 (a b c d : Int) : Int := max (max a b) (max c d)
theorem lin_mul {a b i j : Int} (h1 : a ≤ i) (h2 : i ≤ b) : min (a * j) (b * j) ≤ i * j ∧ i * j ≤ max (a * j) (b * j) := by
  rcases Int.le_total 0 j with h | h
  · have k1 := Int.mul_le_mul_of_nonneg_right h1 h
    have k2 := Int.mul_le_mul_of_nonneg_right h2 h
    omega
  · have k1 := Int.mul_le_mul_of_nonpos_right h1 h
    have k2 := Int.mul_le_mul_of_nonpos_right h2 h
    omega
theorem mul_rg {a b c d i j : Int} (h1 : a ≤ i) (h2 : i ≤ b) (h3 : c ≤ j) (h4 : j ≤ d) : min4 (a * c) (a * d) (b * c) (b * d) ≤ i * j ∧ i * j ≤ max4 (a * c) (a * d) (b * c) (b * d) := by
  have k := lin_mul (j := j) h1 h2
  have k1 := lin_mul (j := a) h3 h4
  have k2 := lin_mul (j := b) h3 h4
  rw [Int.mul_comm c a, Int.mul_comm d a, Int.mul_comm j a] at k1
  rw [Int.mul_comm c b, Int.mul_comm d b, Int.mul_comm j b] at k2
  unfold min4 max4
  omega
def small (a b : Int) : Bool := decide (a.natAbs < 2 ^ 4000) && decide (b.natAbs < 2 ^ 4000)
theorem small_of {a b i : Int} (h : small a b = true) (h1 : a ≤ i) (h2 : i ≤ b) : i.natAbs < 2 ^ 4000 := by
  unfold small at h
  simp only [Bool.and_eq_true, decide_eq_true_eq] at h
  obtain ⟨k1, k2⟩ := h
  generalize (2 : Nat) ^ 4000 = N at *
  omega
def aMul (x y : AV) : Option AV := match x.rg, y.rg with
  | some (a, b), some (c, d) => if small a b && small c d then some (.int (min4 (a * c) (a * d) (b * c) (b * d)) (max4 (a * c) (a * d) (b * c) (b * d))) else none
  | _, _ => none
def pMul : P2 where
  c := gMul
  a := aMul
  ok := fun {x y T d e} q hx hy => by
    unfold aMul at q
    split at q
    · rename_i a b c d' e1 e2
      split at q
      · rename_i hs
        cases q
        obtain ⟨s1, s2⟩ := Bool.and_eq_true_iff.mp hs
        obtain ⟨i, rfl, h1, h2⟩ := rg_of e1 hx
        obtain ⟨j, rfl, h3, h4⟩ := rg_of e2 hy
        obtain ⟨k1, k2⟩ := mul_rg h1 h2 h3 h4
        exact ⟨_, if_pos (mulW (small_of s1 h1 h2) (small_of s2 h3 h4) (by decide)), g_int k1 k2⟩
      · cases q
    · cases q
def aMod (x y : AV) : Option AV := match y.rg with
  | some (c, d) => if x.nm && decide (0 < c) then some (.int 0 (d - 1)) else none
  | _ => none
def pMod : P2 where
  c := gMod
  a := aMod
  ok := fun {x y T d e} q hx hy => by
    unfold aMod at q
    split at q
    · rename_i c d' e2
      split at q
      · rename_i hs
        cases q
        obtain ⟨s1, s2⟩ := Bool.and_eq_true_iff.mp hs
        have s2 := of_decide_eq_true s2
        obtain ⟨i, rfl⟩ := nm_of s1 hx
        obtain ⟨j, rfl, h3, h4⟩ := rg_of e2 hy
        have j0 : 0 < j := by omega
        have k1 := Int.emod_nonneg i (show j ≠ 0 by omega)
        have k2 := Int.emod_lt_of_pos i j0
        exact ⟨_, gMod_p j0, g_int k1 (by omega)⟩
      · cases q
    · cases q
theorem div_rg {i j : Int} (h : 0 < j) : min i 0 ≤ i / j ∧ i / j ≤ max i 0 := by
  have k1 := Int.emod_add_mul_ediv i j
  have k2 := Int.emod_nonneg i (show j ≠ 0 by omega)
  have k3 := Int.emod_lt_of_pos i h
  generalize i / j = q at *
  constructor
  · rcases Int.lt_or_le q 0 with c | c
    · have := Int.mul_le_mul_of_nonpos_right (show 1 ≤ j by omega) (show q + 1 ≤ 0 by omega)
      rw [Int.mul_add] at this
      omega
    · omega
  · rcases Int.le_total 0 q with c | c
    · have := Int.mul_le_mul_of_nonneg_right (show 1 ≤ j by omega) c
      omega
    · omega
def aDiv (x y : AV) : Option AV := match x.rg, y.rg with
  | some (a, b), some (c, d) => if decide (0 < c) && decide (d < 2 ^ 64) then (if c = d then some (.int (a / c) (b / c)) else some (.int (min a 0) (max b 0))) else none
  | _, some (c, d) => if x.nm && (decide (0 < c) && decide (d < 2 ^ 64)) then some .num else none
  | _, _ => none
theorem log64 {j : Int} (h : 0 < j) (h2 : j < 2 ^ 64) : j.natAbs.log2 < 9000 := by
  have : j.natAbs < 2 ^ 64 := by omega
  exact Nat.lt_of_lt_of_le (PySem.Flt.log2_lt_of (by decide) this) (by decide)
def pDiv : P2 where
  c := gFdiv
  a := aDiv
  ok := fun {x y T d e} q hx hy => by
    unfold aDiv at q
    split at q
    · rename_i a b c d' e1 e2
      split at q
      · rename_i hs
        obtain ⟨s1, s2⟩ := Bool.and_eq_true_iff.mp hs
        have s1 := of_decide_eq_true s1
        have s2 := of_decide_eq_true s2
        obtain ⟨i, rfl, h1, h2⟩ := rg_of e1 hx
        obtain ⟨j, rfl, h3, h4⟩ := rg_of e2 hy
        have j0 : 0 < j := by omega
        refine ⟨_, gFdiv_p j0 (log64 j0 (by omega)), ?_⟩
        split at q
        · rename_i hcd
          cases q
          have : j = c := by omega
          subst this
          exact g_int (Int.ediv_le_ediv j0 h1) (Int.ediv_le_ediv j0 h2)
        · cases q
          obtain ⟨k1, k2⟩ := div_rg (i := i) j0
          exact g_int (by omega) (by omega)
      · cases q
    · rename_i c d' e2 _
      split at q
      · rename_i hs
        cases q
        obtain ⟨s0, hs⟩ := Bool.and_eq_true_iff.mp hs
        obtain ⟨s1, s2⟩ := Bool.and_eq_true_iff.mp hs
        have s1 := of_decide_eq_true s1
        have s2 := of_decide_eq_true s2
        obtain ⟨i, rfl⟩ := nm_of s0 hx
        obtain ⟨j, rfl, h3, h4⟩ := rg_of e2 hy
        have j0 : 0 < j := by omega
        exact ⟨_, gFdiv_p j0 (log64 j0 (by omega)), g_num⟩
      · cases q
    · cases q
def aPow (x y : AV) : Option AV := match x.rg, y.rg with
  | some (a, b), some (c, d) => if a = b ∧ c = d ∧ CPow a c then some (.int (a ^ c.toNat) (a ^ c.toNat)) else none
  | _, _ => none
def pPow : P2 where
  c := gPow
  a := aPow
  ok := fun {x y T d e} q hx hy => by
    unfold aPow at q
    split at q
    · rename_i a b c d' e1 e2
      split at q
      · rename_i hs
        cases q
        obtain ⟨rfl, rfl, h⟩ := hs
        obtain ⟨i, rfl, h1, h2⟩ := rg_of e1 hx
        obtain ⟨j, rfl, h3, h4⟩ := rg_of e2 hy
        have e1 : i = a := by omega
        have e2 : j = c := by omega
        subst e1 e2
        refine ⟨.int (i ^ j.toNat), if_pos h, g_int (Int.le_refl _) (Int.le_refl _)⟩
      · cases q
    · cases q
/-- an item -/
def jnL : List AV → Option AV
  | [] => none
  | [x] => some x
  | x :: y :: r => (jnL (y :: r)).map fun z => x.jn z
theorem jnL_ok : ∀ {xs : List AV} {T x : AV} {d : PyData}, jnL xs = some T → x ∈ xs → x.g d → T.g d
  | [], T, x, d, h, _, _ => by cases h
  | [a], T, x, d, h, hx, hd => by
    cases h
    obtain rfl : x = a := by simpa using hx
    exact hd
  | a :: b :: r, T, x, d, h, hx, hd => by
    unfold jnL at h
    obtain ⟨z, h1, rfl⟩ := Option.map_eq_some_iff.mp h
    rcases List.mem_cons.mp hx with rfl | hx
    · exact jn_l _ _ _ hd
    · exact jn_r _ _ _ (jnL_ok h1 hx hd)
theorem gp_get : ∀ {xs : List AV} {ds : List PyData} {i : Nat}, AV.gp xs ds → i < ds.length → ∃ x d, xs[i]? = some x ∧ ds[i]? = some d ∧ x.g d
  | [], ds, i, h, hi => by
    unfold AV.gp at h
    subst h
    simp at hi
  | x :: xs, ds, i, h, hi => by
    unfold AV.gp at h
    rcases h with rfl | ⟨d, r, rfl, h1, h2⟩
    · simp at hi
    · cases i with
      | zero => exact ⟨x, d, rfl, rfl, h1⟩
      | succ i =>
        obtain ⟨x', d', q1, q2, q3⟩ := gp_get (i := i) h2 (by simpa using hi)
        exact ⟨x', d', by simpa using q1, by simpa using q2, q3⟩
theorem gp_len : ∀ {xs : List AV} {ds : List PyData}, AV.gp xs ds → ds.length ≤ xs.length
  | [], ds, h => by unfold AV.gp at h; subst h; simp
  | x :: xs, ds, h => by
    unfold AV.gp at h
    rcases h with rfl | ⟨d, r, rfl, h1, h2⟩
    · simp
    · have := gp_len h2
      simp
      omega
def ixA (l : Nat) (xs : List AV) (a b : Int) : Option AV :=
  if 0 ≤ a ∧ b < l then jnL ((xs.drop a.toNat).take (b - a + 1).toNat)
  else if b < 0 ∧ l = xs.length ∧ 0 ≤ a + l then jnL ((xs.drop (a + l).toNat).take (b - a + 1).toNat) else none
theorem ixA_ok {l : Nat} {xs : List AV} {a b i : Int} {T : AV} {ds : List PyData} (e : ixA l xs a b = some T) (hl : l ≤ ds.length) (h : AV.gp xs ds) (h1 : a ≤ i) (h2 : i ≤ b) : ∃ d, atI ds i = some d ∧ T.g d := by
  unfold ixA at e
  split at e
  · rename_i hc
    obtain ⟨n, rfl⟩ : ∃ n : Nat, i = n := ⟨i.toNat, by omega⟩
    obtain ⟨x, d, q1, q2, q3⟩ := gp_get (i := n) h (by omega)
    refine ⟨d, by rw [atI_nat']; exact q2, jnL_ok e ?_ q3⟩
    apply List.mem_of_getElem? (i := n - a.toNat)
    rw [List.getElem?_take, if_pos (by omega), List.getElem?_drop, show a.toNat + (n - a.toNat) = n by omega]
    exact q1
  · split at e
    · rename_i hc
      obtain ⟨c1, c2, c3⟩ := hc
      have hle := gp_len h
      have hlen : ds.length = l := by omega
      obtain ⟨n, hn⟩ : ∃ n : Nat, i + l = n := ⟨(i + l).toNat, by omega⟩
      obtain ⟨x, d, q1, q2, q3⟩ := gp_get (i := n) h (by omega)
      refine ⟨d, ?_, jnL_ok e ?_ q3⟩
      · unfold atI ixN
        rw [if_neg (by omega)]
        rw [hlen, if_pos (by omega)]
        have : (i + (l : Int)).toNat = n := by omega
        simp only [Option.bind_some, this]
        exact q2
      · apply List.mem_of_getElem? (i := n - (a + l).toNat)
        rw [List.getElem?_take, if_pos (by omega), List.getElem?_drop, show (a + l).toNat + (n - (a + l).toNat) = n by omega]
        exact q1
    · cases e
def aIx (x y : AV) : Option AV := match x, y with
  | .seq k l xs, .int a b => ixA l xs a b
  | _, _ => none
def pIx : P2 where
  c := gIx
  a := aIx
  ok := fun {x y T d e} q hx hy => by
    unfold aIx at q
    split at q
    · unfold AV.g at hx hy
      obtain ⟨ds, rfl, h1, h2⟩ := hx
      obtain ⟨i, rfl, h3, h4⟩ := hy
      rw [gIx_sq]
      exact ixA_ok q h1 h2 h3 h4
    · cases q
/-! ### one operand -/
def aNeg (x : AV) : Option AV := match x.rg with
  | some (a, b) => some (.int (-b) (-a))
  | none => if x.nm then some .num else none
def pNeg : P1 where
  c := gNeg
  a := aNeg
  ok := fun {x T d} q hx => by
    unfold aNeg at q
    split at q
    · rename_i a b e
      cases q
      obtain ⟨i, rfl, h1, h2⟩ := rg_of e hx
      exact ⟨_, rfl, g_int (by omega) (by omega)⟩
    · split at q
      · rename_i c
        cases q
        obtain ⟨i, rfl⟩ := nm_of c hx
        exact ⟨_, rfl, g_num⟩
      · cases q
def aNot (x : AV) : Option AV := match x with
  | .bo t f => some (.bo f t)
  | _ => none
def pNot : P1 where
  c := gNot
  a := aNot
  ok := fun {x T d} q hx => by
    unfold aNot at q
    split at q
    · cases q
      unfold AV.g at hx
      obtain ⟨b, rfl, h1, h2⟩ := hx
      exact ⟨_, rfl, g_bo (fun z => h2 (by simpa using z)) (fun z => h1 (by simpa using z))⟩
    · cases q
end DL

set_option linter.all false
set_option maxRecDepth 100000
set_option maxHeartbeats 4000000
namespace DL
open PySem L2
structure PV where
  c : EV
  a : AE → Option AV
  ok : ∀ {A T ρ}, a A = some T → GR A ρ → ∃ d, c ρ = some d ∧ T.g d
structure PA where
  c : EA
  a : AE → Option (Nat × List AV)
  ok : ∀ {A l xs ρ}, a A = some (l, xs) → GR A ρ → ∃ ds, c ρ = some ds ∧ l ≤ ds.length ∧ AV.gp xs ds
structure PB where
  c : EB
  a : AE → Option (Option AE × Option AE)
  ok : ∀ {A t f ρ}, a A = some (t, f) → GR A ρ → ∃ b, c ρ = some b ∧ (b = true → OG t ρ) ∧ (b = false → OG f ρ)
structure PF where
  c : List PyData → Option PyData
  a : List AV → Option AV
  ok : ∀ {xs T ds}, a xs = some T → AV.gp xs ds → ds.length = xs.length → ∃ d, c ds = some d ∧ T.g d
structure PG where
  c : EG
  a : AV → AE → Option AE
  ok : ∀ {x A A' ρ d}, a x A = some A' → x.g d → GR A ρ → ∃ ρ', c d ρ = some ρ' ∧ GR A' ρ'
structure PGs where
  c : List PyData → Rho → Option Rho
  a : List AV → AE → Option AE
  ok : ∀ {xs A A' ρ ds}, a xs A = some A' → AV.gp xs ds → ds.length = xs.length → GR A ρ → ∃ ρ', c ds ρ = some ρ' ∧ GR A' ρ'
/-! ### constants -/
mutual
def AV.ofD : PyData → AV
  | .none => .non
  | .bool b => .bo b (!b)
  | .int i => .int i i
  | .list ds => .seq false ds.length (AV.ofDs ds)
  | .tuple ds => .seq true ds.length (AV.ofDs ds)
  | .str _ => .any
  | .dict _ => .any
def AV.ofDs : List PyData → List AV
  | [] => []
  | d :: ds => AV.ofD d :: AV.ofDs ds
end
mutual
theorem ofD_ok : ∀ d : PyData, (AV.ofD d).g d
  | .none => by unfold AV.ofD AV.g; rfl
  | .bool b => by unfold AV.ofD AV.g; exact ⟨b, rfl, fun h => h, fun h => by simp [h]⟩
  | .int i => by unfold AV.ofD AV.g; exact ⟨i, rfl, Int.le_refl _, Int.le_refl _⟩
  | .list ds => by unfold AV.ofD AV.g; exact ⟨ds, rfl, Nat.le_refl _, ofDs_ok ds⟩
  | .tuple ds => by unfold AV.ofD AV.g; exact ⟨ds, rfl, Nat.le_refl _, ofDs_ok ds⟩
  | .str _ => by unfold AV.ofD AV.g; trivial
  | .dict _ => by unfold AV.ofD AV.g; trivial
theorem ofDs_ok : ∀ ds : List PyData, AV.gp (AV.ofDs ds) ds
  | [] => by unfold AV.ofDs AV.gp; rfl
  | d :: ds => by unfold AV.ofDs AV.gp; exact .inr ⟨d, ds, rfl, ofD_ok d, ofDs_ok ds⟩
end
def pC_ (d : PyData) : PV where
  c := eC d
  a := fun _ => some (AV.ofD d)
  ok := fun q _ => by cases q; exact ⟨d, rfl, ofD_ok d⟩
def pVar (i : Nat) : PV where
  c := eVar i
  a := fun A => match A[i]? with
    | some (.va a) => some a
    | _ => none
  ok := fun {A T ρ} q h => by
    split at q
    · rename_i a e
      cases q
      obtain ⟨s, e1, d, rfl, e2⟩ := h.get e
      exact ⟨d, by unfold eVar; rw [e1], e2⟩
    · cases q
def pBin (o : P2) (p q : PV) : PV where
  c := eBin o.c p.c q.c
  a := fun A => (p.a A).bind fun x => (q.a A).bind fun y => o.a x y
  ok := fun {A T ρ} e h => by
    obtain ⟨x, e1, e⟩ := bind_some e
    obtain ⟨y, e2, e⟩ := bind_some e
    obtain ⟨d, k1, g1⟩ := p.ok e1 h
    obtain ⟨d', k2, g2⟩ := q.ok e2 h
    obtain ⟨r, k3, g3⟩ := o.ok e g1 g2
    exact ⟨r, by unfold eBin; rw [k1, Option.bind_some, k2, Option.bind_some, k3], g3⟩
def pUn (o : P1) (p : PV) : PV where
  c := eUn o.c p.c
  a := fun A => (p.a A).bind o.a
  ok := fun {A T ρ} e h => by
    obtain ⟨x, e1, e⟩ := bind_some e
    obtain ⟨d, k1, g1⟩ := p.ok e1 h
    obtain ⟨r, k3, g3⟩ := o.ok e g1
    exact ⟨r, by unfold eUn; rw [k1, Option.bind_some, k3], g3⟩
/-! ### lists of arguments -/
def pNil : PA where
  c := aNil
  a := fun _ => some (0, [])
  ok := fun q _ => by cases q; exact ⟨[], rfl, Nat.le_refl _, gp_nil _⟩
def pCons (p : PV) (r : PA) : PA where
  c := aCons p.c r.c
  a := fun A => (p.a A).bind fun x => (r.a A).bind fun y => some (y.1 + 1, x :: y.2)
  ok := fun {A l xs ρ} e h => by
    obtain ⟨x, e1, e⟩ := bind_some e
    obtain ⟨⟨m, ys⟩, e2, e⟩ := bind_some e
    cases e
    obtain ⟨d, k1, g1⟩ := p.ok e1 h
    obtain ⟨ds, k2, g2, g3⟩ := r.ok e2 h
    refine ⟨d :: ds, by unfold aCons; rw [k1, Option.bind_some, k2]; rfl, by simpa using g2, ?_⟩
    unfold AV.gp
    exact .inr ⟨d, ds, rfl, g1, g3⟩
def pTup (r : PA) : PV where
  c := eTup r.c
  a := fun A => (r.a A).map fun y => .seq true y.1 y.2
  ok := fun {A T ρ} e h => by
    obtain ⟨⟨m, ys⟩, e1, rfl⟩ := Option.map_eq_some_iff.mp e
    obtain ⟨ds, k2, g2, g3⟩ := r.ok e1 h
    refine ⟨.tuple ds, by unfold eTup; rw [k2]; rfl, ?_⟩
    unfold AV.g
    exact ⟨ds, rfl, g2, g3⟩
def pOfF (r : PA) : PV where
  c := eOfF r.c
  a := fun A => (r.a A).map fun y => .seq false y.1 y.2
  ok := fun {A T ρ} e h => by
    obtain ⟨⟨m, ys⟩, e1, rfl⟩ := Option.map_eq_some_iff.mp e
    obtain ⟨ds, k2, g2, g3⟩ := r.ok e1 h
    refine ⟨.list ds, by unfold eOfF; rw [k2]; rfl, ?_⟩
    unfold AV.g
    exact ⟨ds, rfl, g2, g3⟩
/-- arguments, all there -/
def allA (f : List AV → Option AV) (y : Nat × List AV) : Option AV := if y.1 = y.2.length then f y.2 else none
theorem allA_ok (f : PF) {y : Nat × List AV} {T : AV} {ds : List PyData} (e : allA f.a y = some T) (h1 : y.1 ≤ ds.length) (h2 : AV.gp y.2 ds) : ∃ d, f.c ds = some d ∧ T.g d := by
  unfold allA at e
  split at e
  · rename_i c
    have := gp_len h2
    exact f.ok e h2 (by omega)
  · cases e
def pCall (f : PF) (r : PA) : PV where
  c := eCall f.c r.c
  a := fun A => (r.a A).bind (allA f.a)
  ok := fun {A T ρ} e h => by
    obtain ⟨⟨m, ys⟩, e1, e⟩ := bind_some e
    obtain ⟨ds, k2, g2, g3⟩ := r.ok e1 h
    obtain ⟨d, k3, g4⟩ := allA_ok f e g2 g3
    exact ⟨d, by unfold eCall; rw [k2, Option.bind_some, k3], g4⟩
def pAll (f : PF) (r : PA) : PV where
  c := eAll f.c r.c
  a := fun A => (r.a A).bind (allA f.a)
  ok := fun {A T ρ} e h => by
    obtain ⟨⟨m, ys⟩, e1, e⟩ := bind_some e
    obtain ⟨ds, k2, g2, g3⟩ := r.ok e1 h
    obtain ⟨d, k3, g4⟩ := allA_ok f e g2 g3
    exact ⟨d, by unfold eAll; rw [k2, Option.bind_some, k3], g4⟩
theorem gp_one {x : AV} {ds : List PyData} (h : AV.gp [x] ds) (l : ds.length = 1) : ∃ d, ds = [d] ∧ x.g d := by
  unfold AV.gp at h
  rcases h with rfl | ⟨d, r, rfl, h1, h2⟩
  · simp at l
  · unfold AV.gp at h2
    subst h2
    exact ⟨d, rfl, h1⟩
theorem gp_two {x y : AV} {ds : List PyData} (h : AV.gp [x, y] ds) (l : ds.length = 2) : ∃ d e, ds = [d, e] ∧ x.g d ∧ y.g e := by
  unfold AV.gp at h
  rcases h with rfl | ⟨d, r, rfl, h1, h2⟩
  · simp at l
  · obtain ⟨e, rfl, h3⟩ := gp_one h2 (by simpa using l)
    exact ⟨d, e, rfl, h1, h3⟩
theorem gp_three {x y z : AV} {ds : List PyData} (h : AV.gp [x, y, z] ds) (l : ds.length = 3) : ∃ d e f, ds = [d, e, f] ∧ x.g d ∧ y.g e ∧ z.g f := by
  unfold AV.gp at h
  rcases h with rfl | ⟨d, r, rfl, h1, h2⟩
  · simp at l
  · obtain ⟨e, f, rfl, h3, h4⟩ := gp_two h2 (by simpa using l)
    exact ⟨d, e, f, rfl, h1, h3, h4⟩
/-! ### built-in functions -/
def pF1 (c : List PyData → Option PyData) (f : AV → Option AV) (ok : ∀ {x T d}, f x = some T → x.g d → ∃ r, c [d] = some r ∧ T.g r) : PF where
  c := c
  a := fun xs => match xs with
    | [x] => f x
    | _ => none
  ok := fun {xs T ds} q h l => by
    split at q
    · obtain ⟨d, rfl, g⟩ := gp_one h l
      exact ok q g
    · cases q
def pF2 (c : List PyData → Option PyData) (f : AV → AV → Option AV) (ok : ∀ {x y T d e}, f x y = some T → x.g d → y.g e → ∃ r, c [d, e] = some r ∧ T.g r) : PF where
  c := c
  a := fun xs => match xs with
    | [x, y] => f x y
    | _ => none
  ok := fun {xs T ds} q h l => by
    split at q
    · obtain ⟨d, e, rfl, g1, g2⟩ := gp_two h l
      exact ok q g1 g2
    · cases q
def aLen (x : AV) : Option AV := match x with
  | .seq _ l xs => some (.int l xs.length)
  | _ => none
def pLen : PF := pF1 mLen aLen fun {x T d} q h => by
  unfold aLen at q
  split at q
  · cases q
    unfold AV.g at h
    obtain ⟨ds, rfl, h1, h2⟩ := h
    have := gp_len h2
    refine ⟨.int ds.length, ?_, g_int (by omega) (by omega)⟩
    rename_i k _ _
    cases k <;> rfl
  · cases q
def aInt (x : AV) : Option AV := match x with
  | .int a b => some (.int a b)
  | .num => some .num
  | .bo t f => some (.int (if f then 0 else 1) (if t then 1 else 0))
  | _ => none
def pInt : PF := pF1 mInt aInt fun {x T d} q h => by
  unfold aInt at q
  split at q
  · cases q
    have h' := h
    unfold AV.g at h
    obtain ⟨i, rfl, _⟩ := h
    exact ⟨_, rfl, h'⟩
  · cases q
    have h' := h
    unfold AV.g at h
    obtain ⟨i, rfl⟩ := h
    exact ⟨_, rfl, h'⟩
  · cases q
    unfold AV.g at h
    obtain ⟨b, rfl, h1, h2⟩ := h
    refine ⟨_, rfl, ?_⟩
    cases b
    · simp only [h2 rfl, if_true, if_false, Bool.false_eq_true]
      exact g_int (Int.le_refl _) (by split <;> omega)
    · simp only [h1 rfl, if_true]
      exact g_int (by split <;> omega) (Int.le_refl _)
  · cases q
def aAbs (x : AV) : Option AV := match x with
  | .int a b => some (.int (if a ≤ 0 ∧ 0 ≤ b then 0 else min (if a < 0 then -a else a) (if b < 0 then -b else b)) (max (if a < 0 then -a else a) (if b < 0 then -b else b)))
  | .num => some .num
  | _ => none
def pAbs : PF := pF1 mAbs aAbs fun {x T d} q h => by
  unfold aAbs at q
  split at q
  · cases q
    unfold AV.g at h
    obtain ⟨i, rfl, h1, h2⟩ := h
    exact ⟨_, rfl, g_int (by split <;> (repeat' split) <;> omega) (by (repeat' split) <;> omega)⟩
  · cases q
    unfold AV.g at h
    obtain ⟨i, rfl⟩ := h
    exact ⟨_, rfl, g_num⟩
  · cases q
def aTup (k : Bool) (x : AV) : Option AV := match x with
  | .seq _ l xs => some (.seq k l xs)
  | _ => none
def pTuple : PF := pF1 mTuple (aTup true) fun {x T d} q h => by
  unfold aTup at q
  split at q
  · cases q
    unfold AV.g at h
    obtain ⟨ds, rfl, h1, h2⟩ := h
    refine ⟨.tuple ds, ?_, ?_⟩
    · rename_i k _ _
      cases k <;> rfl
    · unfold AV.g
      exact ⟨ds, rfl, h1, h2⟩
  · cases q
def pMax2 : PF := pF2 mMax2 (aI fun a b c d => (max a c, max b d)) fun {x y T d e} q hx hy => by
  unfold aI at q
  split at q
  · rename_i e1 e2
    cases q
    obtain ⟨i, rfl, h1, h2⟩ := rg_of e1 hx
    obtain ⟨j, rfl, h3, h4⟩ := rg_of e2 hy
    exact ⟨_, rfl, g_int (by dsimp only; split <;> omega) (by dsimp only; split <;> omega)⟩
  · split at q
    · rename_i hc
      cases q
      obtain ⟨c1, c2⟩ := Bool.and_eq_true_iff.mp hc
      obtain ⟨i, rfl⟩ := nm_of c1 hx
      obtain ⟨j, rfl⟩ := nm_of c2 hy
      exact ⟨_, rfl, g_num⟩
    · cases q
def pMin2 : PF := pF2 mMin2 (aI fun a b c d => (min a c, min b d)) fun {x y T d e} q hx hy => by
  unfold aI at q
  split at q
  · rename_i e1 e2
    cases q
    obtain ⟨i, rfl, h1, h2⟩ := rg_of e1 hx
    obtain ⟨j, rfl, h3, h4⟩ := rg_of e2 hy
    exact ⟨_, rfl, g_int (by dsimp only; split <;> omega) (by dsimp only; split <;> omega)⟩
  · split at q
    · rename_i hc
      cases q
      obtain ⟨c1, c2⟩ := Bool.and_eq_true_iff.mp hc
      obtain ⟨i, rfl⟩ := nm_of c1 hx
      obtain ⟨j, rfl⟩ := nm_of c2 hy
      exact ⟨_, rfl, g_num⟩
    · cases q
/-! ### truth -/
def AV.flat : AV → Bool
  | .int _ _ => true
  | .num => true
  | .bo _ _ => true
  | .non => true
  | _ => false
theorem flat_of {x : AV} {d : PyData} (e : x.flat = true) (h : x.g d) : flat d = true := by
  cases x with
  | int a b => unfold AV.g at h; obtain ⟨i, rfl, _⟩ := h; rfl
  | num => unfold AV.g at h; obtain ⟨i, rfl⟩ := h; rfl
  | bo t f => unfold AV.g at h; obtain ⟨b, rfl, _⟩ := h; rfl
  | non => unfold AV.g at h; subst h; rfl
  | any => cases e
  | seq k l xs => cases e
def when (b : Bool) (A : AE) : Option AE := if b then some A else none
def pVal (p : PV) : PB where
  c := bVal p.c
  a := fun A => match p.a A with
    | some (.bo t f) => some (when t A, when f A)
    | _ => none
  ok := fun {A t f ρ} e h => by
    split at e
    · rename_i t f e1
      cases e
      obtain ⟨d, k1, g1⟩ := p.ok e1 h
      unfold AV.g at g1
      obtain ⟨b, rfl, h1, h2⟩ := g1
      refine ⟨b, by unfold bVal; rw [k1]; rfl, fun z => ?_, fun z => ?_⟩
      · rw [h1 z]; exact ⟨A, rfl, h⟩
      · rw [h2 z]; exact ⟨A, rfl, h⟩
    · cases e
def pYes : PB where
  c := bYes
  a := fun A => some (some A, none)
  ok := fun {A t f ρ} e h => by
    cases e
    exact ⟨true, rfl, fun _ => ⟨A, rfl, h⟩, fun z => by cases z⟩
def pNotB (p : PB) : PB where
  c := bNot p.c
  a := fun A => (p.a A).map fun r => (r.2, r.1)
  ok := fun {A t f ρ} e h => by
    obtain ⟨⟨t', f'⟩, e1, e2⟩ := Option.map_eq_some_iff.mp e
    cases e2
    obtain ⟨b, k1, h1, h2⟩ := p.ok e1 h
    exact ⟨!b, by unfold bNot; rw [k1]; rfl, fun z => h2 (by simpa using z), fun z => h1 (by simpa using z)⟩
def ifB (o : Option AE) (f : AE → Option (Option AE × Option AE)) : Option (Option AE × Option AE) := match o with
  | some A => f A
  | none => some (none, none)
def pAndB (p q : PB) : PB where
  c := bAnd p.c q.c
  a := fun A => (p.a A).bind fun r => (ifB r.1 q.a).bind fun s => (jO r.2 s.2).map fun f => (s.1, f)
  ok := fun {A t f ρ} e h => by
    obtain ⟨⟨t1, f1⟩, e1, e⟩ := bind_some e
    obtain ⟨⟨t2, f2⟩, e2, e⟩ := bind_some e
    obtain ⟨f3, e3, e4⟩ := Option.map_eq_some_iff.mp e
    cases e4
    obtain ⟨b, k1, h1, h2⟩ := p.ok e1 h
    cases b with
    | false => exact ⟨false, by unfold bAnd; rw [k1]; rfl, fun z => (nomatch z), fun _ => jO_l e3 (h2 rfl)⟩
    | true =>
      obtain ⟨A1, rfl, g1⟩ := h1 rfl
      obtain ⟨b, k2, h3, h4⟩ := q.ok (show q.a A1 = some (t2, f2) from e2) g1
      exact ⟨b, by unfold bAnd; rw [k1]; exact k2, h3, fun z => jO_r e3 (h4 z)⟩
def pOrB (p q : PB) : PB where
  c := bOr p.c q.c
  a := fun A => (p.a A).bind fun r => (ifB r.2 q.a).bind fun s => (jO r.1 s.1).map fun t => (t, s.2)
  ok := fun {A t f ρ} e h => by
    obtain ⟨⟨t1, f1⟩, e1, e⟩ := bind_some e
    obtain ⟨⟨t2, f2⟩, e2, e⟩ := bind_some e
    obtain ⟨f3, e3, e4⟩ := Option.map_eq_some_iff.mp e
    cases e4
    obtain ⟨b, k1, h1, h2⟩ := p.ok e1 h
    cases b with
    | true => exact ⟨true, by unfold bOr; rw [k1]; rfl, fun _ => jO_l e3 (h1 rfl), fun z => (nomatch z)⟩
    | false =>
      obtain ⟨A1, rfl, g1⟩ := h2 rfl
      obtain ⟨b, k2, h3, h4⟩ := q.ok (show q.a A1 = some (t2, f2) from e2) g1
      exact ⟨b, by unfold bOr; rw [k1]; exact k2, fun z => jO_r e3 (h3 z), h4⟩
/-- a slot against a written number: what is known after it -/
inductive Cm where
  | lt | le | gt | ge | eq | ne
def Cm.p : Cm → P2
  | .lt => pLt | .le => pLe | .gt => pGt | .ge => pGe | .eq => pEq | .ne => pNe
def Cm.q : Cm → Int → Int → Bool
  | .lt, i, n => decide (i < n) | .le, i, n => decide (i ≤ n) | .gt, i, n => decide (n < i) | .ge, i, n => decide (n ≤ i) | .eq, i, n => decide (i = n) | .ne, i, n => !decide (i = n)
theorem Cm.c_ok (o : Cm) (i n : Int) : o.p.c (.int i) (.int n) = some (.bool (o.q i n)) := by
  cases o
  · rfl
  · rfl
  · rfl
  · rfl
  · exact gEq_i
  · exact gNe_i
def Cm.t : Cm → Int → Int → Int → Int × Int
  | .lt, a, b, n => (a, min b (n - 1)) | .le, a, b, n => (a, min b n) | .gt, a, b, n => (max a (n + 1), b) | .ge, a, b, n => (max a n, b) | .eq, a, b, n => (max a n, min b n) | .ne, a, b, n => (if a = n then a + 1 else a, if b = n then b - 1 else b)
def Cm.nt : Cm → Cm
  | .lt => .ge | .le => .gt | .gt => .le | .ge => .lt | .eq => .ne | .ne => .eq
theorem Cm.t_ok (o : Cm) {a b n i : Int} (h1 : a ≤ i) (h2 : i ≤ b) (h : o.q i n = true) : (o.t a b n).1 ≤ i ∧ i ≤ (o.t a b n).2 := by
  cases o <;> simp only [Cm.q, decide_eq_true_eq, Bool.not_eq_true', decide_eq_false_iff_not] at h <;> simp only [Cm.t] <;> first | omega | (constructor <;> split <;> omega)
theorem Cm.nt_ok (o : Cm) {n i : Int} (h : o.q i n = false) : o.nt.q i n = true := by
  cases o <;> simp only [Cm.q, Cm.nt, decide_eq_true_eq, Bool.not_eq_true', decide_eq_false_iff_not, Bool.not_eq_false'] at h ⊢ <;> omega
def narrow (A : AE) (i : Nat) (r : Int × Int) : Option AE := if r.1 ≤ r.2 then some (A.set i (.va (.int r.1 r.2))) else none
theorem setSelf {α : Type} : ∀ {l : List α} {i : Nat} {x : α}, l[i]? = some x → l.set i x = l
  | [], _, _, e => by simp at e
  | y :: l, 0, x, e => by simp at e; rw [e]; rfl
  | y :: l, i + 1, x, e => by
    show y :: l.set i x = y :: l
    rw [setSelf (l := l) (i := i) (by simpa using e)]
theorem narrow_ok {A : AE} {ρ : Rho} {i : Nat} {r : Int × Int} {k : Int} (h : GR A ρ) (e : ρ[i]? = some (.va (.int k))) (h1 : r.1 ≤ k) (h2 : k ≤ r.2) : OG (narrow A i r) ρ := by
  unfold narrow
  rw [if_pos (by omega)]
  refine ⟨_, rfl, ?_⟩
  have := GR.set (i := i) (a := .va (.int r.1 r.2)) (s := .va (.int k)) h ⟨_, rfl, g_int h1 h2⟩
  rwa [setSelf e] at this
def pVC (o : Cm) (i : Nat) (n : Int) : PB where
  c := bVal (eBin o.p.c (eVar i) (eC (.int n)))
  a := fun A => match A[i]? with
    | some (.va (.int a b)) => some (narrow A i (o.t a b n), narrow A i (o.nt.t a b n))
    | some (.va .num) => some (some A, some A)
    | _ => none
  ok := fun {A t f ρ} e h => by
    split at e
    · rename_i a b e1
      cases e
      obtain ⟨s, k1, d, rfl, g⟩ := h.get e1
      unfold AV.g at g
      obtain ⟨k, rfl, h1, h2⟩ := g
      refine ⟨o.q k n, ?_, fun z => ?_, fun z => ?_⟩
      · unfold bVal eBin eVar eC
        rw [k1]
        show ((o.p.c (.int k) (.int n)).bind blOf) = _
        rw [Cm.c_ok]
        rfl
      · obtain ⟨q1, q2⟩ := o.t_ok h1 h2 z
        exact narrow_ok h k1 q1 q2
      · obtain ⟨q1, q2⟩ := o.nt.t_ok h1 h2 (o.nt_ok z)
        exact narrow_ok h k1 q1 q2
    · rename_i e1
      cases e
      obtain ⟨s, k1, d, rfl, g⟩ := h.get e1
      unfold AV.g at g
      obtain ⟨k, rfl⟩ := g
      refine ⟨o.q k n, ?_, fun _ => ⟨A, rfl, h⟩, fun _ => ⟨A, rfl, h⟩⟩
      unfold bVal eBin eVar eC
      rw [k1]
      show ((o.p.c (.int k) (.int n)).bind blOf) = _
      rw [Cm.c_ok]
      rfl
    · cases e
end DL

set_option linter.all false
set_option maxRecDepth 100000
set_option maxHeartbeats 4000000
namespace DL
open PySem L2
/-! ### more expressions -/
def pIfE (c : PB) (p q : PV) : PV where
  c := eIf c.c p.c q.c
  a := fun A => (c.a A).bind fun r => match r.1, r.2 with
    | some B, some C => (p.a B).bind fun x => (q.a C).map fun y => x.jn y
    | some B, none => p.a B
    | none, some C => q.a C
    | none, none => none
  ok := fun {A T ρ} e h => by
    obtain ⟨⟨t, f⟩, e1, e⟩ := bind_some e
    obtain ⟨b, k1, h1, h2⟩ := c.ok e1 h
    unfold eIf
    rw [k1, Option.bind_some]
    dsimp only at e
    split at e
    · rename_i B C e2 e3
      obtain ⟨x, e4, e⟩ := bind_some e
      obtain ⟨y, e5, rfl⟩ := Option.map_eq_some_iff.mp e
      cases b with
      | true =>
        obtain ⟨B', z, g⟩ := h1 rfl
        cases z
        obtain ⟨d, k, g⟩ := p.ok e4 g
        exact ⟨d, k, jn_l _ _ _ g⟩
      | false =>
        obtain ⟨B', z, g⟩ := h2 rfl
        cases z
        obtain ⟨d, k, g⟩ := q.ok e5 g
        exact ⟨d, k, jn_r _ _ _ g⟩
    · rename_i B e2 e3
      cases b with
      | true =>
        obtain ⟨B', z, g⟩ := h1 rfl
        cases z
        exact p.ok e g
      | false =>
        obtain ⟨B', z, g⟩ := h2 rfl
        cases z
    · rename_i B e2 e3
      cases b with
      | true =>
        obtain ⟨B', z, g⟩ := h1 rfl
        cases z
      | false =>
        obtain ⟨B', z, g⟩ := h2 rfl
        cases z
        exact q.ok e g
    · cases e
def pAndE (p q : PV) : PV where
  c := eAnd p.c q.c
  a := fun A => match p.a A with
    | some (.bo t f) => if t then (q.a A).map fun y => if f then AV.jn y (.bo false true) else y else some (.bo false true)
    | _ => none
  ok := fun {A T ρ} e h => by
    split at e
    · rename_i t f e1
      obtain ⟨d, k1, g⟩ := p.ok e1 h
      unfold AV.g at g
      obtain ⟨b, rfl, h1, h2⟩ := g
      unfold eAnd
      rw [k1, Option.bind_some]
      show ∃ d, (if b = true then q.c ρ else some (.bool false)) = some d ∧ T.g d
      cases b with
      | true =>
        rw [if_pos rfl]
        rw [if_pos (h1 rfl)] at e
        obtain ⟨y, e2, rfl⟩ := Option.map_eq_some_iff.mp e
        obtain ⟨d, k2, g2⟩ := q.ok e2 h
        refine ⟨d, k2, ?_⟩
        split
        · exact jn_l _ _ _ g2
        · exact g2
      | false =>
        rw [if_neg (by simp)]
        refine ⟨_, rfl, ?_⟩
        have g0 : (AV.bo false true).g (.bool false) := g_bo (fun z => nomatch z) (fun _ => rfl)
        split at e
        · obtain ⟨y, e2, rfl⟩ := Option.map_eq_some_iff.mp e
          rw [if_pos (h2 rfl)]
          exact jn_r _ _ _ g0
        · cases e
          exact g0
    · cases e
def pOrE (p q : PV) : PV where
  c := eOr p.c q.c
  a := fun A => match p.a A with
    | some (.bo t f) => if f then (q.a A).map fun y => if t then AV.jn y (.bo true false) else y else some (.bo true false)
    | _ => none
  ok := fun {A T ρ} e h => by
    split at e
    · rename_i t f e1
      obtain ⟨d, k1, g⟩ := p.ok e1 h
      unfold AV.g at g
      obtain ⟨b, rfl, h1, h2⟩ := g
      unfold eOr
      rw [k1, Option.bind_some]
      show ∃ d, (if b = true then some (.bool true) else q.c ρ) = some d ∧ T.g d
      cases b with
      | false =>
        rw [if_neg (by simp)]
        rw [if_pos (h2 rfl)] at e
        obtain ⟨y, e2, rfl⟩ := Option.map_eq_some_iff.mp e
        obtain ⟨d, k2, g2⟩ := q.ok e2 h
        refine ⟨d, k2, ?_⟩
        split
        · exact jn_l _ _ _ g2
        · exact g2
      | true =>
        rw [if_pos rfl]
        refine ⟨_, rfl, ?_⟩
        have g0 : (AV.bo true false).g (.bool true) := g_bo (fun _ => rfl) (fun z => nomatch z)
        split at e
        · obtain ⟨y, e2, rfl⟩ := Option.map_eq_some_iff.mp e
          rw [if_pos (h1 rfl)]
          exact jn_r _ _ _ g0
        · cases e
          exact g0
    · cases e
/-! own lists lent, read -/
def zA1 (A : AE) (i : Nat) : AE := match A[i]? with
  | some (.ow l xs) => A.set i (.va (.seq false l xs))
  | _ => A
theorem setNone {α : Type} {l : List α} {i : Nat} {x : α} (e : l[i]? = none) : l.set i x = l := by
  rw [List.getElem?_eq_none_iff] at e
  exact List.set_eq_of_length_le e
theorem zA1_ok {A : AE} {ρ : Rho} {i : Nat} (h : GR A ρ) : GR (zA1 A i) (frz1 ρ i) := by
  unfold zA1 frz1
  cases e : A[i]? with
  | none =>
    have e2 : ρ[i]? = none := by
      rw [List.getElem?_eq_none_iff] at e ⊢
      rw [h.len]
      exact e
    rw [e2]
    exact h
  | some a =>
    obtain ⟨s, e2, g⟩ := h.get e
    rw [e2]
    cases a with
    | ow l xs =>
      obtain ⟨ds, rfl, h1, h2⟩ := g
      refine GR.set h ⟨_, rfl, ?_⟩
      unfold AV.g
      exact ⟨ds, rfl, h1, h2⟩
    | va a =>
      obtain ⟨d, rfl, _⟩ := g
      exact h
    | un =>
      cases s with
      | ow ds =>
        have := GR.set (i := i) (a := .un) (s := .va (.list ds)) h trivial
        rwa [setSelf e] at this
      | oo dss =>
        have := GR.set (i := i) (a := .un) (s := .va (.list (dss.map PyData.list))) h trivial
        rwa [setSelf e] at this
      | _ => exact h
def zA (S : List Nat) (A : AE) : AE := S.foldl zA1 A
theorem zA_ok : ∀ (S : List Nat) {A : AE} {ρ : Rho}, GR A ρ → GR (zA S A) (frz S ρ)
  | [], A, ρ, h => h
  | i :: S, A, ρ, h => zA_ok S (zA1_ok h)
def pLend (S : List Nat) (p : PV) : PV where
  c := eLend S p.c
  a := fun A => match p.a (zA S A) with
    | some x => if x.flat then some x else none
    | none => none
  ok := fun {A T ρ} e h => by
    split at e
    · rename_i x e1
      split at e
      · rename_i hf
        cases e
        obtain ⟨d, k, g⟩ := p.ok e1 (zA_ok S h)
        refine ⟨d, ?_, g⟩
        unfold eLend
        rw [k, Option.bind_some, if_pos (flat_of hf g)]
      · cases e
    · cases e
def pIxO (i : Nat) (p : PV) : PV where
  c := eIxO i p.c
  a := fun A => match A[i]? with
    | some (.ow l xs) => (p.a A).bind fun y => aIx (.seq false l xs) y
    | _ => none
  ok := fun {A T ρ} e h => by
    split at e
    · rename_i l xs e1
      obtain ⟨y, e2, e3⟩ := bind_some e
      obtain ⟨s, k1, ds, rfl, h1, h2⟩ := h.get e1
      obtain ⟨d, k2, g⟩ := p.ok e2 h
      obtain ⟨r, k3, g3⟩ := pIx.ok (x := .seq false l xs) (d := .list ds) e3 (by unfold AV.g; exact ⟨ds, rfl, h1, h2⟩) g
      refine ⟨r, ?_, g3⟩
      unfold eIxO
      rw [k1]
      show (p.c ρ).bind _ = _
      rw [k2]
      exact k3
    · cases e
theorem isT_tup {k : Bool} {ds : List PyData} : isT .tuple (sq k ds) = some k := by cases k <;> rfl
theorem isT_lst {k : Bool} {ds : List PyData} : isT .list (sq k ds) = some !k := by cases k <;> rfl
def isA (T : Ty) (x : AV) : Option AV := match T, x with
  | .int, .int _ _ => some (.bo true false)
  | .int, .num => some (.bo true false)
  | .bool, .int _ _ => some (.bo false true)
  | .bool, .num => some (.bo false true)
  | .tuple, .seq k _ _ => some (.bo k (!k))
  | .list, .seq k _ _ => some (.bo (!k) k)
  | .int, .bo _ _ => some (.bo true false)
  | .bool, .bo _ _ => some (.bo true false)
  | _, _ => none
def pIs (T : Ty) (p : PV) : PV where
  c := eIs T p.c
  a := fun A => (p.a A).bind (isA T)
  ok := fun {A T' ρ} e h => by
    obtain ⟨x, e1, e2⟩ := bind_some e
    obtain ⟨d, k, g⟩ := p.ok e1 h
    unfold eIs
    rw [k, Option.bind_some]
    unfold isA at e2
    split at e2 <;> first | cases e2 | skip
    · unfold AV.g at g
      obtain ⟨i, rfl, _⟩ := g
      exact ⟨_, rfl, g_bo (fun _ => rfl) (fun z => nomatch z)⟩
    · unfold AV.g at g
      obtain ⟨i, rfl⟩ := g
      exact ⟨_, rfl, g_bo (fun _ => rfl) (fun z => nomatch z)⟩
    · unfold AV.g at g
      obtain ⟨i, rfl, _⟩ := g
      exact ⟨_, rfl, g_bo (fun z => nomatch z) (fun _ => rfl)⟩
    · unfold AV.g at g
      obtain ⟨i, rfl⟩ := g
      exact ⟨_, rfl, g_bo (fun z => nomatch z) (fun _ => rfl)⟩
    · unfold AV.g at g
      obtain ⟨ds, rfl, _⟩ := g
      exact ⟨_, congrArg (Option.map PyData.bool) isT_tup, g_bo (fun z => z) (fun z => by rw [z]; rfl)⟩
    · unfold AV.g at g
      obtain ⟨ds, rfl, _⟩ := g
      exact ⟨_, congrArg (Option.map PyData.bool) isT_lst, g_bo (fun z => z) (fun z => by simpa using z)⟩
    · unfold AV.g at g
      obtain ⟨b, rfl, _⟩ := g
      exact ⟨_, rfl, g_bo (fun _ => rfl) (fun z => nomatch z)⟩
    · unfold AV.g at g
      obtain ⟨b, rfl, _⟩ := g
      exact ⟨_, rfl, g_bo (fun _ => rfl) (fun z => nomatch z)⟩
/-! ### what is gone through -/
def pSeqI (p : PV) : PA where
  c := iSeq p.c
  a := fun A => match p.a A with
    | some (.seq _ l xs) => some (l, xs)
    | _ => none
  ok := fun {A l xs ρ} e h => by
    split at e
    · rename_i k l' xs' e1
      cases e
      obtain ⟨d, k1, g⟩ := p.ok e1 h
      unfold AV.g at g
      obtain ⟨ds, rfl, h1, h2⟩ := g
      refine ⟨ds, ?_, h1, h2⟩
      unfold iSeq
      rw [k1, Option.bind_some]
      cases k <;> rfl
    · cases e
/-- the numbers from a on, b of them at most -/
def upA (a a' : Int) : Nat → List AV
  | 0 => []
  | n + 1 => .int a a' :: upA (a + 1) (a' + 1) n
theorem rngS (lo : Int) (n : Nat) : rng lo (n + 1) = .int lo :: rng (lo + 1) n := by
  unfold rng
  rw [List.range_succ_eq_map, List.map_cons, List.map_map]
  congr 1
  · simp
  · apply List.map_congr_left
    intro i _
    simp only [Function.comp]
    congr 1
    omega
theorem upA_ok : ∀ {n m : Nat} {a a' i : Int}, a ≤ i → i ≤ a' → m ≤ n → AV.gp (upA a a' n) (rng i m)
  | _, 0, _, _, i, _, _, _ => gp_nil _
  | 0, m + 1, _, _, _, _, _, h => by omega
  | n + 1, m + 1, a, a', i, h1, h2, h => by
    rw [rngS]
    unfold upA AV.gp
    exact .inr ⟨_, _, rfl, g_int h1 h2, upA_ok (by omega) (by omega) (by omega)⟩
theorem upA_len : ∀ (n : Nat) (a a' : Int), (upA a a' n).length = n
  | 0, _, _ => rfl
  | n + 1, a, a' => by unfold upA; simp [upA_len n]
theorem rng_ln (i : Int) (n : Nat) : (rng i n).length = n := by unfold rng; simp
def b62 (a b : Int) : Bool := decide (-4611686018427387904 ≤ a) && decide (b < 4611686018427387904)
theorem b62_ok {a b i : Int} (h : b62 a b = true) (h1 : a ≤ i) (h2 : i ≤ b) : -(2 ^ 62) ≤ i ∧ i < 2 ^ 62 := by
  unfold b62 at h
  simp only [Bool.and_eq_true, decide_eq_true_eq] at h
  omega
noncomputable def pRg1 (p : PV) : PA where
  c := iRg1 p.c
  a := fun A => match p.a A with
    | some (.int a b) => if b62 a b then some (a.toNat, upA 0 0 b.toNat) else none
    | _ => none
  ok := fun {A l xs ρ} e h => by
    split at e
    · rename_i a b e1
      split at e
      · rename_i hc
        cases e
        obtain ⟨d, k1, g⟩ := p.ok e1 h
        unfold AV.g at g
        obtain ⟨j, rfl, h1, h2⟩ := g
        refine ⟨rng 0 j.toNat, ?_, by rw [rng_ln]; omega, upA_ok (Int.le_refl _) (Int.le_refl _) (by omega)⟩
        unfold iRg1
        rw [k1, Option.bind_some]
        exact cIf_pos (b62_ok hc h1 h2)
      · cases e
    · cases e
noncomputable def pRg2 (p q : PV) : PA where
  c := iRg2 p.c q.c
  a := fun A => match p.a A, q.a A with
    | some (.int a b), some (.int c d) => if b62 a b && b62 c d then some ((c - b).toNat, upA a b (d - a).toNat) else none
    | _, _ => none
  ok := fun {A l xs ρ} e h => by
    split at e
    · rename_i a b c d e1 e2
      split at e
      · rename_i hc
        cases e
        obtain ⟨hc1, hc2⟩ := Bool.and_eq_true_iff.mp hc
        obtain ⟨x, k1, g⟩ := p.ok e1 h
        unfold AV.g at g
        obtain ⟨i, rfl, h1, h2⟩ := g
        obtain ⟨y, k2, g⟩ := q.ok e2 h
        unfold AV.g at g
        obtain ⟨j, rfl, h3, h4⟩ := g
        refine ⟨rng i (j - i).toNat, ?_, by rw [rng_ln]; omega, upA_ok h1 h2 (by omega)⟩
        unfold iRg2
        rw [k1, Option.bind_some, k2, Option.bind_some]
        obtain ⟨z1, z2⟩ := b62_ok hc1 h1 h2
        obtain ⟨z3, z4⟩ := b62_ok hc2 h3 h4
        exact cIf_pos ⟨z1, z2, z3, z4⟩
      · cases e
    · cases e
def pListF (r : PA) : PA where
  c := fAll mList r.c
  a := fun A => match r.a A with
    | some (1, [.seq _ l xs]) => some (l, xs)
    | _ => none
  ok := fun {A l xs ρ} e h => by
    split at e
    · rename_i k l' xs' e1
      cases e
      obtain ⟨ds, k1, g1, g2⟩ := r.ok e1 h
      obtain ⟨d, rfl, g⟩ := gp_one g2 (by have := gp_len g2; simp at this; omega)
      unfold AV.g at g
      obtain ⟨es, rfl, h1, h2⟩ := g
      refine ⟨es, ?_, h1, h2⟩
      unfold fAll
      rw [k1, Option.bind_some]
      cases k <;> rfl
    · cases e
/-! slices -/
theorem gp_drop : ∀ (n : Nat) {xs : List AV} {ds : List PyData}, AV.gp xs ds → AV.gp (xs.drop n) (ds.drop n)
  | 0, _, _, h => h
  | n + 1, [], ds, h => by unfold AV.gp at h; subst h; exact gp_nil _
  | n + 1, x :: xs, ds, h => by
    unfold AV.gp at h
    rcases h with rfl | ⟨d, r, rfl, h1, h2⟩
    · exact gp_nil _
    · exact gp_drop n h2
theorem gp_take : ∀ (n : Nat) {xs : List AV} {ds : List PyData}, AV.gp xs ds → AV.gp (xs.take n) (ds.take n)
  | 0, _, _, _ => gp_nil _
  | n + 1, [], ds, h => by unfold AV.gp at h; subst h; exact gp_nil _
  | n + 1, x :: xs, ds, h => by
    unfold AV.gp at h
    rcases h with rfl | ⟨d, r, rfl, h1, h2⟩
    · exact gp_nil _
    · show AV.gp (x :: xs.take n) (d :: r.take n)
      unfold AV.gp
      exact .inr ⟨d, _, rfl, h1, gp_take n h2⟩
structure PO where
  c : EO
  a : AE → Option (Option Int)
  ok : ∀ {A o ρ}, a A = some o → GR A ρ → c ρ = some o
def pON : PO where
  c := oNone
  a := fun _ => some none
  ok := fun e _ => by cases e; rfl
def pOS (p : PV) : PO where
  c := oSome p.c
  a := fun A => match p.a A with
    | some (.int a b) => if a = b then some (some a) else none
    | _ => none
  ok := fun {A o ρ} e h => by
    split at e
    · rename_i a b e1
      split at e
      · rename_i hc
        cases e
        obtain ⟨d, k1, g⟩ := p.ok e1 h
        unfold AV.g at g
        obtain ⟨i, rfl, h1, h2⟩ := g
        have : i = a := by omega
        subst this
        unfold oSome
        rw [k1]
        rfl
      · cases e
    · cases e
theorem gp_cut {xs : List AV} {ds : List PyData} {lo hi : Option Int} (h : AV.gp xs ds) (hl : ds.length = xs.length) : AV.gp (cutD xs lo hi) (cutD ds lo hi) := by
  unfold cutD
  rw [hl]
  exact gp_take _ (gp_drop _ h)
theorem cut_len {xs : List AV} {ds : List PyData} {lo hi : Option Int} (hl : ds.length = xs.length) : (cutD xs lo hi).length = (cutD ds lo hi).length := by
  unfold cutD
  rw [hl, List.length_take, List.length_take, List.length_drop, List.length_drop, hl]
def pSl (p : PV) (lo hi : PO) : PV where
  c := eSl p.c lo.c hi.c
  a := fun A => match p.a A, lo.a A, hi.a A with
    | some (.seq false l xs), some o, some u => if l = xs.length then some (.seq false (cutD xs o u).length (cutD xs o u)) else none
    | some (.seq true l xs), some o, some u => if l = xs.length ∧ ¬ (HT.sIx xs.length 0 o = 0 ∧ HT.sIx xs.length xs.length u = xs.length) then some (.seq true (cutD xs o u).length (cutD xs o u)) else none
    | _, _, _ => none
  ok := fun {A T ρ} e h => by
    split at e
    · rename_i l xs o u e1 e2 e3
      split at e
      · rename_i hc
        cases e
        obtain ⟨d, k1, g⟩ := p.ok e1 h
        unfold AV.g at g
        obtain ⟨ds, rfl, h1, h2⟩ := g
        have := gp_len h2
        refine ⟨.list (cutD ds o u), ?_, ?_⟩
        · unfold eSl
          rw [k1, Option.bind_some, lo.ok e2 h, Option.bind_some, hi.ok e3 h]
          rfl
        · unfold AV.g
          exact ⟨_, rfl, by rw [cut_len (ds := ds) (by omega)]; exact Nat.le_refl _, gp_cut h2 (by omega)⟩
      · cases e
    · rename_i l xs o u e1 e2 e3
      split at e
      · rename_i hc
        cases e
        obtain ⟨d, k1, g⟩ := p.ok e1 h
        unfold AV.g at g
        obtain ⟨ds, rfl, h1, h2⟩ := g
        have hln := gp_len h2
        have hd : ds.length = xs.length := by omega
        refine ⟨.tuple (cutD ds o u), ?_, ?_⟩
        · unfold eSl
          rw [k1, Option.bind_some, lo.ok e2 h, Option.bind_some, hi.ok e3 h]
          show (if HT.sIx ds.length 0 o = 0 ∧ HT.sIx ds.length ds.length u = ds.length then none else some (PyData.tuple (cutD ds o u))) = _
          rw [hd, if_neg hc.2]
        · unfold AV.g
          exact ⟨_, rfl, by rw [cut_len (ds := ds) hd]; exact Nat.le_refl _, gp_cut h2 hd⟩
      · cases e
    · cases e
def pSlF (p : PV) (lo hi : PO) : PA where
  c := fSl p.c lo.c hi.c
  a := fun A => match p.a A, lo.a A, hi.a A with
    | some (.seq false l xs), some o, some u => if l = xs.length then some ((cutD xs o u).length, cutD xs o u) else none
    | _, _, _ => none
  ok := fun {A l xs ρ} e h => by
    split at e
    · rename_i l xs o u e1 e2 e3
      split at e
      · rename_i hc
        cases e
        obtain ⟨d, k1, g⟩ := p.ok e1 h
        unfold AV.g at g
        obtain ⟨ds, rfl, h1, h2⟩ := g
        have := gp_len h2
        refine ⟨cutD ds o u, ?_, by rw [cut_len (ds := ds) (by omega)]; exact Nat.le_refl _, gp_cut h2 (by omega)⟩
        unfold fSl
        rw [k1, Option.bind_some, lo.ok e2 h, Option.bind_some, hi.ok e3 h]
        rfl
      · cases e
    · cases e
end DL

set_option linter.all false
set_option maxRecDepth 100000
set_option maxHeartbeats 4000000
namespace DL
open PySem L2
/-! ### targets -/
def pNm (i : Nat) : PG where
  c := gNm i
  a := fun x A => some (A.set i (.va x))
  ok := fun {x A A' ρ d} e g h => by
    cases e
    exact ⟨_, rfl, GR.set h ⟨d, rfl, g⟩⟩
def pGn : PGs where
  c := gsNil
  a := fun xs A => match xs with
    | [] => some A
    | _ => none
  ok := fun {xs A A' ρ ds} e g l h => by
    split at e
    · cases e
      have : ds = [] := List.eq_nil_of_length_eq_zero l
      subst this
      exact ⟨ρ, rfl, h⟩
    · cases e
def pGc (p : PG) (q : PGs) : PGs where
  c := gsCons p.c q.c
  a := fun xs A => match xs with
    | x :: xs => (p.a x A).bind fun B => q.a xs B
    | [] => none
  ok := fun {xs A A' ρ ds} e g l h => by
    split at e
    · rename_i x xs
      obtain ⟨B, e1, e2⟩ := bind_some e
      unfold AV.gp at g
      rcases g with rfl | ⟨d, r, rfl, g1, g2⟩
      · simp at l
      · obtain ⟨ρ1, k1, h1⟩ := p.ok e1 g1 h
        obtain ⟨ρ2, k2, h2⟩ := q.ok e2 g2 (by simpa using l) h1
        exact ⟨ρ2, by show ((p.c d ρ).bind fun ρ' => q.c r ρ') = _; rw [k1]; exact k2, h2⟩
    · cases e
def pTp (n : Nat) (q : PGs) : PG where
  c := gTp n q.c
  a := fun x A => match x with
    | .seq _ l xs => if l = n ∧ xs.length = n then q.a xs A else none
    | _ => none
  ok := fun {x A A' ρ d} e g h => by
    split at e
    · rename_i k l xs
      split at e
      · rename_i hc
        unfold AV.g at g
        obtain ⟨ds, rfl, g1, g2⟩ := g
        have := gp_len g2
        have hl : ds.length = n := by omega
        obtain ⟨ρ', k1, h1⟩ := q.ok e g2 (by omega) h
        refine ⟨ρ', ?_, h1⟩
        cases k
        · show (if ds.length = n then q.c ds ρ else none) = _
          rw [if_pos hl]
          exact k1
        · show (if ds.length = n then q.c ds ρ else none) = _
          rw [if_pos hl]
          exact k1
      · cases e
    · cases e
/-! ### comprehensions -/
def wA (A : AE) : List Nat → AE
  | [] => A
  | v :: vs => (wA A vs).set v .un
theorem wA_ok {A : AE} {ρ : Rho} (h : GR A ρ) : ∀ vs : List Nat, GR (wA A vs) (wipeR ρ vs)
  | [] => h
  | v :: vs => GR.set (wA_ok h vs) trivial
def compA (g : PG) (c : PB) (e : PV) (A : AE) : Nat → List AV → Option (Nat × List AV)
  | _, [] => some (0, [])
  | l, x :: xs => (g.a x A).bind fun B => (c.a B).bind fun r => (compA g c e A (l - 1) xs).bind fun s => match r.1, r.2 with
    | some C, none => (e.a C).map fun T => (if l = 0 then 0 else s.1 + 1, T :: s.2)
    | none, some _ => some s
    | some C, some _ => (e.a C).map fun T => (s.1, AV.jp (T :: s.2) s.2)
    | none, none => none
theorem compA_ok {g : PG} {c : PB} {e : PV} {A : AE} {ρ : Rho} (h : GR A ρ) : ∀ {xs : List AV} {l m : Nat} {ys : List AV} {ds : List PyData}, compA g c e A l xs = some (m, ys) → l ≤ ds.length → AV.gp xs ds →
    ∃ rs, compL g.c c.c e.c ρ ds = some rs ∧ m ≤ rs.length ∧ AV.gp ys rs
  | [], l, m, ys, ds, q, hl, hg => by
    cases q
    unfold AV.gp at hg
    subst hg
    exact ⟨[], rfl, Nat.le_refl _, gp_nil _⟩
  | x :: xs, l, m, ys, ds, q, hl, hg => by
    obtain ⟨B, e1, q1⟩ := bind_some q
    obtain ⟨⟨t, f⟩, e2, q2⟩ := bind_some q1
    obtain ⟨⟨m', ys'⟩, e3, q3⟩ := bind_some q2
    clear q q1 q2
    have q := q3
    clear q3
    unfold AV.gp at hg
    rcases hg with rfl | ⟨d, r, rfl, g1, g2⟩
    · have l0 : l = 0 := by simpa using hl
      subst l0
      obtain ⟨rs, k, k1, k2⟩ := compA_ok (ds := []) h e3 (by simp) (gp_nil _)
      refine ⟨[], rfl, ?_, gp_nil _⟩
      cases k
      have : m' = 0 := by simpa using k1
      dsimp only at q
      split at q
      · obtain ⟨T, _, q⟩ := Option.map_eq_some_iff.mp q
        cases q
        simp
      · cases q
        simp [this]
      · obtain ⟨T, _, q⟩ := Option.map_eq_some_iff.mp q
        cases q
        simp [this]
      · cases q
    · obtain ⟨ρ1, k1, h1⟩ := g.ok e1 g1 h
      obtain ⟨b, k2, c1, c2⟩ := c.ok e2 h1
      obtain ⟨rs, k3, k4, k5⟩ := compA_ok (ds := r) h e3 (by simp at hl; omega) g2
      unfold compL
      rw [k1, Option.bind_some, k2, Option.bind_some]
      dsimp only at q
      cases b with
      | true =>
        rw [if_pos rfl]
        obtain ⟨C, rfl, hC⟩ := c1 rfl
        cases f with
        | none =>
          obtain ⟨T, e6, q⟩ := Option.map_eq_some_iff.mp q
          cases q
          obtain ⟨d', k6, g6⟩ := e.ok e6 hC
          refine ⟨d' :: rs, by rw [k6, Option.bind_some, k3]; rfl, ?_, ?_⟩
          · split <;> simp <;> omega
          · unfold AV.gp
            exact .inr ⟨d', rs, rfl, g6, k5⟩
        | some D =>
          obtain ⟨T, e6, q⟩ := Option.map_eq_some_iff.mp q
          cases q
          obtain ⟨d', k6, g6⟩ := e.ok e6 hC
          refine ⟨d' :: rs, by rw [k6, Option.bind_some, k3]; rfl, by simp; omega, ?_⟩
          apply jp_l
          unfold AV.gp
          exact .inr ⟨d', rs, rfl, g6, k5⟩
      | false =>
        rw [if_neg (by simp)]
        obtain ⟨C, rfl, hC⟩ := c2 rfl
        cases t with
        | none =>
          cases q
          exact ⟨rs, k3, k4, k5⟩
        | some D =>
          obtain ⟨T, e6, q⟩ := Option.map_eq_some_iff.mp q
          cases q
          exact ⟨rs, k3, k4, jp_r _ _ _ k5⟩
def pComp (it : PA) (g : PG) (c : PB) (e : PV) (vs : List Nat) : PA where
  c := fComp it.c g.c c.c e.c vs
  a := fun A => (it.a A).bind fun y => if y.2.length ≤ 16000000 then compA g c e (wA A vs) y.1 y.2 else none
  ok := fun {A l xs ρ} q h => by
    obtain ⟨⟨m, ys⟩, e1, q⟩ := bind_some q
    split at q
    · rename_i hc
      obtain ⟨ds, k1, g1, g2⟩ := it.ok e1 h
      obtain ⟨rs, k2, k3, k4⟩ := compA_ok (wA_ok h vs) q g1 g2
      refine ⟨rs, ?_, k3, k4⟩
      have := gp_len g2
      unfold fComp
      rw [k1, Option.bind_some, if_pos (by dsimp only at hc; omega)]
      exact k2
    · cases q
/-! ### statements -/
structure AR where
  nx : Option AE := none
  rt : Option AV := none
  bk : Option AE := none
  ct : Option AE := none
def GO (r : AR) : SR → Prop
  | .nx ρ => OG r.nx ρ
  | .rt d => VG r.rt d
  | .bk ρ => OG r.bk ρ
  | .ct ρ => OG r.ct ρ
  | .xc _ _ => False
def jAR (r s : AR) : Option AR := (jO r.nx s.nx).bind fun n => (jO r.bk s.bk).bind fun b => (jO r.ct s.ct).map fun c => ⟨n, jV r.rt s.rt, b, c⟩
theorem jAR_l {r s t : AR} {o : SR} (e : jAR r s = some t) (h : GO r o) : GO t o := by
  obtain ⟨n, e1, e⟩ := bind_some e
  obtain ⟨b, e2, e⟩ := bind_some e
  obtain ⟨c, e3, rfl⟩ := Option.map_eq_some_iff.mp e
  cases o with
  | nx ρ => exact jO_l e1 h
  | rt d => exact jV_l h
  | bk ρ => exact jO_l e2 h
  | ct ρ => exact jO_l e3 h
  | xc _ _ => exact h
theorem jAR_r {r s t : AR} {o : SR} (e : jAR r s = some t) (h : GO s o) : GO t o := by
  obtain ⟨n, e1, e⟩ := bind_some e
  obtain ⟨b, e2, e⟩ := bind_some e
  obtain ⟨c, e3, rfl⟩ := Option.map_eq_some_iff.mp e
  cases o with
  | nx ρ => exact jO_r e1 h
  | rt d => exact jV_r h
  | bk ρ => exact jO_r e2 h
  | ct ρ => exact jO_r e3 h
  | xc _ _ => exact h
structure PS where
  c : ES
  a : AE → Option AR
  ok : ∀ {A r ρ}, a A = some r → GR A ρ → ∃ o, c ρ = some o ∧ GO r o
def sS1 (A : AE) : AR := { nx := some A }
def pNx : PS where
  c := sNx
  a := fun A => some (sS1 A)
  ok := fun e h => by cases e; exact ⟨_, rfl, _, rfl, h⟩
def pBk : PS where
  c := sBk
  a := fun A => some { bk := some A }
  ok := fun e h => by cases e; exact ⟨_, rfl, _, rfl, h⟩
def pCt : PS where
  c := sCt
  a := fun A => some { ct := some A }
  ok := fun e h => by cases e; exact ⟨_, rfl, _, rfl, h⟩
def pSq (p q : PS) : PS where
  c := sSeq p.c q.c
  a := fun A => (p.a A).bind fun r => match r.nx with
    | none => some r
    | some B => (q.a B).bind fun s => jAR { r with nx := none } s
  ok := fun {A t ρ} e h => by
    obtain ⟨r, e1, e⟩ := bind_some e
    obtain ⟨o, k1, g⟩ := p.ok e1 h
    have key : ∀ o' : SR, (∀ ρ', o' ≠ .nx ρ') → GO r o' → GO t o' := by
      intro o' ho g'
      split at e
      · cases e
        exact g'
      · obtain ⟨s, e2, e3⟩ := bind_some e
        refine jAR_l e3 ?_
        cases o' with
        | nx ρ' => exact absurd rfl (ho ρ')
        | rt d => exact g'
        | bk d => exact g'
        | ct d => exact g'
        | xc _ _ => exact g'
    unfold sSeq
    rw [k1, Option.bind_some]
    cases o with
    | nx ρ' =>
      obtain ⟨B, eB, hB⟩ := g
      split at e
      · rename_i z
        rw [z] at eB
        cases eB
      · rename_i B' z
        rw [z] at eB
        cases eB
        obtain ⟨s, e2, e3⟩ := bind_some e
        obtain ⟨o, k2, g2⟩ := q.ok e2 hB
        exact ⟨o, k2, jAR_r e3 g2⟩
    | rt d => exact ⟨_, rfl, key _ (fun _ z => nomatch z) g⟩
    | bk d => exact ⟨_, rfl, key _ (fun _ z => nomatch z) g⟩
    | ct d => exact ⟨_, rfl, key _ (fun _ z => nomatch z) g⟩
    | xc _ _ => exact g.elim
def pSet (i : Nat) (p : PV) : PS where
  c := sSet i p.c
  a := fun A => (p.a A).map fun x => sS1 (A.set i (.va x))
  ok := fun {A t ρ} e h => by
    obtain ⟨x, e1, rfl⟩ := Option.map_eq_some_iff.mp e
    obtain ⟨d, k, g⟩ := p.ok e1 h
    exact ⟨.nx _, by unfold sSet; rw [k]; rfl, _, rfl, GR.set h ⟨d, rfl, g⟩⟩
def pSetF (i : Nat) (p : PA) : PS where
  c := sSetF i p.c
  a := fun A => (p.a A).map fun x => sS1 (A.set i (.va (.seq false x.1 x.2)))
  ok := fun {A t ρ} e h => by
    obtain ⟨x, e1, rfl⟩ := Option.map_eq_some_iff.mp e
    obtain ⟨ds, k, g1, g2⟩ := p.ok e1 h
    refine ⟨.nx _, by unfold sSetF; rw [k]; rfl, _, rfl, GR.set h ⟨.list ds, rfl, ?_⟩⟩
    unfold AV.g
    exact ⟨ds, rfl, g1, g2⟩
def pOwn (i : Nat) (p : PA) : PS where
  c := sOwn i p.c
  a := fun A => (p.a A).map fun x => sS1 (A.set i (.ow x.1 x.2))
  ok := fun {A t ρ} e h => by
    obtain ⟨x, e1, rfl⟩ := Option.map_eq_some_iff.mp e
    obtain ⟨ds, k, g1, g2⟩ := p.ok e1 h
    exact ⟨.nx _, by unfold sOwn; rw [k]; rfl, _, rfl, GR.set h ⟨ds, rfl, g1, g2⟩⟩
def pTo (g : PG) (p : PV) : PS where
  c := sTo g.c p.c
  a := fun A => (p.a A).bind fun x => (g.a x A).map sS1
  ok := fun {A t ρ} e h => by
    obtain ⟨x, e1, e⟩ := bind_some e
    obtain ⟨B, e2, rfl⟩ := Option.map_eq_some_iff.mp e
    obtain ⟨d, k, g1⟩ := p.ok e1 h
    obtain ⟨ρ', k2, h2⟩ := g.ok e2 g1 h
    exact ⟨.nx _, by unfold sTo; rw [k, Option.bind_some, k2]; rfl, _, rfl, h2⟩
def pExp (p : PV) : PS where
  c := sExp p.c
  a := fun A => (p.a A).map fun _ => sS1 A
  ok := fun {A t ρ} e h => by
    obtain ⟨x, e1, rfl⟩ := Option.map_eq_some_iff.mp e
    obtain ⟨d, k, g1⟩ := p.ok e1 h
    exact ⟨.nx _, by unfold sExp; rw [k]; rfl, _, rfl, h⟩
def appA (l : Nat) (xs : List AV) (x : AV) : List AV := if l = xs.length then xs ++ [x] else xs.map (fun y => y.jn x) ++ [x]
theorem gp_snoc : ∀ {xs : List AV} {ds : List PyData} {x : AV} {d : PyData}, AV.gp xs ds → ds.length = xs.length → x.g d → AV.gp (xs ++ [x]) (ds ++ [d])
  | [], ds, x, d, h, l, g => by
    unfold AV.gp at h
    subst h
    show AV.gp [x] [d]
    unfold AV.gp
    exact .inr ⟨d, [], rfl, g, gp_nil _⟩
  | y :: xs, ds, x, d, h, l, g => by
    unfold AV.gp at h
    rcases h with rfl | ⟨e, r, rfl, h1, h2⟩
    · simp at l
    · show AV.gp (y :: (xs ++ [x])) (e :: (r ++ [d]))
      unfold AV.gp
      exact .inr ⟨e, _, rfl, h1, gp_snoc h2 (by simpa using l) g⟩
theorem gp_snocW : ∀ {xs : List AV} {ds : List PyData} {x : AV} {d : PyData}, AV.gp xs ds → x.g d → AV.gp (xs.map (fun y => y.jn x) ++ [x]) (ds ++ [d])
  | [], ds, x, d, h, g => by
    unfold AV.gp at h
    subst h
    show AV.gp [x] [d]
    unfold AV.gp
    exact .inr ⟨d, [], rfl, g, gp_nil _⟩
  | y :: xs, ds, x, d, h, g => by
    unfold AV.gp at h
    rcases h with rfl | ⟨e, r, rfl, h1, h2⟩
    · show AV.gp (y.jn x :: _) [d]
      unfold AV.gp
      exact .inr ⟨d, [], rfl, jn_r _ _ _ g, gp_nil _⟩
    · show AV.gp (y.jn x :: (xs.map (fun y => y.jn x) ++ [x])) (e :: (r ++ [d]))
      unfold AV.gp
      exact .inr ⟨e, _, rfl, jn_l _ _ _ h1, gp_snocW h2 g⟩
theorem appA_ok {l : Nat} {xs : List AV} {x : AV} {ds : List PyData} {d : PyData} (hl : l ≤ ds.length) (h : AV.gp xs ds) (g : x.g d) : AV.gp (appA l xs x) (ds ++ [d]) := by
  unfold appA
  have := gp_len h
  split
  · exact gp_snoc h (by omega) g
  · exact gp_snocW h g
def pApp (i : Nat) (p : PV) : PS where
  c := sApp i p.c
  a := fun A => match A[i]? with
    | some (.ow l xs) => if xs.length < 16000000 then (p.a A).map fun x => sS1 (A.set i (.ow (l + 1) (appA l xs x))) else none
    | _ => none
  ok := fun {A t ρ} e h => by
    split at e
    · rename_i l xs e0
      split at e
      · rename_i hc
        obtain ⟨x, e1, rfl⟩ := Option.map_eq_some_iff.mp e
        obtain ⟨s, k1, ds, rfl, g1, g2⟩ := h.get e0
        obtain ⟨d, k2, g3⟩ := p.ok e1 h
        have := gp_len g2
        refine ⟨.nx (ρ.set i (.ow (ds ++ [d]))), ?_, _, rfl, GR.set h ⟨_, rfl, by simp; omega, appA_ok g1 g2 g3⟩⟩
        unfold sApp
        rw [k1]
        show ((p.c ρ).bind _) = _
        rw [k2]
        exact if_pos (by omega)
      · cases e
    · cases e
theorem gp_set : ∀ {xs : List AV} {ds : List PyData} {n : Nat} {x : AV} {d : PyData}, AV.gp xs ds → x.g d → AV.gp (xs.set n x) (ds.set n d)
  | [], ds, n, x, d, h, _ => by unfold AV.gp at h; subst h; exact gp_nil _
  | y :: xs, ds, n, x, d, h, g => by
    unfold AV.gp at h
    rcases h with rfl | ⟨e, r, rfl, h1, h2⟩
    · exact gp_nil _
    · cases n with
      | zero =>
        show AV.gp (x :: xs) (d :: r)
        unfold AV.gp
        exact .inr ⟨d, r, rfl, g, h2⟩
      | succ n =>
        show AV.gp (y :: xs.set n x) (e :: r.set n d)
        unfold AV.gp
        exact .inr ⟨e, _, rfl, h1, gp_set h2 g⟩
theorem gp_setW : ∀ {xs : List AV} {ds : List PyData} {n : Nat} {x : AV} {d : PyData}, AV.gp xs ds → x.g d → AV.gp (xs.map fun y => y.jn x) (ds.set n d)
  | [], ds, n, x, d, h, _ => by unfold AV.gp at h; subst h; exact gp_nil _
  | y :: xs, ds, n, x, d, h, g => by
    unfold AV.gp at h
    rcases h with rfl | ⟨e, r, rfl, h1, h2⟩
    · exact gp_nil _
    · have wk : ∀ {xs : List AV} {ds : List PyData}, AV.gp xs ds → AV.gp (xs.map fun y => y.jn x) ds := by
        intro xs
        induction xs with
        | nil => intro ds h; exact h
        | cons z xs ih =>
          intro ds h
          unfold AV.gp at h
          rcases h with rfl | ⟨e, r, rfl, h1, h2⟩
          · exact gp_nil _
          · show AV.gp (z.jn x :: xs.map fun y => y.jn x) (e :: r)
            unfold AV.gp
            exact .inr ⟨e, r, rfl, jn_l _ _ _ h1, ih h2⟩
      cases n with
      | zero =>
        show AV.gp (y.jn x :: xs.map fun y => y.jn x) (d :: r)
        unfold AV.gp
        exact .inr ⟨d, r, rfl, jn_r _ _ _ g, wk h2⟩
      | succ n =>
        show AV.gp (y.jn x :: xs.map fun y => y.jn x) (e :: r.set n d)
        unfold AV.gp
        exact .inr ⟨e, _, rfl, jn_l _ _ _ h1, gp_setW h2 g⟩
def pPut (i : Nat) (j p : PV) : PS where
  c := sPut i j.c p.c
  a := fun A => match A[i]? with
    | some (.ow l xs) => (p.a A).bind fun x => match j.a A with
      | some (.int a b) => if 0 ≤ a ∧ b < l then some (sS1 (A.set i (.ow l (if a = b then xs.set a.toNat x else xs.map fun y => y.jn x)))) else none
      | _ => none
    | _ => none
  ok := fun {A t ρ} e h => by
    split at e
    · rename_i l xs e0
      obtain ⟨x, e1, e⟩ := bind_some e
      split at e
      · rename_i a b e2
        split at e
        · rename_i hc
          cases e
          obtain ⟨s, k1, ds, rfl, g1, g2⟩ := h.get e0
          obtain ⟨d, k2, g3⟩ := p.ok e1 h
          obtain ⟨y, k3, g⟩ := j.ok e2 h
          unfold AV.g at g
          obtain ⟨m, rfl, h1, h2⟩ := g
          have hm : ixN ds.length m = some m.toNat := by
            unfold ixN
            rw [if_pos (by omega), if_pos (by omega)]
          refine ⟨.nx (ρ.set i (.ow (ds.set m.toNat d))), ?_, _, rfl, GR.set h ⟨_, rfl, by simp; omega, ?_⟩⟩
          · unfold sPut
            rw [k1]
            show ((p.c ρ).bind _) = _
            rw [k2]
            show ((j.c ρ).bind _) = _
            rw [k3]
            show ((ixN ds.length m).bind _) = _
            rw [hm]
            rfl
          · split
            · have : m = a := by omega
              subst this
              exact gp_set g2 g3
            · exact gp_setW g2 g3
        · cases e
      · cases e
    · cases e
def runO (o : Option AE) (f : AE → Option AR) : Option AR := match o with
  | some A => f A
  | none => some {}
def pIf (c : PB) (p q : PS) : PS where
  c := sIf c.c p.c q.c
  a := fun A => (c.a A).bind fun r => (runO r.1 p.a).bind fun s => (runO r.2 q.a).bind fun t => jAR s t
  ok := fun {A t ρ} e h => by
    obtain ⟨⟨t1, f1⟩, e1, e5⟩ := bind_some e
    obtain ⟨s1, e2, e6⟩ := bind_some e5
    obtain ⟨s2, e3, e7⟩ := bind_some e6
    clear e e5 e6
    obtain ⟨b, k1, h1, h2⟩ := c.ok e1 h
    unfold sIf
    rw [k1, Option.bind_some]
    cases b with
    | true =>
      obtain ⟨B, rfl, g⟩ := h1 rfl
      obtain ⟨o, k2, g2⟩ := p.ok (show p.a B = some s1 from e2) g
      exact ⟨o, k2, jAR_l e7 g2⟩
    | false =>
      obtain ⟨B, rfl, g⟩ := h2 rfl
      obtain ⟨o, k2, g2⟩ := q.ok (show q.a B = some s2 from e3) g
      exact ⟨o, k2, jAR_r e7 g2⟩
def pRet (p : PV) : PS where
  c := sRet p.c
  a := fun A => (p.a A).map fun x => { rt := some x }
  ok := fun {A t ρ} e h => by
    obtain ⟨x, e1, rfl⟩ := Option.map_eq_some_iff.mp e
    obtain ⟨d, k, g⟩ := p.ok e1 h
    exact ⟨.rt _, by unfold sRet; rw [k]; rfl, _, rfl, g⟩
def pRetN : PS where
  c := sRetN
  a := fun A => some { rt := some .non }
  ok := fun {A t ρ} e h => by
    cases e
    refine ⟨_, rfl, _, rfl, ?_⟩
    unfold AV.g
    rfl
def pFrz (S : List Nat) (p : PS) : PS where
  c := sFrz S p.c
  a := fun A => p.a (zA S A)
  ok := fun {A t ρ} e h => p.ok e (zA_ok S h)
def pPar (i j : Nat) (p : PA) : PS where
  c := sPar i j p.c
  a := fun A => match p.a A with
    | some (2, [x, y]) => some (sS1 ((A.set i (.va x)).set j (.va y)))
    | _ => none
  ok := fun {A t ρ} e h => by
    split at e
    · rename_i x y e1
      cases e
      obtain ⟨ds, k1, g1, g2⟩ := p.ok e1 h
      obtain ⟨d, f, rfl, g3, g4⟩ := gp_two g2 (by have := gp_len g2; simp at this; omega)
      exact ⟨.nx _, by unfold sPar; rw [k1]; rfl, _, rfl, GR.set (GR.set h ⟨d, rfl, g3⟩) ⟨f, rfl, g4⟩⟩
    · cases e
def pPar3 (i j k : Nat) (p : PA) : PS where
  c := sPar3 i j k p.c
  a := fun A => match p.a A with
    | some (3, [x, y, z]) => some (sS1 (((A.set i (.va x)).set j (.va y)).set k (.va z)))
    | _ => none
  ok := fun {A t ρ} e h => by
    split at e
    · rename_i x y z e1
      cases e
      obtain ⟨ds, k1, g1, g2⟩ := p.ok e1 h
      obtain ⟨d, f, w, rfl, g3, g4, g5⟩ := gp_three g2 (by have := gp_len g2; simp at this; omega)
      exact ⟨.nx _, by unfold sPar3; rw [k1]; rfl, _, rfl, GR.set (GR.set (GR.set h ⟨d, rfl, g3⟩) ⟨f, rfl, g4⟩) ⟨w, rfl, g5⟩⟩
    · cases e
/-- loops, turn by turn -/
def forA (g : PG) (p : PS) : Nat → List AV → AE → Option AR
  | _, [], A => some (sS1 A)
  | l, x :: xs, A => (g.a x A).bind fun B => (p.a B).bind fun r => (jO r.nx r.ct).bind fun n =>
      (runO n (forA g p (l - 1) xs)).bind fun s => (jAR { nx := r.bk, rt := r.rt } s).bind fun t =>
        if l = 0 then jAR (sS1 A) t else some t
theorem forA_ok {g : PG} {p : PS} : ∀ {xs : List AV} {l : Nat} {A : AE} {t : AR} {ds : List PyData} {ρ : Rho}, forA g p l xs A = some t → l ≤ ds.length → AV.gp xs ds → GR A ρ → ∃ o, forL g.c p.c ds ρ = some o ∧ GO t o
  | [], l, A, t, ds, ρ, e, _, h, hA => by
    cases e
    unfold AV.gp at h
    subst h
    exact ⟨_, rfl, A, rfl, hA⟩
  | x :: xs, l, A, t, ds, ρ, e, hl, h, hA => by
    obtain ⟨B, e1, e⟩ := bind_some e
    obtain ⟨r, e2, e⟩ := bind_some e
    obtain ⟨n, e3, e⟩ := bind_some e
    obtain ⟨s, e4, e⟩ := bind_some e
    obtain ⟨u, e5, e⟩ := bind_some e
    unfold AV.gp at h
    rcases h with rfl | ⟨d, ds, rfl, h1, h2⟩
    · have l0 : l = 0 := by simpa using hl
      rw [if_pos l0] at e
      exact ⟨_, rfl, jAR_l (o := .nx ρ) e ⟨A, rfl, hA⟩⟩
    · obtain ⟨ρ1, k1, hB⟩ := g.ok e1 h1 hA
      obtain ⟨o, k2, g2⟩ := p.ok e2 hB
      have up : ∀ o, GO u o → GO t o := by
        intro o ho
        split at e
        · exact jAR_r e ho
        · cases e
          exact ho
      have go : ∀ ρ', OG n ρ' → ∃ o, forL g.c p.c ds ρ' = some o ∧ GO t o := by
        intro ρ' hn
        obtain ⟨C, rfl, hC⟩ := hn
        obtain ⟨o, k, g⟩ := forA_ok (show forA g p (l - 1) xs C = some s from e4) (by simp at hl; omega) h2 hC
        exact ⟨o, k, up o (jAR_r e5 g)⟩
      unfold forL
      rw [k1, Option.bind_some, k2, Option.bind_some]
      cases o with
      | nx ρ' => exact go ρ' (jO_l e3 g2)
      | ct ρ' => exact go ρ' (jO_r e3 g2)
      | bk ρ' => exact ⟨_, rfl, up (.nx ρ') (jAR_l (o := .nx ρ') e5 g2)⟩
      | rt d => exact ⟨_, rfl, up (.rt d) (jAR_l (o := .rt d) e5 g2)⟩
      | xc _ _ => exact g2.elim
def pFor (it : PA) (g : PG) (p : PS) : PS where
  c := sFor it.c g.c p.c
  a := fun A => (it.a A).bind fun y => forA g p y.1 y.2 A
  ok := fun {A t ρ} e h => by
    obtain ⟨⟨l, xs⟩, e1, e⟩ := bind_some e
    obtain ⟨ds, k1, g1, g2⟩ := it.ok e1 h
    obtain ⟨o, k2, g3⟩ := forA_ok e g1 g2 h
    exact ⟨o, by unfold sFor; rw [k1]; exact k2, g3⟩
/-! ### defs -/
def unA : Nat → AE
  | 0 => []
  | n + 1 => .un :: unA n
theorem unA_ok : ∀ n : Nat, GR (unA n) (List.replicate n SC.un)
  | 0 => rfl
  | n + 1 => ⟨_, _, rfl, trivial, unA_ok n⟩
theorem startA : ∀ {xs : List AV} {ds : List PyData} {n : Nat}, AV.gp xs ds → ds.length = xs.length → GR (xs.map AS.va ++ unA n) (ds.map SC.va ++ List.replicate n SC.un)
  | [], ds, n, h, l => by
    unfold AV.gp at h
    subst h
    exact unA_ok n
  | x :: xs, ds, n, h, l => by
    unfold AV.gp at h
    rcases h with rfl | ⟨d, r, rfl, h1, h2⟩
    · simp at l
    · exact ⟨_, _, rfl, ⟨d, rfl, h1⟩, startA h2 (by simpa using l)⟩
def runA (n : Nat) (p : PS) (xs : List AV) : Option AV := match p.a (xs.map AS.va ++ unA n) with
  | some ⟨none, some T, none, none⟩ => some T
  | some ⟨some _, none, none, none⟩ => some .non
  | some ⟨some _, some T, none, none⟩ => some (AV.jn T .non)
  | _ => none
def pDef (n : Nat) (p : PS) : PF where
  c := runD n p.c
  a := runA n p
  ok := fun {xs T ds} e h l => by
    unfold runA at e
    have hs := startA (n := n) h l
    have nn : AV.non.g .none := by unfold AV.g; rfl
    split at e
    · rename_i T' e1
      cases e
      obtain ⟨o, k, g⟩ := p.ok e1 hs
      unfold runD
      rw [k]
      cases o with
      | rt d => obtain ⟨T, z, g⟩ := g; cases z; exact ⟨d, rfl, g⟩
      | nx ρ => obtain ⟨B, z, _⟩ := g; cases z
      | bk ρ => obtain ⟨B, z, _⟩ := g; cases z
      | ct ρ => obtain ⟨B, z, _⟩ := g; cases z
      | xc _ _ => exact g.elim
    · rename_i B' e1
      cases e
      obtain ⟨o, k, g⟩ := p.ok e1 hs
      unfold runD
      rw [k]
      cases o with
      | rt d => obtain ⟨T, z, g⟩ := g; cases z
      | nx ρ => exact ⟨_, rfl, nn⟩
      | bk ρ => obtain ⟨B, z, _⟩ := g; cases z
      | ct ρ => obtain ⟨B, z, _⟩ := g; cases z
      | xc _ _ => exact g.elim
    · rename_i B' T' e1
      cases e
      obtain ⟨o, k, g⟩ := p.ok e1 hs
      unfold runD
      rw [k]
      cases o with
      | rt d => obtain ⟨T, z, g⟩ := g; cases z; exact ⟨d, rfl, jn_l _ _ _ g⟩
      | nx ρ => exact ⟨_, rfl, jn_r _ _ _ nn⟩
      | bk ρ => obtain ⟨B, z, _⟩ := g; cases z
      | ct ρ => obtain ⟨B, z, _⟩ := g; cases z
      | xc _ _ => exact g.elim
    · cases e
end DL

set_option linter.all false
set_option maxRecDepth 100000
set_option maxHeartbeats 4000000
namespace DL
open PySem L2
def pNo : PS where
  c := sNo
  a := fun _ => none
  ok := fun e _ => nomatch e
mutual
def AV.le : AV → AV → Bool
  | _, .any => true
  | .num, .num => true
  | .int _ _, .num => true
  | .int a b, .int c d => decide (c ≤ a) && decide (b ≤ d)
  | .bo t f, .bo t' f' => (!t || t') && (!f || f')
  | .non, .non => true
  | .seq k l xs, .seq k' l' ys => (k == k') && (decide (l' ≤ l) && AV.leP xs ys)
  | _, _ => false
def AV.leP : List AV → List AV → Bool
  | [], _ => true
  | x :: xs, ys => (match ys with
    | [] => false
    | y :: ys => x.le y && AV.leP xs ys)
end
mutual
theorem le_ok : ∀ (x y : AV) (d : PyData), x.le y = true → x.g d → y.g d
  | .any, y, d, e, h => by cases y <;> first | (unfold AV.g; trivial) | (unfold AV.le at e; cases e)
  | .num, y, d, e, h => by cases y <;> first | exact h | (unfold AV.g; trivial) | (unfold AV.le at e; cases e)
  | .int a b, y, d, e, h => by
    unfold AV.g at h
    obtain ⟨i, rfl, h1, h2⟩ := h
    cases y <;> unfold AV.le at e <;> first | (cases e; done) | (unfold AV.g; trivial) | (unfold AV.g; exact ⟨i, rfl⟩) | skip
    simp only [Bool.and_eq_true, decide_eq_true_eq] at e
    exact g_int (by omega) (by omega)
  | .bo t f, y, d, e, h => by
    unfold AV.g at h
    obtain ⟨i, rfl, h1, h2⟩ := h
    cases y <;> unfold AV.le at e <;> first | (cases e; done) | (unfold AV.g; trivial) | skip
    rename_i t' f'
    refine g_bo (fun z => ?_) (fun z => ?_)
    · have := h1 z
      subst this
      cases t' <;> simp at e ⊢
    · have := h2 z
      subst this
      cases f' <;> simp at e ⊢
  | .non, y, d, e, h => by cases y <;> first | exact h | (unfold AV.g; trivial) | (unfold AV.le at e; cases e)
  | .seq k l xs, y, d, e, h => by
    unfold AV.g at h
    obtain ⟨ds, rfl, h1, h2⟩ := h
    cases y <;> unfold AV.le at e <;> first | (cases e; done) | (unfold AV.g; trivial) | skip
    rename_i k' l' ys
    simp only [Bool.and_eq_true, decide_eq_true_eq, beq_iff_eq] at e
    obtain ⟨rfl, e1, e2⟩ := e
    unfold AV.g
    exact ⟨ds, rfl, by omega, leP_ok xs ys ds e2 h2⟩
theorem leP_ok : ∀ (xs ys : List AV) (ds : List PyData), AV.leP xs ys = true → AV.gp xs ds → AV.gp ys ds
  | [], ys, ds, _, h => by
    unfold AV.gp at h
    subst h
    exact gp_nil _
  | x :: xs, [], ds, e, h => by unfold AV.leP at e; cases e
  | x :: xs, y :: ys, ds, e, h => by
    unfold AV.leP at e
    obtain ⟨e1, e2⟩ := Bool.and_eq_true_iff.mp e
    unfold AV.gp at h ⊢
    rcases h with h | ⟨d, r, z, h1, h2⟩
    · exact .inl h
    · exact .inr ⟨d, r, z, le_ok x y d e1 h1, leP_ok xs ys r e2 h2⟩
end
/-- the reckoning's word -/
def PF.le (f : PF) (xs : List AV) (T : AV) : Bool := match f.a xs with
  | some x => x.le T
  | none => false
theorem PF.run (f : PF) (xs : List AV) (T : AV) (e : f.le xs T = true) {ds : List PyData} (h : AV.gp xs ds) (l : ds.length = xs.length) : ∃ d, f.c ds = some d ∧ T.g d := by
  unfold PF.le at e
  split at e
  · rename_i x e1
    obtain ⟨d, k, g⟩ := f.ok e1 h l
    exact ⟨d, k, le_ok _ _ _ e g⟩
  · cases e
theorem gp_cons {x : AV} {xs : List AV} {d : PyData} {ds : List PyData} (h : x.g d) (h2 : AV.gp xs ds) : AV.gp (x :: xs) (d :: ds) := by
  unfold AV.gp
  exact .inr ⟨d, ds, rfl, h, h2⟩
theorem gp_head {x : AV} {xs : List AV} {ds : List PyData} (h : AV.gp (x :: xs) ds) (l : 0 < ds.length) : ∃ d r, ds = d :: r ∧ x.g d ∧ AV.gp xs r := by
  unfold AV.gp at h
  rcases h with rfl | h
  · simp at l
  · exact h
/-- n ints in a row, each between -m and m -/
def intsA (k : Bool) (n : Nat) (lo hi : Int) : AV := .seq k n (List.replicate n (.int lo hi))
theorem gp_ints {lo hi : Int} : ∀ {n : Nat} {ds : List PyData}, AV.gp (List.replicate n (.int lo hi)) ds → ∃ l : List Int, ds = l.map .int ∧ ∀ x ∈ l, lo ≤ x ∧ x ≤ hi
  | 0, ds, h => by
    rw [List.replicate_zero] at h
    unfold AV.gp at h
    exact ⟨[], h, fun x hx => by simp at hx⟩
  | n + 1, ds, h => by
    rw [List.replicate_succ] at h
    unfold AV.gp at h
    rcases h with h | ⟨d, r, rfl, h1, h2⟩
    · exact ⟨[], h, fun x hx => by simp at hx⟩
    · unfold AV.g at h1
      obtain ⟨i, rfl, q1, q2⟩ := h1
      obtain ⟨l, rfl, h3⟩ := gp_ints h2
      exact ⟨i :: l, rfl, fun x hx => by
        rcases List.mem_cons.mp hx with rfl | hx
        · exact ⟨q1, q2⟩
        · exact h3 x hx⟩
theorem intsA_of {k : Bool} {n : Nat} {lo hi : Int} {d : PyData} (h : (intsA k n lo hi).g d) : ∃ l : List Int, d = sq k (l.map .int) ∧ l.length = n ∧ ∀ x ∈ l, lo ≤ x ∧ x ≤ hi := by
  unfold intsA AV.g at h
  obtain ⟨ds, rfl, h1, h2⟩ := h
  have := gp_len h2
  rw [List.length_replicate] at this
  obtain ⟨l, rfl, h3⟩ := gp_ints h2
  rw [List.length_map] at *
  exact ⟨l, rfl, by omega, h3⟩
theorem list6 {l : List Int} (h : l.length = 6) : ∃ a b c p q r, l = [a, b, c, p, q, r] := by
  match l, h with
  | [a, b, c, p, q, r], _ => exact ⟨a, b, c, p, q, r, rfl⟩
theorem list3 {l : List Int} (h : l.length = 3) : ∃ a b c, l = [a, b, c] := by
  match l, h with
  | [a, b, c], _ => exact ⟨a, b, c, rfl⟩
/-- six ints: a form -/
theorem form_of {k : Bool} {lo hi : Int} {d : PyData} (h : (intsA k 6 lo hi).g d) : ∃ f : F6, d = fm k f ∧ (lo ≤ f.a ∧ f.a ≤ hi) ∧ (lo ≤ f.b ∧ f.b ≤ hi) ∧ (lo ≤ f.c ∧ f.c ≤ hi) ∧ (lo ≤ f.p ∧ f.p ≤ hi) ∧ (lo ≤ f.q ∧ f.q ≤ hi) ∧ (lo ≤ f.r ∧ f.r ≤ hi) := by
  obtain ⟨l, rfl, h1, h2⟩ := intsA_of h
  obtain ⟨a, b, c, p, q, r, rfl⟩ := list6 h1
  exact ⟨⟨a, b, c, p, q, r⟩, rfl, h2 a (by simp), h2 b (by simp), h2 c (by simp), h2 p (by simp), h2 q (by simp), h2 r (by simp)⟩
theorem row_of {k : Bool} {lo hi : Int} {d : PyData} (h : (intsA k 3 lo hi).g d) : ∃ v : V3, d = rw3 k v ∧ (lo ≤ v.x ∧ v.x ≤ hi) ∧ (lo ≤ v.y ∧ v.y ≤ hi) ∧ (lo ≤ v.z ∧ v.z ≤ hi) := by
  obtain ⟨l, rfl, h1, h2⟩ := intsA_of h
  obtain ⟨a, b, c, rfl⟩ := list3 h1
  exact ⟨⟨a, b, c⟩, rfl, h2 a (by simp), h2 b (by simp), h2 c (by simp)⟩
/-- limits of digits -/
def limA : List AV → Option (List Int)
  | [] => some []
  | .int a b :: r => if a = b ∧ 0 < a ∧ a < 18446744073709551616 then (limA r).map (a :: ·) else none
  | _ => none
theorem limA_ok : ∀ {xs : List AV} {L : List Int} {ds : List PyData}, limA xs = some L → AV.gp xs ds → ds.length = xs.length → ds = L.map .int ∧ ∀ l ∈ L, 0 < l ∧ l < 18446744073709551616
  | [], L, ds, e, h, _ => by
    cases e
    unfold AV.gp at h
    exact ⟨h, fun l hl => by simp at hl⟩
  | x :: xs, L, ds, e, h, hl => by
    cases x with
    | int a b =>
      have e2 : (if a = b ∧ 0 < a ∧ a < 18446744073709551616 then (limA xs).map (a :: ·) else none) = some L := e
      split at e2
      · rename_i hc
        obtain ⟨M, e3, rfl⟩ := Option.map_eq_some_iff.mp e2
        obtain ⟨d, r, rfl, h1, h2⟩ := gp_head h (by rw [hl]; simp)
        unfold AV.g at h1
        obtain ⟨i, rfl, q1, q2⟩ := h1
        obtain ⟨rfl, k⟩ := limA_ok e3 h2 (by simpa using hl)
        have : i = a := by omega
        subst this
        exact ⟨rfl, fun l hl => by
          rcases List.mem_cons.mp hl with rfl | hl
          · exact hc.2
          · exact k l hl⟩
      · cases e2
    | _ => cases e
end DL
namespace DL
open PySem L2
/-- an item of a slot's sequence against a written number -/
def narrowI (A : AE) (i : Nat) (kk : Bool) (l : Nat) (xs : List AV) (k : Nat) (r : Int × Int) : Option AE := if r.1 ≤ r.2 then some (A.set i (.va (.seq kk l (xs.set k (.int r.1 r.2))))) else none
theorem narrowI_ok {A : AE} {ρ : Rho} {i k l : Nat} {kk : Bool} {xs : List AV} {ds : List PyData} {r : Int × Int} {v : Int} (h : GR A ρ) (e : ρ[i]? = some (.va (sq kk ds))) (hl : l ≤ ds.length) (hg : AV.gp xs ds) (hk : ds[k]? = some (.int v)) (h1 : r.1 ≤ v) (h2 : v ≤ r.2) : OG (narrowI A i kk l xs k r) ρ := by
  unfold narrowI
  rw [if_pos (by omega)]
  refine ⟨_, rfl, ?_⟩
  have g := gp_set (n := k) hg (g_int h1 h2)
  rw [setSelf hk] at g
  have := GR.set (i := i) (a := .va (.seq kk l (xs.set k (.int r.1 r.2)))) (s := .va (sq kk ds)) h ⟨_, rfl, by unfold AV.g; exact ⟨ds, rfl, hl, g⟩⟩
  rwa [setSelf e] at this
def pVI (o : Cm) (i k : Nat) (n : Int) : PB where
  c := bVal (eBin o.p.c (eBin gIx (eVar i) (eC (.int (k : Nat)))) (eC (.int n)))
  a := fun A => match A[i]? with
    | some (.va (.seq kk l xs)) => if k < l then (match xs[k]? with
      | some (.int a b) => some (narrowI A i kk l xs k (o.t a b n), narrowI A i kk l xs k (o.nt.t a b n))
      | _ => none) else none
    | _ => none
  ok := fun {A t f ρ} e h => by
    split at e
    · rename_i kk l xs e1
      split at e
      · rename_i hk
        split at e
        · rename_i a b e2
          cases e
          obtain ⟨s, k1, d, rfl, g⟩ := h.get e1
          unfold AV.g at g
          obtain ⟨ds, rfl, h1, h2⟩ := g
          obtain ⟨x, d, q1, q2, q3⟩ := gp_get (i := k) h2 (by omega)
          rw [e2] at q1
          cases q1
          unfold AV.g at q3
          obtain ⟨v, rfl, h3, h4⟩ := q3
          refine ⟨o.q v n, ?_, fun z => ?_, fun z => ?_⟩
          · unfold bVal eBin eVar eC
            rw [k1]
            show (((gIx (sq kk ds) (.int (k : Nat))).bind fun x => o.p.c x (.int n)).bind blOf) = _
            rw [gIx_sq, atI_nat', q2, Option.bind_some, Cm.c_ok]
            rfl
          · obtain ⟨q1, q2'⟩ := o.t_ok h3 h4 z
            exact narrowI_ok h k1 h1 h2 q2 q1 q2'
          · obtain ⟨q1, q2'⟩ := o.nt.t_ok h3 h4 (o.nt_ok z)
            exact narrowI_ok h k1 h1 h2 q2 q1 q2'
        · cases e
      · cases e
    · cases e
end DL

set_option linter.all false
set_option maxRecDepth 100000
set_option maxHeartbeats 4000000
namespace W
open PySem DL L2
noncomputable def F__law_digits : PF where
  c := m__law_digits
  a := fun xs => match xs with
    | [x, .seq false l ls] => if x.nm && (decide (l = ls.length) && decide (l ≤ 1000)) then (limA ls).map fun L => .seq false L.length (L.map fun l => .int 0 (l - 1)) else none
    | _ => none
  ok := fun {xs T ds} q h hl => by
    split at q
    · rename_i x l ls
      split at q
      · rename_i hc
        obtain ⟨c1, c2⟩ := Bool.and_eq_true_iff.mp hc
        obtain ⟨c2, c3⟩ := Bool.and_eq_true_iff.mp c2
        have c2 := of_decide_eq_true c2
        have c3 := of_decide_eq_true c3
        obtain ⟨L, e1, rfl⟩ := Option.map_eq_some_iff.mp q
        obtain ⟨d, e, rfl, g1, g2⟩ := gp_two h hl
        obtain ⟨c, rfl⟩ := nm_of c1 g1
        unfold AV.g at g2
        obtain ⟨es, rfl, g3, g4⟩ := g2
        have := gp_len g4
        obtain ⟨rfl, hL⟩ := limA_ok e1 g4 (by omega)
        rw [List.length_map] at *
        obtain ⟨rs, r1, r2⟩ := w_digits c L hL (by omega)
        refine ⟨_, r2, ?_⟩
        have key : ∀ {rs L : List Int}, inD rs L → AV.gp (L.map fun l => AV.int 0 (l - 1)) (rs.map PyData.int) := by
          intro rs
          induction rs with
          | nil => intro L h; exact gp_nil _
          | cons r rs ih =>
            intro L h
            cases L with
            | nil => exact h.elim
            | cons l L => exact gp_cons (g_int h.1 (by have := h.2.1; omega)) (ih h.2.2)
        unfold AV.g
        exact ⟨_, rfl, by rw [List.length_map, inD_len r1]; exact Nat.le_refl _, key r1⟩
      · cases q
    · cases q
noncomputable def p__law_any_form : PS := (pSq (pSet 2 (pCall F__law_digits (pCons (pVar 0) (pCons (pOfF (pCons (pC_ (.int 12)) (pCons (pC_ (.int 4)) (pCons (pC_ (.int 2)) (pCons (pC_ (.int 7)) (pCons (pC_ (.int 7)) (pCons (pC_ (.int 7)) (pCons (pC_ (.int 5)) (pCons (pC_ (.int 5)) (pCons (pC_ (.int 5)) (pCons (pC_ (.int 5)) (pCons (pC_ (.int 5)) (pCons (pC_ (.int 5)) (pCons (pC_ (.int 5)) (pCons (pC_ (.int 5)) (pCons (pC_ (.int 5)) (pCons (pC_ (.int 3)) pNil))))))))))))))))) pNil)))) (pSq (pSet 3 (pOfF (pComp (pSeqI (pCall F__law_digits (pCons (pVar 1) (pCons (pOfF (pCons (pC_ (.int 81)) (pCons (pC_ (.int 81)) (pCons (pC_ (.int 81)) (pCons (pC_ (.int 81)) (pCons (pC_ (.int 81)) (pCons (pC_ (.int 81)) pNil))))))) pNil)))) (pNm 15) pYes (pBin pSub (pVar 15) (pC_ (.int 40))) [15]))) (pSq (pIf (pVI .lt 2 0 2) (pRet (pAll pTuple (pCons (pVar 3) pNil))) pNx) (pSq (pIf (pVI .eq 2 0 2) (pRet (pAll pTuple (pCons (pOfF (pComp (pSeqI (pVar 3)) (pNm 16) pYes (pBin pSub (pBin pMod (pAll pInt (pCons (pVar 16) pNil)) (pC_ (.int 5))) (pC_ (.int 2))) [16])) pNil))) pNx) (pSq (pIf (pVI .eq 2 0 3) (pRet (pAll pTuple (pCons (pOfF (pComp (pSeqI (pVar 3)) (pNm 16) pYes (pBin pIx (pOfF (pCons (pUn pNeg (pC_ (.int 40))) (pCons (pUn pNeg (pC_ (.int 39))) (pCons (pC_ (.int 0)) (pCons (pC_ (.int 39)) (pCons (pC_ (.int 40)) pNil)))))) (pBin pMod (pAll pInt (pCons (pVar 16) pNil)) (pC_ (.int 5)))) [16])) pNil))) pNx) (pSq (pIf (pVI .lt 2 0 6) (pSq (pSet 4 (pOfF (pComp (pRg1 (pC_ (.int 6))) (pNm 9) pYes (pBin pMod (pAll pInt (pCons (pBin pDiv (pBin pIx (pVar 2) (pBin pAdd (pC_ (.int 3)) (pBin pDiv (pVar 9) (pC_ (.int 3))))) (pBin pIx (pOfF (pCons (pC_ (.int 1)) (pCons (pC_ (.int 2)) (pCons (pC_ (.int 4)) pNil)))) (pBin pMod (pAll pInt (pCons (pVar 9) pNil)) (pC_ (.int 3))))) pNil)) (pC_ (.int 2))) [9]))) (pRet (pAll pTuple (pCons (pOfF (pComp (pRg1 (pC_ (.int 6))) (pNm 9) pYes (pBin pMul (pBin pIx (pVar 3) (pVar 9)) (pBin pIx (pVar 4) (pVar 9))) [9])) pNil)))) pNx) (pSq (pIf (pVI .eq 2 0 6) (pRet (pAll pTuple (pCons (pOfF (pComp (pRg1 (pC_ (.int 6))) (pNm 9) pYes (pBin pMul (pBin pIx (pVar 3) (pVar 9)) (pAll pInt (pCons (pOrE (pBin pEq (pVar 9) (pBin pAdd (pC_ (.int 3)) (pBin pIx (pVar 2) (pC_ (.int 15))))) (pAndE (pBin pLt (pVar 9) (pC_ (.int 3))) (pBin pEq (pVar 9) (pBin pIx (pVar 2) (pC_ (.int 3)))))) pNil))) [9])) pNil))) pNx) (pSq (pSet 5 (pBin pIx (pVar 2) (pC_ (.int 1)))) (pSq (pSet 6 (pOfF (pComp (pSeqI (pSl (pVar 2) (pOS (pC_ (.int 3))) (pOS (pC_ (.int 6))))) (pNm 15) pYes (pBin pSub (pVar 15) (pC_ (.int 3))) [15]))) (pSq (pSetF 7 (pComp (pRg1 (pC_ (.int 3))) (pNm 9) pYes (pOfF (pComp (pSeqI (pSl (pVar 2) (pOS (pBin pAdd (pC_ (.int 6)) (pBin pMul (pC_ (.int 3)) (pVar 9)))) (pOS (pBin pAdd (pC_ (.int 9)) (pBin pMul (pC_ (.int 3)) (pVar 9)))))) (pNm 15) pYes (pBin pSub (pVar 15) (pC_ (.int 2))) [15])) [9])) (pSq (pIf (pVI .gt 2 0 7) (pSq (pSet 5 (pBin pIx (pOfF (pCons (pC_ (.int 3)) (pCons (pC_ (.int 3)) (pCons (pC_ (.int 2)) (pCons (pC_ (.int 1)) pNil))))) (pBin pIx (pVar 2) (pC_ (.int 1))))) (pSq (pSet 6 (pOfF (pComp (pRg1 (pC_ (.int 3))) (pNm 9) pYes (pBin pMul (pBin pAdd (pC_ (.int 1)) (pBin pMod (pAll pInt (pCons (pBin pIx (pVar 2) (pBin pAdd (pC_ (.int 3)) (pVar 9))) pNil)) (pC_ (.int 3)))) (pBin pSub (pC_ (.int 1)) (pBin pMul (pC_ (.int 2)) (pBin pMod (pAll pInt (pCons (pBin pIx (pVar 2) (pBin pAdd (pC_ (.int 9)) (pVar 9))) pNil)) (pC_ (.int 2)))))) [9]))) (pSet 7 (pOfF (pCons (pOfF (pCons (pC_ (.int 1)) (pCons (pBin pSub (pBin pIx (pVar 2) (pC_ (.int 6))) (pC_ (.int 2))) (pCons (pBin pSub (pBin pIx (pVar 2) (pC_ (.int 7))) (pC_ (.int 2))) pNil)))) (pCons (pOfF (pCons (pC_ (.int 0)) (pCons (pC_ (.int 1)) (pCons (pBin pSub (pBin pIx (pVar 2) (pC_ (.int 8))) (pC_ (.int 2))) pNil)))) (pCons (pOfF (pCons (pC_ (.int 0)) (pCons (pC_ (.int 0)) (pCons (pC_ (.int 1)) pNil)))) pNil))))))) pNx) (pSq (pIf (pVI .gt 2 0 9) (pSet 6 (pOfF (pComp (pSeqI (pVar 6)) (pNm 17) pYes (pBin pMul (pAll pAbs (pCons (pVar 17) pNil)) (pBin pSub (pC_ (.int 1)) (pBin pMul (pC_ (.int 2)) (pBin pIx (pVar 2) (pC_ (.int 2)))))) [17]))) pNx) (pSq (pSet 8 (pOfF (pCons (pC_ (.int 0)) (pCons (pC_ (.int 0)) (pCons (pC_ (.int 0)) (pCons (pC_ (.int 0)) (pCons (pC_ (.int 0)) (pCons (pC_ (.int 0)) pNil)))))))) (pSq (pFor (pRg1 (pVar 5)) (pNm 9) (pSq (pSet 10 (pBin pIx (pVar 7) (pVar 9))) (pSq (pSet 11 (pBin pIx (pVar 10) (pBin pIx (pVar 2) (pC_ (.int 15))))) (pSq (pSet 12 (pBin pIx (pVar 10) (pBin pMod (pAll pInt (pCons (pBin pAdd (pBin pIx (pVar 2) (pC_ (.int 15))) (pC_ (.int 1))) pNil)) (pC_ (.int 3))))) (pSq (pSet 13 (pBin pIx (pVar 10) (pBin pMod (pAll pInt (pCons (pBin pAdd (pBin pIx (pVar 2) (pC_ (.int 15))) (pC_ (.int 2))) pNil)) (pC_ (.int 3))))) (pSq (pSet 14 (pTup (pCons (pBin pMul (pVar 11) (pVar 11)) (pCons (pBin pMul (pVar 12) (pVar 12)) (pCons (pBin pMul (pVar 13) (pVar 13)) (pCons (pBin pMul (pVar 12) (pVar 13)) (pCons (pBin pMul (pVar 11) (pVar 13)) (pCons (pBin pMul (pVar 11) (pVar 12)) pNil)))))))) (pSet 8 (pOfF (pComp (pRg1 (pC_ (.int 6))) (pNm 18) pYes (pBin pAdd (pBin pIx (pVar 8) (pVar 18)) (pBin pMul (pBin pIx (pVar 6) (pVar 9)) (pBin pIx (pVar 14) (pVar 18)))) [18]))))))))) (pRet (pAll pTuple (pCons (pVar 8) pNil)))))))))))))))))
theorem pe__law_any_form : p__law_any_form.c = b__law_any_form := rfl
noncomputable def F__law_any_form : PF := pDef 17 p__law_any_form
theorem Fe__law_any_form : F__law_any_form.c = m__law_any_form := by unfold F__law_any_form m__law_any_form; rw [← pe__law_any_form]; rfl
end W

set_option linter.all false
set_option maxRecDepth 100000
set_option maxHeartbeats 4000000
namespace W
open PySem DL L2
theorem keep_go {g : Rho} (hg : 14 < g.length) : ∀ l : List Int, compL (gNm 14) (bVal (eBin gNe (eVar 14) (eC (.int 0)))) (eVar 14) g (l.map .int) = some ((kp l).map .int)
  | [] => rfl
  | a :: l => by
    rw [List.map_cons, compL]
    have e : (g.set 14 (.va (.int a)))[14]? = some (.va (.int a)) := List.getElem?_set_self hg
    by_cases c : a = 0
    · subst c
      have k : kp (0 :: l) = kp l := by unfold kp; rw [List.filter_cons]; simp
      simp only [gNm, Option.bind_some, bVal, eBin, eVar, eC, e, gNe_i, decide_true, Bool.not_true, blOf, Bool.false_eq_true, if_false, k]
      exact keep_go hg l
    · have k : kp (a :: l) = a :: kp l := by unfold kp; rw [List.filter_cons]; simp [c]
      simp only [gNm, Option.bind_some, bVal, eBin, eVar, eC, e, gNe_i, c, decide_false, Bool.not_false, blOf, if_true, keep_go hg l, k]
      rfl
theorem chg_go {K : List Int} (hK : ∀ x ∈ K, x.natAbs < 2 ^ 400) {s0 s1 s2 s3 s4 s5 s6 s7 s8 s9 s13 s14 : SC} : ∀ (m i : Nat) (c : Int) (x : SC), i + m + 1 = K.length → ∃ x', forL (gNm 12) (sIf (bVal (eBin gLt (eBin gMul (eBin gIx (eVar 10) (eVar 12)) (eBin gIx (eVar 10) (eBin gAdd (eVar 12) (eC (.int 1))))) (eC (.int 0)))) (sSet 11 (eBin gAdd (eVar 11) (eC (.int 1)))) sNx) (rng i m) [s0, s1, s2, s3, s4, s5, s6, s7, s8, s9, .va (.list (K.map .int)), .va (.int c), x, s13, s14] = some (.nx [s0, s1, s2, s3, s4, s5, s6, s7, s8, s9, .va (.list (K.map .int)), .va (.int (c + chL (K.drop i))), x', s13, s14])
  | 0, i, c, x, h => ⟨x, by
    have e : ∃ a, K.drop i = [a] := by
      have hi : i < K.length := by omega
      refine ⟨K[i], ?_⟩
      rw [List.drop_eq_getElem_cons hi, List.drop_eq_nil_of_le (by omega)]
    obtain ⟨a, e⟩ := e
    rw [e]
    simp [rng_zero, forL, chL]⟩
  | m + 1, i, c, x, h => by
    have hi : i < K.length := by omega
    have hi2 : i + 1 < K.length := by omega
    have e1 : atI (K.map PyData.int) (i : Int) = some (.int K[i]) := by
      rw [atI_nat', List.getElem?_map, List.getElem?_eq_getElem hi]
      rfl
    have e2 : atI (K.map PyData.int) ((i : Int) + 1) = some (.int K[i + 1]) := by
      have : (i : Int) + 1 = ((i + 1 : Nat) : Int) := by push_cast; rfl
      rw [this, atI_nat', List.getElem?_map, List.getElem?_eq_getElem hi2]
      rfl
    haveI : Bd 400 K[i] := ⟨hK _ (List.getElem_mem hi)⟩
    haveI : Bd 400 K[i + 1] := ⟨hK _ (List.getElem_mem hi2)⟩
    have ed : K.drop i = K[i] :: K[i + 1] :: K.drop (i + 2) := by
      rw [List.drop_eq_getElem_cons hi, List.drop_eq_getElem_cons hi2]
    have ed2 : K.drop (i + 1) = K[i + 1] :: K.drop (i + 2) := List.drop_eq_getElem_cons hi2
    have ci : ((i : Nat) : Int) + 1 = ((i + 1 : Nat) : Int) := by push_cast; rfl
    by_cases z : K[i] * K[i + 1] < 0
    · obtain ⟨x', ih⟩ := chg_go (s0 := s0) (s1 := s1) (s2 := s2) (s3 := s3) (s4 := s4) (s5 := s5) (s6 := s6) (s7 := s7) (s8 := s8) (s9 := s9) (s13 := s13) (s14 := s14) hK m (i + 1) (c + 1) (.va (.int i)) (by omega)
      refine ⟨x', ?_⟩
      rw [rng_succ, ed, chL, if_pos z, ← ed2, ← Int.add_assoc, ← ih]
      simp (config := {decide := true}) only [forL, runD, List.map_cons, List.map_nil, List.replicate_zero, List.replicate_succ, List.cons_append, List.nil_append, List.append_nil, sRet, sRetN, sNx, sSeq, sSet, sSetF, sOwn, sTo, gsCons, gsNil, sPar, sPar3, eChain, sExp, sApp, sPut, sIf, sFrz, frz, frz1, List.foldl_cons, List.foldl_nil, eBin, eUn, eVar, eC, eAnd, eOr, eIf, eLend, flat, eIxO, eOfF, eTup, eAll, fAll, eCall, eIs, eSl, fSl, oNone, oSome, aNil, aCons, bVal, bAnd, bOr, bNot, bYes, blOf, gNot, iSeq, iRg1, iRg2, seq_l, seq_t, tup_l, tup_t, lst_l, lst_t, len_l, len_t, gIx_l, gIx_t, gNm, wipeR, List.getElem?_cons_zero, List.getElem?_cons_succ, List.set_cons_zero, List.set_cons_succ, Option.bind_some, Option.bind_none, Option.map_some, Option.map_none, if_true, if_false, decide_true, decide_false, Bool.not_true, Bool.not_false, Bool.false_eq_true, reduceIte, gAdd_i, gSub_i, gNeg_i, gLt_i, gLe_i, gGt_i, gGe_i, gEq_i, gNe_i, gMul_b, gMod_p, gFdiv_p, Nat.reduceAdd, Nat.reduceMul, Nat.reduceLeDiff, at0, at1, at2, at3, at4, at5, at6, at7, at8, at9, at10, at11, at12, at13, at14, at15, gSl_l, cut_pos, cut_from, cut_to, Int.reduceToNat, List.drop_succ_cons, List.drop_zero, List.take_succ_cons, List.take_zero, List.take_nil, Nat.reduceSub, Int.reduceAdd, Int.reduceSub, Int.reduceMul, Int.reduceMod, Int.reduceDiv, Int.reduceNeg, List.length_cons, List.length_nil, Nat.zero_add, fComp, compL, rg1_3, mInt, mAbs, mGcd, mMax2, mMin2, mMax3, mMin3, mIsqrt, isT, e1, e2, z]
      rw [ci]
    · obtain ⟨x', ih⟩ := chg_go (s0 := s0) (s1 := s1) (s2 := s2) (s3 := s3) (s4 := s4) (s5 := s5) (s6 := s6) (s7 := s7) (s8 := s8) (s9 := s9) (s13 := s13) (s14 := s14) hK m (i + 1) c (.va (.int i)) (by omega)
      refine ⟨x', ?_⟩
      rw [rng_succ, ed, chL, if_neg z, Int.zero_add, ← ed2, ← ih]
      simp (config := {decide := true}) only [forL, runD, List.map_cons, List.map_nil, List.replicate_zero, List.replicate_succ, List.cons_append, List.nil_append, List.append_nil, sRet, sRetN, sNx, sSeq, sSet, sSetF, sOwn, sTo, gsCons, gsNil, sPar, sPar3, eChain, sExp, sApp, sPut, sIf, sFrz, frz, frz1, List.foldl_cons, List.foldl_nil, eBin, eUn, eVar, eC, eAnd, eOr, eIf, eLend, flat, eIxO, eOfF, eTup, eAll, fAll, eCall, eIs, eSl, fSl, oNone, oSome, aNil, aCons, bVal, bAnd, bOr, bNot, bYes, blOf, gNot, iSeq, iRg1, iRg2, seq_l, seq_t, tup_l, tup_t, lst_l, lst_t, len_l, len_t, gIx_l, gIx_t, gNm, wipeR, List.getElem?_cons_zero, List.getElem?_cons_succ, List.set_cons_zero, List.set_cons_succ, Option.bind_some, Option.bind_none, Option.map_some, Option.map_none, if_true, if_false, decide_true, decide_false, Bool.not_true, Bool.not_false, Bool.false_eq_true, reduceIte, gAdd_i, gSub_i, gNeg_i, gLt_i, gLe_i, gGt_i, gGe_i, gEq_i, gNe_i, gMul_b, gMod_p, gFdiv_p, Nat.reduceAdd, Nat.reduceMul, Nat.reduceLeDiff, at0, at1, at2, at3, at4, at5, at6, at7, at8, at9, at10, at11, at12, at13, at14, at15, gSl_l, cut_pos, cut_from, cut_to, Int.reduceToNat, List.drop_succ_cons, List.drop_zero, List.take_succ_cons, List.take_zero, List.take_nil, Nat.reduceSub, Int.reduceAdd, Int.reduceSub, Int.reduceMul, Int.reduceMod, Int.reduceDiv, Int.reduceNeg, List.length_cons, List.length_nil, Nat.zero_add, fComp, compL, rg1_3, mInt, mAbs, mGcd, mMax2, mMin2, mMax3, mMin3, mIsqrt, isT, e1, e2, z]
      rw [ci]
theorem w_signature {f : F6} (hf : BF 110 f) : m__law_signature [fm true f] = some (rw3 true ⟨abv f.tr f.mi f.dt, 3 - zro f.tr f.mi f.dt - abv f.tr f.mi f.dt, zro f.tr f.mi f.dt⟩) := by
  have et : f.a + f.b + f.c = f.tr := rfl
  have em : f.b * f.c - f.p * f.p + f.a * f.c - f.q * f.q + f.a * f.b - f.r * f.r = f.mi := rfl
  have ed : f.a * f.b * f.c + 2 * f.p * f.q * f.r - f.a * f.p * f.p - f.b * f.q * f.q - f.c * f.r * f.r = f.dt := rfl
  have bt : f.tr.natAbs < 2 ^ 400 := by
    rw [← et]
    exact Bd.mono (inferInstance : Bd _ (f.a + f.b + f.c)).lt (by decide)
  have bm : f.mi.natAbs < 2 ^ 400 := by
    rw [← em]
    exact Bd.mono (inferInstance : Bd _ (f.b * f.c - f.p * f.p + f.a * f.c - f.q * f.q + f.a * f.b - f.r * f.r)).lt (by decide)
  have bd : f.dt.natAbs < 2 ^ 400 := by
    rw [← ed]
    exact Bd.mono (inferInstance : Bd _ (f.a * f.b * f.c + 2 * f.p * f.q * f.r - f.a * f.p * f.p - f.b * f.q * f.q - f.c * f.r * f.r)).lt (by decide)
  have hk := keep_go (g := [.va (fm true f), .va (.int f.a), .va (.int f.b), .va (.int f.c), .va (.int f.p), .va (.int f.q), .va (.int f.r), .va (.int f.tr), .va (.int f.mi), .va (.int f.dt), .un, .un, .un, .un, .un]) (by simp) [1, -f.tr, f.mi, -f.dt]
  have hK : ∀ x ∈ kp [1, -f.tr, f.mi, -f.dt], x.natAbs < 2 ^ 400 := by
    intro x hx
    have := (List.mem_filter.mp hx).1
    simp only [List.mem_cons, List.not_mem_nil, or_false] at this
    rcases this with rfl | rfl | rfl | rfl
    · decide
    · rw [Int.natAbs_neg]; exact bt
    · exact bm
    · rw [Int.natAbs_neg]; exact bd
  have hl1 : 1 ≤ (kp [1, -f.tr, f.mi, -f.dt]).length := by
    have : kp [1, -f.tr, f.mi, -f.dt] = 1 :: kp [-f.tr, f.mi, -f.dt] := by unfold kp; rw [List.filter_cons]; simp
    rw [this]
    simp
  have hl4 : (kp [1, -f.tr, f.mi, -f.dt]).length ≤ 4 := List.length_filter_le _ _
  obtain ⟨m, hm⟩ : ∃ m, m + 1 = (kp [1, -f.tr, f.mi, -f.dt]).length := ⟨_ - 1, Nat.sub_add_cancel hl1⟩
  obtain ⟨x', hg⟩ := chg_go (s0 := .va (fm true f)) (s1 := .va (.int f.a)) (s2 := .va (.int f.b)) (s3 := .va (.int f.c)) (s4 := .va (.int f.p)) (s5 := .va (.int f.q)) (s6 := .va (.int f.r)) (s7 := .va (.int f.tr)) (s8 := .va (.int f.mi)) (s9 := .va (.int f.dt)) (s13 := .un) (s14 := .un) hK m 0 0 .un (by omega)
  have ea : (0 : Int) + chL ((kp [1, -f.tr, f.mi, -f.dt]).drop 0) = abv f.tr f.mi f.dt := by
    rw [Int.zero_add]
    rfl
  rw [ea] at hg
  have hr : rg1 (.int (((kp [1, -f.tr, f.mi, -f.dt]).length : Int) - 1)) = some (rng 0 m) := by
    rw [show ((kp [1, -f.tr, f.mi, -f.dt]).length : Int) - 1 = (m : Int) by omega]
    exact rg1_nat m (by omega)
  simp only [List.map_cons, List.map_nil] at hk
  generalize kp [1, -f.tr, f.mi, -f.dt] = K at *
  have c0 : ((0 : Nat) : Int) = 0 := rfl
  rw [c0] at hg
  refine run_rt (k := 14) (u := b__law_signature) ?_
  simp only [List.map_cons, List.map_nil, List.replicate_succ, List.replicate_zero, List.cons_append, List.nil_append]
  unfold b__law_signature
  (refine Eq.trans (sSeq_eq (ρ' := ?_) ?_) ?_; rotate_left; ((conv => lhs; simp (config := {decide := true}) only [runD, List.map_cons, List.map_nil, List.replicate_zero, List.replicate_succ, List.cons_append, List.nil_append, List.append_nil, sRet, sRetN, sNx, sSeq, sSet, sSetF, sOwn, sTo, gsCons, gsNil, sPar, sPar3, eChain, sExp, sApp, sPut, sIf, sFrz, frz, frz1, List.foldl_cons, List.foldl_nil, eBin, eUn, eVar, eC, eAnd, eOr, eIf, eLend, flat, eIxO, eOfF, eTup, eAll, fAll, eCall, eIs, eSl, fSl, oNone, oSome, aNil, aCons, bVal, bAnd, bOr, bNot, bYes, blOf, gNot, iSeq, iRg1, iRg2, seq_l, seq_t, tup_l, tup_t, lst_l, lst_t, len_l, len_t, gIx_l, gIx_t, gNm, wipeR, List.getElem?_cons_zero, List.getElem?_cons_succ, List.set_cons_zero, List.set_cons_succ, Option.bind_some, Option.bind_none, Option.map_some, Option.map_none, if_true, if_false, decide_true, decide_false, Bool.not_true, Bool.not_false, Bool.false_eq_true, reduceIte, gAdd_i, gSub_i, gNeg_i, gLt_i, gLe_i, gGt_i, gGe_i, gEq_i, gNe_i, gMul_b, gMod_p, gFdiv_p, Nat.reduceAdd, Nat.reduceMul, Nat.reduceLeDiff, at0, at1, at2, at3, at4, at5, at6, at7, at8, at9, at10, at11, at12, at13, at14, at15, gSl_l, cut_pos, cut_from, cut_to, Int.reduceToNat, List.drop_succ_cons, List.drop_zero, List.take_succ_cons, List.take_zero, List.take_nil, Nat.reduceSub, Int.reduceAdd, Int.reduceSub, Int.reduceMul, Int.reduceMod, Int.reduceDiv, Int.reduceNeg, List.length_cons, List.length_nil, Nat.zero_add, fComp, compL, rg1_3, mInt, mAbs, mGcd, mMax2, mMin2, mMax3, mMin3, mIsqrt, isT, ix_f0, ix_f1, ix_f2]); try rfl))
  (refine Eq.trans (sSeq_eq (ρ' := ?_) ?_) ?_; rotate_left; ((conv => lhs; simp (config := {decide := true}) only [runD, List.map_cons, List.map_nil, List.replicate_zero, List.replicate_succ, List.cons_append, List.nil_append, List.append_nil, sRet, sRetN, sNx, sSeq, sSet, sSetF, sOwn, sTo, gsCons, gsNil, sPar, sPar3, eChain, sExp, sApp, sPut, sIf, sFrz, frz, frz1, List.foldl_cons, List.foldl_nil, eBin, eUn, eVar, eC, eAnd, eOr, eIf, eLend, flat, eIxO, eOfF, eTup, eAll, fAll, eCall, eIs, eSl, fSl, oNone, oSome, aNil, aCons, bVal, bAnd, bOr, bNot, bYes, blOf, gNot, iSeq, iRg1, iRg2, seq_l, seq_t, tup_l, tup_t, lst_l, lst_t, len_l, len_t, gIx_l, gIx_t, gNm, wipeR, List.getElem?_cons_zero, List.getElem?_cons_succ, List.set_cons_zero, List.set_cons_succ, Option.bind_some, Option.bind_none, Option.map_some, Option.map_none, if_true, if_false, decide_true, decide_false, Bool.not_true, Bool.not_false, Bool.false_eq_true, reduceIte, gAdd_i, gSub_i, gNeg_i, gLt_i, gLe_i, gGt_i, gGe_i, gEq_i, gNe_i, gMul_b, gMod_p, gFdiv_p, Nat.reduceAdd, Nat.reduceMul, Nat.reduceLeDiff, at0, at1, at2, at3, at4, at5, at6, at7, at8, at9, at10, at11, at12, at13, at14, at15, gSl_l, cut_pos, cut_from, cut_to, Int.reduceToNat, List.drop_succ_cons, List.drop_zero, List.take_succ_cons, List.take_zero, List.take_nil, Nat.reduceSub, Int.reduceAdd, Int.reduceSub, Int.reduceMul, Int.reduceMod, Int.reduceDiv, Int.reduceNeg, List.length_cons, List.length_nil, Nat.zero_add, fComp, compL, rg1_3, mInt, mAbs, mGcd, mMax2, mMin2, mMax3, mMin3, mIsqrt, isT, ix_f3, ix_f4, ix_f5]); try rfl))
  (refine Eq.trans (sSeq_eq (ρ' := ?_) ?_) ?_; rotate_left; ((conv => lhs; simp (config := {decide := true}) only [runD, List.map_cons, List.map_nil, List.replicate_zero, List.replicate_succ, List.cons_append, List.nil_append, List.append_nil, sRet, sRetN, sNx, sSeq, sSet, sSetF, sOwn, sTo, gsCons, gsNil, sPar, sPar3, eChain, sExp, sApp, sPut, sIf, sFrz, frz, frz1, List.foldl_cons, List.foldl_nil, eBin, eUn, eVar, eC, eAnd, eOr, eIf, eLend, flat, eIxO, eOfF, eTup, eAll, fAll, eCall, eIs, eSl, fSl, oNone, oSome, aNil, aCons, bVal, bAnd, bOr, bNot, bYes, blOf, gNot, iSeq, iRg1, iRg2, seq_l, seq_t, tup_l, tup_t, lst_l, lst_t, len_l, len_t, gIx_l, gIx_t, gNm, wipeR, List.getElem?_cons_zero, List.getElem?_cons_succ, List.set_cons_zero, List.set_cons_succ, Option.bind_some, Option.bind_none, Option.map_some, Option.map_none, if_true, if_false, decide_true, decide_false, Bool.not_true, Bool.not_false, Bool.false_eq_true, reduceIte, gAdd_i, gSub_i, gNeg_i, gLt_i, gLe_i, gGt_i, gGe_i, gEq_i, gNe_i, gMul_b, gMod_p, gFdiv_p, Nat.reduceAdd, Nat.reduceMul, Nat.reduceLeDiff, at0, at1, at2, at3, at4, at5, at6, at7, at8, at9, at10, at11, at12, at13, at14, at15, gSl_l, cut_pos, cut_from, cut_to, Int.reduceToNat, List.drop_succ_cons, List.drop_zero, List.take_succ_cons, List.take_zero, List.take_nil, Nat.reduceSub, Int.reduceAdd, Int.reduceSub, Int.reduceMul, Int.reduceMod, Int.reduceDiv, Int.reduceNeg, List.length_cons, List.length_nil, Nat.zero_add, fComp, compL, rg1_3, mInt, mAbs, mGcd, mMax2, mMin2, mMax3, mMin3, mIsqrt, isT, et]); try rfl))
  (refine Eq.trans (sSeq_eq (ρ' := ?_) ?_) ?_; rotate_left; ((conv => lhs; simp (config := {decide := true}) only [runD, List.map_cons, List.map_nil, List.replicate_zero, List.replicate_succ, List.cons_append, List.nil_append, List.append_nil, sRet, sRetN, sNx, sSeq, sSet, sSetF, sOwn, sTo, gsCons, gsNil, sPar, sPar3, eChain, sExp, sApp, sPut, sIf, sFrz, frz, frz1, List.foldl_cons, List.foldl_nil, eBin, eUn, eVar, eC, eAnd, eOr, eIf, eLend, flat, eIxO, eOfF, eTup, eAll, fAll, eCall, eIs, eSl, fSl, oNone, oSome, aNil, aCons, bVal, bAnd, bOr, bNot, bYes, blOf, gNot, iSeq, iRg1, iRg2, seq_l, seq_t, tup_l, tup_t, lst_l, lst_t, len_l, len_t, gIx_l, gIx_t, gNm, wipeR, List.getElem?_cons_zero, List.getElem?_cons_succ, List.set_cons_zero, List.set_cons_succ, Option.bind_some, Option.bind_none, Option.map_some, Option.map_none, if_true, if_false, decide_true, decide_false, Bool.not_true, Bool.not_false, Bool.false_eq_true, reduceIte, gAdd_i, gSub_i, gNeg_i, gLt_i, gLe_i, gGt_i, gGe_i, gEq_i, gNe_i, gMul_b, gMod_p, gFdiv_p, Nat.reduceAdd, Nat.reduceMul, Nat.reduceLeDiff, at0, at1, at2, at3, at4, at5, at6, at7, at8, at9, at10, at11, at12, at13, at14, at15, gSl_l, cut_pos, cut_from, cut_to, Int.reduceToNat, List.drop_succ_cons, List.drop_zero, List.take_succ_cons, List.take_zero, List.take_nil, Nat.reduceSub, Int.reduceAdd, Int.reduceSub, Int.reduceMul, Int.reduceMod, Int.reduceDiv, Int.reduceNeg, List.length_cons, List.length_nil, Nat.zero_add, fComp, compL, rg1_3, mInt, mAbs, mGcd, mMax2, mMin2, mMax3, mMin3, mIsqrt, isT, em]); try rfl))
  (refine Eq.trans (sSeq_eq (ρ' := ?_) ?_) ?_; rotate_left; ((conv => lhs; simp (config := {decide := true}) only [runD, List.map_cons, List.map_nil, List.replicate_zero, List.replicate_succ, List.cons_append, List.nil_append, List.append_nil, sRet, sRetN, sNx, sSeq, sSet, sSetF, sOwn, sTo, gsCons, gsNil, sPar, sPar3, eChain, sExp, sApp, sPut, sIf, sFrz, frz, frz1, List.foldl_cons, List.foldl_nil, eBin, eUn, eVar, eC, eAnd, eOr, eIf, eLend, flat, eIxO, eOfF, eTup, eAll, fAll, eCall, eIs, eSl, fSl, oNone, oSome, aNil, aCons, bVal, bAnd, bOr, bNot, bYes, blOf, gNot, iSeq, iRg1, iRg2, seq_l, seq_t, tup_l, tup_t, lst_l, lst_t, len_l, len_t, gIx_l, gIx_t, gNm, wipeR, List.getElem?_cons_zero, List.getElem?_cons_succ, List.set_cons_zero, List.set_cons_succ, Option.bind_some, Option.bind_none, Option.map_some, Option.map_none, if_true, if_false, decide_true, decide_false, Bool.not_true, Bool.not_false, Bool.false_eq_true, reduceIte, gAdd_i, gSub_i, gNeg_i, gLt_i, gLe_i, gGt_i, gGe_i, gEq_i, gNe_i, gMul_b, gMod_p, gFdiv_p, Nat.reduceAdd, Nat.reduceMul, Nat.reduceLeDiff, at0, at1, at2, at3, at4, at5, at6, at7, at8, at9, at10, at11, at12, at13, at14, at15, gSl_l, cut_pos, cut_from, cut_to, Int.reduceToNat, List.drop_succ_cons, List.drop_zero, List.take_succ_cons, List.take_zero, List.take_nil, Nat.reduceSub, Int.reduceAdd, Int.reduceSub, Int.reduceMul, Int.reduceMod, Int.reduceDiv, Int.reduceNeg, List.length_cons, List.length_nil, Nat.zero_add, fComp, compL, rg1_3, mInt, mAbs, mGcd, mMax2, mMin2, mMax3, mMin3, mIsqrt, isT, ed]); try rfl))
  refine Eq.trans (sSeq_eq (ρ' := [.va (fm true f), .va (.int f.a), .va (.int f.b), .va (.int f.c), .va (.int f.p), .va (.int f.q), .va (.int f.r), .va (.int f.tr), .va (.int f.mi), .va (.int f.dt), .va (.list (K.map .int)), .un, .un, .un, .un]) ?_) ?_
  · simp only [sSetF, fComp, iSeq, eOfF, aCons, aNil, eC, eUn, eVar, List.getElem?_cons_zero, List.getElem?_cons_succ, Option.bind_some, Option.map_some, gNeg_i, seq_l, wipeR, List.set_cons_succ, List.set_cons_zero, List.length_cons, List.length_nil]
    rw [if_pos (by decide), hk]
    rfl
  (refine Eq.trans (sSeq_eq (ρ' := ?_) ?_) ?_; rotate_left; ((conv => lhs; simp (config := {decide := true}) only [runD, List.map_cons, List.map_nil, List.replicate_zero, List.replicate_succ, List.cons_append, List.nil_append, List.append_nil, sRet, sRetN, sNx, sSeq, sSet, sSetF, sOwn, sTo, gsCons, gsNil, sPar, sPar3, eChain, sExp, sApp, sPut, sIf, sFrz, frz, frz1, List.foldl_cons, List.foldl_nil, eBin, eUn, eVar, eC, eAnd, eOr, eIf, eLend, flat, eIxO, eOfF, eTup, eAll, fAll, eCall, eIs, eSl, fSl, oNone, oSome, aNil, aCons, bVal, bAnd, bOr, bNot, bYes, blOf, gNot, iSeq, iRg1, iRg2, seq_l, seq_t, tup_l, tup_t, lst_l, lst_t, len_l, len_t, gIx_l, gIx_t, gNm, wipeR, List.getElem?_cons_zero, List.getElem?_cons_succ, List.set_cons_zero, List.set_cons_succ, Option.bind_some, Option.bind_none, Option.map_some, Option.map_none, if_true, if_false, decide_true, decide_false, Bool.not_true, Bool.not_false, Bool.false_eq_true, reduceIte, gAdd_i, gSub_i, gNeg_i, gLt_i, gLe_i, gGt_i, gGe_i, gEq_i, gNe_i, gMul_b, gMod_p, gFdiv_p, Nat.reduceAdd, Nat.reduceMul, Nat.reduceLeDiff, at0, at1, at2, at3, at4, at5, at6, at7, at8, at9, at10, at11, at12, at13, at14, at15, gSl_l, cut_pos, cut_from, cut_to, Int.reduceToNat, List.drop_succ_cons, List.drop_zero, List.take_succ_cons, List.take_zero, List.take_nil, Nat.reduceSub, Int.reduceAdd, Int.reduceSub, Int.reduceMul, Int.reduceMod, Int.reduceDiv, Int.reduceNeg, List.length_cons, List.length_nil, Nat.zero_add, fComp, compL, rg1_3, mInt, mAbs, mGcd, mMax2, mMin2, mMax3, mMin3, mIsqrt, isT, et]); try rfl))
  refine Eq.trans (sSeq_eq (ρ' := [.va (fm true f), .va (.int f.a), .va (.int f.b), .va (.int f.c), .va (.int f.p), .va (.int f.q), .va (.int f.r), .va (.int f.tr), .va (.int f.mi), .va (.int f.dt), .va (.list (K.map .int)), .va (.int (abv f.tr f.mi f.dt)), x', .un, .un]) ?_) ?_
  · rw [sFor]
    simp only [iRg1, eBin, eAll, aCons, aNil, eVar, eC, List.getElem?_cons_zero, List.getElem?_cons_succ, Option.bind_some, len_l, List.length_map, gSub_i, hr]
    exact hg
  (refine Eq.trans (sSeq_eq (ρ' := ?_) ?_) ?_; rotate_left; ((conv => lhs; simp (config := {decide := true}) only [runD, List.map_cons, List.map_nil, List.replicate_zero, List.replicate_succ, List.cons_append, List.nil_append, List.append_nil, sRet, sRetN, sNx, sSeq, sSet, sSetF, sOwn, sTo, gsCons, gsNil, sPar, sPar3, eChain, sExp, sApp, sPut, sIf, sFrz, frz, frz1, List.foldl_cons, List.foldl_nil, eBin, eUn, eVar, eC, eAnd, eOr, eIf, eLend, flat, eIxO, eOfF, eTup, eAll, fAll, eCall, eIs, eSl, fSl, oNone, oSome, aNil, aCons, bVal, bAnd, bOr, bNot, bYes, blOf, gNot, iSeq, iRg1, iRg2, seq_l, seq_t, tup_l, tup_t, lst_l, lst_t, len_l, len_t, gIx_l, gIx_t, gNm, wipeR, List.getElem?_cons_zero, List.getElem?_cons_succ, List.set_cons_zero, List.set_cons_succ, Option.bind_some, Option.bind_none, Option.map_some, Option.map_none, if_true, if_false, decide_true, decide_false, Bool.not_true, Bool.not_false, Bool.false_eq_true, reduceIte, gAdd_i, gSub_i, gNeg_i, gLt_i, gLe_i, gGt_i, gGe_i, gEq_i, gNe_i, gMul_b, gMod_p, gFdiv_p, Nat.reduceAdd, Nat.reduceMul, Nat.reduceLeDiff, at0, at1, at2, at3, at4, at5, at6, at7, at8, at9, at10, at11, at12, at13, at14, at15, gSl_l, cut_pos, cut_from, cut_to, Int.reduceToNat, List.drop_succ_cons, List.drop_zero, List.take_succ_cons, List.take_zero, List.take_nil, Nat.reduceSub, Int.reduceAdd, Int.reduceSub, Int.reduceMul, Int.reduceMod, Int.reduceDiv, Int.reduceNeg, List.length_cons, List.length_nil, Nat.zero_add, fComp, compL, rg1_3, mInt, mAbs, mGcd, mMax2, mMin2, mMax3, mMin3, mIsqrt, isT, et]); try rfl))
  refine Eq.trans (sSeq_eq (ρ' := [.va (fm true f), .va (.int f.a), .va (.int f.b), .va (.int f.c), .va (.int f.p), .va (.int f.q), .va (.int f.r), .va (.int f.tr), .va (.int f.mi), .va (.int f.dt), .va (.list (K.map .int)), .va (.int (abv f.tr f.mi f.dt)), x', .va (.int (zro f.tr f.mi f.dt)), .un]) ?_) ?_
  · unfold zro
    by_cases z1 : f.dt = 0
    · by_cases z2 : f.mi = 0
      · by_cases z3 : f.tr = 0
        · simp only [runD, List.map_cons, List.map_nil, List.replicate_zero, List.replicate_succ, List.cons_append, List.nil_append, List.append_nil, sRet, sRetN, sNx, sSeq, sSet, sSetF, sOwn, sTo, gsCons, gsNil, sPar, sPar3, eChain, sExp, sApp, sPut, sIf, sFrz, frz, frz1, List.foldl_cons, List.foldl_nil, eBin, eUn, eVar, eC, eAnd, eOr, eIf, eLend, flat, eIxO, eOfF, eTup, eAll, fAll, eCall, eIs, eSl, fSl, oNone, oSome, aNil, aCons, bVal, bAnd, bOr, bNot, bYes, blOf, gNot, iSeq, iRg1, iRg2, seq_l, seq_t, tup_l, tup_t, lst_l, lst_t, len_l, len_t, gIx_l, gIx_t, gNm, wipeR, List.getElem?_cons_zero, List.getElem?_cons_succ, List.set_cons_zero, List.set_cons_succ, Option.bind_some, Option.bind_none, Option.map_some, Option.map_none, if_true, if_false, decide_true, decide_false, Bool.not_true, Bool.not_false, Bool.false_eq_true, reduceIte, gAdd_i, gSub_i, gNeg_i, gLt_i, gLe_i, gGt_i, gGe_i, gEq_i, gNe_i, gMul_b, gMod_p, gFdiv_p, Nat.reduceAdd, Nat.reduceMul, Nat.reduceLeDiff, at0, at1, at2, at3, at4, at5, at6, at7, at8, at9, at10, at11, at12, at13, at14, at15, gSl_l, cut_pos, cut_from, cut_to, Int.reduceToNat, List.drop_succ_cons, List.drop_zero, List.take_succ_cons, List.take_zero, List.take_nil, Nat.reduceSub, Int.reduceAdd, Int.reduceSub, Int.reduceMul, Int.reduceMod, Int.reduceDiv, Int.reduceNeg, List.length_cons, List.length_nil, Nat.zero_add, fComp, compL, rg1_3, mInt, mAbs, mGcd, mMax2, mMin2, mMax3, mMin3, mIsqrt, isT, z1, z2, z3]
        · simp only [runD, List.map_cons, List.map_nil, List.replicate_zero, List.replicate_succ, List.cons_append, List.nil_append, List.append_nil, sRet, sRetN, sNx, sSeq, sSet, sSetF, sOwn, sTo, gsCons, gsNil, sPar, sPar3, eChain, sExp, sApp, sPut, sIf, sFrz, frz, frz1, List.foldl_cons, List.foldl_nil, eBin, eUn, eVar, eC, eAnd, eOr, eIf, eLend, flat, eIxO, eOfF, eTup, eAll, fAll, eCall, eIs, eSl, fSl, oNone, oSome, aNil, aCons, bVal, bAnd, bOr, bNot, bYes, blOf, gNot, iSeq, iRg1, iRg2, seq_l, seq_t, tup_l, tup_t, lst_l, lst_t, len_l, len_t, gIx_l, gIx_t, gNm, wipeR, List.getElem?_cons_zero, List.getElem?_cons_succ, List.set_cons_zero, List.set_cons_succ, Option.bind_some, Option.bind_none, Option.map_some, Option.map_none, if_true, if_false, decide_true, decide_false, Bool.not_true, Bool.not_false, Bool.false_eq_true, reduceIte, gAdd_i, gSub_i, gNeg_i, gLt_i, gLe_i, gGt_i, gGe_i, gEq_i, gNe_i, gMul_b, gMod_p, gFdiv_p, Nat.reduceAdd, Nat.reduceMul, Nat.reduceLeDiff, at0, at1, at2, at3, at4, at5, at6, at7, at8, at9, at10, at11, at12, at13, at14, at15, gSl_l, cut_pos, cut_from, cut_to, Int.reduceToNat, List.drop_succ_cons, List.drop_zero, List.take_succ_cons, List.take_zero, List.take_nil, Nat.reduceSub, Int.reduceAdd, Int.reduceSub, Int.reduceMul, Int.reduceMod, Int.reduceDiv, Int.reduceNeg, List.length_cons, List.length_nil, Nat.zero_add, fComp, compL, rg1_3, mInt, mAbs, mGcd, mMax2, mMin2, mMax3, mMin3, mIsqrt, isT, z1, z2, z3]
      · simp only [runD, List.map_cons, List.map_nil, List.replicate_zero, List.replicate_succ, List.cons_append, List.nil_append, List.append_nil, sRet, sRetN, sNx, sSeq, sSet, sSetF, sOwn, sTo, gsCons, gsNil, sPar, sPar3, eChain, sExp, sApp, sPut, sIf, sFrz, frz, frz1, List.foldl_cons, List.foldl_nil, eBin, eUn, eVar, eC, eAnd, eOr, eIf, eLend, flat, eIxO, eOfF, eTup, eAll, fAll, eCall, eIs, eSl, fSl, oNone, oSome, aNil, aCons, bVal, bAnd, bOr, bNot, bYes, blOf, gNot, iSeq, iRg1, iRg2, seq_l, seq_t, tup_l, tup_t, lst_l, lst_t, len_l, len_t, gIx_l, gIx_t, gNm, wipeR, List.getElem?_cons_zero, List.getElem?_cons_succ, List.set_cons_zero, List.set_cons_succ, Option.bind_some, Option.bind_none, Option.map_some, Option.map_none, if_true, if_false, decide_true, decide_false, Bool.not_true, Bool.not_false, Bool.false_eq_true, reduceIte, gAdd_i, gSub_i, gNeg_i, gLt_i, gLe_i, gGt_i, gGe_i, gEq_i, gNe_i, gMul_b, gMod_p, gFdiv_p, Nat.reduceAdd, Nat.reduceMul, Nat.reduceLeDiff, at0, at1, at2, at3, at4, at5, at6, at7, at8, at9, at10, at11, at12, at13, at14, at15, gSl_l, cut_pos, cut_from, cut_to, Int.reduceToNat, List.drop_succ_cons, List.drop_zero, List.take_succ_cons, List.take_zero, List.take_nil, Nat.reduceSub, Int.reduceAdd, Int.reduceSub, Int.reduceMul, Int.reduceMod, Int.reduceDiv, Int.reduceNeg, List.length_cons, List.length_nil, Nat.zero_add, fComp, compL, rg1_3, mInt, mAbs, mGcd, mMax2, mMin2, mMax3, mMin3, mIsqrt, isT, z1, z2]
    · simp only [runD, List.map_cons, List.map_nil, List.replicate_zero, List.replicate_succ, List.cons_append, List.nil_append, List.append_nil, sRet, sRetN, sNx, sSeq, sSet, sSetF, sOwn, sTo, gsCons, gsNil, sPar, sPar3, eChain, sExp, sApp, sPut, sIf, sFrz, frz, frz1, List.foldl_cons, List.foldl_nil, eBin, eUn, eVar, eC, eAnd, eOr, eIf, eLend, flat, eIxO, eOfF, eTup, eAll, fAll, eCall, eIs, eSl, fSl, oNone, oSome, aNil, aCons, bVal, bAnd, bOr, bNot, bYes, blOf, gNot, iSeq, iRg1, iRg2, seq_l, seq_t, tup_l, tup_t, lst_l, lst_t, len_l, len_t, gIx_l, gIx_t, gNm, wipeR, List.getElem?_cons_zero, List.getElem?_cons_succ, List.set_cons_zero, List.set_cons_succ, Option.bind_some, Option.bind_none, Option.map_some, Option.map_none, if_true, if_false, decide_true, decide_false, Bool.not_true, Bool.not_false, Bool.false_eq_true, reduceIte, gAdd_i, gSub_i, gNeg_i, gLt_i, gLe_i, gGt_i, gGe_i, gEq_i, gNe_i, gMul_b, gMod_p, gFdiv_p, Nat.reduceAdd, Nat.reduceMul, Nat.reduceLeDiff, at0, at1, at2, at3, at4, at5, at6, at7, at8, at9, at10, at11, at12, at13, at14, at15, gSl_l, cut_pos, cut_from, cut_to, Int.reduceToNat, List.drop_succ_cons, List.drop_zero, List.take_succ_cons, List.take_zero, List.take_nil, Nat.reduceSub, Int.reduceAdd, Int.reduceSub, Int.reduceMul, Int.reduceMod, Int.reduceDiv, Int.reduceNeg, List.length_cons, List.length_nil, Nat.zero_add, fComp, compL, rg1_3, mInt, mAbs, mGcd, mMax2, mMin2, mMax3, mMin3, mIsqrt, isT, z1]
  simp only [runD, List.map_cons, List.map_nil, List.replicate_zero, List.replicate_succ, List.cons_append, List.nil_append, List.append_nil, sRet, sRetN, sNx, sSeq, sSet, sSetF, sOwn, sTo, gsCons, gsNil, sPar, sPar3, eChain, sExp, sApp, sPut, sIf, sFrz, frz, frz1, List.foldl_cons, List.foldl_nil, eBin, eUn, eVar, eC, eAnd, eOr, eIf, eLend, flat, eIxO, eOfF, eTup, eAll, fAll, eCall, eIs, eSl, fSl, oNone, oSome, aNil, aCons, bVal, bAnd, bOr, bNot, bYes, blOf, gNot, iSeq, iRg1, iRg2, seq_l, seq_t, tup_l, tup_t, lst_l, lst_t, len_l, len_t, gIx_l, gIx_t, gNm, wipeR, List.getElem?_cons_zero, List.getElem?_cons_succ, List.set_cons_zero, List.set_cons_succ, Option.bind_some, Option.bind_none, Option.map_some, Option.map_none, if_true, if_false, decide_true, decide_false, Bool.not_true, Bool.not_false, Bool.false_eq_true, reduceIte, gAdd_i, gSub_i, gNeg_i, gLt_i, gLe_i, gGt_i, gGe_i, gEq_i, gNe_i, gMul_b, gMod_p, gFdiv_p, Nat.reduceAdd, Nat.reduceMul, Nat.reduceLeDiff, at0, at1, at2, at3, at4, at5, at6, at7, at8, at9, at10, at11, at12, at13, at14, at15, gSl_l, cut_pos, cut_from, cut_to, Int.reduceToNat, List.drop_succ_cons, List.drop_zero, List.take_succ_cons, List.take_zero, List.take_nil, Nat.reduceSub, Int.reduceAdd, Int.reduceSub, Int.reduceMul, Int.reduceMod, Int.reduceDiv, Int.reduceNeg, List.length_cons, List.length_nil, Nat.zero_add, fComp, compL, rg1_3, mInt, mAbs, mGcd, mMax2, mMin2, mMax3, mMin3, mIsqrt, isT, row_t]
end W

set_option linter.all false
set_option maxRecDepth 100000
set_option maxHeartbeats 4000000
namespace W
open PySem DL L2
theorem c_trials : c_TRIALS = .tuple (trials.map (rw3 true)) := rfl
theorem vis_go {n : Nat} {T : M3} (hT : BM 100000 T) : ∀ (l : List V3) (x : SC), (∀ r ∈ l, BV 2 r) → (sSeq (sFor (fun _ => some (l.map (rw3 true))) (gNm 1) (sIf (bVal (eBin gNe (eCall m_dot (aCons (eVar 1) (aCons (eCall m_image (aCons (eVar 0) (aCons (eVar 1) aNil))) aNil))) (eC (.int 0)))) (sRet (eVar 1)) sNx)) (sRet (eC .none))) [.va (tb true true T), x] = some (.rt (rowO (vis T l)))
  | [], x, _ => by simp only [runD, List.map_cons, List.map_nil, List.replicate_zero, List.replicate_succ, List.cons_append, List.nil_append, List.append_nil, sRet, sRetN, sNx, sSeq, sSet, sSetF, sOwn, sTo, gsCons, gsNil, sPar, sPar3, eChain, sExp, sApp, sPut, sIf, sFrz, frz, frz1, List.foldl_cons, List.foldl_nil, eBin, eUn, eVar, eC, eAnd, eOr, eIf, eLend, flat, eIxO, eOfF, eTup, eAll, fAll, eCall, eIs, eSl, fSl, oNone, oSome, aNil, aCons, bVal, bAnd, bOr, bNot, bYes, blOf, gNot, iSeq, iRg1, iRg2, seq_l, seq_t, tup_l, tup_t, lst_l, lst_t, len_l, len_t, gIx_l, gIx_t, gNm, wipeR, List.getElem?_cons_zero, List.getElem?_cons_succ, List.set_cons_zero, List.set_cons_succ, Option.bind_some, Option.bind_none, Option.map_some, Option.map_none, if_true, if_false, decide_true, decide_false, Bool.not_true, Bool.not_false, Bool.false_eq_true, reduceIte, gAdd_i, gSub_i, gNeg_i, gLt_i, gLe_i, gGt_i, gGe_i, gEq_i, gNe_i, gMul_b, gMod_p, gFdiv_p, Nat.reduceAdd, Nat.reduceMul, Nat.reduceLeDiff, at0, at1, at2, at3, at4, at5, at6, at7, at8, at9, at10, at11, at12, at13, at14, at15, gSl_l, cut_pos, cut_from, cut_to, Int.reduceToNat, List.drop_succ_cons, List.drop_zero, List.take_succ_cons, List.take_zero, List.take_nil, Nat.reduceSub, Int.reduceAdd, Int.reduceSub, Int.reduceMul, Int.reduceMod, Int.reduceDiv, Int.reduceNeg, List.length_cons, List.length_nil, Nat.zero_add, fComp, compL, rg1_3, mInt, mAbs, mGcd, mMax2, mMin2, mMax3, mMin3, mIsqrt, isT, sFor, List.map_nil, forL, vis, rowO]
  | r :: l, x, hl => by
    haveI := hl r List.mem_cons_self
    have e1 := v_image (t := T) (v := r) (j := true) (k := true) (l := true) (n := 100000) (m := 2) (by decide)
    have e2 := v_dot (u := r) (v := T.im r) (k := true) (l := true) (n := 2) (m := 100004) (by decide)
    have ih := vis_go (n := n) hT l (.va (rw3 true r)) fun q hq => hl q (List.mem_cons_of_mem _ hq)
    by_cases c : r.dot (T.im r) = 0
    · simp only [sSeq, sFor, List.map_cons, forL, runD, List.map_cons, List.map_nil, List.replicate_zero, List.replicate_succ, List.cons_append, List.nil_append, List.append_nil, sRet, sRetN, sNx, sSeq, sSet, sSetF, sOwn, sTo, gsCons, gsNil, sPar, sPar3, eChain, sExp, sApp, sPut, sIf, sFrz, frz, frz1, List.foldl_cons, List.foldl_nil, eBin, eUn, eVar, eC, eAnd, eOr, eIf, eLend, flat, eIxO, eOfF, eTup, eAll, fAll, eCall, eIs, eSl, fSl, oNone, oSome, aNil, aCons, bVal, bAnd, bOr, bNot, bYes, blOf, gNot, iSeq, iRg1, iRg2, seq_l, seq_t, tup_l, tup_t, lst_l, lst_t, len_l, len_t, gIx_l, gIx_t, gNm, wipeR, List.getElem?_cons_zero, List.getElem?_cons_succ, List.set_cons_zero, List.set_cons_succ, Option.bind_some, Option.bind_none, Option.map_some, Option.map_none, if_true, if_false, decide_true, decide_false, Bool.not_true, Bool.not_false, Bool.false_eq_true, reduceIte, gAdd_i, gSub_i, gNeg_i, gLt_i, gLe_i, gGt_i, gGe_i, gEq_i, gNe_i, gMul_b, gMod_p, gFdiv_p, Nat.reduceAdd, Nat.reduceMul, Nat.reduceLeDiff, at0, at1, at2, at3, at4, at5, at6, at7, at8, at9, at10, at11, at12, at13, at14, at15, gSl_l, cut_pos, cut_from, cut_to, Int.reduceToNat, List.drop_succ_cons, List.drop_zero, List.take_succ_cons, List.take_zero, List.take_nil, Nat.reduceSub, Int.reduceAdd, Int.reduceSub, Int.reduceMul, Int.reduceMod, Int.reduceDiv, Int.reduceNeg, List.length_cons, List.length_nil, Nat.zero_add, fComp, compL, rg1_3, mInt, mAbs, mGcd, mMax2, mMin2, mMax3, mMin3, mIsqrt, isT, e1, e2, c, vis, ne_eq, not_true_eq_false] at ih ⊢
      exact ih
    · simp only [sSeq, sFor, List.map_cons, forL, runD, List.map_cons, List.map_nil, List.replicate_zero, List.replicate_succ, List.cons_append, List.nil_append, List.append_nil, sRet, sRetN, sNx, sSeq, sSet, sSetF, sOwn, sTo, gsCons, gsNil, sPar, sPar3, eChain, sExp, sApp, sPut, sIf, sFrz, frz, frz1, List.foldl_cons, List.foldl_nil, eBin, eUn, eVar, eC, eAnd, eOr, eIf, eLend, flat, eIxO, eOfF, eTup, eAll, fAll, eCall, eIs, eSl, fSl, oNone, oSome, aNil, aCons, bVal, bAnd, bOr, bNot, bYes, blOf, gNot, iSeq, iRg1, iRg2, seq_l, seq_t, tup_l, tup_t, lst_l, lst_t, len_l, len_t, gIx_l, gIx_t, gNm, wipeR, List.getElem?_cons_zero, List.getElem?_cons_succ, List.set_cons_zero, List.set_cons_succ, Option.bind_some, Option.bind_none, Option.map_some, Option.map_none, if_true, if_false, decide_true, decide_false, Bool.not_true, Bool.not_false, Bool.false_eq_true, reduceIte, gAdd_i, gSub_i, gNeg_i, gLt_i, gLe_i, gGt_i, gGe_i, gEq_i, gNe_i, gMul_b, gMod_p, gFdiv_p, Nat.reduceAdd, Nat.reduceMul, Nat.reduceLeDiff, at0, at1, at2, at3, at4, at5, at6, at7, at8, at9, at10, at11, at12, at13, at14, at15, gSl_l, cut_pos, cut_from, cut_to, Int.reduceToNat, List.drop_succ_cons, List.drop_zero, List.take_succ_cons, List.take_zero, List.take_nil, Nat.reduceSub, Int.reduceAdd, Int.reduceSub, Int.reduceMul, Int.reduceMod, Int.reduceDiv, Int.reduceNeg, List.length_cons, List.length_nil, Nat.zero_add, fComp, compL, rg1_3, mInt, mAbs, mGcd, mMax2, mMin2, mMax3, mMin3, mIsqrt, isT, e1, e2, c, vis, ne_eq, not_false_eq_true, rowO]
theorem v_taken {T : M3} {l : V3} {n : Int} [BM 10000 T] [BV 10000 l] [Bd 10000 n] : m_square_taken [tb true true T, rw3 true l, .int n] = some (tb true true (tkn T l n)) := by
  have e := fun v (h : BV 10000 v) => v_times (n := 10000) (m := 10000) (i := n) (v := v) (k := true) (by decide)
  simp (config := {decide := true}) only [m_square_taken, b_square_taken, runD, List.map_cons, List.map_nil, List.replicate_zero, List.replicate_succ, List.cons_append, List.nil_append, List.append_nil, sRet, sRetN, sNx, sSeq, sSet, sSetF, sOwn, sTo, gsCons, gsNil, sPar, sPar3, eChain, sExp, sApp, sPut, sIf, sFrz, frz, frz1, List.foldl_cons, List.foldl_nil, eBin, eUn, eVar, eC, eAnd, eOr, eIf, eLend, flat, eIxO, eOfF, eTup, eAll, fAll, eCall, eIs, eSl, fSl, oNone, oSome, aNil, aCons, bVal, bAnd, bOr, bNot, bYes, blOf, gNot, iSeq, iRg1, iRg2, seq_l, seq_t, tup_l, tup_t, lst_l, lst_t, len_l, len_t, gIx_l, gIx_t, gNm, wipeR, List.getElem?_cons_zero, List.getElem?_cons_succ, List.set_cons_zero, List.set_cons_succ, Option.bind_some, Option.bind_none, Option.map_some, Option.map_none, if_true, if_false, decide_true, decide_false, Bool.not_true, Bool.not_false, Bool.false_eq_true, reduceIte, gAdd_i, gSub_i, gNeg_i, gLt_i, gLe_i, gGt_i, gGe_i, gEq_i, gNe_i, gMul_b, gMod_p, gFdiv_p, Nat.reduceAdd, Nat.reduceMul, Nat.reduceLeDiff, at0, at1, at2, at3, at4, at5, at6, at7, at8, at9, at10, at11, at12, at13, at14, at15, gSl_l, cut_pos, cut_from, cut_to, Int.reduceToNat, List.drop_succ_cons, List.drop_zero, List.take_succ_cons, List.take_zero, List.take_nil, Nat.reduceSub, Int.reduceAdd, Int.reduceSub, Int.reduceMul, Int.reduceMod, Int.reduceDiv, Int.reduceNeg, List.length_cons, List.length_nil, Nat.zero_add, fComp, compL, rg1_3, mInt, mAbs, mGcd, mMax2, mMin2, mMax3, mMin3, mIsqrt, isT, seq_tb, e T.a inferInstance, e T.b inferInstance, e T.c inferInstance, V3.smul, ix_r0, ix_r1, ix_r2]
  rfl
end W

set_option linter.all false
set_option maxRecDepth 100000
set_option maxHeartbeats 4000000
set_option exponentiation.threshold 20000
namespace DL
instance bf_tk {n m k : Nat} {f : F6} {l : V3} {i : Int} [hf : BF n f] [hl : BV m l] [hi : Bd k i] : BF (max (k + n) (m + m) + 1) (f.tk l i) :=
  ⟨(inferInstance : Bd _ (i * f.a - l.x * l.x)).lt, (inferInstance : Bd _ (i * f.b - l.y * l.y)).lt, (inferInstance : Bd _ (i * f.c - l.z * l.z)).lt, (inferInstance : Bd _ (i * f.p - l.y * l.z)).lt, (inferInstance : Bd _ (i * f.q - l.x * l.z)).lt, (inferInstance : Bd _ (i * f.r - l.x * l.y)).lt⟩
instance bv_fim {n m : Nat} {f : F6} {r : V3} [hf : BF n f] [hr : BV m r] : BV (n + m + 2) (f.im r) := (inferInstance : BV _ (f.gram.im r))
theorem cont_nat {n : Nat} {v : V3} (h : BV n v) : v.cont.natAbs < 2 ^ n := by
  unfold V3.cont
  rw [Int.natAbs_natCast]
  exact V3.cont_lt h
theorem prim_bd {n : Nat} {v : V3} (h : BV n v) : BV n v.prim := by
  unfold V3.prim
  by_cases c : v.cont = 0
  · rw [if_pos c]
    exact ⟨Nat.two_pow_pos n, Nat.two_pow_pos n, Nat.two_pow_pos n⟩
  · rw [if_neg c]
    exact ⟨Nat.lt_of_le_of_lt (Int.natAbs_ediv_le_natAbs _ _) h.x, Nat.lt_of_le_of_lt (Int.natAbs_ediv_le_natAbs _ _) h.y, Nat.lt_of_le_of_lt (Int.natAbs_ediv_le_natAbs _ _) h.z⟩
end DL
namespace W
open PySem DL L2
theorem v_ratio {n : Nat} {a b : Int} (hb : b ≠ 0) (h : b.natAbs < 2 ^ n) (hn : n < 8000) : ∃ x y, Lowest a b x y ∧ m_ratio [.int a, .int b] = some (r2 true ⟨x, y⟩) := by
  obtain ⟨x, y, hl, hf⟩ := lowest_ex a b hb
  obtain ⟨f1, f2⟩ := hf _ rfl
  have hG : 0 < Int.gcd a b := Nat.pos_of_ne_zero fun z => hb (Int.gcd_eq_zero_iff.mp z).2
  have lg := gcdLog (a := a) hb h hn
  have lg' : (-((Int.gcd a b : Nat) : Int)).natAbs.log2 < 9000 := by rw [Int.natAbs_neg]; exact lg
  have hmg : mGcd [.int a, .int b] = some (.int (Int.gcd a b : Nat)) := rfl
  have n0 : ((Int.gcd a b : Nat) : Int) ≠ 0 := by omega
  have n1 : -((Int.gcd a b : Nat) : Int) ≠ 0 := by omega
  generalize ((Int.gcd a b : Nat) : Int) = G at *
  refine ⟨x, y, hl, ?_⟩
  by_cases c : b < 0
  · obtain ⟨k1, k2⟩ := f2 c
    have d1 := @gFdiv_n a (-G) n1 lg'
    have d2 := @gFdiv_n b (-G) n1 lg'
    rw [k1] at d1
    rw [k2] at d2
    simp only [m_ratio, b_ratio, runD, List.map_cons, List.map_nil, List.replicate_zero, List.replicate_succ, List.cons_append, List.nil_append, List.append_nil, sRet, sRetN, sNx, sSeq, sSet, sSetF, sOwn, sTo, gsCons, gsNil, sPar, sPar3, eChain, sExp, sApp, sPut, sIf, sFrz, frz, frz1, List.foldl_cons, List.foldl_nil, eBin, eUn, eVar, eC, eAnd, eOr, eIf, eLend, flat, eIxO, eOfF, eTup, eAll, fAll, eCall, eIs, eSl, fSl, oNone, oSome, aNil, aCons, bVal, bAnd, bOr, bNot, bYes, blOf, gNot, iSeq, iRg1, iRg2, seq_l, seq_t, tup_l, tup_t, lst_l, lst_t, len_l, len_t, gIx_l, gIx_t, gNm, wipeR, List.getElem?_cons_zero, List.getElem?_cons_succ, List.set_cons_zero, List.set_cons_succ, Option.bind_some, Option.bind_none, Option.map_some, Option.map_none, if_true, if_false, decide_true, decide_false, Bool.not_true, Bool.not_false, Bool.false_eq_true, reduceIte, gAdd_i, gSub_i, gNeg_i, gLt_i, gLe_i, gGt_i, gGe_i, gEq_i, gNe_i, gMul_b, gMod_p, gFdiv_p, Nat.reduceAdd, Nat.reduceMul, Nat.reduceLeDiff, at0, at1, at2, at3, at4, at5, at6, at7, at8, at9, at10, at11, at12, at13, at14, at15, gSl_l, cut_pos, cut_from, cut_to, Int.reduceToNat, List.drop_succ_cons, List.drop_zero, List.take_succ_cons, List.take_zero, List.take_nil, Nat.reduceSub, Int.reduceAdd, Int.reduceSub, Int.reduceMul, Int.reduceMod, Int.reduceDiv, Int.reduceNeg, List.length_cons, List.length_nil, Nat.zero_add, fComp, compL, rg1_3, mInt, mAbs, mMax2, mMin2, mMax3, mMin3, hb, hmg, c, d1, d2, row2_t]
  · obtain ⟨k1, k2⟩ := f1 (by omega)
    have d1 := @gFdiv_n a G n0 lg
    have d2 := @gFdiv_n b G n0 lg
    rw [k1] at d1
    rw [k2] at d2
    simp only [m_ratio, b_ratio, runD, List.map_cons, List.map_nil, List.replicate_zero, List.replicate_succ, List.cons_append, List.nil_append, List.append_nil, sRet, sRetN, sNx, sSeq, sSet, sSetF, sOwn, sTo, gsCons, gsNil, sPar, sPar3, eChain, sExp, sApp, sPut, sIf, sFrz, frz, frz1, List.foldl_cons, List.foldl_nil, eBin, eUn, eVar, eC, eAnd, eOr, eIf, eLend, flat, eIxO, eOfF, eTup, eAll, fAll, eCall, eIs, eSl, fSl, oNone, oSome, aNil, aCons, bVal, bAnd, bOr, bNot, bYes, blOf, gNot, iSeq, iRg1, iRg2, seq_l, seq_t, tup_l, tup_t, lst_l, lst_t, len_l, len_t, gIx_l, gIx_t, gNm, wipeR, List.getElem?_cons_zero, List.getElem?_cons_succ, List.set_cons_zero, List.set_cons_succ, Option.bind_some, Option.bind_none, Option.map_some, Option.map_none, if_true, if_false, decide_true, decide_false, Bool.not_true, Bool.not_false, Bool.false_eq_true, reduceIte, gAdd_i, gSub_i, gNeg_i, gLt_i, gLe_i, gGt_i, gGe_i, gEq_i, gNe_i, gMul_b, gMod_p, gFdiv_p, Nat.reduceAdd, Nat.reduceMul, Nat.reduceLeDiff, at0, at1, at2, at3, at4, at5, at6, at7, at8, at9, at10, at11, at12, at13, at14, at15, gSl_l, cut_pos, cut_from, cut_to, Int.reduceToNat, List.drop_succ_cons, List.drop_zero, List.take_succ_cons, List.take_zero, List.take_nil, Nat.reduceSub, Int.reduceAdd, Int.reduceSub, Int.reduceMul, Int.reduceMod, Int.reduceDiv, Int.reduceNeg, List.length_cons, List.length_nil, Nat.zero_add, fComp, compL, rg1_3, mInt, mAbs, mMax2, mMin2, mMax3, mMin3, hb, hmg, c, d1, d2, row2_t]
theorem v_gram {k : Bool} {f : F6} : m_gram [fm k f] = some (tb true true f.gram) := by
  simp only [m_gram, b_gram, runD, List.map_cons, List.map_nil, List.replicate_zero, List.replicate_succ, List.cons_append, List.nil_append, List.append_nil, sRet, sRetN, sNx, sSeq, sSet, sSetF, sOwn, sTo, gsCons, gsNil, sPar, sPar3, eChain, sExp, sApp, sPut, sIf, sFrz, frz, frz1, List.foldl_cons, List.foldl_nil, eBin, eUn, eVar, eC, eAnd, eOr, eIf, eLend, flat, eIxO, eOfF, eTup, eAll, fAll, eCall, eIs, eSl, fSl, oNone, oSome, aNil, aCons, bVal, bAnd, bOr, bNot, bYes, blOf, gNot, iSeq, iRg1, iRg2, seq_l, seq_t, tup_l, tup_t, lst_l, lst_t, len_l, len_t, gIx_l, gIx_t, gNm, wipeR, List.getElem?_cons_zero, List.getElem?_cons_succ, List.set_cons_zero, List.set_cons_succ, Option.bind_some, Option.bind_none, Option.map_some, Option.map_none, if_true, if_false, decide_true, decide_false, Bool.not_true, Bool.not_false, Bool.false_eq_true, reduceIte, gAdd_i, gSub_i, gNeg_i, gLt_i, gLe_i, gGt_i, gGe_i, gEq_i, gNe_i, gMul_b, gMod_p, gFdiv_p, Nat.reduceAdd, Nat.reduceMul, Nat.reduceLeDiff, at0, at1, at2, at3, at4, at5, at6, at7, at8, at9, at10, at11, at12, at13, at14, at15, gSl_l, cut_pos, cut_from, cut_to, Int.reduceToNat, List.drop_succ_cons, List.drop_zero, List.take_succ_cons, List.take_zero, List.take_nil, Nat.reduceSub, Int.reduceAdd, Int.reduceSub, Int.reduceMul, Int.reduceMod, Int.reduceDiv, Int.reduceNeg, List.length_cons, List.length_nil, Nat.zero_add, fComp, compL, rg1_3, mInt, mAbs, mGcd, mMax2, mMin2, mMax3, mMin3, mIsqrt, isT, un_f, tab_t, row_t]
  rfl
theorem v_visible {T : M3} (hT : BM 100000 T) : m_visible_row [tb true true T] = some (rowO (vis T trials)) := by
  have e := vis_go (n := 0) hT trials .un trials_bd
  refine run_rt (k := 1) (u := b_visible_row) ?_
  simp only [List.map_cons, List.map_nil, List.replicate_succ, List.replicate_zero, List.cons_append, List.nil_append]
  unfold b_visible_row
  rw [c_trials]
  exact e
noncomputable abbrev cmpC : EB := bVal (eBin gIsnt (eVar 4) (eC .none))
noncomputable abbrev cmpB : ES := (sSeq (sSet 5 (eCall m_image (aCons (eVar 2) (aCons (eVar 4) aNil)))) (sSeq (sSet 6 (eCall m_dot (aCons (eVar 4) (aCons (eVar 5) aNil)))) (sSeq (sSet 7 (eCall m_content (aCons (eVar 5) aNil))) (sSeq (sApp 1 (eTup (aCons (eCall m_ratio (aCons (eBin gMul (eVar 7) (eVar 7)) (aCons (eBin gMul (eVar 3) (eVar 6)) aNil))) (aCons (eCall m_primitive (aCons (eVar 5) aNil)) aNil)))) (sSeq (sSet 2 (eCall m_square_taken (aCons (eVar 2) (aCons (eVar 5) (aCons (eVar 6) aNil))))) (sSeq (sSet 3 (eBin gMul (eVar 3) (eVar 6))) (sSet 4 (eCall m_visible_row (aCons (eVar 2) aNil)))))))))
theorem cmp_c0 {x0 x1 x2 x3 x5 x6 x7 : SC} : cmpC [x0, x1, x2, x3, .va (rowO none), x5, x6, x7] = some false := rfl
theorem cmp_c1 {x0 x1 x2 x3 x5 x6 x7 : SC} {r : V3} : cmpC [x0, x1, x2, x3, .va (rowO (some r)), x5, x6, x7] = some true := rfl
theorem cmp_turn {n m : Nat} {f : F6} {B : Int} {r : V3} (hf : BF n f) (hB : Bd m B) (hn : n ≤ 300) (hm : m ≤ 300) (hB0 : B ≠ 0) (hv : vis f.gram trials = some r) : ∃ s, Turn f B r s ∧ SqOk s ∧ ∀ (x0 x5 x6 x7 : SC) (acc : List PyData), acc.length < 10 →
    cmpB [x0, .ow acc, .va (tb true true f.gram), .va (.int B), .va (rowO (some r)), x5, x6, x7] = some (.nx [x0, .ow (acc ++ [prd s]), .va (tb true true (f.tk (f.im r) (r.dot (f.im r))).gram), .va (.int (B * r.dot (f.im r))), .va (rowO (vis (f.tk (f.im r) (r.dot (f.im r))).gram trials)), .va (rw3 true (f.im r)), .va (.int (r.dot (f.im r))), .va (.int (f.im r).cont)]) := by
  obtain ⟨hr, hz⟩ := vis_some hv
  haveI : BV 2 r := trials_bd r hr
  haveI : BF 300 f := hf.mono hn
  haveI : Bd 300 B := hB.up hm
  have hz' : r.dot (f.im r) ≠ 0 := hz
  have bl : BV 304 (f.im r) := inferInstance
  have bd : Bd 308 (r.dot (f.im r)) := inferInstance
  haveI : Bd 304 (f.im r).cont := ⟨cont_nat bl⟩
  have bBn : Bd 608 (B * r.dot (f.im r)) := inferInstance
  have bcc : Bd 608 ((f.im r).cont * (f.im r).cont) := inferInstance
  have bBn0 : B * r.dot (f.im r) ≠ 0 := fun z => by rcases Int.mul_eq_zero.mp z with q | q <;> contradiction
  obtain ⟨x, y, low, er⟩ := v_ratio (a := (f.im r).cont * (f.im r).cont) bBn0 bBn.lt (by decide)
  have T : Turn f B r ⟨x, y, (f.im r).prim⟩ := ⟨low, rfl⟩
  refine ⟨_, T, ⟨T.x0 hz hB0, low.pos, low.g, Nat.lt_of_le_of_lt low.bx (Bd.mono bcc.lt (by decide)), Nat.lt_of_le_of_lt low.by' (Bd.mono bBn.lt (by decide)), (prim_bd bl).mono (by decide)⟩, fun x0 x5 x6 x7 acc ha => ?_⟩
  have e1 : m_image [tb true true f.gram, rw3 true r] = some (rw3 true (f.im r)) := v_image (n := 300) (m := 2) (by decide)
  have e2 : m_dot [rw3 true r, rw3 true (f.im r)] = some (.int (r.dot (f.im r))) := v_dot (n := 2) (m := 304) (by decide)
  have e3 : m_content [rw3 true (f.im r)] = some (.int (f.im r).cont) := v_content
  have e4 : m_primitive [rw3 true (f.im r)] = some (rw3 true (f.im r).prim) := v_primitive (n := 304) (by decide)
  haveI : BM 10000 f.gram := BM.mono (n := 300) inferInstance (by decide)
  haveI : BV 10000 (f.im r) := bl.mono (by decide)
  haveI b6 : BF 700 (f.tk (f.im r) (r.dot (f.im r))) := BF.mono (@bf_tk 300 304 308 f (f.im r) (r.dot (f.im r)) inferInstance bl inferInstance) (by decide)
  have e5 : m_square_taken [tb true true f.gram, rw3 true (f.im r), .int (r.dot (f.im r))] = some (tb true true (f.tk (f.im r) (r.dot (f.im r))).gram) := by
    haveI : Bd 10000 (r.dot (f.im r)) := bd.up (by decide)
    rw [← tkn_gram]
    exact v_taken
  have e6 := v_visible (T := (f.tk (f.im r) (r.dot (f.im r))).gram) (BM.mono (n := 700) inferInstance (by decide))
  generalize hD : r.dot (f.im r) = D at *
  generalize hC : (f.im r).cont = C at *
  have mu : gMul (.int B) (.int D) = some (.int (B * D)) := gMul_b (n := 300) (m := 308) (by decide)
  have mc : gMul (.int C) (.int C) = some (.int (C * C)) := gMul_b (n := 304) (m := 304) (by decide)
  have al : acc.length < 16000000 := by omega
  simp only [cmpB, runD, List.map_cons, List.map_nil, List.replicate_zero, List.replicate_succ, List.cons_append, List.nil_append, List.append_nil, sRet, sRetN, sNx, sSeq, sSet, sSetF, sOwn, sTo, gsCons, gsNil, sPar, sPar3, eChain, sExp, sApp, sPut, sIf, sFrz, frz, frz1, List.foldl_cons, List.foldl_nil, eBin, eUn, eVar, eC, eAnd, eOr, eIf, eLend, flat, eIxO, eOfF, eTup, eAll, fAll, eCall, eIs, eSl, fSl, oNone, oSome, aNil, aCons, bVal, bAnd, bOr, bNot, bYes, blOf, gNot, iSeq, iRg1, iRg2, seq_l, seq_t, tup_l, tup_t, lst_l, lst_t, len_l, len_t, gIx_l, gIx_t, gNm, wipeR, List.getElem?_cons_zero, List.getElem?_cons_succ, List.set_cons_zero, List.set_cons_succ, Option.bind_some, Option.bind_none, Option.map_some, Option.map_none, if_true, if_false, decide_true, decide_false, Bool.not_true, Bool.not_false, Bool.false_eq_true, reduceIte, gAdd_i, gSub_i, gNeg_i, gLt_i, gLe_i, gGt_i, gGe_i, gEq_i, gNe_i, gMul_b, gMod_p, gFdiv_p, Nat.reduceAdd, Nat.reduceMul, Nat.reduceLeDiff, at0, at1, at2, at3, at4, at5, at6, at7, at8, at9, at10, at11, at12, at13, at14, at15, gSl_l, cut_pos, cut_from, cut_to, Int.reduceToNat, List.drop_succ_cons, List.drop_zero, List.take_succ_cons, List.take_zero, List.take_nil, Nat.reduceSub, Int.reduceAdd, Int.reduceSub, Int.reduceMul, Int.reduceMod, Int.reduceDiv, Int.reduceNeg, List.length_cons, List.length_nil, Nat.zero_add, fComp, compL, rg1_3, mInt, mAbs, mGcd, mMax2, mMin2, mMax3, mMin3, mIsqrt, isT, rowO, e1, e2, e3, e4, e5, e6, mu, mc, er, al, prd]
theorem v_completed {f : F6} (hf : BF 24 f) : ∃ S, Good f S ∧ ∀ k, m_completed [fm k f] = some (.tuple (S.map prd)) := by
  have c1 : (1 : Int) ≠ 0 := by decide
  have ev := v_visible (T := f.gram) (BM.mono (n := 24) inferInstance (by decide))
  have key : ∀ (S : List Sq) (n : Nat), (∀ k, ∃ x2' x3' x4' x5' x6' x7', whileF cmpC cmpB n [.va (fm k f), .ow [], .va (tb true true f.gram), .va (.int 1), .va (rowO (vis f.gram trials)), .un, .un, .un] = some (.nx [.va (fm k f), .ow (S.map prd), x2', x3', x4', x5', x6', x7'])) →
      ∀ k, m_completed [fm k f] = some (.tuple (S.map prd)) := by
    intro S n h k
    obtain ⟨x2', x3', x4', x5', x6', x7', hw⟩ := h k
    have hw2 := sWhile_of hw
    simp only [m_completed, b_completed, runD, List.map_cons, List.map_nil, List.replicate_zero, List.replicate_succ, List.cons_append, List.nil_append, List.append_nil, sRet, sRetN, sNx, sSeq, sSet, sSetF, sOwn, sTo, gsCons, gsNil, sPar, sPar3, eChain, sExp, sApp, sPut, sIf, sFrz, frz, frz1, List.foldl_cons, List.foldl_nil, eBin, eUn, eVar, eC, eAnd, eOr, eIf, eLend, flat, eIxO, eOfF, eTup, eAll, fAll, eCall, eIs, eSl, fSl, oNone, oSome, aNil, aCons, bVal, bAnd, bOr, bNot, bYes, blOf, gNot, iSeq, iRg1, iRg2, seq_l, seq_t, tup_l, tup_t, lst_l, lst_t, len_l, len_t, gIx_l, gIx_t, gNm, wipeR, List.getElem?_cons_zero, List.getElem?_cons_succ, List.set_cons_zero, List.set_cons_succ, Option.bind_some, Option.bind_none, Option.map_some, Option.map_none, if_true, if_false, decide_true, decide_false, Bool.not_true, Bool.not_false, Bool.false_eq_true, reduceIte, gAdd_i, gSub_i, gNeg_i, gLt_i, gLe_i, gGt_i, gGe_i, gEq_i, gNe_i, gMul_b, gMod_p, gFdiv_p, Nat.reduceAdd, Nat.reduceMul, Nat.reduceLeDiff, at0, at1, at2, at3, at4, at5, at6, at7, at8, at9, at10, at11, at12, at13, at14, at15, gSl_l, cut_pos, cut_from, cut_to, Int.reduceToNat, List.drop_succ_cons, List.drop_zero, List.take_succ_cons, List.take_zero, List.take_nil, Nat.reduceSub, Int.reduceAdd, Int.reduceSub, Int.reduceMul, Int.reduceMod, Int.reduceDiv, Int.reduceNeg, List.length_cons, List.length_nil, Nat.zero_add, fComp, compL, rg1_3, mInt, mAbs, mGcd, mMax2, mMin2, mMax3, mMin3, mIsqrt, isT, v_gram, ev]
    simp only [cmpC, cmpB] at hw2
    rw [hw2]
    rfl
  cases h0 : vis f.gram trials with
  | none =>
    refine ⟨[], .r0 (zero_vis h0), key [] 1 fun k => by
      rw [h0]
      exact ⟨_, _, _, _, _, _, whileF_end cmp_c0⟩⟩
  | some r1 =>
    obtain ⟨s, T1, o1, t1⟩ := cmp_turn (n := 24) (m := 2) hf ⟨by decide⟩ (by decide) (by decide) c1 h0
    have n1 := (vis_some h0).2
    haveI b1 : BV 2 r1 := trials_bd r1 (vis_some h0).1
    haveI bf1 : BF 60 (f.tk (f.im r1) (r1.dot (f.im r1))) := BF.mono (@bf_tk 24 28 32 f _ _ inferInstance inferInstance inferInstance) (by decide)
    have bB1 : Bd 32 (1 * r1.dot (f.im r1)) := by
      rw [Int.one_mul]
      exact (inferInstance : Bd 32 (r1.dot (f.im r1))).up (by decide)
    have hB1 : 1 * r1.dot (f.im r1) ≠ 0 := by rw [Int.one_mul]; exact n1
    cases h1 : vis (f.tk (f.im r1) (r1.dot (f.im r1))).gram trials with
    | none =>
      refine ⟨[s], Turn.good1 n1 T1 o1 (zero_vis h1), key [s] 2 fun k => by
        have e1 := whileF_nx (n := 1) cmp_c1 (t1 (.va (fm k f)) .un .un .un [] (by simp))
        rw [h1] at e1
        rw [h0]
        exact ⟨_, _, _, _, _, _, e1.trans (whileF_end cmp_c0)⟩⟩
    | some r2 =>
      have ex : ∃ f1, f1 = f.tk (f.im r1) (r1.dot (f.im r1)) := ⟨_, rfl⟩
      obtain ⟨f1, ef1⟩ := ex
      rw [← ef1] at h1 bf1 t1
      obtain ⟨t, T2, o2, t2⟩ := cmp_turn (n := 60) (m := 32) bf1 bB1 (by decide) (by decide) hB1 h1
      have n2 := (vis_some h1).2
      haveI b2 : BV 2 r2 := trials_bd r2 (vis_some h1).1
      haveI bf2 : BF 140 (f1.tk (f1.im r2) (r2.dot (f1.im r2))) := BF.mono (@bf_tk 60 64 68 f1 _ _ inferInstance inferInstance inferInstance) (by decide)
      have bB2 : Bd 100 (1 * r1.dot (f.im r1) * r2.dot (f1.im r2)) := (inferInstance : Bd 100 (1 * r1.dot (f.im r1) * r2.dot (f1.im r2))).up (by decide)
      have hB2 : 1 * r1.dot (f.im r1) * r2.dot (f1.im r2) ≠ 0 := fun z => by rcases Int.mul_eq_zero.mp z with q | q <;> contradiction
      cases h2 : vis (f1.tk (f1.im r2) (r2.dot (f1.im r2))).gram trials with
      | none =>
        subst ef1
        refine ⟨[s, t], Turn.good2 n1 T1 o1 n2 T2 o2 (zero_vis h2), key [s, t] 3 fun k => by
          have e1 := whileF_nx (n := 2) cmp_c1 (t1 (.va (fm k f)) .un .un .un [] (by simp))
          rw [h1] at e1
          have e2 := e1.trans (whileF_nx (n := 1) cmp_c1 (t2 _ _ _ _ ([] ++ [prd s]) (by simp)))
          rw [h2] at e2
          rw [h0]
          exact ⟨_, _, _, _, _, _, e2.trans (whileF_end cmp_c0)⟩⟩
      | some r3 =>
        have ex : ∃ f2, f2 = f1.tk (f1.im r2) (r2.dot (f1.im r2)) := ⟨_, rfl⟩
        obtain ⟨f2, ef2⟩ := ex
        rw [← ef2] at h2 bf2 t2
        obtain ⟨u, T3, o3, t3⟩ := cmp_turn (n := 140) (m := 100) bf2 bB2 (by decide) (by decide) hB2 h2
        have n3 := (vis_some h2).2
        have e3 := (three n1 ef1 n2 ef2 n3).2
        rw [e3, vis_zero] at t3
        refine ⟨[s, t, u], Turn.good3 n1 T1 o1 ef1 n2 T2 o2 ef2 n3 T3 o3, key [s, t, u] 4 fun k => by
          have e1 := whileF_nx (n := 3) cmp_c1 (t1 (.va (fm k f)) .un .un .un [] (by simp))
          rw [h1] at e1
          have e2 := e1.trans (whileF_nx (n := 2) cmp_c1 (t2 _ _ _ _ ([] ++ [prd s]) (by simp)))
          rw [h2] at e2
          have e3 := e2.trans (whileF_nx (n := 1) cmp_c1 (t3 _ _ _ _ ([] ++ [prd s] ++ [prd t]) (by simp)))
          rw [h0]
          exact ⟨_, _, _, _, _, _, e3.trans (whileF_end cmp_c0)⟩⟩
end W

set_option linter.all false
set_option maxRecDepth 100000
set_option maxHeartbeats 4000000
set_option exponentiation.threshold 20000
namespace DL
open PySem
theorem compL_map {α : Type} {p q : α → PyData} {g : EG} {c : EB} {e : EV} {ρ : Rho} : ∀ S : List α, (∀ s ∈ S, ∃ ρ1, g (p s) ρ = some ρ1 ∧ c ρ1 = some true ∧ e ρ1 = some (q s)) → compL g c e ρ (S.map p) = some (S.map q)
  | [], _ => rfl
  | s :: S, h => by
    obtain ⟨ρ1, h1, h2, h3⟩ := h s List.mem_cons_self
    rw [List.map_cons, compL, h1, Option.bind_some, h2, Option.bind_some, if_pos rfl, h3, Option.bind_some, compL_map S fun s hs => h s (List.mem_cons_of_mem _ hs)]
    rfl
theorem compL_filter {α : Type} {p q : α → PyData} {P : α → Bool} {g : EG} {c : EB} {e : EV} {ρ : Rho} : ∀ S : List α, (∀ s ∈ S, ∃ ρ1, g (p s) ρ = some ρ1 ∧ c ρ1 = some (P s) ∧ e ρ1 = some (q s)) → compL g c e ρ (S.map p) = some ((S.filter P).map q)
  | [], _ => rfl
  | s :: S, h => by
    obtain ⟨ρ1, h1, h2, h3⟩ := h s List.mem_cons_self
    have ih := compL_filter (P := P) S fun s hs => h s (List.mem_cons_of_mem _ hs)
    rw [List.map_cons, compL, h1, Option.bind_some, h2, Option.bind_some, List.filter_cons]
    cases P s with
    | true => rw [if_pos rfl, if_pos rfl, h3, Option.bind_some, ih]; rfl
    | false => rw [if_neg (by simp), if_neg (by simp), ih]
theorem ints_map {α : Type} (q : α → Int) : ∀ S : List α, intsOf (S.map fun s => PyData.int (q s)) = some (S.map q)
  | [] => rfl
  | s :: S => by
    show (intsOf (S.map fun s => PyData.int (q s))).map (q s :: ·) = _
    rw [ints_map q S]
    rfl
def sgn (x : Int) : Int := if 0 < x then 1 else if x < 0 then -1 else 0
theorem cnt_pos : ∀ S : List Sq, (((S.map fun s => sgn s.x).count 1 : Nat) : Int) = cnt S
  | [] => rfl
  | s :: S => by
    have ih := cnt_pos S
    unfold cnt at ih ⊢
    rw [List.map_cons, List.map_cons, List.sum_cons, List.count_cons, ← ih]
    unfold pos1 sgn
    by_cases c : 0 < s.x
    · simp [c]; omega
    · by_cases c2 : s.x < 0
      · simp [c, c2]
      · simp [c, c2]
theorem cnt_neg : ∀ {S : List Sq}, (∀ s ∈ S, s.x ≠ 0) → (((S.map fun s => sgn s.x).count (-1) : Nat) : Int) = S.length - cnt S
  | [], _ => rfl
  | s :: S, h => by
    have ih := cnt_neg (S := S) fun s hs => h s (List.mem_cons_of_mem _ hs)
    have h0 := h s List.mem_cons_self
    unfold cnt at ih ⊢
    rw [List.map_cons, List.map_cons, List.sum_cons, List.count_cons]
    unfold pos1 sgn at *
    simp only [List.length_cons]
    by_cases c : 0 < s.x
    · simp [c]; omega
    · have c2 : s.x < 0 := by omega
      simp [c, c2]; omega
theorem cnt_flt : ∀ S : List Sq, (((S.filter fun s => decide (0 < s.x)).length : Nat) : Int) = cnt S
  | [] => rfl
  | s :: S => by
    have ih := cnt_flt S
    unfold cnt at ih ⊢
    rw [List.map_cons, List.sum_cons, List.filter_cons, ← ih]
    unfold pos1
    by_cases c : 0 < s.x
    · simp [c]; omega
    · simp [c]
theorem Good.len {f : F6} {S : List Sq} (h : Good f S) : S.length ≤ 3 := by cases h <;> simp
theorem Good.all {f : F6} {S : List Sq} (h : Good f S) : ∀ s ∈ S, SqOk s := by
  cases h with
  | r0 _ => intro s hs; simp at hs
  | r1 s o _ _ => intro t ht; simp at ht; subst ht; exact o
  | r2 s t o1 o2 _ _ => intro u hu; simp at hu; rcases hu with rfl | rfl <;> assumption
  | r3 s t u o1 o2 o3 _ _ => intro v hv; simp at hv; rcases hv with rfl | rfl | rfl <;> assumption
section
variable {s : Sq}
theorem ix_s0 : gIx (prd s) (.int 0) = some (r2 true ⟨s.x, s.y⟩) := rfl
theorem ix_s1 : gIx (prd s) (.int 1) = some (rw3 true s.l) := rfl
theorem isTup_s : isT .tuple (prd s) = some true := rfl
theorem len_s : mLen [prd s] = some (.int 2) := rfl
end
theorem ct0 : ((0 : Nat) : Int) = 0 := rfl
theorem ct1 : ((1 : Nat) : Int) = 1 := rfl
theorem ct2 : ((2 : Nat) : Int) = 2 := rfl
theorem ct3 : ((3 : Nat) : Int) = 3 := rfl
theorem eqvAll : ∀ (l : List Sq), PyData.eqvAll (l.map prd) (l.map prd) = true
  | [] => rfl
  | s :: l => by
    rw [List.map_cons, PyData.eqvAll, eqvAll l]
    have : PyData.eqv (prd s) (prd s) = (PyData.eqv (r2 true ⟨s.x, s.y⟩) (r2 true ⟨s.x, s.y⟩) && (PyData.eqv (rw3 true s.l) (rw3 true s.l) && true)) := rfl
    rw [this, eqv_p, eqv_r]
    simp
end DL
namespace W
open PySem DL L2
theorem w_any_form (c d : Int) : ∃ f, BF 20 f ∧ m__law_any_form [.int c, .int d] = some (fm true f) := by
  obtain ⟨r, k, g⟩ := F__law_any_form.run [.num, .num] (intsA true 6 (-100) 100) (by decide +kernel) (ds := [.int c, .int d]) (gp_cons g_num (gp_cons g_num (gp_nil _))) rfl
  rw [Fe__law_any_form] at k
  obtain ⟨f, rfl, h1, h2, h3, h4, h5, h6⟩ := form_of g
  exact ⟨f, ⟨by omega, by omega, by omega, by omega, by omega, by omega⟩, k⟩
theorem v_sign {k : Bool} {v : V2} : m_ratio_sign [r2 k v] = some (.int (sgn v.x)) := by
  unfold sgn
  by_cases c : 0 < v.x
  · simp only [m_ratio_sign, b_ratio_sign, runD, List.map_cons, List.map_nil, List.replicate_zero, List.replicate_succ, List.cons_append, List.nil_append, List.append_nil, sRet, sRetN, sNx, sSeq, sSet, sSetF, sOwn, sTo, gsCons, gsNil, sPar, sPar3, eChain, sExp, sApp, sPut, sIf, sFrz, frz, frz1, List.foldl_cons, List.foldl_nil, eBin, eUn, eVar, eC, eAnd, eOr, eIf, eLend, flat, eIxO, eOfF, eTup, eAll, fAll, eCall, eIs, eSl, fSl, oNone, oSome, aNil, aCons, bVal, bAnd, bOr, bNot, bYes, blOf, gNot, iSeq, iRg1, iRg2, seq_l, seq_t, tup_l, tup_t, lst_l, lst_t, len_l, len_t, gIx_l, gIx_t, gNm, wipeR, List.getElem?_cons_zero, List.getElem?_cons_succ, List.set_cons_zero, List.set_cons_succ, Option.bind_some, Option.bind_none, Option.map_some, Option.map_none, if_true, if_false, decide_true, decide_false, Bool.not_true, Bool.not_false, Bool.false_eq_true, reduceIte, gAdd_i, gSub_i, gNeg_i, gLt_i, gLe_i, gGt_i, gGe_i, gEq_i, gNe_i, gMul_b, gMod_p, gFdiv_p, Nat.reduceAdd, Nat.reduceMul, Nat.reduceLeDiff, at0, at1, at2, at3, at4, at5, at6, at7, at8, at9, at10, at11, at12, at13, at14, at15, gSl_l, cut_pos, cut_from, cut_to, Int.reduceToNat, List.drop_succ_cons, List.drop_zero, List.take_succ_cons, List.take_zero, List.take_nil, Nat.reduceSub, Int.reduceAdd, Int.reduceSub, Int.reduceMul, Int.reduceMod, Int.reduceDiv, Int.reduceNeg, List.length_cons, List.length_nil, Nat.zero_add, fComp, compL, rg1_3, mInt, mAbs, mGcd, mMax2, mMin2, mMax3, mMin3, mIsqrt, isT, ix_p0, c]
  · by_cases c2 : v.x < 0
    · simp only [m_ratio_sign, b_ratio_sign, runD, List.map_cons, List.map_nil, List.replicate_zero, List.replicate_succ, List.cons_append, List.nil_append, List.append_nil, sRet, sRetN, sNx, sSeq, sSet, sSetF, sOwn, sTo, gsCons, gsNil, sPar, sPar3, eChain, sExp, sApp, sPut, sIf, sFrz, frz, frz1, List.foldl_cons, List.foldl_nil, eBin, eUn, eVar, eC, eAnd, eOr, eIf, eLend, flat, eIxO, eOfF, eTup, eAll, fAll, eCall, eIs, eSl, fSl, oNone, oSome, aNil, aCons, bVal, bAnd, bOr, bNot, bYes, blOf, gNot, iSeq, iRg1, iRg2, seq_l, seq_t, tup_l, tup_t, lst_l, lst_t, len_l, len_t, gIx_l, gIx_t, gNm, wipeR, List.getElem?_cons_zero, List.getElem?_cons_succ, List.set_cons_zero, List.set_cons_succ, Option.bind_some, Option.bind_none, Option.map_some, Option.map_none, if_true, if_false, decide_true, decide_false, Bool.not_true, Bool.not_false, Bool.false_eq_true, reduceIte, gAdd_i, gSub_i, gNeg_i, gLt_i, gLe_i, gGt_i, gGe_i, gEq_i, gNe_i, gMul_b, gMod_p, gFdiv_p, Nat.reduceAdd, Nat.reduceMul, Nat.reduceLeDiff, at0, at1, at2, at3, at4, at5, at6, at7, at8, at9, at10, at11, at12, at13, at14, at15, gSl_l, cut_pos, cut_from, cut_to, Int.reduceToNat, List.drop_succ_cons, List.drop_zero, List.take_succ_cons, List.take_zero, List.take_nil, Nat.reduceSub, Int.reduceAdd, Int.reduceSub, Int.reduceMul, Int.reduceMod, Int.reduceDiv, Int.reduceNeg, List.length_cons, List.length_nil, Nat.zero_add, fComp, compL, rg1_3, mInt, mAbs, mGcd, mMax2, mMin2, mMax3, mMin3, mIsqrt, isT, ix_p0, c, c2]
    · simp only [m_ratio_sign, b_ratio_sign, runD, List.map_cons, List.map_nil, List.replicate_zero, List.replicate_succ, List.cons_append, List.nil_append, List.append_nil, sRet, sRetN, sNx, sSeq, sSet, sSetF, sOwn, sTo, gsCons, gsNil, sPar, sPar3, eChain, sExp, sApp, sPut, sIf, sFrz, frz, frz1, List.foldl_cons, List.foldl_nil, eBin, eUn, eVar, eC, eAnd, eOr, eIf, eLend, flat, eIxO, eOfF, eTup, eAll, fAll, eCall, eIs, eSl, fSl, oNone, oSome, aNil, aCons, bVal, bAnd, bOr, bNot, bYes, blOf, gNot, iSeq, iRg1, iRg2, seq_l, seq_t, tup_l, tup_t, lst_l, lst_t, len_l, len_t, gIx_l, gIx_t, gNm, wipeR, List.getElem?_cons_zero, List.getElem?_cons_succ, List.set_cons_zero, List.set_cons_succ, Option.bind_some, Option.bind_none, Option.map_some, Option.map_none, if_true, if_false, decide_true, decide_false, Bool.not_true, Bool.not_false, Bool.false_eq_true, reduceIte, gAdd_i, gSub_i, gNeg_i, gLt_i, gLe_i, gGt_i, gGe_i, gEq_i, gNe_i, gMul_b, gMod_p, gFdiv_p, Nat.reduceAdd, Nat.reduceMul, Nat.reduceLeDiff, at0, at1, at2, at3, at4, at5, at6, at7, at8, at9, at10, at11, at12, at13, at14, at15, gSl_l, cut_pos, cut_from, cut_to, Int.reduceToNat, List.drop_succ_cons, List.drop_zero, List.take_succ_cons, List.take_zero, List.take_nil, Nat.reduceSub, Int.reduceAdd, Int.reduceSub, Int.reduceMul, Int.reduceMod, Int.reduceDiv, Int.reduceNeg, List.length_cons, List.length_nil, Nat.zero_add, fComp, compL, rg1_3, mInt, mAbs, mGcd, mMax2, mMin2, mMax3, mMin3, mIsqrt, isT, ix_p0, c, c2]
theorem v_signature {f : F6} {S : List Sq} (h : Good f S) (e : ∀ k, m_completed [fm k f] = some (.tuple (S.map prd))) (k : Bool) : m_signature [fm k f] = some (rw3 true ⟨cnt S, S.length - cnt S, 3 - S.length⟩) := by
  have hl := h.len
  have c1 : ∀ ρ : Rho, 2 < ρ.length → compL (gNm 2) bYes (eCall m_ratio_sign (aCons (eBin gIx (eVar 2) (eC (.int 0))) aNil)) ρ (S.map prd) = some (S.map fun s => .int (sgn s.x)) := fun ρ hρ => compL_map S fun s _ => by
    refine ⟨ρ.set 2 (.va (prd s)), rfl, rfl, ?_⟩
    have : (ρ.set 2 (.va (prd s)))[2]? = some (.va (prd s)) := List.getElem?_set_self hρ
    simp only [eCall, aCons, aNil, eBin, eVar, eC, this, Option.bind_some, ix_s0, v_sign]
  have c2 := c1 (wipeR [.va (fm k f), .un, .un] [2]) (by simp [wipeR])
  have g1 : gCnt (.list (S.map fun s => .int (sgn s.x))) (.int 1) = some (.int (cnt S)) := by
    show ((intsOf _).map _) = _
    rw [ints_map (fun s : Sq => sgn s.x), Option.map_some, cnt_pos]
  have g2 : gCnt (.list (S.map fun s => .int (sgn s.x))) (.int (-1)) = some (.int (S.length - cnt S)) := by
    show ((intsOf _).map _) = _
    rw [ints_map (fun s : Sq => sgn s.x), Option.map_some, cnt_neg fun s hs => (h.all s hs).x0]
  have g3 : S.length ≤ 16000000 := by omega
  simp only [wipeR, List.set_cons_succ, List.set_cons_zero] at c2
  simp only [m_signature, b_signature, runD, List.map_cons, List.map_nil, List.replicate_zero, List.replicate_succ, List.cons_append, List.nil_append, List.append_nil, sRet, sRetN, sNx, sSeq, sSet, sSetF, sOwn, sTo, gsCons, gsNil, sPar, sPar3, eChain, sExp, sApp, sPut, sIf, sFrz, frz, frz1, List.foldl_cons, List.foldl_nil, eBin, eUn, eVar, eC, eAnd, eOr, eIf, eLend, flat, eIxO, eOfF, eTup, eAll, fAll, eCall, eIs, eSl, fSl, oNone, oSome, aNil, aCons, bVal, bAnd, bOr, bNot, bYes, blOf, gNot, iSeq, iRg1, iRg2, seq_l, seq_t, tup_l, tup_t, lst_l, lst_t, len_l, len_t, gIx_l, gIx_t, gNm, wipeR, List.getElem?_cons_zero, List.getElem?_cons_succ, List.set_cons_zero, List.set_cons_succ, Option.bind_some, Option.bind_none, Option.map_some, Option.map_none, if_true, if_false, decide_true, decide_false, Bool.not_true, Bool.not_false, Bool.false_eq_true, reduceIte, gAdd_i, gSub_i, gNeg_i, gLt_i, gLe_i, gGt_i, gGe_i, gEq_i, gNe_i, gMul_b, gMod_p, gFdiv_p, Nat.reduceAdd, Nat.reduceMul, Nat.reduceLeDiff, at0, at1, at2, at3, at4, at5, at6, at7, at8, at9, at10, at11, at12, at13, at14, at15, gSl_l, cut_pos, cut_from, cut_to, Int.reduceToNat, List.drop_succ_cons, List.drop_zero, List.take_succ_cons, List.take_zero, List.take_nil, Nat.reduceSub, Int.reduceAdd, Int.reduceSub, Int.reduceMul, Int.reduceMod, Int.reduceDiv, Int.reduceNeg, List.length_cons, List.length_nil, Nat.zero_add, fComp, compL, rg1_3, mInt, mAbs, mGcd, mMax2, mMin2, mMax3, mMin3, mIsqrt, isT, e, iSeq, seqOf, g3, c2, g1, g2, List.length_map, row_t]
end W

set_option linter.all false
set_option maxRecDepth 100000
set_option maxHeartbeats 4000000
namespace DL
open PySem
theorem smul_chg (n : Int) (f : F6) (t : M3) : (f.smul n).chg t = (f.chg t).smul n := by
  simp only [F6.chg, F6.smul, F6.gram, M3.fo, M3.mul, M3.tr, V3.dot]
  refine F6.ext' ?_ ?_ ?_ ?_ ?_ ?_ <;> grind
theorem chg_sm (n : Int) (f : F6) : f.chg (M3.one.sm n) = f.smul (n * n) := by
  simp only [F6.chg, F6.smul, F6.gram, M3.fo, M3.mul, M3.tr, M3.one, M3.sm, V3.smul, V3.dot]
  refine F6.ext' ?_ ?_ ?_ ?_ ?_ ?_ <;> grind
theorem smul_smul (m n : Int) (f : F6) : (f.smul n).smul m = f.smul (m * n) := by
  unfold F6.smul
  refine F6.ext' ?_ ?_ ?_ ?_ ?_ ?_ <;> grind
section
variable {f : F6} {N x1 x2 x3 : Int} {l1 l2 l3 : V3}
theorem sgn1 (hN : 0 < N) (h1 : x1 ≠ 0) (n : l1 ≠ ⟨0, 0, 0⟩) (e : f.smul N = sum3 x1 l1 0 l1 0 l1) : abv f.tr f.mi f.dt = pos1 x1 ∧ zro f.tr f.mi f.dt = 2 := by
  obtain ⟨a, z⟩ := abv_of hN e
  rw [a, z]
  obtain ⟨k1, k2, k3, k4⟩ := rank1 (l2 := l1) (l3 := l1) h1 n
  rw [k1, k2, k3]
  unfold zro
  rw [if_pos rfl, if_pos rfl, if_neg k4]
  exact ⟨rfl, rfl⟩
theorem sgn2 (hN : 0 < N) (h1 : x1 ≠ 0) (h2 : x2 ≠ 0) (n : l1.cross l2 ≠ ⟨0, 0, 0⟩) (e : f.smul N = sum3 x1 l1 x2 l2 0 l1) : abv f.tr f.mi f.dt = pos1 x1 + pos1 x2 ∧ zro f.tr f.mi f.dt = 1 := by
  obtain ⟨a, z⟩ := abv_of hN e
  rw [a, z]
  obtain ⟨k1, k2, k3⟩ := rank2 (l3 := l1) h1 h2 n
  rw [k1, k2]
  unfold zro
  rw [if_pos rfl, if_neg k3]
  exact ⟨rfl, rfl⟩
theorem sgn3 (hN : 0 < N) (h1 : x1 ≠ 0) (h2 : x2 ≠ 0) (h3 : x3 ≠ 0) (n : l1.dot (l2.cross l3) ≠ 0) (e : f.smul N = sum3 x1 l1 x2 l2 x3 l3) : abv f.tr f.mi f.dt = pos1 x1 + pos1 x2 + pos1 x3 ∧ zro f.tr f.mi f.dt = 0 := by
  obtain ⟨a, z⟩ := abv_of hN e
  rw [a, z]
  obtain ⟨k1, k2⟩ := rank3 h1 h2 h3 n
  rw [k1]
  unfold zro
  rw [if_neg k2]
  exact ⟨rfl, rfl⟩
/-- back through the adjugate -/
theorem back_adj {t : M3} {D : Int} (e : (f.chg t).smul D = sum3 x1 l1 x2 l2 x3 l3) : f.smul (D * (t.det * t.det)) = sum3 x1 (t.adj.tr.im l1) x2 (t.adj.tr.im l2) x3 (t.adj.tr.im l3) := by
  rw [← sum3_chg, ← e, smul_chg, F6.chg_chg, M3.mul_adj, chg_sm, smul_smul]
end
section
variable {f : F6} {t : M3} (hd : t.det ≠ 0)
include hd
theorem dd_pos : 0 < t.det * t.det := by
  rcases Int.lt_or_lt_of_ne hd with h | h
  · exact Int.mul_pos_of_neg_of_neg h h
  · exact Int.mul_pos h h
theorem adj_nz : t.adj.tr.det ≠ 0 := by
  rw [M3.det_tr, M3.det_adj]
  have := dd_pos hd
  omega
theorem im_nz {l : V3} (n : l ≠ ⟨0, 0, 0⟩) : t.adj.tr.im l ≠ ⟨0, 0, 0⟩ := fun z => n (M3.im_zero (adj_nz hd) z)
theorem crossA_nz {l m : V3} (n : l.cross m ≠ ⟨0, 0, 0⟩) : (t.adj.tr.im l).cross (t.adj.tr.im m) ≠ ⟨0, 0, 0⟩ := by
  rw [M3.cross_im]
  have h : t.adj.tr.adj.tr.det ≠ 0 := by
    rw [M3.det_tr, M3.det_adj]
    have := dd_pos (adj_nz hd)
    omega
  exact fun z => n (M3.im_zero h z)
theorem det_im (A : M3) (l m k : V3) : (A.im l).dot ((A.im m).cross (A.im k)) = A.det * l.dot (m.cross k) := by
  simp only [M3.im, M3.det, V3.dot, V3.cross]
  grind
theorem dot_nz3 {l m k : V3} (n : l.dot (m.cross k) ≠ 0) : (t.adj.tr.im l).dot ((t.adj.tr.im m).cross (t.adj.tr.im k)) ≠ 0 := by
  rw [det_im hd]
  intro z
  rcases Int.mul_eq_zero.mp z with q | q
  · exact adj_nz hd q
  · exact n q
/-- the signature of the changed form is that of the form -/
theorem Good.back {S : List Sq} (h : Good (f.chg t) S) : abv f.tr f.mi f.dt = cnt S ∧ zro f.tr f.mi f.dt = 3 - S.length := by
  have dp := dd_pos hd
  generalize hg : f.chg t = g at h
  cases h with
  | r0 h =>
    rw [h] at hg
    have e : (f.chg t).smul 1 = sum3 0 ⟨0, 0, 0⟩ 0 ⟨0, 0, 0⟩ 0 ⟨0, 0, 0⟩ := by rw [hg]; decide
    have e2 := back_adj e
    obtain ⟨a, z⟩ := abv_of (show 0 < 1 * (t.det * t.det) by omega) e2
    rw [a, z]
    have : ∀ u : V3, sum3 0 u 0 u 0 u = F6.zero := fun u => by unfold sum3 F6.zero; simp
    rw [this]
    decide
  | r1 s o n e =>
    rw [← hg] at e
    have y1 : 0 < s.y := o.y1
    obtain ⟨a, z⟩ := sgn1 (Int.mul_pos y1 dp) o.x0 (im_nz hd n) (back_adj e)
    rw [a, z]
    unfold cnt
    simp
  | r2 s u o1 o2 n e =>
    rw [← hg] at e
    have y1 : 0 < s.y := o1.y1
    have y2 : 0 < u.y := o2.y1
    obtain ⟨a, z⟩ := sgn2 (Int.mul_pos (Int.mul_pos y1 y2) dp) (show s.x * u.y ≠ 0 from fun z => by rcases Int.mul_eq_zero.mp z with q | q; exact o1.x0 q; omega) (show u.x * s.y ≠ 0 from fun z => by rcases Int.mul_eq_zero.mp z with q | q; exact o2.x0 q; omega) (crossA_nz hd n) (back_adj e)
    rw [a, z, pos1_mul y2, pos1_mul y1]
    unfold cnt
    simp
  | r3 s u v o1 o2 o3 n e =>
    rw [← hg] at e
    have y1 : 0 < s.y := o1.y1
    have y2 : 0 < u.y := o2.y1
    have y3 : 0 < v.y := o3.y1
    have nz : ∀ {a b c : Int}, a ≠ 0 → 0 < b → 0 < c → a * (b * c) ≠ 0 := fun h1 h2 h3 z => by
      have := Int.mul_pos h2 h3
      rcases Int.mul_eq_zero.mp z with q | q
      · exact h1 q
      · omega
    obtain ⟨a, z⟩ := sgn3 (Int.mul_pos (Int.mul_pos (Int.mul_pos y1 y2) y3) dp) (nz o1.x0 y2 y3) (nz o2.x0 y1 y3) (nz o3.x0 y1 y2) (dot_nz3 hd n) (back_adj e)
    rw [a, z, pos1_mul (Int.mul_pos y2 y3), pos1_mul (Int.mul_pos y1 y3), pos1_mul (Int.mul_pos y1 y2)]
    unfold cnt
    simp [Int.add_assoc]
end
end DL

set_option linter.all false
set_option maxRecDepth 100000
set_option maxHeartbeats 4000000
namespace W
open PySem DL L2
/-- a step (i, j, k) -/
def OkS (s : V3) : Prop := (0 ≤ s.x ∧ s.x < 3) ∧ (0 ≤ s.y ∧ s.y < 3) ∧ s.x ≠ s.y ∧ s.z.natAbs < 16
def stE (s : V3) (a b : Int) : Int := if s.x = a ∧ s.y = b then s.z else if a = b then 1 else 0
def stM (s : V3) : M3 := ⟨⟨stE s 0 0, stE s 0 1, stE s 0 2⟩, ⟨stE s 1 0, stE s 1 1, stE s 1 2⟩, ⟨stE s 2 0, stE s 2 1, stE s 2 2⟩⟩
theorem six_st {s : V3} (h : OkS s) : s = ⟨0, 1, s.z⟩ ∨ s = ⟨0, 2, s.z⟩ ∨ s = ⟨1, 0, s.z⟩ ∨ s = ⟨1, 2, s.z⟩ ∨ s = ⟨2, 0, s.z⟩ ∨ s = ⟨2, 1, s.z⟩ := by
  obtain ⟨x, y, z⟩ := s
  obtain ⟨⟨h1, h2⟩, ⟨h3, h4⟩, h5, h6⟩ := h
  simp only at h1 h2 h3 h4 h5 ⊢
  have e1 : x = 0 ∨ x = 1 ∨ x = 2 := by omega
  have e2 : y = 0 ∨ y = 1 ∨ y = 2 := by omega
  rcases e1 with rfl | rfl | rfl <;> rcases e2 with rfl | rfl | rfl <;> first | exact absurd rfl h5 | simp
theorem idle_c : c_IDLE = tb true true M3.one := rfl
theorem v_step_table {s : V3} {k : Bool} (h : OkS s) : m_step_table [rw3 k s] = some (tb true true (stM s)) := by
  obtain ⟨x, y, z⟩ := s
  rcases six_st h with e | e | e | e | e | e <;> (injection e with e1 e2 _; subst e1 e2; simp (config := {decide := true}) only [m_step_table, b_step_table, runD, List.map_cons, List.map_nil, List.replicate_zero, List.replicate_succ, List.cons_append, List.nil_append, List.append_nil, sRet, sRetN, sNx, sSeq, sSet, sSetF, sOwn, sTo, gsCons, gsNil, sPar, sPar3, eChain, sExp, sApp, sPut, sIf, sFrz, frz, frz1, List.foldl_cons, List.foldl_nil, eBin, eUn, eVar, eC, eAnd, eOr, eIf, eLend, flat, eIxO, eOfF, eTup, eAll, fAll, eCall, eIs, eSl, fSl, oNone, oSome, aNil, aCons, bVal, bAnd, bOr, bNot, bYes, blOf, gNot, iSeq, iRg1, iRg2, seq_l, seq_t, tup_l, tup_t, lst_l, lst_t, len_l, len_t, gIx_l, gIx_t, gNm, wipeR, List.getElem?_cons_zero, List.getElem?_cons_succ, List.set_cons_zero, List.set_cons_succ, Option.bind_some, Option.bind_none, Option.map_some, Option.map_none, if_true, if_false, decide_true, decide_false, Bool.not_true, Bool.not_false, Bool.false_eq_true, reduceIte, gAdd_i, gSub_i, gNeg_i, gLt_i, gLe_i, gGt_i, gGe_i, gEq_i, gNe_i, gMul_b, gMod_p, gFdiv_p, Nat.reduceAdd, Nat.reduceMul, Nat.reduceLeDiff, at0, at1, at2, at3, at4, at5, at6, at7, at8, at9, at10, at11, at12, at13, at14, at15, gSl_l, cut_pos, cut_from, cut_to, Int.reduceToNat, List.drop_succ_cons, List.drop_zero, List.take_succ_cons, List.take_zero, List.take_nil, Nat.reduceSub, Int.reduceAdd, Int.reduceSub, Int.reduceMul, Int.reduceMod, Int.reduceDiv, Int.reduceNeg, List.length_cons, List.length_nil, Nat.zero_add, fComp, compL, rg1_3, mInt, mAbs, mGcd, mMax2, mMin2, mMax3, mMin3, mIsqrt, isT, sOwnO, sPut2, sPutF, sAli, bLend, eIxOO, ffNil, ffCons, ffComp, compLL, un_r, idle_c, seq_tb, lst_r, M3.one, ix30, ix31, ix32]; rfl)
theorem w_step_table {s : V3} {k : Bool} (h : OkS s) : m__law_step_table [rw3 k s] = some (tb true true (stM s)) := by
  obtain ⟨x, y, z⟩ := s
  rcases six_st h with e | e | e | e | e | e <;> (injection e with e1 e2 _; subst e1 e2; simp (config := {decide := true}) only [m__law_step_table, b__law_step_table, runD, List.map_cons, List.map_nil, List.replicate_zero, List.replicate_succ, List.cons_append, List.nil_append, List.append_nil, sRet, sRetN, sNx, sSeq, sSet, sSetF, sOwn, sTo, gsCons, gsNil, sPar, sPar3, eChain, sExp, sApp, sPut, sIf, sFrz, frz, frz1, List.foldl_cons, List.foldl_nil, eBin, eUn, eVar, eC, eAnd, eOr, eIf, eLend, flat, eIxO, eOfF, eTup, eAll, fAll, eCall, eIs, eSl, fSl, oNone, oSome, aNil, aCons, bVal, bAnd, bOr, bNot, bYes, blOf, gNot, iSeq, iRg1, iRg2, seq_l, seq_t, tup_l, tup_t, lst_l, lst_t, len_l, len_t, gIx_l, gIx_t, gNm, wipeR, List.getElem?_cons_zero, List.getElem?_cons_succ, List.set_cons_zero, List.set_cons_succ, Option.bind_some, Option.bind_none, Option.map_some, Option.map_none, if_true, if_false, decide_true, decide_false, Bool.not_true, Bool.not_false, Bool.false_eq_true, reduceIte, gAdd_i, gSub_i, gNeg_i, gLt_i, gLe_i, gGt_i, gGe_i, gEq_i, gNe_i, gMul_b, gMod_p, gFdiv_p, Nat.reduceAdd, Nat.reduceMul, Nat.reduceLeDiff, at0, at1, at2, at3, at4, at5, at6, at7, at8, at9, at10, at11, at12, at13, at14, at15, gSl_l, cut_pos, cut_from, cut_to, Int.reduceToNat, List.drop_succ_cons, List.drop_zero, List.take_succ_cons, List.take_zero, List.take_nil, Nat.reduceSub, Int.reduceAdd, Int.reduceSub, Int.reduceMul, Int.reduceMod, Int.reduceDiv, Int.reduceNeg, List.length_cons, List.length_nil, Nat.zero_add, fComp, compL, rg1_3, mInt, mAbs, mGcd, mMax2, mMin2, mMax3, mMin3, mIsqrt, isT, sOwnO, sPut2, sPutF, sAli, bLend, eIxOO, ffNil, ffCons, ffComp, compLL, ix_r0, ix_r1, ix_r2, sFor, forL, ix30, ix31, ix32]; rfl)
theorem bm_st {s : V3} (h : OkS s) : BM 4 (stM s) := by
  obtain ⟨_, _, _, h4⟩ := h
  have k : ∀ a b : Int, (stE s a b).natAbs < 2 ^ 4 := fun a b => by
    unfold stE
    split
    · exact h4
    · split <;> decide
  exact ⟨⟨k _ _, k _ _, k _ _⟩, ⟨k _ _, k _ _, k _ _⟩, ⟨k _ _, k _ _, k _ _⟩⟩
theorem det_st {s : V3} (h : OkS s) : (stM s).det = 1 := by
  obtain ⟨x, y, z⟩ := s
  rcases six_st h with e | e | e | e | e | e <;> (injection e with e1 e2 _; subst e1 e2; simp [stM, stE, M3.det, V3.dot, V3.cross])
def prodS (T : M3) (L : List V3) : M3 := L.foldl (fun T s => T.mul (stM s)) T
theorem steps_go {x0 : SC} : ∀ (L : List V3) (n : Nat) (T : M3) (x : SC), (∀ s ∈ L, OkS s) → BM n T → n + 6 * L.length ≤ 1000 → ∃ x', forL (gNm 2) (sSet 1 (eCall m__law_product (aCons (eVar 1) (aCons (eCall m__law_step_table (aCons (eVar 2) aNil)) aNil)))) (L.map (rw3 true)) [x0, .va (tb true true T), x] = some (.nx [x0, .va (tb true true (prodS T L)), x']) ∧ BM (n + 6 * L.length) (prodS T L)
  | [], n, T, x, _, hT, _ => ⟨x, rfl, hT⟩
  | s :: L, n, T, x, hL, hT, hn => by
    have hs := hL s List.mem_cons_self
    haveI := bm_st hs
    rw [List.length_cons] at hn
    have e1 := w_step_table (k := true) hs
    have e2 := w_product (j := true) (k := true) (j' := true) (k' := true) (s := T) (t := stM s) (n := n) (m := 4) (by omega)
    obtain ⟨x', q, b⟩ := steps_go (x0 := x0) L (n + 4 + 2) (T.mul (stM s)) (.va (rw3 true s)) (fun t ht => hL t (List.mem_cons_of_mem _ ht)) inferInstance (by omega)
    refine ⟨x', ?_, b.mono (by rw [List.length_cons]; omega)⟩
    simp only [List.map_cons, forL, runD, List.map_cons, List.map_nil, List.replicate_zero, List.replicate_succ, List.cons_append, List.nil_append, List.append_nil, sRet, sRetN, sNx, sSeq, sSet, sSetF, sOwn, sTo, gsCons, gsNil, sPar, sPar3, eChain, sExp, sApp, sPut, sIf, sFrz, frz, frz1, List.foldl_cons, List.foldl_nil, eBin, eUn, eVar, eC, eAnd, eOr, eIf, eLend, flat, eIxO, eOfF, eTup, eAll, fAll, eCall, eIs, eSl, fSl, oNone, oSome, aNil, aCons, bVal, bAnd, bOr, bNot, bYes, blOf, gNot, iSeq, iRg1, iRg2, seq_l, seq_t, tup_l, tup_t, lst_l, lst_t, len_l, len_t, gIx_l, gIx_t, gNm, wipeR, List.getElem?_cons_zero, List.getElem?_cons_succ, List.set_cons_zero, List.set_cons_succ, Option.bind_some, Option.bind_none, Option.map_some, Option.map_none, if_true, if_false, decide_true, decide_false, Bool.not_true, Bool.not_false, Bool.false_eq_true, reduceIte, gAdd_i, gSub_i, gNeg_i, gLt_i, gLe_i, gGt_i, gGe_i, gEq_i, gNe_i, gMul_b, gMod_p, gFdiv_p, Nat.reduceAdd, Nat.reduceMul, Nat.reduceLeDiff, at0, at1, at2, at3, at4, at5, at6, at7, at8, at9, at10, at11, at12, at13, at14, at15, gSl_l, cut_pos, cut_from, cut_to, Int.reduceToNat, List.drop_succ_cons, List.drop_zero, List.take_succ_cons, List.take_zero, List.take_nil, Nat.reduceSub, Int.reduceAdd, Int.reduceSub, Int.reduceMul, Int.reduceMod, Int.reduceDiv, Int.reduceNeg, List.length_cons, List.length_nil, Nat.zero_add, fComp, compL, rg1_3, mInt, mAbs, mGcd, mMax2, mMin2, mMax3, mMin3, mIsqrt, isT, e1, e2]
    exact q
theorem steps_go' {x0 : SC} {k : Bool} : ∀ (L : List V3) (n : Nat) (T : M3) (x : SC), (∀ s ∈ L, OkS s) → BM n T → n + 6 * L.length ≤ 1000 → ∃ x', forL (gNm 2) (sSet 1 (eCall m_product (aCons (eVar 1) (aCons (eCall m_step_table (aCons (eVar 2) aNil)) aNil)))) (L.map (rw3 k)) [x0, .va (tb true true T), x] = some (.nx [x0, .va (tb true true (prodS T L)), x'])
  | [], n, T, x, _, hT, _ => ⟨x, rfl⟩
  | s :: L, n, T, x, hL, hT, hn => by
    have hs := hL s List.mem_cons_self
    haveI := bm_st hs
    rw [List.length_cons] at hn
    have e1 := v_step_table (k := k) hs
    have e2 := v_product (j := true) (k := true) (j' := true) (k' := true) (s := T) (t := stM s) (n := n) (m := 4) (by omega)
    obtain ⟨x', q⟩ := steps_go' (x0 := x0) L (n + 4 + 2) (T.mul (stM s)) (.va (rw3 k s)) (fun t ht => hL t (List.mem_cons_of_mem _ ht)) inferInstance (by omega)
    refine ⟨x', ?_⟩
    simp only [List.map_cons, forL, runD, List.map_cons, List.map_nil, List.replicate_zero, List.replicate_succ, List.cons_append, List.nil_append, List.append_nil, sRet, sRetN, sNx, sSeq, sSet, sSetF, sOwn, sTo, gsCons, gsNil, sPar, sPar3, eChain, sExp, sApp, sPut, sIf, sFrz, frz, frz1, List.foldl_cons, List.foldl_nil, eBin, eUn, eVar, eC, eAnd, eOr, eIf, eLend, flat, eIxO, eOfF, eTup, eAll, fAll, eCall, eIs, eSl, fSl, oNone, oSome, aNil, aCons, bVal, bAnd, bOr, bNot, bYes, blOf, gNot, iSeq, iRg1, iRg2, seq_l, seq_t, tup_l, tup_t, lst_l, lst_t, len_l, len_t, gIx_l, gIx_t, gNm, wipeR, List.getElem?_cons_zero, List.getElem?_cons_succ, List.set_cons_zero, List.set_cons_succ, Option.bind_some, Option.bind_none, Option.map_some, Option.map_none, if_true, if_false, decide_true, decide_false, Bool.not_true, Bool.not_false, Bool.false_eq_true, reduceIte, gAdd_i, gSub_i, gNeg_i, gLt_i, gLe_i, gGt_i, gGe_i, gEq_i, gNe_i, gMul_b, gMod_p, gFdiv_p, Nat.reduceAdd, Nat.reduceMul, Nat.reduceLeDiff, at0, at1, at2, at3, at4, at5, at6, at7, at8, at9, at10, at11, at12, at13, at14, at15, gSl_l, cut_pos, cut_from, cut_to, Int.reduceToNat, List.drop_succ_cons, List.drop_zero, List.take_succ_cons, List.take_zero, List.take_nil, Nat.reduceSub, Int.reduceAdd, Int.reduceSub, Int.reduceMul, Int.reduceMod, Int.reduceDiv, Int.reduceNeg, List.length_cons, List.length_nil, Nat.zero_add, fComp, compL, rg1_3, mInt, mAbs, mGcd, mMax2, mMin2, mMax3, mMin3, mIsqrt, isT, e1, e2]
    exact q
theorem w_steps_table {L : List V3} (hL : ∀ s ∈ L, OkS s) (hn : L.length ≤ 12) : m__law_steps_table [.list (L.map (rw3 true))] = some (tb true true (prodS M3.one L)) ∧ BM 100 (prodS M3.one L) := by
  obtain ⟨x', q, b⟩ := steps_go (x0 := .va (.list (L.map (rw3 true)))) L 1 M3.one .un hL bm_one (by omega)
  refine ⟨?_, b.mono (by omega)⟩
  have q' : forL (gNm 2) (sSet 1 (eCall m__law_product (aCons (eVar 1) (aCons (eCall m__law_step_table (aCons (eVar 2) aNil)) aNil)))) (L.map (rw3 true)) [.va (.list (L.map (rw3 true))), .va (tb true true ⟨⟨1, 0, 0⟩, ⟨0, 1, 0⟩, ⟨0, 0, 1⟩⟩), .un] = _ := q
  simp only [m__law_steps_table, b__law_steps_table, runD, List.map_cons, List.map_nil, List.replicate_zero, List.replicate_succ, List.cons_append, List.nil_append, List.append_nil, sRet, sRetN, sNx, sSeq, sSet, sSetF, sOwn, sTo, gsCons, gsNil, sPar, sPar3, eChain, sExp, sApp, sPut, sIf, sFrz, frz, frz1, List.foldl_cons, List.foldl_nil, eBin, eUn, eVar, eC, eAnd, eOr, eIf, eLend, flat, eIxO, eOfF, eTup, eAll, fAll, eCall, eIs, eSl, fSl, oNone, oSome, aNil, aCons, bVal, bAnd, bOr, bNot, bYes, blOf, gNot, iSeq, iRg1, iRg2, seq_l, seq_t, tup_l, tup_t, lst_l, lst_t, len_l, len_t, gIx_l, gIx_t, gNm, wipeR, List.getElem?_cons_zero, List.getElem?_cons_succ, List.set_cons_zero, List.set_cons_succ, Option.bind_some, Option.bind_none, Option.map_some, Option.map_none, if_true, if_false, decide_true, decide_false, Bool.not_true, Bool.not_false, Bool.false_eq_true, reduceIte, gAdd_i, gSub_i, gNeg_i, gLt_i, gLe_i, gGt_i, gGe_i, gEq_i, gNe_i, gMul_b, gMod_p, gFdiv_p, Nat.reduceAdd, Nat.reduceMul, Nat.reduceLeDiff, at0, at1, at2, at3, at4, at5, at6, at7, at8, at9, at10, at11, at12, at13, at14, at15, gSl_l, cut_pos, cut_from, cut_to, Int.reduceToNat, List.drop_succ_cons, List.drop_zero, List.take_succ_cons, List.take_zero, List.take_nil, Nat.reduceSub, Int.reduceAdd, Int.reduceSub, Int.reduceMul, Int.reduceMod, Int.reduceDiv, Int.reduceNeg, List.length_cons, List.length_nil, Nat.zero_add, fComp, compL, rg1_3, mInt, mAbs, mGcd, mMax2, mMin2, mMax3, mMin3, mIsqrt, isT, row_t, tab_t, sFor, q']
theorem v_table_of_steps {L : List V3} {j k : Bool} (hL : ∀ s ∈ L, OkS s) (hn : L.length ≤ 12) : m_table_of_steps [sq j (L.map (rw3 k))] = some (tb true true (prodS M3.one L)) := by
  obtain ⟨x', q⟩ := steps_go' (x0 := .va (sq j (L.map (rw3 k)))) (k := k) L 1 M3.one .un hL bm_one (by omega)
  simp only [m_table_of_steps, b_table_of_steps, runD, List.map_cons, List.map_nil, List.replicate_zero, List.replicate_succ, List.cons_append, List.nil_append, List.append_nil, sRet, sRetN, sNx, sSeq, sSet, sSetF, sOwn, sTo, gsCons, gsNil, sPar, sPar3, eChain, sExp, sApp, sPut, sIf, sFrz, frz, frz1, List.foldl_cons, List.foldl_nil, eBin, eUn, eVar, eC, eAnd, eOr, eIf, eLend, flat, eIxO, eOfF, eTup, eAll, fAll, eCall, eIs, eSl, fSl, oNone, oSome, aNil, aCons, bVal, bAnd, bOr, bNot, bYes, blOf, gNot, iSeq, iRg1, iRg2, seq_l, seq_t, tup_l, tup_t, lst_l, lst_t, len_l, len_t, gIx_l, gIx_t, gNm, wipeR, List.getElem?_cons_zero, List.getElem?_cons_succ, List.set_cons_zero, List.set_cons_succ, Option.bind_some, Option.bind_none, Option.map_some, Option.map_none, if_true, if_false, decide_true, decide_false, Bool.not_true, Bool.not_false, Bool.false_eq_true, reduceIte, gAdd_i, gSub_i, gNeg_i, gLt_i, gLe_i, gGt_i, gGe_i, gEq_i, gNe_i, gMul_b, gMod_p, gFdiv_p, Nat.reduceAdd, Nat.reduceMul, Nat.reduceLeDiff, at0, at1, at2, at3, at4, at5, at6, at7, at8, at9, at10, at11, at12, at13, at14, at15, gSl_l, cut_pos, cut_from, cut_to, Int.reduceToNat, List.drop_succ_cons, List.drop_zero, List.take_succ_cons, List.take_zero, List.take_nil, Nat.reduceSub, Int.reduceAdd, Int.reduceSub, Int.reduceMul, Int.reduceMod, Int.reduceDiv, Int.reduceNeg, List.length_cons, List.length_nil, Nat.zero_add, fComp, compL, rg1_3, mInt, mAbs, mGcd, mMax2, mMin2, mMax3, mMin3, mIsqrt, isT, idle_c, sFor, seq_sq, q]
/-! the drawn steps -/
theorem four (d : List Int) {x0 x1 x2 x4 : SC} {acc : List PyData} (hd : inD d [3, 2, 19, 3, 2, 19, 3, 2, 19, 3, 2, 19]) (ha : acc.length ≤ 100) : ∃ (L : List V3) (x6 : SC), L.length = 4 ∧ (∀ s ∈ L, OkS s) ∧ ∀ x, forL (gNm 6) (sApp 3 (eTup (aCons (eBin gIx (eVar 5) (eBin gMul (eC (.int 3)) (eVar 6))) (aCons (eBin gMod (eAll mInt (aCons (eBin gAdd (eBin gAdd (eBin gIx (eVar 5) (eBin gMul (eC (.int 3)) (eVar 6))) (eC (.int 1))) (eBin gIx (eVar 5) (eBin gAdd (eBin gMul (eC (.int 3)) (eVar 6)) (eC (.int 1))))) aNil)) (eC (.int 3))) (aCons (eBin gSub (eBin gIx (eVar 5) (eBin gAdd (eBin gMul (eC (.int 3)) (eVar 6)) (eC (.int 2)))) (eC (.int 9))) aNil))))) [.int 0, .int 1, .int 2, .int 3] [x0, x1, x2, .ow acc, x4, .va (.list (d.map .int)), x] = some (.nx [x0, x1, x2, .ow (acc ++ L.map (rw3 true)), x4, .va (.list (d.map .int)), x6]) := by
  obtain ⟨a0, r, rfl, h0, k0, hd⟩ := inD_cons hd
  obtain ⟨b0, r, rfl, h1, k1, hd⟩ := inD_cons hd
  obtain ⟨c0, r, rfl, h2, k2, hd⟩ := inD_cons hd
  obtain ⟨a1, r, rfl, h3, k3, hd⟩ := inD_cons hd
  obtain ⟨b1, r, rfl, h4, k4, hd⟩ := inD_cons hd
  obtain ⟨c1, r, rfl, h5, k5, hd⟩ := inD_cons hd
  obtain ⟨a2, r, rfl, h6, k6, hd⟩ := inD_cons hd
  obtain ⟨b2, r, rfl, h7, k7, hd⟩ := inD_cons hd
  obtain ⟨c2, r, rfl, h8, k8, hd⟩ := inD_cons hd
  obtain ⟨a3, r, rfl, h9, k9, hd⟩ := inD_cons hd
  obtain ⟨b3, r, rfl, h10, k10, hd⟩ := inD_cons hd
  obtain ⟨c3, r, rfl, h11, k11, hd⟩ := inD_cons hd
  obtain rfl := inD_nil hd
  have ok : ∀ a b c : Int, 0 ≤ a → a < 3 → 0 ≤ b → b < 2 → 0 ≤ c → c < 19 → OkS ⟨a, (a + 1 + b) % 3, c - 9⟩ := fun a b c p1 p2 p3 p4 p5 p6 => by
    refine ⟨⟨p1, p2⟩, ⟨?_, ?_⟩, ?_, ?_⟩
    · show 0 ≤ (a + 1 + b) % 3; omega
    · show (a + 1 + b) % 3 < 3; omega
    · show a ≠ (a + 1 + b) % 3; omega
    · show (c - 9).natAbs < 16; omega
  refine ⟨[⟨a0, (a0 + 1 + b0) % 3, c0 - 9⟩, ⟨a1, (a1 + 1 + b1) % 3, c1 - 9⟩, ⟨a2, (a2 + 1 + b2) % 3, c2 - 9⟩, ⟨a3, (a3 + 1 + b3) % 3, c3 - 9⟩], .va (.int 3), rfl, ?_, fun x => ?_⟩
  · intro s hs
    simp only [List.mem_cons, List.not_mem_nil, or_false] at hs
    rcases hs with rfl | rfl | rfl | rfl
    · exact ok _ _ _ h0 k0 h1 k1 h2 k2
    · exact ok _ _ _ h3 k3 h4 k4 h5 k5
    · exact ok _ _ _ h6 k6 h7 k7 h8 k8
    · exact ok _ _ _ h9 k9 h10 k10 h11 k11
  · have l0 : acc.length < 16000000 := by omega
    have l1 : acc.length + 1 < 16000000 := by omega
    have l2 : acc.length + 1 + 1 < 16000000 := by omega
    have l3 : acc.length + 1 + 1 + 1 < 16000000 := by omega
    simp (config := {decide := true}) only [forL, runD, List.map_cons, List.map_nil, List.replicate_zero, List.replicate_succ, List.cons_append, List.nil_append, List.append_nil, sRet, sRetN, sNx, sSeq, sSet, sSetF, sOwn, sTo, gsCons, gsNil, sPar, sPar3, eChain, sExp, sApp, sPut, sIf, sFrz, frz, frz1, List.foldl_cons, List.foldl_nil, eBin, eUn, eVar, eC, eAnd, eOr, eIf, eLend, flat, eIxO, eOfF, eTup, eAll, fAll, eCall, eIs, eSl, fSl, oNone, oSome, aNil, aCons, bVal, bAnd, bOr, bNot, bYes, blOf, gNot, iSeq, iRg1, iRg2, seq_l, seq_t, tup_l, tup_t, lst_l, lst_t, len_l, len_t, gIx_l, gIx_t, gNm, wipeR, List.getElem?_cons_zero, List.getElem?_cons_succ, List.set_cons_zero, List.set_cons_succ, Option.bind_some, Option.bind_none, Option.map_some, Option.map_none, if_true, if_false, decide_true, decide_false, Bool.not_true, Bool.not_false, Bool.false_eq_true, reduceIte, gAdd_i, gSub_i, gNeg_i, gLt_i, gLe_i, gGt_i, gGe_i, gEq_i, gNe_i, gMul_b, gMod_p, gFdiv_p, Nat.reduceAdd, Nat.reduceMul, Nat.reduceLeDiff, at0, at1, at2, at3, at4, at5, at6, at7, at8, at9, at10, at11, at12, at13, at14, at15, gSl_l, cut_pos, cut_from, cut_to, Int.reduceToNat, List.drop_succ_cons, List.drop_zero, List.take_succ_cons, List.take_zero, List.take_nil, Nat.reduceSub, Int.reduceAdd, Int.reduceSub, Int.reduceMul, Int.reduceMod, Int.reduceDiv, Int.reduceNeg, List.length_cons, List.length_nil, Nat.zero_add, fComp, compL, rg1_3, mInt, mAbs, mGcd, mMax2, mMin2, mMax3, mMin3, mIsqrt, isT, row_t, l0, l1, l2, l3, List.length_append, List.length_cons, List.length_nil, List.append_assoc, List.singleton_append]
end W

set_option linter.all false
set_option maxRecDepth 100000
set_option maxHeartbeats 4000000
set_option exponentiation.threshold 20000
namespace DL
open PySem
theorem bm_chg {n m : Nat} {f : F6} {t : M3} (hf : BF n f) (ht : BM m t) : BM (m + n + 2 + m + 2) ((t.tr.mul f.gram).mul t) := bm_mul (s := t.tr.mul f.gram) (t := t)
theorem bf_chg {n m : Nat} {f : F6} {t : M3} (hf : BF n f) (ht : BM m t) : BF (m + n + 2 + m + 2) (f.chg t) := by
  have h := bm_chg hf ht
  exact ⟨h.a.x, h.b.y, h.c.z, h.b.z, h.a.z, h.a.y⟩
theorem rg1_4 : rg1 (.int 4) = some [.int 0, .int 1, .int 2, .int 3] := rg1_nat 4 (by decide)
end DL
namespace W
open PySem DL L2
section
variable {n m : Nat} {i j k l : Bool} {f g : F6} {u v w : V3} {s t : M3} {o : Int}
theorem v_value (hf : BF 1000 f) (hv : BV 1000 v) : m_value [fm k f, rw3 l v] = some (.int (f.val v)) := by
  simp (config := {decide := true}) only [m_value, b_value, runD, List.map_cons, List.map_nil, List.replicate_zero, List.replicate_succ, List.cons_append, List.nil_append, List.append_nil, sRet, sRetN, sNx, sSeq, sSet, sSetF, sOwn, sTo, gsCons, gsNil, sPar, sPar3, eChain, sExp, sApp, sPut, sIf, sFrz, frz, frz1, List.foldl_cons, List.foldl_nil, eBin, eUn, eVar, eC, eAnd, eOr, eIf, eLend, flat, eIxO, eOfF, eTup, eAll, fAll, eCall, eIs, eSl, fSl, oNone, oSome, aNil, aCons, bVal, bAnd, bOr, bNot, bYes, blOf, gNot, iSeq, iRg1, iRg2, seq_l, seq_t, tup_l, tup_t, lst_l, lst_t, len_l, len_t, gIx_l, gIx_t, gNm, wipeR, List.getElem?_cons_zero, List.getElem?_cons_succ, List.set_cons_zero, List.set_cons_succ, Option.bind_some, Option.bind_none, Option.map_some, Option.map_none, if_true, if_false, decide_true, decide_false, Bool.not_true, Bool.not_false, Bool.false_eq_true, reduceIte, gAdd_i, gSub_i, gNeg_i, gLt_i, gLe_i, gGt_i, gGe_i, gEq_i, gNe_i, gMul_b, gMod_p, gFdiv_p, Nat.reduceAdd, Nat.reduceMul, Nat.reduceLeDiff, at0, at1, at2, at3, at4, at5, at6, at7, at8, at9, at10, at11, at12, at13, at14, at15, gSl_l, cut_pos, cut_from, cut_to, Int.reduceToNat, List.drop_succ_cons, List.drop_zero, List.take_succ_cons, List.take_zero, List.take_nil, Nat.reduceSub, Int.reduceAdd, Int.reduceSub, Int.reduceMul, Int.reduceMod, Int.reduceDiv, Int.reduceNeg, List.length_cons, List.length_nil, Nat.zero_add, fComp, compL, rg1_3, mInt, mAbs, mGcd, mMax2, mMin2, mMax3, mMin3, mIsqrt, isT, un_f, un_r]
  rfl
theorem v_form_of : m_form_of [tb j k t] = some (fm true t.fo) := by
  simp only [m_form_of, b_form_of, runD, List.map_cons, List.map_nil, List.replicate_zero, List.replicate_succ, List.cons_append, List.nil_append, List.append_nil, sRet, sRetN, sNx, sSeq, sSet, sSetF, sOwn, sTo, gsCons, gsNil, sPar, sPar3, eChain, sExp, sApp, sPut, sIf, sFrz, frz, frz1, List.foldl_cons, List.foldl_nil, eBin, eUn, eVar, eC, eAnd, eOr, eIf, eLend, flat, eIxO, eOfF, eTup, eAll, fAll, eCall, eIs, eSl, fSl, oNone, oSome, aNil, aCons, bVal, bAnd, bOr, bNot, bYes, blOf, gNot, iSeq, iRg1, iRg2, seq_l, seq_t, tup_l, tup_t, lst_l, lst_t, len_l, len_t, gIx_l, gIx_t, gNm, wipeR, List.getElem?_cons_zero, List.getElem?_cons_succ, List.set_cons_zero, List.set_cons_succ, Option.bind_some, Option.bind_none, Option.map_some, Option.map_none, if_true, if_false, decide_true, decide_false, Bool.not_true, Bool.not_false, Bool.false_eq_true, reduceIte, gAdd_i, gSub_i, gNeg_i, gLt_i, gLe_i, gGt_i, gGe_i, gEq_i, gNe_i, gMul_b, gMod_p, gFdiv_p, Nat.reduceAdd, Nat.reduceMul, Nat.reduceLeDiff, at0, at1, at2, at3, at4, at5, at6, at7, at8, at9, at10, at11, at12, at13, at14, at15, gSl_l, cut_pos, cut_from, cut_to, Int.reduceToNat, List.drop_succ_cons, List.drop_zero, List.take_succ_cons, List.take_zero, List.take_nil, Nat.reduceSub, Int.reduceAdd, Int.reduceSub, Int.reduceMul, Int.reduceMod, Int.reduceDiv, Int.reduceNeg, List.length_cons, List.length_nil, Nat.zero_add, fComp, compL, rg1_3, mInt, mAbs, mGcd, mMax2, mMin2, mMax3, mMin3, mIsqrt, isT, ix_t0, ix_t1, ix_t2, ix_r0, ix_r1, ix_r2]
  rfl
theorem v_form_determinant (hf : BF 1000 f) : m_form_determinant [fm k f] = some (.int f.gram.det) := by
  simp (config := {decide := true}) only [m_form_determinant, b_form_determinant, runD, List.map_cons, List.map_nil, List.replicate_zero, List.replicate_succ, List.cons_append, List.nil_append, List.append_nil, sRet, sRetN, sNx, sSeq, sSet, sSetF, sOwn, sTo, gsCons, gsNil, sPar, sPar3, eChain, sExp, sApp, sPut, sIf, sFrz, frz, frz1, List.foldl_cons, List.foldl_nil, eBin, eUn, eVar, eC, eAnd, eOr, eIf, eLend, flat, eIxO, eOfF, eTup, eAll, fAll, eCall, eIs, eSl, fSl, oNone, oSome, aNil, aCons, bVal, bAnd, bOr, bNot, bYes, blOf, gNot, iSeq, iRg1, iRg2, seq_l, seq_t, tup_l, tup_t, lst_l, lst_t, len_l, len_t, gIx_l, gIx_t, gNm, wipeR, List.getElem?_cons_zero, List.getElem?_cons_succ, List.set_cons_zero, List.set_cons_succ, Option.bind_some, Option.bind_none, Option.map_some, Option.map_none, if_true, if_false, decide_true, decide_false, Bool.not_true, Bool.not_false, Bool.false_eq_true, reduceIte, gAdd_i, gSub_i, gNeg_i, gLt_i, gLe_i, gGt_i, gGe_i, gEq_i, gNe_i, gMul_b, gMod_p, gFdiv_p, Nat.reduceAdd, Nat.reduceMul, Nat.reduceLeDiff, at0, at1, at2, at3, at4, at5, at6, at7, at8, at9, at10, at11, at12, at13, at14, at15, gSl_l, cut_pos, cut_from, cut_to, Int.reduceToNat, List.drop_succ_cons, List.drop_zero, List.take_succ_cons, List.take_zero, List.take_nil, Nat.reduceSub, Int.reduceAdd, Int.reduceSub, Int.reduceMul, Int.reduceMod, Int.reduceDiv, Int.reduceNeg, List.length_cons, List.length_nil, Nat.zero_add, fComp, compL, rg1_3, mInt, mAbs, mGcd, mMax2, mMin2, mMax3, mMin3, mIsqrt, isT, v_gram, v_determinant]
theorem w_gram : m__law_gram [fm k f] = some (tb true true f.gram) := by
  simp only [m__law_gram, b__law_gram, runD, List.map_cons, List.map_nil, List.replicate_zero, List.replicate_succ, List.cons_append, List.nil_append, List.append_nil, sRet, sRetN, sNx, sSeq, sSet, sSetF, sOwn, sTo, gsCons, gsNil, sPar, sPar3, eChain, sExp, sApp, sPut, sIf, sFrz, frz, frz1, List.foldl_cons, List.foldl_nil, eBin, eUn, eVar, eC, eAnd, eOr, eIf, eLend, flat, eIxO, eOfF, eTup, eAll, fAll, eCall, eIs, eSl, fSl, oNone, oSome, aNil, aCons, bVal, bAnd, bOr, bNot, bYes, blOf, gNot, iSeq, iRg1, iRg2, seq_l, seq_t, tup_l, tup_t, lst_l, lst_t, len_l, len_t, gIx_l, gIx_t, gNm, wipeR, List.getElem?_cons_zero, List.getElem?_cons_succ, List.set_cons_zero, List.set_cons_succ, Option.bind_some, Option.bind_none, Option.map_some, Option.map_none, if_true, if_false, decide_true, decide_false, Bool.not_true, Bool.not_false, Bool.false_eq_true, reduceIte, gAdd_i, gSub_i, gNeg_i, gLt_i, gLe_i, gGt_i, gGe_i, gEq_i, gNe_i, gMul_b, gMod_p, gFdiv_p, Nat.reduceAdd, Nat.reduceMul, Nat.reduceLeDiff, at0, at1, at2, at3, at4, at5, at6, at7, at8, at9, at10, at11, at12, at13, at14, at15, gSl_l, cut_pos, cut_from, cut_to, Int.reduceToNat, List.drop_succ_cons, List.drop_zero, List.take_succ_cons, List.take_zero, List.take_nil, Nat.reduceSub, Int.reduceAdd, Int.reduceSub, Int.reduceMul, Int.reduceMod, Int.reduceDiv, Int.reduceNeg, List.length_cons, List.length_nil, Nat.zero_add, fComp, compL, rg1_3, mInt, mAbs, mGcd, mMax2, mMin2, mMax3, mMin3, mIsqrt, isT, ix_f0, ix_f1, ix_f2, ix_f3, ix_f4, ix_f5]
  rfl
theorem w_value (hf : BF 1000 f) (hv : BV 1000 v) : m__law_value [fm k f, rw3 l v] = some (.int (f.val v)) := by
  simp (config := {decide := true}) only [m__law_value, b__law_value, runD, List.map_cons, List.map_nil, List.replicate_zero, List.replicate_succ, List.cons_append, List.nil_append, List.append_nil, sRet, sRetN, sNx, sSeq, sSet, sSetF, sOwn, sTo, gsCons, gsNil, sPar, sPar3, eChain, sExp, sApp, sPut, sIf, sFrz, frz, frz1, List.foldl_cons, List.foldl_nil, eBin, eUn, eVar, eC, eAnd, eOr, eIf, eLend, flat, eIxO, eOfF, eTup, eAll, fAll, eCall, eIs, eSl, fSl, oNone, oSome, aNil, aCons, bVal, bAnd, bOr, bNot, bYes, blOf, gNot, iSeq, iRg1, iRg2, seq_l, seq_t, tup_l, tup_t, lst_l, lst_t, len_l, len_t, gIx_l, gIx_t, gNm, wipeR, List.getElem?_cons_zero, List.getElem?_cons_succ, List.set_cons_zero, List.set_cons_succ, Option.bind_some, Option.bind_none, Option.map_some, Option.map_none, if_true, if_false, decide_true, decide_false, Bool.not_true, Bool.not_false, Bool.false_eq_true, reduceIte, gAdd_i, gSub_i, gNeg_i, gLt_i, gLe_i, gGt_i, gGe_i, gEq_i, gNe_i, gMul_b, gMod_p, gFdiv_p, Nat.reduceAdd, Nat.reduceMul, Nat.reduceLeDiff, at0, at1, at2, at3, at4, at5, at6, at7, at8, at9, at10, at11, at12, at13, at14, at15, gSl_l, cut_pos, cut_from, cut_to, Int.reduceToNat, List.drop_succ_cons, List.drop_zero, List.take_succ_cons, List.take_zero, List.take_nil, Nat.reduceSub, Int.reduceAdd, Int.reduceSub, Int.reduceMul, Int.reduceMod, Int.reduceDiv, Int.reduceNeg, List.length_cons, List.length_nil, Nat.zero_add, fComp, compL, rg1_3, mInt, mAbs, mGcd, mMax2, mMin2, mMax3, mMin3, mIsqrt, isT, ix_f0, ix_f1, ix_f2, ix_f3, ix_f4, ix_f5, ix_r0, ix_r1, ix_r2]
  rfl
theorem w_is_row6 : m__law_is_row [fm true f, .int 6] = some (.bool true) := w_is_row_g (l := [f.a, f.b, f.c, f.p, f.q, f.r]) (n := 6) rfl
theorem w_handed6 : m__law_handed [fm k f, .int o] = some (fm (decide (o = 0)) f) := w_handed_g (l := [.int f.a, .int f.b, .int f.c, .int f.p, .int f.q, .int f.r]) (by simp)
theorem v_changed (hf : BF n f) (ht : BM m t) (h : n + m ≤ 2000) : m_changed [fm i f, tb j k t] = some (fm true (f.chg t)) := by
  have e1 := v_product (j := true) (k := true) (j' := true) (k' := true) (s := t.tr) (t := f.gram) (n := m) (m := n) (by omega)
  have e2 := v_product (j := true) (k := true) (j' := j) (k' := k) (s := t.tr.mul f.gram) (t := t) (n := m + n + 2) (m := m) (by omega)
  simp only [m_changed, b_changed, runD, List.map_cons, List.map_nil, List.replicate_zero, List.replicate_succ, List.cons_append, List.nil_append, List.append_nil, sRet, sRetN, sNx, sSeq, sSet, sSetF, sOwn, sTo, gsCons, gsNil, sPar, sPar3, eChain, sExp, sApp, sPut, sIf, sFrz, frz, frz1, List.foldl_cons, List.foldl_nil, eBin, eUn, eVar, eC, eAnd, eOr, eIf, eLend, flat, eIxO, eOfF, eTup, eAll, fAll, eCall, eIs, eSl, fSl, oNone, oSome, aNil, aCons, bVal, bAnd, bOr, bNot, bYes, blOf, gNot, iSeq, iRg1, iRg2, seq_l, seq_t, tup_l, tup_t, lst_l, lst_t, len_l, len_t, gIx_l, gIx_t, gNm, wipeR, List.getElem?_cons_zero, List.getElem?_cons_succ, List.set_cons_zero, List.set_cons_succ, Option.bind_some, Option.bind_none, Option.map_some, Option.map_none, if_true, if_false, decide_true, decide_false, Bool.not_true, Bool.not_false, Bool.false_eq_true, reduceIte, gAdd_i, gSub_i, gNeg_i, gLt_i, gLe_i, gGt_i, gGe_i, gEq_i, gNe_i, gMul_b, gMod_p, gFdiv_p, Nat.reduceAdd, Nat.reduceMul, Nat.reduceLeDiff, at0, at1, at2, at3, at4, at5, at6, at7, at8, at9, at10, at11, at12, at13, at14, at15, gSl_l, cut_pos, cut_from, cut_to, Int.reduceToNat, List.drop_succ_cons, List.drop_zero, List.take_succ_cons, List.take_zero, List.take_nil, Nat.reduceSub, Int.reduceAdd, Int.reduceSub, Int.reduceMul, Int.reduceMod, Int.reduceDiv, Int.reduceNeg, List.length_cons, List.length_nil, Nat.zero_add, fComp, compL, rg1_3, mInt, mAbs, mGcd, mMax2, mMin2, mMax3, mMin3, mIsqrt, isT, v_transpose, v_gram, e1, e2, v_form_of]
  rfl
theorem w_changed (hf : BF n f) (ht : BM m t) (h : n + m ≤ 2000) : m__law_changed [fm i f, tb j k t] = some (fm true (f.chg t)) := by
  have e1 := w_product (j := true) (k := true) (j' := true) (k' := true) (s := t.tr) (t := f.gram) (n := m) (m := n) (by omega)
  have e2 := w_product (j := true) (k := true) (j' := j) (k' := k) (s := t.tr.mul f.gram) (t := t) (n := m + n + 2) (m := m) (by omega)
  simp only [m__law_changed, b__law_changed, runD, List.map_cons, List.map_nil, List.replicate_zero, List.replicate_succ, List.cons_append, List.nil_append, List.append_nil, sRet, sRetN, sNx, sSeq, sSet, sSetF, sOwn, sTo, gsCons, gsNil, sPar, sPar3, eChain, sExp, sApp, sPut, sIf, sFrz, frz, frz1, List.foldl_cons, List.foldl_nil, eBin, eUn, eVar, eC, eAnd, eOr, eIf, eLend, flat, eIxO, eOfF, eTup, eAll, fAll, eCall, eIs, eSl, fSl, oNone, oSome, aNil, aCons, bVal, bAnd, bOr, bNot, bYes, blOf, gNot, iSeq, iRg1, iRg2, seq_l, seq_t, tup_l, tup_t, lst_l, lst_t, len_l, len_t, gIx_l, gIx_t, gNm, wipeR, List.getElem?_cons_zero, List.getElem?_cons_succ, List.set_cons_zero, List.set_cons_succ, Option.bind_some, Option.bind_none, Option.map_some, Option.map_none, if_true, if_false, decide_true, decide_false, Bool.not_true, Bool.not_false, Bool.false_eq_true, reduceIte, gAdd_i, gSub_i, gNeg_i, gLt_i, gLe_i, gGt_i, gGe_i, gEq_i, gNe_i, gMul_b, gMod_p, gFdiv_p, Nat.reduceAdd, Nat.reduceMul, Nat.reduceLeDiff, at0, at1, at2, at3, at4, at5, at6, at7, at8, at9, at10, at11, at12, at13, at14, at15, gSl_l, cut_pos, cut_from, cut_to, Int.reduceToNat, List.drop_succ_cons, List.drop_zero, List.take_succ_cons, List.take_zero, List.take_nil, Nat.reduceSub, Int.reduceAdd, Int.reduceSub, Int.reduceMul, Int.reduceMod, Int.reduceDiv, Int.reduceNeg, List.length_cons, List.length_nil, Nat.zero_add, fComp, compL, rg1_3, mInt, mAbs, mGcd, mMax2, mMin2, mMax3, mMin3, mIsqrt, isT, w_turned, w_gram, e1, e2, ix_t0, ix_t1, ix_t2, ix_r0, ix_r1, ix_r2]
  rfl
theorem w_back (ht : BM n t) (h : n ≤ 1000) : m__law_back [tb j k t] = some (tb true true t.inv) := by
  have e1 := w_determinant (j := j) (k := k) (t := t) (n := n) (by omega)
  have c1 := w_cross (k := k) (l := k) (u := t.b) (v := t.c) (n := n) (m := n) (by omega)
  have c2 := w_cross (k := k) (l := k) (u := t.c) (v := t.a) (n := n) (m := n) (by omega)
  have c3 := w_cross (k := k) (l := k) (u := t.a) (v := t.b) (n := n) (m := n) (by omega)
  have hd : Bd (n + (n + n + 1) + 2) t.det := bd_det
  have ha : BM (n + n + 1) t.adj := bm_adj
  have a1 := w_times (i := t.det) (v := t.adj.a) (k := true) (n := n + (n + n + 1) + 2) (m := n + n + 1) (by omega)
  have a2 := w_times (i := t.det) (v := t.adj.b) (k := true) (n := n + (n + n + 1) + 2) (m := n + n + 1) (by omega)
  have a3 := w_times (i := t.det) (v := t.adj.c) (k := true) (n := n + (n + n + 1) + 2) (m := n + n + 1) (by omega)
  have et : m__law_turned [tb true true ⟨t.b.cross t.c, t.c.cross t.a, t.a.cross t.b⟩] = some (tb true true t.adj) := w_turned
  simp only [m__law_back, b__law_back, runD, List.map_cons, List.map_nil, List.replicate_zero, List.replicate_succ, List.cons_append, List.nil_append, List.append_nil, sRet, sRetN, sNx, sSeq, sSet, sSetF, sOwn, sTo, gsCons, gsNil, sPar, sPar3, eChain, sExp, sApp, sPut, sIf, sFrz, frz, frz1, List.foldl_cons, List.foldl_nil, eBin, eUn, eVar, eC, eAnd, eOr, eIf, eLend, flat, eIxO, eOfF, eTup, eAll, fAll, eCall, eIs, eSl, fSl, oNone, oSome, aNil, aCons, bVal, bAnd, bOr, bNot, bYes, blOf, gNot, iSeq, iRg1, iRg2, seq_l, seq_t, tup_l, tup_t, lst_l, lst_t, len_l, len_t, gIx_l, gIx_t, gNm, wipeR, List.getElem?_cons_zero, List.getElem?_cons_succ, List.set_cons_zero, List.set_cons_succ, Option.bind_some, Option.bind_none, Option.map_some, Option.map_none, if_true, if_false, decide_true, decide_false, Bool.not_true, Bool.not_false, Bool.false_eq_true, reduceIte, gAdd_i, gSub_i, gNeg_i, gLt_i, gLe_i, gGt_i, gGe_i, gEq_i, gNe_i, gMul_b, gMod_p, gFdiv_p, Nat.reduceAdd, Nat.reduceMul, Nat.reduceLeDiff, at0, at1, at2, at3, at4, at5, at6, at7, at8, at9, at10, at11, at12, at13, at14, at15, gSl_l, cut_pos, cut_from, cut_to, Int.reduceToNat, List.drop_succ_cons, List.drop_zero, List.take_succ_cons, List.take_zero, List.take_nil, Nat.reduceSub, Int.reduceAdd, Int.reduceSub, Int.reduceMul, Int.reduceMod, Int.reduceDiv, Int.reduceNeg, List.length_cons, List.length_nil, Nat.zero_add, fComp, compL, rg1_3, mInt, mAbs, mGcd, mMax2, mMin2, mMax3, mMin3, mIsqrt, isT, e1, c1, c2, c3, ix_t0, ix_t1, ix_t2, tab_t, et, seq_tb, a1, a2, a3]
  rfl
/-- the law's own look at a changed form -/
theorem w_new_form (hf : BF n f) (ht : BM m t) (hv : BV 200 v) (h : n + m + m + 4 ≤ 1000) {o : Int} : m__law_new_form [fm true f, tb true true t, rw3 true v, .int o] = some (fm true (f.chg t)) := by
  have hg : BF 1000 (f.chg t) := BF.mono (bf_chg hf ht) (by omega)
  have e1 := v_changed (i := decide (o % 2 = 0)) (j := decide (o % 2 = 0)) (k := decide (o / 2 = 0)) hf ht (by omega)
  have e2 := w_changed (i := true) (j := true) (k := true) hf ht (by omega)
  have e3 := v_value (k := true) (l := decide (o / 2 = 0)) hg (hv.mono (by decide))
  have e4 := w_image (j := true) (k := true) (l := true) (t := t) (v := v) (n := m) (m := 200) (by omega)
  have hi : BV 1000 (t.im v) := BV.mono (bv_im (t := t) (v := v)) (by omega)
  have e5 := w_value (k := true) (l := true) (BF.mono hf (show n ≤ 1000 by omega)) hi
  have e6 := w_determinant (j := true) (k := true) (t := t) (n := m) (by omega)
  have e7 := v_form_determinant (k := true) hg
  have e8 := w_determinant (j := true) (k := true) (t := f.gram) (n := n) (by omega)
  have hd : Bd (m + (m + m + 1) + 2) t.det := bd_det
  have hd2 : Bd (n + (n + n + 1) + 2) f.gram.det := bd_det
  have g1 : gMul (.int t.det) (.int t.det) = some (.int (t.det * t.det)) := gMul_b (by omega)
  have hq : Bd (m + (m + m + 1) + 2 + (m + (m + m + 1) + 2)) (t.det * t.det) := bd_mul
  have g2 : gMul (.int (t.det * t.det)) (.int f.gram.det) = some (.int (t.det * t.det * f.gram.det)) := gMul_b (by omega)
  rw [F6.chg_val] at e3
  rw [F6.chg_det] at e7
  have l2 : (2 : Int).natAbs.log2 < 9000 := by decide
  have p2 : (0 : Int) < 2 := by decide
  refine run_rt (k := 6) (u := b__law_new_form) ?_
  simp only [List.map_cons, List.map_nil, List.replicate_succ, List.replicate_zero, List.cons_append, List.nil_append]
  unfold b__law_new_form
  (refine Eq.trans (sSeq_eq (ρ' := ?_) ?_) ?_; rotate_left; ((conv => lhs; simp (config := {decide := true}) only [runD, List.map_cons, List.map_nil, List.replicate_zero, List.replicate_succ, List.cons_append, List.nil_append, List.append_nil, sRet, sRetN, sNx, sSeq, sSet, sSetF, sOwn, sTo, gsCons, gsNil, sPar, sPar3, eChain, sExp, sApp, sPut, sIf, sFrz, frz, frz1, List.foldl_cons, List.foldl_nil, eBin, eUn, eVar, eC, eAnd, eOr, eIf, eLend, flat, eIxO, eOfF, eTup, eAll, fAll, eCall, eIs, eSl, fSl, oNone, oSome, aNil, aCons, bVal, bAnd, bOr, bNot, bYes, blOf, gNot, iSeq, iRg1, iRg2, seq_l, seq_t, tup_l, tup_t, lst_l, lst_t, len_l, len_t, gIx_l, gIx_t, gNm, wipeR, List.getElem?_cons_zero, List.getElem?_cons_succ, List.set_cons_zero, List.set_cons_succ, Option.bind_some, Option.bind_none, Option.map_some, Option.map_none, if_true, if_false, decide_true, decide_false, Bool.not_true, Bool.not_false, Bool.false_eq_true, reduceIte, gAdd_i, gSub_i, gNeg_i, gLt_i, gLe_i, gGt_i, gGe_i, gEq_i, gNe_i, gMul_b, gMod_p, gFdiv_p, Nat.reduceAdd, Nat.reduceMul, Nat.reduceLeDiff, at0, at1, at2, at3, at4, at5, at6, at7, at8, at9, at10, at11, at12, at13, at14, at15, gSl_l, cut_pos, cut_from, cut_to, Int.reduceToNat, List.drop_succ_cons, List.drop_zero, List.take_succ_cons, List.take_zero, List.take_nil, Nat.reduceSub, Int.reduceAdd, Int.reduceSub, Int.reduceMul, Int.reduceMod, Int.reduceDiv, Int.reduceNeg, List.length_cons, List.length_nil, Nat.zero_add, fComp, compL, rg1_3, mInt, mAbs, mGcd, mMax2, mMin2, mMax3, mMin3, mIsqrt, isT, w_handed6]); try rfl))
  (refine Eq.trans (sSeq_eq (ρ' := ?_) ?_) ?_; rotate_left; ((conv => lhs; simp (config := {decide := true}) only [runD, List.map_cons, List.map_nil, List.replicate_zero, List.replicate_succ, List.cons_append, List.nil_append, List.append_nil, sRet, sRetN, sNx, sSeq, sSet, sSetF, sOwn, sTo, gsCons, gsNil, sPar, sPar3, eChain, sExp, sApp, sPut, sIf, sFrz, frz, frz1, List.foldl_cons, List.foldl_nil, eBin, eUn, eVar, eC, eAnd, eOr, eIf, eLend, flat, eIxO, eOfF, eTup, eAll, fAll, eCall, eIs, eSl, fSl, oNone, oSome, aNil, aCons, bVal, bAnd, bOr, bNot, bYes, blOf, gNot, iSeq, iRg1, iRg2, seq_l, seq_t, tup_l, tup_t, lst_l, lst_t, len_l, len_t, gIx_l, gIx_t, gNm, wipeR, List.getElem?_cons_zero, List.getElem?_cons_succ, List.set_cons_zero, List.set_cons_succ, Option.bind_some, Option.bind_none, Option.map_some, Option.map_none, if_true, if_false, decide_true, decide_false, Bool.not_true, Bool.not_false, Bool.false_eq_true, reduceIte, gAdd_i, gSub_i, gNeg_i, gLt_i, gLe_i, gGt_i, gGe_i, gEq_i, gNe_i, gMul_b, gMod_p, gFdiv_p, Nat.reduceAdd, Nat.reduceMul, Nat.reduceLeDiff, at0, at1, at2, at3, at4, at5, at6, at7, at8, at9, at10, at11, at12, at13, at14, at15, gSl_l, cut_pos, cut_from, cut_to, Int.reduceToNat, List.drop_succ_cons, List.drop_zero, List.take_succ_cons, List.take_zero, List.take_nil, Nat.reduceSub, Int.reduceAdd, Int.reduceSub, Int.reduceMul, Int.reduceMod, Int.reduceDiv, Int.reduceNeg, List.length_cons, List.length_nil, Nat.zero_add, fComp, compL, rg1_3, mInt, mAbs, mGcd, mMax2, mMin2, mMax3, mMin3, mIsqrt, isT, w_handed_table]); try rfl))
  (refine Eq.trans (sSeq_eq (ρ' := ?_) ?_) ?_; rotate_left; ((conv => lhs; simp (config := {decide := true}) only [runD, List.map_cons, List.map_nil, List.replicate_zero, List.replicate_succ, List.cons_append, List.nil_append, List.append_nil, sRet, sRetN, sNx, sSeq, sSet, sSetF, sOwn, sTo, gsCons, gsNil, sPar, sPar3, eChain, sExp, sApp, sPut, sIf, sFrz, frz, frz1, List.foldl_cons, List.foldl_nil, eBin, eUn, eVar, eC, eAnd, eOr, eIf, eLend, flat, eIxO, eOfF, eTup, eAll, fAll, eCall, eIs, eSl, fSl, oNone, oSome, aNil, aCons, bVal, bAnd, bOr, bNot, bYes, blOf, gNot, iSeq, iRg1, iRg2, seq_l, seq_t, tup_l, tup_t, lst_l, lst_t, len_l, len_t, gIx_l, gIx_t, gNm, wipeR, List.getElem?_cons_zero, List.getElem?_cons_succ, List.set_cons_zero, List.set_cons_succ, Option.bind_some, Option.bind_none, Option.map_some, Option.map_none, if_true, if_false, decide_true, decide_false, Bool.not_true, Bool.not_false, Bool.false_eq_true, reduceIte, gAdd_i, gSub_i, gNeg_i, gLt_i, gLe_i, gGt_i, gGe_i, gEq_i, gNe_i, gMul_b, gMod_p, gFdiv_p, Nat.reduceAdd, Nat.reduceMul, Nat.reduceLeDiff, at0, at1, at2, at3, at4, at5, at6, at7, at8, at9, at10, at11, at12, at13, at14, at15, gSl_l, cut_pos, cut_from, cut_to, Int.reduceToNat, List.drop_succ_cons, List.drop_zero, List.take_succ_cons, List.take_zero, List.take_nil, Nat.reduceSub, Int.reduceAdd, Int.reduceSub, Int.reduceMul, Int.reduceMod, Int.reduceDiv, Int.reduceNeg, List.length_cons, List.length_nil, Nat.zero_add, fComp, compL, rg1_3, mInt, mAbs, mGcd, mMax2, mMin2, mMax3, mMin3, mIsqrt, isT, e1]); try rfl))
  (refine Eq.trans (sSeq_eq (ρ' := ?_) ?_) ?_; rotate_left; ((conv => lhs; simp (config := {decide := true}) only [runD, List.map_cons, List.map_nil, List.replicate_zero, List.replicate_succ, List.cons_append, List.nil_append, List.append_nil, sRet, sRetN, sNx, sSeq, sSet, sSetF, sOwn, sTo, gsCons, gsNil, sPar, sPar3, eChain, sExp, sApp, sPut, sIf, sFrz, frz, frz1, List.foldl_cons, List.foldl_nil, eBin, eUn, eVar, eC, eAnd, eOr, eIf, eLend, flat, eIxO, eOfF, eTup, eAll, fAll, eCall, eIs, eSl, fSl, oNone, oSome, aNil, aCons, bVal, bAnd, bOr, bNot, bYes, blOf, gNot, iSeq, iRg1, iRg2, seq_l, seq_t, tup_l, tup_t, lst_l, lst_t, len_l, len_t, gIx_l, gIx_t, gNm, wipeR, List.getElem?_cons_zero, List.getElem?_cons_succ, List.set_cons_zero, List.set_cons_succ, Option.bind_some, Option.bind_none, Option.map_some, Option.map_none, if_true, if_false, decide_true, decide_false, Bool.not_true, Bool.not_false, Bool.false_eq_true, reduceIte, gAdd_i, gSub_i, gNeg_i, gLt_i, gLe_i, gGt_i, gGe_i, gEq_i, gNe_i, gMul_b, gMod_p, gFdiv_p, Nat.reduceAdd, Nat.reduceMul, Nat.reduceLeDiff, at0, at1, at2, at3, at4, at5, at6, at7, at8, at9, at10, at11, at12, at13, at14, at15, gSl_l, cut_pos, cut_from, cut_to, Int.reduceToNat, List.drop_succ_cons, List.drop_zero, List.take_succ_cons, List.take_zero, List.take_nil, Nat.reduceSub, Int.reduceAdd, Int.reduceSub, Int.reduceMul, Int.reduceMod, Int.reduceDiv, Int.reduceNeg, List.length_cons, List.length_nil, Nat.zero_add, fComp, compL, rg1_3, mInt, mAbs, mGcd, mMax2, mMin2, mMax3, mMin3, mIsqrt, isT, w_is_row6, e2, ne_f]); try rfl))
  (refine Eq.trans (sSeq_eq (ρ' := ?_) ?_) ?_; rotate_left; ((conv => lhs; simp (config := {decide := true}) only [runD, List.map_cons, List.map_nil, List.replicate_zero, List.replicate_succ, List.cons_append, List.nil_append, List.append_nil, sRet, sRetN, sNx, sSeq, sSet, sSetF, sOwn, sTo, gsCons, gsNil, sPar, sPar3, eChain, sExp, sApp, sPut, sIf, sFrz, frz, frz1, List.foldl_cons, List.foldl_nil, eBin, eUn, eVar, eC, eAnd, eOr, eIf, eLend, flat, eIxO, eOfF, eTup, eAll, fAll, eCall, eIs, eSl, fSl, oNone, oSome, aNil, aCons, bVal, bAnd, bOr, bNot, bYes, blOf, gNot, iSeq, iRg1, iRg2, seq_l, seq_t, tup_l, tup_t, lst_l, lst_t, len_l, len_t, gIx_l, gIx_t, gNm, wipeR, List.getElem?_cons_zero, List.getElem?_cons_succ, List.set_cons_zero, List.set_cons_succ, Option.bind_some, Option.bind_none, Option.map_some, Option.map_none, if_true, if_false, decide_true, decide_false, Bool.not_true, Bool.not_false, Bool.false_eq_true, reduceIte, gAdd_i, gSub_i, gNeg_i, gLt_i, gLe_i, gGt_i, gGe_i, gEq_i, gNe_i, gMul_b, gMod_p, gFdiv_p, Nat.reduceAdd, Nat.reduceMul, Nat.reduceLeDiff, at0, at1, at2, at3, at4, at5, at6, at7, at8, at9, at10, at11, at12, at13, at14, at15, gSl_l, cut_pos, cut_from, cut_to, Int.reduceToNat, List.drop_succ_cons, List.drop_zero, List.take_succ_cons, List.take_zero, List.take_nil, Nat.reduceSub, Int.reduceAdd, Int.reduceSub, Int.reduceMul, Int.reduceMod, Int.reduceDiv, Int.reduceNeg, List.length_cons, List.length_nil, Nat.zero_add, fComp, compL, rg1_3, mInt, mAbs, mGcd, mMax2, mMin2, mMax3, mMin3, mIsqrt, isT, tup_f, ne_f, w_stayed]); try rfl))
  (refine Eq.trans (sSeq_eq (ρ' := ?_) ?_) ?_; rotate_left; ((conv => lhs; simp (config := {decide := true}) only [runD, List.map_cons, List.map_nil, List.replicate_zero, List.replicate_succ, List.cons_append, List.nil_append, List.append_nil, sRet, sRetN, sNx, sSeq, sSet, sSetF, sOwn, sTo, gsCons, gsNil, sPar, sPar3, eChain, sExp, sApp, sPut, sIf, sFrz, frz, frz1, List.foldl_cons, List.foldl_nil, eBin, eUn, eVar, eC, eAnd, eOr, eIf, eLend, flat, eIxO, eOfF, eTup, eAll, fAll, eCall, eIs, eSl, fSl, oNone, oSome, aNil, aCons, bVal, bAnd, bOr, bNot, bYes, blOf, gNot, iSeq, iRg1, iRg2, seq_l, seq_t, tup_l, tup_t, lst_l, lst_t, len_l, len_t, gIx_l, gIx_t, gNm, wipeR, List.getElem?_cons_zero, List.getElem?_cons_succ, List.set_cons_zero, List.set_cons_succ, Option.bind_some, Option.bind_none, Option.map_some, Option.map_none, if_true, if_false, decide_true, decide_false, Bool.not_true, Bool.not_false, Bool.false_eq_true, reduceIte, gAdd_i, gSub_i, gNeg_i, gLt_i, gLe_i, gGt_i, gGe_i, gEq_i, gNe_i, gMul_b, gMod_p, gFdiv_p, Nat.reduceAdd, Nat.reduceMul, Nat.reduceLeDiff, at0, at1, at2, at3, at4, at5, at6, at7, at8, at9, at10, at11, at12, at13, at14, at15, gSl_l, cut_pos, cut_from, cut_to, Int.reduceToNat, List.drop_succ_cons, List.drop_zero, List.take_succ_cons, List.take_zero, List.take_nil, Nat.reduceSub, Int.reduceAdd, Int.reduceSub, Int.reduceMul, Int.reduceMod, Int.reduceDiv, Int.reduceNeg, List.length_cons, List.length_nil, Nat.zero_add, fComp, compL, rg1_3, mInt, mAbs, mGcd, mMax2, mMin2, mMax3, mMin3, mIsqrt, isT, w_handed, e3]); try rfl))
  (refine Eq.trans (sSeq_eq (ρ' := ?_) ?_) ?_; rotate_left; ((conv => lhs; simp (config := {decide := true}) only [runD, List.map_cons, List.map_nil, List.replicate_zero, List.replicate_succ, List.cons_append, List.nil_append, List.append_nil, sRet, sRetN, sNx, sSeq, sSet, sSetF, sOwn, sTo, gsCons, gsNil, sPar, sPar3, eChain, sExp, sApp, sPut, sIf, sFrz, frz, frz1, List.foldl_cons, List.foldl_nil, eBin, eUn, eVar, eC, eAnd, eOr, eIf, eLend, flat, eIxO, eOfF, eTup, eAll, fAll, eCall, eIs, eSl, fSl, oNone, oSome, aNil, aCons, bVal, bAnd, bOr, bNot, bYes, blOf, gNot, iSeq, iRg1, iRg2, seq_l, seq_t, tup_l, tup_t, lst_l, lst_t, len_l, len_t, gIx_l, gIx_t, gNm, wipeR, List.getElem?_cons_zero, List.getElem?_cons_succ, List.set_cons_zero, List.set_cons_succ, Option.bind_some, Option.bind_none, Option.map_some, Option.map_none, if_true, if_false, decide_true, decide_false, Bool.not_true, Bool.not_false, Bool.false_eq_true, reduceIte, gAdd_i, gSub_i, gNeg_i, gLt_i, gLe_i, gGt_i, gGe_i, gEq_i, gNe_i, gMul_b, gMod_p, gFdiv_p, Nat.reduceAdd, Nat.reduceMul, Nat.reduceLeDiff, at0, at1, at2, at3, at4, at5, at6, at7, at8, at9, at10, at11, at12, at13, at14, at15, gSl_l, cut_pos, cut_from, cut_to, Int.reduceToNat, List.drop_succ_cons, List.drop_zero, List.take_succ_cons, List.take_zero, List.take_nil, Nat.reduceSub, Int.reduceAdd, Int.reduceSub, Int.reduceMul, Int.reduceMod, Int.reduceDiv, Int.reduceNeg, List.length_cons, List.length_nil, Nat.zero_add, fComp, compL, rg1_3, mInt, mAbs, mGcd, mMax2, mMin2, mMax3, mMin3, mIsqrt, isT, w_whole, e4, e5]); try rfl))
  (refine Eq.trans (sSeq_eq (ρ' := ?_) ?_) ?_; rotate_left; ((conv => lhs; simp (config := {decide := true}) only [runD, List.map_cons, List.map_nil, List.replicate_zero, List.replicate_succ, List.cons_append, List.nil_append, List.append_nil, sRet, sRetN, sNx, sSeq, sSet, sSetF, sOwn, sTo, gsCons, gsNil, sPar, sPar3, eChain, sExp, sApp, sPut, sIf, sFrz, frz, frz1, List.foldl_cons, List.foldl_nil, eBin, eUn, eVar, eC, eAnd, eOr, eIf, eLend, flat, eIxO, eOfF, eTup, eAll, fAll, eCall, eIs, eSl, fSl, oNone, oSome, aNil, aCons, bVal, bAnd, bOr, bNot, bYes, blOf, gNot, iSeq, iRg1, iRg2, seq_l, seq_t, tup_l, tup_t, lst_l, lst_t, len_l, len_t, gIx_l, gIx_t, gNm, wipeR, List.getElem?_cons_zero, List.getElem?_cons_succ, List.set_cons_zero, List.set_cons_succ, Option.bind_some, Option.bind_none, Option.map_some, Option.map_none, if_true, if_false, decide_true, decide_false, Bool.not_true, Bool.not_false, Bool.false_eq_true, reduceIte, gAdd_i, gSub_i, gNeg_i, gLt_i, gLe_i, gGt_i, gGe_i, gEq_i, gNe_i, gMul_b, gMod_p, gFdiv_p, Nat.reduceAdd, Nat.reduceMul, Nat.reduceLeDiff, at0, at1, at2, at3, at4, at5, at6, at7, at8, at9, at10, at11, at12, at13, at14, at15, gSl_l, cut_pos, cut_from, cut_to, Int.reduceToNat, List.drop_succ_cons, List.drop_zero, List.take_succ_cons, List.take_zero, List.take_nil, Nat.reduceSub, Int.reduceAdd, Int.reduceSub, Int.reduceMul, Int.reduceMod, Int.reduceDiv, Int.reduceNeg, List.length_cons, List.length_nil, Nat.zero_add, fComp, compL, rg1_3, mInt, mAbs, mGcd, mMax2, mMin2, mMax3, mMin3, mIsqrt, isT, e6, g1]); try rfl))
  (refine Eq.trans (sSeq_eq (ρ' := ?_) ?_) ?_; rotate_left; ((conv => lhs; simp (config := {decide := true}) only [runD, List.map_cons, List.map_nil, List.replicate_zero, List.replicate_succ, List.cons_append, List.nil_append, List.append_nil, sRet, sRetN, sNx, sSeq, sSet, sSetF, sOwn, sTo, gsCons, gsNil, sPar, sPar3, eChain, sExp, sApp, sPut, sIf, sFrz, frz, frz1, List.foldl_cons, List.foldl_nil, eBin, eUn, eVar, eC, eAnd, eOr, eIf, eLend, flat, eIxO, eOfF, eTup, eAll, fAll, eCall, eIs, eSl, fSl, oNone, oSome, aNil, aCons, bVal, bAnd, bOr, bNot, bYes, blOf, gNot, iSeq, iRg1, iRg2, seq_l, seq_t, tup_l, tup_t, lst_l, lst_t, len_l, len_t, gIx_l, gIx_t, gNm, wipeR, List.getElem?_cons_zero, List.getElem?_cons_succ, List.set_cons_zero, List.set_cons_succ, Option.bind_some, Option.bind_none, Option.map_some, Option.map_none, if_true, if_false, decide_true, decide_false, Bool.not_true, Bool.not_false, Bool.false_eq_true, reduceIte, gAdd_i, gSub_i, gNeg_i, gLt_i, gLe_i, gGt_i, gGe_i, gEq_i, gNe_i, gMul_b, gMod_p, gFdiv_p, Nat.reduceAdd, Nat.reduceMul, Nat.reduceLeDiff, at0, at1, at2, at3, at4, at5, at6, at7, at8, at9, at10, at11, at12, at13, at14, at15, gSl_l, cut_pos, cut_from, cut_to, Int.reduceToNat, List.drop_succ_cons, List.drop_zero, List.take_succ_cons, List.take_zero, List.take_nil, Nat.reduceSub, Int.reduceAdd, Int.reduceSub, Int.reduceMul, Int.reduceMod, Int.reduceDiv, Int.reduceNeg, List.length_cons, List.length_nil, Nat.zero_add, fComp, compL, rg1_3, mInt, mAbs, mGcd, mMax2, mMin2, mMax3, mMin3, mIsqrt, isT, e7]); try rfl))
  (refine Eq.trans (sSeq_eq (ρ' := ?_) ?_) ?_; rotate_left; ((conv => lhs; simp (config := {decide := true}) only [runD, List.map_cons, List.map_nil, List.replicate_zero, List.replicate_succ, List.cons_append, List.nil_append, List.append_nil, sRet, sRetN, sNx, sSeq, sSet, sSetF, sOwn, sTo, gsCons, gsNil, sPar, sPar3, eChain, sExp, sApp, sPut, sIf, sFrz, frz, frz1, List.foldl_cons, List.foldl_nil, eBin, eUn, eVar, eC, eAnd, eOr, eIf, eLend, flat, eIxO, eOfF, eTup, eAll, fAll, eCall, eIs, eSl, fSl, oNone, oSome, aNil, aCons, bVal, bAnd, bOr, bNot, bYes, blOf, gNot, iSeq, iRg1, iRg2, seq_l, seq_t, tup_l, tup_t, lst_l, lst_t, len_l, len_t, gIx_l, gIx_t, gNm, wipeR, List.getElem?_cons_zero, List.getElem?_cons_succ, List.set_cons_zero, List.set_cons_succ, Option.bind_some, Option.bind_none, Option.map_some, Option.map_none, if_true, if_false, decide_true, decide_false, Bool.not_true, Bool.not_false, Bool.false_eq_true, reduceIte, gAdd_i, gSub_i, gNeg_i, gLt_i, gLe_i, gGt_i, gGe_i, gEq_i, gNe_i, gMul_b, gMod_p, gFdiv_p, Nat.reduceAdd, Nat.reduceMul, Nat.reduceLeDiff, at0, at1, at2, at3, at4, at5, at6, at7, at8, at9, at10, at11, at12, at13, at14, at15, gSl_l, cut_pos, cut_from, cut_to, Int.reduceToNat, List.drop_succ_cons, List.drop_zero, List.take_succ_cons, List.take_zero, List.take_nil, Nat.reduceSub, Int.reduceAdd, Int.reduceSub, Int.reduceMul, Int.reduceMod, Int.reduceDiv, Int.reduceNeg, List.length_cons, List.length_nil, Nat.zero_add, fComp, compL, rg1_3, mInt, mAbs, mGcd, mMax2, mMin2, mMax3, mMin3, mIsqrt, isT, w_whole, w_gram, e8, g2]); try rfl))
end
end W

set_option linter.all false
set_option maxRecDepth 100000
set_option maxHeartbeats 4000000
set_option exponentiation.threshold 20000
namespace W
open PySem DL L2
section
variable {n m : Nat} {i j k l : Bool} {f g : F6} {u v w : V3} {s t : M3}
theorem pair_t (a b c : Int) : PyData.tuple [.int a, .int b, .int c] = rw3 true ⟨a, b, c⟩ := rfl
theorem ib_tt : gIsB (.bool true) (.bool true) = some (.bool true) := rfl
theorem ib_ff : gIsB (.bool false) (.bool false) = some (.bool true) := rfl
theorem w_stays (hf : BF 110 f) (hg : BF 24 (f.chg t)) (hd : t.det ≠ 0) {o : Int} : m__law_signature_stays [fm true f, fm true (f.chg t), .int o] = some (.bool true) := by
  obtain ⟨S, G, ec⟩ := v_completed hg
  have hs := v_signature G ec
  have hw := w_signature hf
  obtain ⟨g1, g2⟩ := G.back hd
  rw [g1, g2, show (3 : Int) - (3 - S.length) - cnt S = S.length - cnt S by omega] at hw
  have e2 : ∀ k, m_is_one_minus [fm k (f.chg t)] = some (.bool (decide ((⟨cnt S, S.length - cnt S, 3 - S.length⟩ : V3) = ⟨2, 1, 0⟩))) := fun k => by
    simp only [m_is_one_minus, b_is_one_minus, runD, List.map_cons, List.map_nil, List.replicate_zero, List.replicate_succ, List.cons_append, List.nil_append, List.append_nil, sRet, sRetN, sNx, sSeq, sSet, sSetF, sOwn, sTo, gsCons, gsNil, sPar, sPar3, eChain, sExp, sApp, sPut, sIf, sFrz, frz, frz1, List.foldl_cons, List.foldl_nil, eBin, eUn, eVar, eC, eAnd, eOr, eIf, eLend, flat, eIxO, eOfF, eTup, eAll, fAll, eCall, eIs, eSl, fSl, oNone, oSome, aNil, aCons, bVal, bAnd, bOr, bNot, bYes, blOf, gNot, iSeq, iRg1, iRg2, seq_l, seq_t, tup_l, tup_t, lst_l, lst_t, len_l, len_t, gIx_l, gIx_t, gNm, wipeR, List.getElem?_cons_zero, List.getElem?_cons_succ, List.set_cons_zero, List.set_cons_succ, Option.bind_some, Option.bind_none, Option.map_some, Option.map_none, if_true, if_false, decide_true, decide_false, Bool.not_true, Bool.not_false, Bool.false_eq_true, reduceIte, gAdd_i, gSub_i, gNeg_i, gLt_i, gLe_i, gGt_i, gGe_i, gEq_i, gNe_i, gMul_b, gMod_p, gFdiv_p, Nat.reduceAdd, Nat.reduceMul, Nat.reduceLeDiff, at0, at1, at2, at3, at4, at5, at6, at7, at8, at9, at10, at11, at12, at13, at14, at15, gSl_l, cut_pos, cut_from, cut_to, Int.reduceToNat, List.drop_succ_cons, List.drop_zero, List.take_succ_cons, List.take_zero, List.take_nil, Nat.reduceSub, Int.reduceAdd, Int.reduceSub, Int.reduceMul, Int.reduceMod, Int.reduceDiv, Int.reduceNeg, List.length_cons, List.length_nil, Nat.zero_add, fComp, compL, rg1_3, mInt, mAbs, mGcd, mMax2, mMin2, mMax3, mMin3, mIsqrt, isT, hs, row_t, eq_r]
  refine run_rt (k := 3) (u := b__law_signature_stays) ?_
  simp only [List.map_cons, List.map_nil, List.replicate_succ, List.replicate_zero, List.cons_append, List.nil_append]
  unfold b__law_signature_stays
  (refine Eq.trans (sSeq_eq (ρ' := ?_) ?_) ?_; rotate_left; ((conv => lhs; simp (config := {decide := true}) only [runD, List.map_cons, List.map_nil, List.replicate_zero, List.replicate_succ, List.cons_append, List.nil_append, List.append_nil, sRet, sRetN, sNx, sSeq, sSet, sSetF, sOwn, sTo, gsCons, gsNil, sPar, sPar3, eChain, sExp, sApp, sPut, sIf, sFrz, frz, frz1, List.foldl_cons, List.foldl_nil, eBin, eUn, eVar, eC, eAnd, eOr, eIf, eLend, flat, eIxO, eOfF, eTup, eAll, fAll, eCall, eIs, eSl, fSl, oNone, oSome, aNil, aCons, bVal, bAnd, bOr, bNot, bYes, blOf, gNot, iSeq, iRg1, iRg2, seq_l, seq_t, tup_l, tup_t, lst_l, lst_t, len_l, len_t, gIx_l, gIx_t, gNm, wipeR, List.getElem?_cons_zero, List.getElem?_cons_succ, List.set_cons_zero, List.set_cons_succ, Option.bind_some, Option.bind_none, Option.map_some, Option.map_none, if_true, if_false, decide_true, decide_false, Bool.not_true, Bool.not_false, Bool.false_eq_true, reduceIte, gAdd_i, gSub_i, gNeg_i, gLt_i, gLe_i, gGt_i, gGe_i, gEq_i, gNe_i, gMul_b, gMod_p, gFdiv_p, Nat.reduceAdd, Nat.reduceMul, Nat.reduceLeDiff, at0, at1, at2, at3, at4, at5, at6, at7, at8, at9, at10, at11, at12, at13, at14, at15, gSl_l, cut_pos, cut_from, cut_to, Int.reduceToNat, List.drop_succ_cons, List.drop_zero, List.take_succ_cons, List.take_zero, List.take_nil, Nat.reduceSub, Int.reduceAdd, Int.reduceSub, Int.reduceMul, Int.reduceMod, Int.reduceDiv, Int.reduceNeg, List.length_cons, List.length_nil, Nat.zero_add, fComp, compL, rg1_3, mInt, mAbs, mGcd, mMax2, mMin2, mMax3, mMin3, mIsqrt, isT, hw]); try rfl))
  (refine Eq.trans (sSeq_eq (ρ' := ?_) ?_) ?_; rotate_left; ((conv => lhs; simp (config := {decide := true}) only [runD, List.map_cons, List.map_nil, List.replicate_zero, List.replicate_succ, List.cons_append, List.nil_append, List.append_nil, sRet, sRetN, sNx, sSeq, sSet, sSetF, sOwn, sTo, gsCons, gsNil, sPar, sPar3, eChain, sExp, sApp, sPut, sIf, sFrz, frz, frz1, List.foldl_cons, List.foldl_nil, eBin, eUn, eVar, eC, eAnd, eOr, eIf, eLend, flat, eIxO, eOfF, eTup, eAll, fAll, eCall, eIs, eSl, fSl, oNone, oSome, aNil, aCons, bVal, bAnd, bOr, bNot, bYes, blOf, gNot, iSeq, iRg1, iRg2, seq_l, seq_t, tup_l, tup_t, lst_l, lst_t, len_l, len_t, gIx_l, gIx_t, gNm, wipeR, List.getElem?_cons_zero, List.getElem?_cons_succ, List.set_cons_zero, List.set_cons_succ, Option.bind_some, Option.bind_none, Option.map_some, Option.map_none, if_true, if_false, decide_true, decide_false, Bool.not_true, Bool.not_false, Bool.false_eq_true, reduceIte, gAdd_i, gSub_i, gNeg_i, gLt_i, gLe_i, gGt_i, gGe_i, gEq_i, gNe_i, gMul_b, gMod_p, gFdiv_p, Nat.reduceAdd, Nat.reduceMul, Nat.reduceLeDiff, at0, at1, at2, at3, at4, at5, at6, at7, at8, at9, at10, at11, at12, at13, at14, at15, gSl_l, cut_pos, cut_from, cut_to, Int.reduceToNat, List.drop_succ_cons, List.drop_zero, List.take_succ_cons, List.take_zero, List.take_nil, Nat.reduceSub, Int.reduceAdd, Int.reduceSub, Int.reduceMul, Int.reduceMod, Int.reduceDiv, Int.reduceNeg, List.length_cons, List.length_nil, Nat.zero_add, fComp, compL, rg1_3, mInt, mAbs, mGcd, mMax2, mMin2, mMax3, mMin3, mIsqrt, isT, w_handed6, hs]); try rfl))
  (refine Eq.trans (sSeq_eq (ρ' := ?_) ?_) ?_; rotate_left; ((conv => lhs; simp (config := {decide := true}) only [runD, List.map_cons, List.map_nil, List.replicate_zero, List.replicate_succ, List.cons_append, List.nil_append, List.append_nil, sRet, sRetN, sNx, sSeq, sSet, sSetF, sOwn, sTo, gsCons, gsNil, sPar, sPar3, eChain, sExp, sApp, sPut, sIf, sFrz, frz, frz1, List.foldl_cons, List.foldl_nil, eBin, eUn, eVar, eC, eAnd, eOr, eIf, eLend, flat, eIxO, eOfF, eTup, eAll, fAll, eCall, eIs, eSl, fSl, oNone, oSome, aNil, aCons, bVal, bAnd, bOr, bNot, bYes, blOf, gNot, iSeq, iRg1, iRg2, seq_l, seq_t, tup_l, tup_t, lst_l, lst_t, len_l, len_t, gIx_l, gIx_t, gNm, wipeR, List.getElem?_cons_zero, List.getElem?_cons_succ, List.set_cons_zero, List.set_cons_succ, Option.bind_some, Option.bind_none, Option.map_some, Option.map_none, if_true, if_false, decide_true, decide_false, Bool.not_true, Bool.not_false, Bool.false_eq_true, reduceIte, gAdd_i, gSub_i, gNeg_i, gLt_i, gLe_i, gGt_i, gGe_i, gEq_i, gNe_i, gMul_b, gMod_p, gFdiv_p, Nat.reduceAdd, Nat.reduceMul, Nat.reduceLeDiff, at0, at1, at2, at3, at4, at5, at6, at7, at8, at9, at10, at11, at12, at13, at14, at15, gSl_l, cut_pos, cut_from, cut_to, Int.reduceToNat, List.drop_succ_cons, List.drop_zero, List.take_succ_cons, List.take_zero, List.take_nil, Nat.reduceSub, Int.reduceAdd, Int.reduceSub, Int.reduceMul, Int.reduceMod, Int.reduceDiv, Int.reduceNeg, List.length_cons, List.length_nil, Nat.zero_add, fComp, compL, rg1_3, mInt, mAbs, mGcd, mMax2, mMin2, mMax3, mMin3, mIsqrt, isT, w_handed6, e2]); try rfl))
  (refine Eq.trans (sSeq_eq (ρ' := ?_) ?_) ?_; rotate_left; ((conv => lhs; simp (config := {decide := true}) only [runD, List.map_cons, List.map_nil, List.replicate_zero, List.replicate_succ, List.cons_append, List.nil_append, List.append_nil, sRet, sRetN, sNx, sSeq, sSet, sSetF, sOwn, sTo, gsCons, gsNil, sPar, sPar3, eChain, sExp, sApp, sPut, sIf, sFrz, frz, frz1, List.foldl_cons, List.foldl_nil, eBin, eUn, eVar, eC, eAnd, eOr, eIf, eLend, flat, eIxO, eOfF, eTup, eAll, fAll, eCall, eIs, eSl, fSl, oNone, oSome, aNil, aCons, bVal, bAnd, bOr, bNot, bYes, blOf, gNot, iSeq, iRg1, iRg2, seq_l, seq_t, tup_l, tup_t, lst_l, lst_t, len_l, len_t, gIx_l, gIx_t, gNm, wipeR, List.getElem?_cons_zero, List.getElem?_cons_succ, List.set_cons_zero, List.set_cons_succ, Option.bind_some, Option.bind_none, Option.map_some, Option.map_none, if_true, if_false, decide_true, decide_false, Bool.not_true, Bool.not_false, Bool.false_eq_true, reduceIte, gAdd_i, gSub_i, gNeg_i, gLt_i, gLe_i, gGt_i, gGe_i, gEq_i, gNe_i, gMul_b, gMod_p, gFdiv_p, Nat.reduceAdd, Nat.reduceMul, Nat.reduceLeDiff, at0, at1, at2, at3, at4, at5, at6, at7, at8, at9, at10, at11, at12, at13, at14, at15, gSl_l, cut_pos, cut_from, cut_to, Int.reduceToNat, List.drop_succ_cons, List.drop_zero, List.take_succ_cons, List.take_zero, List.take_nil, Nat.reduceSub, Int.reduceAdd, Int.reduceSub, Int.reduceMul, Int.reduceMod, Int.reduceDiv, Int.reduceNeg, List.length_cons, List.length_nil, Nat.zero_add, fComp, compL, rg1_3, mInt, mAbs, mGcd, mMax2, mMin2, mMax3, mMin3, mIsqrt, isT, w_is_row, ne_r]); try rfl))
  by_cases c : (⟨cnt S, S.length - cnt S, 3 - S.length⟩ : V3) = ⟨2, 1, 0⟩
  · simp only [runD, List.map_cons, List.map_nil, List.replicate_zero, List.replicate_succ, List.cons_append, List.nil_append, List.append_nil, sRet, sRetN, sNx, sSeq, sSet, sSetF, sOwn, sTo, gsCons, gsNil, sPar, sPar3, eChain, sExp, sApp, sPut, sIf, sFrz, frz, frz1, List.foldl_cons, List.foldl_nil, eBin, eUn, eVar, eC, eAnd, eOr, eIf, eLend, flat, eIxO, eOfF, eTup, eAll, fAll, eCall, eIs, eSl, fSl, oNone, oSome, aNil, aCons, bVal, bAnd, bOr, bNot, bYes, blOf, gNot, iSeq, iRg1, iRg2, seq_l, seq_t, tup_l, tup_t, lst_l, lst_t, len_l, len_t, gIx_l, gIx_t, gNm, wipeR, List.getElem?_cons_zero, List.getElem?_cons_succ, List.set_cons_zero, List.set_cons_succ, Option.bind_some, Option.bind_none, Option.map_some, Option.map_none, if_true, if_false, decide_true, decide_false, Bool.not_true, Bool.not_false, Bool.false_eq_true, reduceIte, gAdd_i, gSub_i, gNeg_i, gLt_i, gLe_i, gGt_i, gGe_i, gEq_i, gNe_i, gMul_b, gMod_p, gFdiv_p, Nat.reduceAdd, Nat.reduceMul, Nat.reduceLeDiff, at0, at1, at2, at3, at4, at5, at6, at7, at8, at9, at10, at11, at12, at13, at14, at15, gSl_l, cut_pos, cut_from, cut_to, Int.reduceToNat, List.drop_succ_cons, List.drop_zero, List.take_succ_cons, List.take_zero, List.take_nil, Nat.reduceSub, Int.reduceAdd, Int.reduceSub, Int.reduceMul, Int.reduceMod, Int.reduceDiv, Int.reduceNeg, List.length_cons, List.length_nil, Nat.zero_add, fComp, compL, rg1_3, mInt, mAbs, mGcd, mMax2, mMin2, mMax3, mMin3, mIsqrt, isT, row_t, eq_r, c, ib_tt]
  · simp only [runD, List.map_cons, List.map_nil, List.replicate_zero, List.replicate_succ, List.cons_append, List.nil_append, List.append_nil, sRet, sRetN, sNx, sSeq, sSet, sSetF, sOwn, sTo, gsCons, gsNil, sPar, sPar3, eChain, sExp, sApp, sPut, sIf, sFrz, frz, frz1, List.foldl_cons, List.foldl_nil, eBin, eUn, eVar, eC, eAnd, eOr, eIf, eLend, flat, eIxO, eOfF, eTup, eAll, fAll, eCall, eIs, eSl, fSl, oNone, oSome, aNil, aCons, bVal, bAnd, bOr, bNot, bYes, blOf, gNot, iSeq, iRg1, iRg2, seq_l, seq_t, tup_l, tup_t, lst_l, lst_t, len_l, len_t, gIx_l, gIx_t, gNm, wipeR, List.getElem?_cons_zero, List.getElem?_cons_succ, List.set_cons_zero, List.set_cons_succ, Option.bind_some, Option.bind_none, Option.map_some, Option.map_none, if_true, if_false, decide_true, decide_false, Bool.not_true, Bool.not_false, Bool.false_eq_true, reduceIte, gAdd_i, gSub_i, gNeg_i, gLt_i, gLe_i, gGt_i, gGe_i, gEq_i, gNe_i, gMul_b, gMod_p, gFdiv_p, Nat.reduceAdd, Nat.reduceMul, Nat.reduceLeDiff, at0, at1, at2, at3, at4, at5, at6, at7, at8, at9, at10, at11, at12, at13, at14, at15, gSl_l, cut_pos, cut_from, cut_to, Int.reduceToNat, List.drop_succ_cons, List.drop_zero, List.take_succ_cons, List.take_zero, List.take_nil, Nat.reduceSub, Int.reduceAdd, Int.reduceSub, Int.reduceMul, Int.reduceMod, Int.reduceDiv, Int.reduceNeg, List.length_cons, List.length_nil, Nat.zero_add, fComp, compL, rg1_3, mInt, mAbs, mGcd, mMax2, mMin2, mMax3, mMin3, mIsqrt, isT, row_t, eq_r, c, ib_ff]
/-! is_change -/
theorem v_is_change (ht : BM n t) (h : n ≤ 1000) : m_is_change [tb j k t] = some (.bool (decide (t.det = 1 ∨ t.det = -1))) := by
  have e1 := v_determinant (j := j) (k := k) (t := t) (n := n) (by omega)
  have e2 : gIn (.int t.det) (.tuple [.int 1, .int (-1)]) = some (.bool (decide (t.det = 1 ∨ t.det = -1))) := by
    show some (PyData.bool ((1 : Int) == t.det || ((-1 : Int) == t.det || false))) = _
    congr 2
    rw [Bool.eq_iff_iff]
    simp only [Bool.or_false, Bool.or_eq_true, beq_iff_eq, decide_eq_true_eq]
    omega
  simp only [m_is_change, b_is_change, runD, List.map_cons, List.map_nil, List.replicate_zero, List.replicate_succ, List.cons_append, List.nil_append, List.append_nil, sRet, sRetN, sNx, sSeq, sSet, sSetF, sOwn, sTo, gsCons, gsNil, sPar, sPar3, eChain, sExp, sApp, sPut, sIf, sFrz, frz, frz1, List.foldl_cons, List.foldl_nil, eBin, eUn, eVar, eC, eAnd, eOr, eIf, eLend, flat, eIxO, eOfF, eTup, eAll, fAll, eCall, eIs, eSl, fSl, oNone, oSome, aNil, aCons, bVal, bAnd, bOr, bNot, bYes, blOf, gNot, iSeq, iRg1, iRg2, seq_l, seq_t, tup_l, tup_t, lst_l, lst_t, len_l, len_t, gIx_l, gIx_t, gNm, wipeR, List.getElem?_cons_zero, List.getElem?_cons_succ, List.set_cons_zero, List.set_cons_succ, Option.bind_some, Option.bind_none, Option.map_some, Option.map_none, if_true, if_false, decide_true, decide_false, Bool.not_true, Bool.not_false, Bool.false_eq_true, reduceIte, gAdd_i, gSub_i, gNeg_i, gLt_i, gLe_i, gGt_i, gGe_i, gEq_i, gNe_i, gMul_b, gMod_p, gFdiv_p, Nat.reduceAdd, Nat.reduceMul, Nat.reduceLeDiff, at0, at1, at2, at3, at4, at5, at6, at7, at8, at9, at10, at11, at12, at13, at14, at15, gSl_l, cut_pos, cut_from, cut_to, Int.reduceToNat, List.drop_succ_cons, List.drop_zero, List.take_succ_cons, List.take_zero, List.take_nil, Nat.reduceSub, Int.reduceAdd, Int.reduceSub, Int.reduceMul, Int.reduceMod, Int.reduceDiv, Int.reduceNeg, List.length_cons, List.length_nil, Nat.zero_add, fComp, compL, rg1_3, mInt, mAbs, mGcd, mMax2, mMin2, mMax3, mMin3, mIsqrt, isT, e1, e2]
theorem inB_tt : gIsntB (.bool true) (.bool true) = some (.bool false) := rfl
theorem inB_ft : gIsntB (.bool false) (.bool true) = some (.bool true) := rfl
theorem inB_tf : gIsntB (.bool true) (.bool false) = some (.bool true) := rfl
theorem inB_ff : gIsntB (.bool false) (.bool false) = some (.bool false) := rfl
theorem asked_go {x0 x1 x2 x4 x5 x6 : SC} {o : Int} : ∀ (L : List M3) (x7 x8 x9 : SC), (∀ t ∈ L, BM 400 t) → ∃ y7 y8 y9, forL (gNm 7) (sSeq (sSet 8 (eCall m_is_change (aCons (eCall m__law_handed_table (aCons (eVar 7) (aCons (eVar 3) aNil))) aNil))) (sSeq (sSet 9 (eCall m__law_determinant (aCons (eVar 7) aNil))) (sSeq (sIf (bAnd (bVal (eBin gIsntB (eVar 8) (eC (.bool true)))) (bOr (bVal (eBin gEq (eVar 9) (eC (.int 1)))) (bVal (eBin gEq (eVar 9) (eUn gNeg (eC (.int 1))))))) (sRet (eC (.bool false))) sNx) (sIf (bAnd (bVal (eBin gIsntB (eVar 8) (eC (.bool false)))) (bAnd (bVal (eBin gNe (eVar 9) (eC (.int 1)))) (bVal (eBin gNe (eVar 9) (eUn gNeg (eC (.int 1))))))) (sRet (eC (.bool false))) sNx)))) (L.map (tb true true)) [x0, x1, x2, .va (.int o), x4, x5, x6, x7, x8, x9] = some (.nx [x0, x1, x2, .va (.int o), x4, x5, x6, y7, y8, y9])
  | [], x7, x8, x9, _ => ⟨_, _, _, rfl⟩
  | t :: L, x7, x8, x9, hL => by
    have ht := hL t List.mem_cons_self
    obtain ⟨y7, y8, y9, q⟩ := asked_go (x0 := x0) (x1 := x1) (x2 := x2) (x4 := x4) (x5 := x5) (x6 := x6) (o := o) L (.va (tb true true t)) (.va (.bool (decide (t.det = 1 ∨ t.det = -1)))) (.va (.int t.det)) (fun s hs => hL s (List.mem_cons_of_mem _ hs))
    refine ⟨y7, y8, y9, ?_⟩
    have e1 := v_is_change (j := decide (o % 2 = 0)) (k := decide (o / 2 = 0)) ht (by decide)
    have e2 := w_determinant (j := true) (k := true) (t := t) (n := 400) (by decide)
    rw [← q, List.map_cons]
    have cs : t.det = 1 ∨ t.det = -1 ∨ (¬ t.det = 1 ∧ ¬ t.det = -1) := by omega
    rcases cs with c | c | ⟨c, d⟩
    · have cc : decide (t.det = 1 ∨ t.det = -1) = true := by rw [c]; rfl
      rw [cc] at e1 ⊢
      rw [c] at e2 ⊢
      have z : ¬ (1 : Int) = -1 := by decide
      simp only [forL, runD, List.map_cons, List.map_nil, List.replicate_zero, List.replicate_succ, List.cons_append, List.nil_append, List.append_nil, sRet, sRetN, sNx, sSeq, sSet, sSetF, sOwn, sTo, gsCons, gsNil, sPar, sPar3, eChain, sExp, sApp, sPut, sIf, sFrz, frz, frz1, List.foldl_cons, List.foldl_nil, eBin, eUn, eVar, eC, eAnd, eOr, eIf, eLend, flat, eIxO, eOfF, eTup, eAll, fAll, eCall, eIs, eSl, fSl, oNone, oSome, aNil, aCons, bVal, bAnd, bOr, bNot, bYes, blOf, gNot, iSeq, iRg1, iRg2, seq_l, seq_t, tup_l, tup_t, lst_l, lst_t, len_l, len_t, gIx_l, gIx_t, gNm, wipeR, List.getElem?_cons_zero, List.getElem?_cons_succ, List.set_cons_zero, List.set_cons_succ, Option.bind_some, Option.bind_none, Option.map_some, Option.map_none, if_true, if_false, decide_true, decide_false, Bool.not_true, Bool.not_false, Bool.false_eq_true, reduceIte, gAdd_i, gSub_i, gNeg_i, gLt_i, gLe_i, gGt_i, gGe_i, gEq_i, gNe_i, gMul_b, gMod_p, gFdiv_p, Nat.reduceAdd, Nat.reduceMul, Nat.reduceLeDiff, at0, at1, at2, at3, at4, at5, at6, at7, at8, at9, at10, at11, at12, at13, at14, at15, gSl_l, cut_pos, cut_from, cut_to, Int.reduceToNat, List.drop_succ_cons, List.drop_zero, List.take_succ_cons, List.take_zero, List.take_nil, Nat.reduceSub, Int.reduceAdd, Int.reduceSub, Int.reduceMul, Int.reduceMod, Int.reduceDiv, Int.reduceNeg, List.length_cons, List.length_nil, Nat.zero_add, fComp, compL, rg1_3, mInt, mAbs, mGcd, mMax2, mMin2, mMax3, mMin3, mIsqrt, isT, w_handed_table, e1, e2, inB_tt, inB_tf, z]
    · have cc : decide (t.det = 1 ∨ t.det = -1) = true := by rw [c]; rfl
      rw [cc] at e1 ⊢
      rw [c] at e2 ⊢
      have z : ¬ (-1 : Int) = 1 := by decide
      simp only [forL, runD, List.map_cons, List.map_nil, List.replicate_zero, List.replicate_succ, List.cons_append, List.nil_append, List.append_nil, sRet, sRetN, sNx, sSeq, sSet, sSetF, sOwn, sTo, gsCons, gsNil, sPar, sPar3, eChain, sExp, sApp, sPut, sIf, sFrz, frz, frz1, List.foldl_cons, List.foldl_nil, eBin, eUn, eVar, eC, eAnd, eOr, eIf, eLend, flat, eIxO, eOfF, eTup, eAll, fAll, eCall, eIs, eSl, fSl, oNone, oSome, aNil, aCons, bVal, bAnd, bOr, bNot, bYes, blOf, gNot, iSeq, iRg1, iRg2, seq_l, seq_t, tup_l, tup_t, lst_l, lst_t, len_l, len_t, gIx_l, gIx_t, gNm, wipeR, List.getElem?_cons_zero, List.getElem?_cons_succ, List.set_cons_zero, List.set_cons_succ, Option.bind_some, Option.bind_none, Option.map_some, Option.map_none, if_true, if_false, decide_true, decide_false, Bool.not_true, Bool.not_false, Bool.false_eq_true, reduceIte, gAdd_i, gSub_i, gNeg_i, gLt_i, gLe_i, gGt_i, gGe_i, gEq_i, gNe_i, gMul_b, gMod_p, gFdiv_p, Nat.reduceAdd, Nat.reduceMul, Nat.reduceLeDiff, at0, at1, at2, at3, at4, at5, at6, at7, at8, at9, at10, at11, at12, at13, at14, at15, gSl_l, cut_pos, cut_from, cut_to, Int.reduceToNat, List.drop_succ_cons, List.drop_zero, List.take_succ_cons, List.take_zero, List.take_nil, Nat.reduceSub, Int.reduceAdd, Int.reduceSub, Int.reduceMul, Int.reduceMod, Int.reduceDiv, Int.reduceNeg, List.length_cons, List.length_nil, Nat.zero_add, fComp, compL, rg1_3, mInt, mAbs, mGcd, mMax2, mMin2, mMax3, mMin3, mIsqrt, isT, w_handed_table, e1, e2, inB_tt, inB_tf, z]
    · have cc : decide (t.det = 1 ∨ t.det = -1) = false := by simp [c, d]
      rw [cc] at e1 ⊢
      simp only [forL, runD, List.map_cons, List.map_nil, List.replicate_zero, List.replicate_succ, List.cons_append, List.nil_append, List.append_nil, sRet, sRetN, sNx, sSeq, sSet, sSetF, sOwn, sTo, gsCons, gsNil, sPar, sPar3, eChain, sExp, sApp, sPut, sIf, sFrz, frz, frz1, List.foldl_cons, List.foldl_nil, eBin, eUn, eVar, eC, eAnd, eOr, eIf, eLend, flat, eIxO, eOfF, eTup, eAll, fAll, eCall, eIs, eSl, fSl, oNone, oSome, aNil, aCons, bVal, bAnd, bOr, bNot, bYes, blOf, gNot, iSeq, iRg1, iRg2, seq_l, seq_t, tup_l, tup_t, lst_l, lst_t, len_l, len_t, gIx_l, gIx_t, gNm, wipeR, List.getElem?_cons_zero, List.getElem?_cons_succ, List.set_cons_zero, List.set_cons_succ, Option.bind_some, Option.bind_none, Option.map_some, Option.map_none, if_true, if_false, decide_true, decide_false, Bool.not_true, Bool.not_false, Bool.false_eq_true, reduceIte, gAdd_i, gSub_i, gNeg_i, gLt_i, gLe_i, gGt_i, gGe_i, gEq_i, gNe_i, gMul_b, gMod_p, gFdiv_p, Nat.reduceAdd, Nat.reduceMul, Nat.reduceLeDiff, at0, at1, at2, at3, at4, at5, at6, at7, at8, at9, at10, at11, at12, at13, at14, at15, gSl_l, cut_pos, cut_from, cut_to, Int.reduceToNat, List.drop_succ_cons, List.drop_zero, List.take_succ_cons, List.take_zero, List.take_nil, Nat.reduceSub, Int.reduceAdd, Int.reduceSub, Int.reduceMul, Int.reduceMod, Int.reduceDiv, Int.reduceNeg, List.length_cons, List.length_nil, Nat.zero_add, fComp, compL, rg1_3, mInt, mAbs, mGcd, mMax2, mMin2, mMax3, mMin3, mIsqrt, isT, w_handed_table, e1, e2, inB_ff, inB_ft, c, d]
theorem w_changes_right {c : M3} (h1 : BM 300 s) (h2 : BM 300 t) (hc : BM 300 c) {ln o : Int} (hl : 0 ≤ ln ∧ ln < 3) : m__law_changes_right [.list [tb true true s, tb true true t], tb true true c, .int ln, .int o] = some (.bool true) := by
  have ft : ∀ (z : Int) (v : V3), z.natAbs < 2 ^ 2 → BV 300 v → m__law_times [.int z, rw3 true v] = some (rw3 true (v.smul z)) := fun z v hz hv => by
    haveI : Bd 2 z := ⟨hz⟩
    exact w_times (n := 2) (m := 300) (by decide)
  have fb : ∀ (z : Int) (v : V3), z.natAbs < 2 ^ 2 → BV 300 v → BV 400 (v.smul z) := fun z v hz hv => by
    haveI : Bd 2 z := ⟨hz⟩
    exact BV.mono bv_smul (by decide)
  have ca := hc.a
  have cb := hc.b
  have cc := hc.c
  have up : ∀ {v : V3}, BV 300 v → BV 400 v := fun h => h.mono (by decide)
  have hln : ln = 0 ∨ ln = 1 ∨ ln = 2 := by omega
  rcases hln with rfl | rfl | rfl
  · obtain ⟨y7, y8, y9, q⟩ := asked_go (x0 := .va (.list [tb true true s, tb true true t])) (x1 := .va (tb true true c)) (x2 := .va (.int 0)) (x4 := .va (.list ([s, t, ⟨c.a.smul 0, c.b, c.c⟩, ⟨c.a.smul 2, c.b, c.c⟩, ⟨c.a.smul (-1), c.b, c.c⟩, ⟨c.a.smul 1, c.b, c.c⟩].map (tb true true)))) (x5 := .va (.int 1)) (x6 := .va (.list [rw3 true (c.a.smul 1), rw3 true c.b, rw3 true c.c])) (o := o) [s, t, ⟨c.a.smul 0, c.b, c.c⟩, ⟨c.a.smul 2, c.b, c.c⟩, ⟨c.a.smul (-1), c.b, c.c⟩, ⟨c.a.smul 1, c.b, c.c⟩] .un .un .un (by
      intro t' ht'
      simp only [List.mem_cons, List.not_mem_nil, or_false] at ht'
      rcases ht' with rfl | rfl | rfl | rfl | rfl | rfl
      · exact h1.mono (by decide)
      · exact h2.mono (by decide)
      all_goals exact ⟨fb _ _ (by decide) ca, up cb, up cc⟩)
    simp only [List.map_cons, List.map_nil] at q
    have t0 := ft 0 c.a (by decide) ca
    have t1 := ft 1 c.a (by decide) ca
    have t2 := ft 2 c.a (by decide) ca
    have t3 := ft (-1) c.a (by decide) ca
    have lt : mList [tb true true c] = some [rw3 true c.a, rw3 true c.b, rw3 true c.c] := rfl
    refine run_rt (k := 6) (u := b__law_changes_right) ?_
    simp only [List.map_cons, List.map_nil, List.replicate_succ, List.replicate_zero, List.cons_append, List.nil_append]
    unfold b__law_changes_right
    (refine Eq.trans (sSeq_eq (ρ' := ?_) ?_) ?_; rotate_left; ((conv => lhs; simp (config := {decide := true}) only [runD, List.map_cons, List.map_nil, List.replicate_zero, List.replicate_succ, List.cons_append, List.nil_append, List.append_nil, sRet, sRetN, sNx, sSeq, sSet, sSetF, sOwn, sTo, gsCons, gsNil, sPar, sPar3, eChain, sExp, sApp, sPut, sIf, sFrz, frz, frz1, List.foldl_cons, List.foldl_nil, eBin, eUn, eVar, eC, eAnd, eOr, eIf, eLend, flat, eIxO, eOfF, eTup, eAll, fAll, eCall, eIs, eSl, fSl, oNone, oSome, aNil, aCons, bVal, bAnd, bOr, bNot, bYes, blOf, gNot, iSeq, iRg1, iRg2, seq_l, seq_t, tup_l, tup_t, lst_l, lst_t, len_l, len_t, gIx_l, gIx_t, gNm, wipeR, List.getElem?_cons_zero, List.getElem?_cons_succ, List.set_cons_zero, List.set_cons_succ, Option.bind_some, Option.bind_none, Option.map_some, Option.map_none, if_true, if_false, decide_true, decide_false, Bool.not_true, Bool.not_false, Bool.false_eq_true, reduceIte, gAdd_i, gSub_i, gNeg_i, gLt_i, gLe_i, gGt_i, gGe_i, gEq_i, gNe_i, gMul_b, gMod_p, gFdiv_p, Nat.reduceAdd, Nat.reduceMul, Nat.reduceLeDiff, at0, at1, at2, at3, at4, at5, at6, at7, at8, at9, at10, at11, at12, at13, at14, at15, gSl_l, cut_pos, cut_from, cut_to, Int.reduceToNat, List.drop_succ_cons, List.drop_zero, List.take_succ_cons, List.take_zero, List.take_nil, Nat.reduceSub, Int.reduceAdd, Int.reduceSub, Int.reduceMul, Int.reduceMod, Int.reduceDiv, Int.reduceNeg, List.length_cons, List.length_nil, Nat.zero_add, fComp, compL, rg1_3, mInt, mAbs, mGcd, mMax2, mMin2, mMax3, mMin3, mIsqrt, isT, lst_l]); try rfl))
    (refine Eq.trans (sSeq_eq (ρ' := ?_) ?_) ?_; rotate_left; ((conv => lhs; simp (config := {decide := true}) only [runD, List.map_cons, List.map_nil, List.replicate_zero, List.replicate_succ, List.cons_append, List.nil_append, List.append_nil, sRet, sRetN, sNx, sSeq, sSet, sSetF, sOwn, sTo, gsCons, gsNil, sPar, sPar3, eChain, sExp, sApp, sPut, sIf, sFrz, frz, frz1, List.foldl_cons, List.foldl_nil, eBin, eUn, eVar, eC, eAnd, eOr, eIf, eLend, flat, eIxO, eOfF, eTup, eAll, fAll, eCall, eIs, eSl, fSl, oNone, oSome, aNil, aCons, bVal, bAnd, bOr, bNot, bYes, blOf, gNot, iSeq, iRg1, iRg2, seq_l, seq_t, tup_l, tup_t, lst_l, lst_t, len_l, len_t, gIx_l, gIx_t, gNm, wipeR, List.getElem?_cons_zero, List.getElem?_cons_succ, List.set_cons_zero, List.set_cons_succ, Option.bind_some, Option.bind_none, Option.map_some, Option.map_none, if_true, if_false, decide_true, decide_false, Bool.not_true, Bool.not_false, Bool.false_eq_true, reduceIte, gAdd_i, gSub_i, gNeg_i, gLt_i, gLe_i, gGt_i, gGe_i, gEq_i, gNe_i, gMul_b, gMod_p, gFdiv_p, Nat.reduceAdd, Nat.reduceMul, Nat.reduceLeDiff, at0, at1, at2, at3, at4, at5, at6, at7, at8, at9, at10, at11, at12, at13, at14, at15, gSl_l, cut_pos, cut_from, cut_to, Int.reduceToNat, List.drop_succ_cons, List.drop_zero, List.take_succ_cons, List.take_zero, List.take_nil, Nat.reduceSub, Int.reduceAdd, Int.reduceSub, Int.reduceMul, Int.reduceMod, Int.reduceDiv, Int.reduceNeg, List.length_cons, List.length_nil, Nat.zero_add, fComp, compL, rg1_3, mInt, mAbs, mGcd, mMax2, mMin2, mMax3, mMin3, mIsqrt, isT, sFor, forL, lt, ix_t0, t0, t1, t2, t3, ix30, tab_t]); try rfl))
    (refine Eq.trans (sSeq_eq (ρ' := ?_) ?_) ?_; rotate_left; ((conv => lhs; simp (config := {decide := true}) only [runD, List.map_cons, List.map_nil, List.replicate_zero, List.replicate_succ, List.cons_append, List.nil_append, List.append_nil, sRet, sRetN, sNx, sSeq, sSet, sSetF, sOwn, sTo, gsCons, gsNil, sPar, sPar3, eChain, sExp, sApp, sPut, sIf, sFrz, frz, frz1, List.foldl_cons, List.foldl_nil, eBin, eUn, eVar, eC, eAnd, eOr, eIf, eLend, flat, eIxO, eOfF, eTup, eAll, fAll, eCall, eIs, eSl, fSl, oNone, oSome, aNil, aCons, bVal, bAnd, bOr, bNot, bYes, blOf, gNot, iSeq, iRg1, iRg2, seq_l, seq_t, tup_l, tup_t, lst_l, lst_t, len_l, len_t, gIx_l, gIx_t, gNm, wipeR, List.getElem?_cons_zero, List.getElem?_cons_succ, List.set_cons_zero, List.set_cons_succ, Option.bind_some, Option.bind_none, Option.map_some, Option.map_none, if_true, if_false, decide_true, decide_false, Bool.not_true, Bool.not_false, Bool.false_eq_true, reduceIte, gAdd_i, gSub_i, gNeg_i, gLt_i, gLe_i, gGt_i, gGe_i, gEq_i, gNe_i, gMul_b, gMod_p, gFdiv_p, Nat.reduceAdd, Nat.reduceMul, Nat.reduceLeDiff, at0, at1, at2, at3, at4, at5, at6, at7, at8, at9, at10, at11, at12, at13, at14, at15, gSl_l, cut_pos, cut_from, cut_to, Int.reduceToNat, List.drop_succ_cons, List.drop_zero, List.take_succ_cons, List.take_zero, List.take_nil, Nat.reduceSub, Int.reduceAdd, Int.reduceSub, Int.reduceMul, Int.reduceMod, Int.reduceDiv, Int.reduceNeg, List.length_cons, List.length_nil, Nat.zero_add, fComp, compL, rg1_3, mInt, mAbs, mGcd, mMax2, mMin2, mMax3, mMin3, mIsqrt, isT, sFor, q]); try rfl))
  · obtain ⟨y7, y8, y9, q⟩ := asked_go (x0 := .va (.list [tb true true s, tb true true t])) (x1 := .va (tb true true c)) (x2 := .va (.int 1)) (x4 := .va (.list ([s, t, ⟨c.a, c.b.smul 0, c.c⟩, ⟨c.a, c.b.smul 2, c.c⟩, ⟨c.a, c.b.smul (-1), c.c⟩, ⟨c.a, c.b.smul 1, c.c⟩].map (tb true true)))) (x5 := .va (.int 1)) (x6 := .va (.list [rw3 true c.a, rw3 true (c.b.smul 1), rw3 true c.c])) (o := o) [s, t, ⟨c.a, c.b.smul 0, c.c⟩, ⟨c.a, c.b.smul 2, c.c⟩, ⟨c.a, c.b.smul (-1), c.c⟩, ⟨c.a, c.b.smul 1, c.c⟩] .un .un .un (by
      intro t' ht'
      simp only [List.mem_cons, List.not_mem_nil, or_false] at ht'
      rcases ht' with rfl | rfl | rfl | rfl | rfl | rfl
      · exact h1.mono (by decide)
      · exact h2.mono (by decide)
      all_goals exact ⟨up ca, fb _ _ (by decide) cb, up cc⟩)
    simp only [List.map_cons, List.map_nil] at q
    have t0 := ft 0 c.b (by decide) cb
    have t1 := ft 1 c.b (by decide) cb
    have t2 := ft 2 c.b (by decide) cb
    have t3 := ft (-1) c.b (by decide) cb
    have lt : mList [tb true true c] = some [rw3 true c.a, rw3 true c.b, rw3 true c.c] := rfl
    refine run_rt (k := 6) (u := b__law_changes_right) ?_
    simp only [List.map_cons, List.map_nil, List.replicate_succ, List.replicate_zero, List.cons_append, List.nil_append]
    unfold b__law_changes_right
    (refine Eq.trans (sSeq_eq (ρ' := ?_) ?_) ?_; rotate_left; ((conv => lhs; simp (config := {decide := true}) only [runD, List.map_cons, List.map_nil, List.replicate_zero, List.replicate_succ, List.cons_append, List.nil_append, List.append_nil, sRet, sRetN, sNx, sSeq, sSet, sSetF, sOwn, sTo, gsCons, gsNil, sPar, sPar3, eChain, sExp, sApp, sPut, sIf, sFrz, frz, frz1, List.foldl_cons, List.foldl_nil, eBin, eUn, eVar, eC, eAnd, eOr, eIf, eLend, flat, eIxO, eOfF, eTup, eAll, fAll, eCall, eIs, eSl, fSl, oNone, oSome, aNil, aCons, bVal, bAnd, bOr, bNot, bYes, blOf, gNot, iSeq, iRg1, iRg2, seq_l, seq_t, tup_l, tup_t, lst_l, lst_t, len_l, len_t, gIx_l, gIx_t, gNm, wipeR, List.getElem?_cons_zero, List.getElem?_cons_succ, List.set_cons_zero, List.set_cons_succ, Option.bind_some, Option.bind_none, Option.map_some, Option.map_none, if_true, if_false, decide_true, decide_false, Bool.not_true, Bool.not_false, Bool.false_eq_true, reduceIte, gAdd_i, gSub_i, gNeg_i, gLt_i, gLe_i, gGt_i, gGe_i, gEq_i, gNe_i, gMul_b, gMod_p, gFdiv_p, Nat.reduceAdd, Nat.reduceMul, Nat.reduceLeDiff, at0, at1, at2, at3, at4, at5, at6, at7, at8, at9, at10, at11, at12, at13, at14, at15, gSl_l, cut_pos, cut_from, cut_to, Int.reduceToNat, List.drop_succ_cons, List.drop_zero, List.take_succ_cons, List.take_zero, List.take_nil, Nat.reduceSub, Int.reduceAdd, Int.reduceSub, Int.reduceMul, Int.reduceMod, Int.reduceDiv, Int.reduceNeg, List.length_cons, List.length_nil, Nat.zero_add, fComp, compL, rg1_3, mInt, mAbs, mGcd, mMax2, mMin2, mMax3, mMin3, mIsqrt, isT, lst_l]); try rfl))
    (refine Eq.trans (sSeq_eq (ρ' := ?_) ?_) ?_; rotate_left; ((conv => lhs; simp (config := {decide := true}) only [runD, List.map_cons, List.map_nil, List.replicate_zero, List.replicate_succ, List.cons_append, List.nil_append, List.append_nil, sRet, sRetN, sNx, sSeq, sSet, sSetF, sOwn, sTo, gsCons, gsNil, sPar, sPar3, eChain, sExp, sApp, sPut, sIf, sFrz, frz, frz1, List.foldl_cons, List.foldl_nil, eBin, eUn, eVar, eC, eAnd, eOr, eIf, eLend, flat, eIxO, eOfF, eTup, eAll, fAll, eCall, eIs, eSl, fSl, oNone, oSome, aNil, aCons, bVal, bAnd, bOr, bNot, bYes, blOf, gNot, iSeq, iRg1, iRg2, seq_l, seq_t, tup_l, tup_t, lst_l, lst_t, len_l, len_t, gIx_l, gIx_t, gNm, wipeR, List.getElem?_cons_zero, List.getElem?_cons_succ, List.set_cons_zero, List.set_cons_succ, Option.bind_some, Option.bind_none, Option.map_some, Option.map_none, if_true, if_false, decide_true, decide_false, Bool.not_true, Bool.not_false, Bool.false_eq_true, reduceIte, gAdd_i, gSub_i, gNeg_i, gLt_i, gLe_i, gGt_i, gGe_i, gEq_i, gNe_i, gMul_b, gMod_p, gFdiv_p, Nat.reduceAdd, Nat.reduceMul, Nat.reduceLeDiff, at0, at1, at2, at3, at4, at5, at6, at7, at8, at9, at10, at11, at12, at13, at14, at15, gSl_l, cut_pos, cut_from, cut_to, Int.reduceToNat, List.drop_succ_cons, List.drop_zero, List.take_succ_cons, List.take_zero, List.take_nil, Nat.reduceSub, Int.reduceAdd, Int.reduceSub, Int.reduceMul, Int.reduceMod, Int.reduceDiv, Int.reduceNeg, List.length_cons, List.length_nil, Nat.zero_add, fComp, compL, rg1_3, mInt, mAbs, mGcd, mMax2, mMin2, mMax3, mMin3, mIsqrt, isT, sFor, forL, lt, ix_t1, t0, t1, t2, t3, ix31, tab_t]); try rfl))
    (refine Eq.trans (sSeq_eq (ρ' := ?_) ?_) ?_; rotate_left; ((conv => lhs; simp (config := {decide := true}) only [runD, List.map_cons, List.map_nil, List.replicate_zero, List.replicate_succ, List.cons_append, List.nil_append, List.append_nil, sRet, sRetN, sNx, sSeq, sSet, sSetF, sOwn, sTo, gsCons, gsNil, sPar, sPar3, eChain, sExp, sApp, sPut, sIf, sFrz, frz, frz1, List.foldl_cons, List.foldl_nil, eBin, eUn, eVar, eC, eAnd, eOr, eIf, eLend, flat, eIxO, eOfF, eTup, eAll, fAll, eCall, eIs, eSl, fSl, oNone, oSome, aNil, aCons, bVal, bAnd, bOr, bNot, bYes, blOf, gNot, iSeq, iRg1, iRg2, seq_l, seq_t, tup_l, tup_t, lst_l, lst_t, len_l, len_t, gIx_l, gIx_t, gNm, wipeR, List.getElem?_cons_zero, List.getElem?_cons_succ, List.set_cons_zero, List.set_cons_succ, Option.bind_some, Option.bind_none, Option.map_some, Option.map_none, if_true, if_false, decide_true, decide_false, Bool.not_true, Bool.not_false, Bool.false_eq_true, reduceIte, gAdd_i, gSub_i, gNeg_i, gLt_i, gLe_i, gGt_i, gGe_i, gEq_i, gNe_i, gMul_b, gMod_p, gFdiv_p, Nat.reduceAdd, Nat.reduceMul, Nat.reduceLeDiff, at0, at1, at2, at3, at4, at5, at6, at7, at8, at9, at10, at11, at12, at13, at14, at15, gSl_l, cut_pos, cut_from, cut_to, Int.reduceToNat, List.drop_succ_cons, List.drop_zero, List.take_succ_cons, List.take_zero, List.take_nil, Nat.reduceSub, Int.reduceAdd, Int.reduceSub, Int.reduceMul, Int.reduceMod, Int.reduceDiv, Int.reduceNeg, List.length_cons, List.length_nil, Nat.zero_add, fComp, compL, rg1_3, mInt, mAbs, mGcd, mMax2, mMin2, mMax3, mMin3, mIsqrt, isT, sFor, q]); try rfl))
  · obtain ⟨y7, y8, y9, q⟩ := asked_go (x0 := .va (.list [tb true true s, tb true true t])) (x1 := .va (tb true true c)) (x2 := .va (.int 2)) (x4 := .va (.list ([s, t, ⟨c.a, c.b, c.c.smul 0⟩, ⟨c.a, c.b, c.c.smul 2⟩, ⟨c.a, c.b, c.c.smul (-1)⟩, ⟨c.a, c.b, c.c.smul 1⟩].map (tb true true)))) (x5 := .va (.int 1)) (x6 := .va (.list [rw3 true c.a, rw3 true c.b, rw3 true (c.c.smul 1)])) (o := o) [s, t, ⟨c.a, c.b, c.c.smul 0⟩, ⟨c.a, c.b, c.c.smul 2⟩, ⟨c.a, c.b, c.c.smul (-1)⟩, ⟨c.a, c.b, c.c.smul 1⟩] .un .un .un (by
      intro t' ht'
      simp only [List.mem_cons, List.not_mem_nil, or_false] at ht'
      rcases ht' with rfl | rfl | rfl | rfl | rfl | rfl
      · exact h1.mono (by decide)
      · exact h2.mono (by decide)
      all_goals exact ⟨up ca, up cb, fb _ _ (by decide) cc⟩)
    simp only [List.map_cons, List.map_nil] at q
    have t0 := ft 0 c.c (by decide) cc
    have t1 := ft 1 c.c (by decide) cc
    have t2 := ft 2 c.c (by decide) cc
    have t3 := ft (-1) c.c (by decide) cc
    have lt : mList [tb true true c] = some [rw3 true c.a, rw3 true c.b, rw3 true c.c] := rfl
    refine run_rt (k := 6) (u := b__law_changes_right) ?_
    simp only [List.map_cons, List.map_nil, List.replicate_succ, List.replicate_zero, List.cons_append, List.nil_append]
    unfold b__law_changes_right
    (refine Eq.trans (sSeq_eq (ρ' := ?_) ?_) ?_; rotate_left; ((conv => lhs; simp (config := {decide := true}) only [runD, List.map_cons, List.map_nil, List.replicate_zero, List.replicate_succ, List.cons_append, List.nil_append, List.append_nil, sRet, sRetN, sNx, sSeq, sSet, sSetF, sOwn, sTo, gsCons, gsNil, sPar, sPar3, eChain, sExp, sApp, sPut, sIf, sFrz, frz, frz1, List.foldl_cons, List.foldl_nil, eBin, eUn, eVar, eC, eAnd, eOr, eIf, eLend, flat, eIxO, eOfF, eTup, eAll, fAll, eCall, eIs, eSl, fSl, oNone, oSome, aNil, aCons, bVal, bAnd, bOr, bNot, bYes, blOf, gNot, iSeq, iRg1, iRg2, seq_l, seq_t, tup_l, tup_t, lst_l, lst_t, len_l, len_t, gIx_l, gIx_t, gNm, wipeR, List.getElem?_cons_zero, List.getElem?_cons_succ, List.set_cons_zero, List.set_cons_succ, Option.bind_some, Option.bind_none, Option.map_some, Option.map_none, if_true, if_false, decide_true, decide_false, Bool.not_true, Bool.not_false, Bool.false_eq_true, reduceIte, gAdd_i, gSub_i, gNeg_i, gLt_i, gLe_i, gGt_i, gGe_i, gEq_i, gNe_i, gMul_b, gMod_p, gFdiv_p, Nat.reduceAdd, Nat.reduceMul, Nat.reduceLeDiff, at0, at1, at2, at3, at4, at5, at6, at7, at8, at9, at10, at11, at12, at13, at14, at15, gSl_l, cut_pos, cut_from, cut_to, Int.reduceToNat, List.drop_succ_cons, List.drop_zero, List.take_succ_cons, List.take_zero, List.take_nil, Nat.reduceSub, Int.reduceAdd, Int.reduceSub, Int.reduceMul, Int.reduceMod, Int.reduceDiv, Int.reduceNeg, List.length_cons, List.length_nil, Nat.zero_add, fComp, compL, rg1_3, mInt, mAbs, mGcd, mMax2, mMin2, mMax3, mMin3, mIsqrt, isT, lst_l]); try rfl))
    (refine Eq.trans (sSeq_eq (ρ' := ?_) ?_) ?_; rotate_left; ((conv => lhs; simp (config := {decide := true}) only [runD, List.map_cons, List.map_nil, List.replicate_zero, List.replicate_succ, List.cons_append, List.nil_append, List.append_nil, sRet, sRetN, sNx, sSeq, sSet, sSetF, sOwn, sTo, gsCons, gsNil, sPar, sPar3, eChain, sExp, sApp, sPut, sIf, sFrz, frz, frz1, List.foldl_cons, List.foldl_nil, eBin, eUn, eVar, eC, eAnd, eOr, eIf, eLend, flat, eIxO, eOfF, eTup, eAll, fAll, eCall, eIs, eSl, fSl, oNone, oSome, aNil, aCons, bVal, bAnd, bOr, bNot, bYes, blOf, gNot, iSeq, iRg1, iRg2, seq_l, seq_t, tup_l, tup_t, lst_l, lst_t, len_l, len_t, gIx_l, gIx_t, gNm, wipeR, List.getElem?_cons_zero, List.getElem?_cons_succ, List.set_cons_zero, List.set_cons_succ, Option.bind_some, Option.bind_none, Option.map_some, Option.map_none, if_true, if_false, decide_true, decide_false, Bool.not_true, Bool.not_false, Bool.false_eq_true, reduceIte, gAdd_i, gSub_i, gNeg_i, gLt_i, gLe_i, gGt_i, gGe_i, gEq_i, gNe_i, gMul_b, gMod_p, gFdiv_p, Nat.reduceAdd, Nat.reduceMul, Nat.reduceLeDiff, at0, at1, at2, at3, at4, at5, at6, at7, at8, at9, at10, at11, at12, at13, at14, at15, gSl_l, cut_pos, cut_from, cut_to, Int.reduceToNat, List.drop_succ_cons, List.drop_zero, List.take_succ_cons, List.take_zero, List.take_nil, Nat.reduceSub, Int.reduceAdd, Int.reduceSub, Int.reduceMul, Int.reduceMod, Int.reduceDiv, Int.reduceNeg, List.length_cons, List.length_nil, Nat.zero_add, fComp, compL, rg1_3, mInt, mAbs, mGcd, mMax2, mMin2, mMax3, mMin3, mIsqrt, isT, sFor, forL, lt, ix_t2, t0, t1, t2, t3, ix32, tab_t]); try rfl))
    (refine Eq.trans (sSeq_eq (ρ' := ?_) ?_) ?_; rotate_left; ((conv => lhs; simp (config := {decide := true}) only [runD, List.map_cons, List.map_nil, List.replicate_zero, List.replicate_succ, List.cons_append, List.nil_append, List.append_nil, sRet, sRetN, sNx, sSeq, sSet, sSetF, sOwn, sTo, gsCons, gsNil, sPar, sPar3, eChain, sExp, sApp, sPut, sIf, sFrz, frz, frz1, List.foldl_cons, List.foldl_nil, eBin, eUn, eVar, eC, eAnd, eOr, eIf, eLend, flat, eIxO, eOfF, eTup, eAll, fAll, eCall, eIs, eSl, fSl, oNone, oSome, aNil, aCons, bVal, bAnd, bOr, bNot, bYes, blOf, gNot, iSeq, iRg1, iRg2, seq_l, seq_t, tup_l, tup_t, lst_l, lst_t, len_l, len_t, gIx_l, gIx_t, gNm, wipeR, List.getElem?_cons_zero, List.getElem?_cons_succ, List.set_cons_zero, List.set_cons_succ, Option.bind_some, Option.bind_none, Option.map_some, Option.map_none, if_true, if_false, decide_true, decide_false, Bool.not_true, Bool.not_false, Bool.false_eq_true, reduceIte, gAdd_i, gSub_i, gNeg_i, gLt_i, gLe_i, gGt_i, gGe_i, gEq_i, gNe_i, gMul_b, gMod_p, gFdiv_p, Nat.reduceAdd, Nat.reduceMul, Nat.reduceLeDiff, at0, at1, at2, at3, at4, at5, at6, at7, at8, at9, at10, at11, at12, at13, at14, at15, gSl_l, cut_pos, cut_from, cut_to, Int.reduceToNat, List.drop_succ_cons, List.drop_zero, List.take_succ_cons, List.take_zero, List.take_nil, Nat.reduceSub, Int.reduceAdd, Int.reduceSub, Int.reduceMul, Int.reduceMod, Int.reduceDiv, Int.reduceNeg, List.length_cons, List.length_nil, Nat.zero_add, fComp, compL, rg1_3, mInt, mAbs, mGcd, mMax2, mMin2, mMax3, mMin3, mIsqrt, isT, sFor, q]); try rfl))
end
end W

set_option linter.all false
set_option maxRecDepth 100000
set_option maxHeartbeats 4000000
set_option exponentiation.threshold 20000
namespace W
open PySem DL L2
noncomputable abbrev stI : ES := (sApp 3 (eTup (aCons (eBin gIx (eVar 5) (eBin gMul (eC (.int 3)) (eVar 6))) (aCons (eBin gMod (eAll mInt (aCons (eBin gAdd (eBin gAdd (eBin gIx (eVar 5) (eBin gMul (eC (.int 3)) (eVar 6))) (eC (.int 1))) (eBin gIx (eVar 5) (eBin gAdd (eBin gMul (eC (.int 3)) (eVar 6)) (eC (.int 1))))) aNil)) (eC (.int 3))) (aCons (eBin gSub (eBin gIx (eVar 5) (eBin gAdd (eBin gMul (eC (.int 3)) (eVar 6)) (eC (.int 2)))) (eC (.int 9))) aNil)))))
noncomputable abbrev stB : ES := (sSeq (sSet 5 (eCall m__law_digits (aCons (eCall m__law_cell (aCons (eVar 0) (aCons (eBin gAdd (eVar 1) (eVar 4)) aNil))) (aCons (eOfF (aCons (eC (.int 3)) (aCons (eC (.int 2)) (aCons (eC (.int 19)) (aCons (eC (.int 3)) (aCons (eC (.int 2)) (aCons (eC (.int 19)) (aCons (eC (.int 3)) (aCons (eC (.int 2)) (aCons (eC (.int 19)) (aCons (eC (.int 3)) (aCons (eC (.int 2)) (aCons (eC (.int 19)) aNil))))))))))))) aNil)))) (sFor (iRg1 (eC (.int 4))) (gNm 6) stI))
theorem draw_go (ns : List Int) (x2 : SC) : ∀ (m i : Nat) (L : List V3) (x4 x5 x6 : SC), i + m = 3 → L.length = 4 * i → (∀ s ∈ L, OkS s) → ∃ (L' : List V3) (x4' x5' x6' : SC), L'.length = 4 * (i + m) ∧ (∀ s ∈ L', OkS s) ∧
    forL (gNm 4) stB (rng i m) [.va (.list (ns.map .int)), .va (.int 14), x2, .ow (L.map (rw3 true)), x4, x5, x6] = some (.nx [.va (.list (ns.map .int)), .va (.int 14), x2, .ow (L'.map (rw3 true)), x4', x5', x6'])
  | 0, i, L, x4, x5, x6, _, hl, hL => ⟨L, x4, x5, x6, hl, hL, rfl⟩
  | m + 1, i, L, x4, x5, x6, hi, hl, hL => by
    obtain ⟨c, e1⟩ := w_cell ns (14 + (i : Int)) (by omega) (by omega)
    obtain ⟨d, hd, e2⟩ := w_digits c [3, 2, 19, 3, 2, 19, 3, 2, 19, 3, 2, 19] (by decide) (by decide)
    simp only [List.map_cons, List.map_nil] at e2
    obtain ⟨L1, y6, l1, o1, q1⟩ := four (x0 := .va (.list (ns.map .int))) (x1 := .va (.int 14)) (x2 := x2) (x4 := .va (.int (i : Int))) (acc := L.map (rw3 true)) d hd (by rw [List.length_map]; omega)
    obtain ⟨L', x4', x5', x6', l2, o2, q2⟩ := draw_go ns x2 m (i + 1) (L ++ L1) (.va (.int (i : Int))) (.va (.list (d.map .int))) y6 (by omega) (by rw [List.length_append]; omega) (fun s hs => by
      rcases List.mem_append.mp hs with hs | hs
      · exact hL s hs
      · exact o1 s hs)
    refine ⟨L', x4', x5', x6', by rw [l2]; omega, o2, ?_⟩
    rw [rng_succ, show (i : Int) + 1 = ((i + 1 : Nat) : Int) by omega]
    rw [List.map_append] at q2
    have body : stB [.va (.list (ns.map .int)), .va (.int 14), x2, .ow (L.map (rw3 true)), .va (.int (i : Int)), x5, x6] = some (.nx [.va (.list (ns.map .int)), .va (.int 14), x2, .ow (L.map (rw3 true) ++ L1.map (rw3 true)), .va (.int (i : Int)), .va (.list (d.map .int)), y6]) := by
      show sSeq _ _ _ = _
      (refine Eq.trans (sSeq_eq (ρ' := ?_) ?_) ?_; rotate_left; ((conv => lhs; simp (config := {decide := true}) only [runD, List.map_cons, List.map_nil, List.replicate_zero, List.replicate_succ, List.cons_append, List.nil_append, List.append_nil, sRet, sRetN, sNx, sSeq, sSet, sSetF, sOwn, sTo, gsCons, gsNil, sPar, sPar3, eChain, sExp, sApp, sPut, sIf, sFrz, frz, frz1, List.foldl_cons, List.foldl_nil, eBin, eUn, eVar, eC, eAnd, eOr, eIf, eLend, flat, eIxO, eOfF, eTup, eAll, fAll, eCall, eIs, eSl, fSl, oNone, oSome, aNil, aCons, bVal, bAnd, bOr, bNot, bYes, blOf, gNot, iSeq, iRg1, iRg2, seq_l, seq_t, tup_l, tup_t, lst_l, lst_t, len_l, len_t, gIx_l, gIx_t, gNm, wipeR, List.getElem?_cons_zero, List.getElem?_cons_succ, List.set_cons_zero, List.set_cons_succ, Option.bind_some, Option.bind_none, Option.map_some, Option.map_none, if_true, if_false, decide_true, decide_false, Bool.not_true, Bool.not_false, Bool.false_eq_true, reduceIte, gAdd_i, gSub_i, gNeg_i, gLt_i, gLe_i, gGt_i, gGe_i, gEq_i, gNe_i, gMul_b, gMod_p, gFdiv_p, Nat.reduceAdd, Nat.reduceMul, Nat.reduceLeDiff, at0, at1, at2, at3, at4, at5, at6, at7, at8, at9, at10, at11, at12, at13, at14, at15, gSl_l, cut_pos, cut_from, cut_to, Int.reduceToNat, List.drop_succ_cons, List.drop_zero, List.take_succ_cons, List.take_zero, List.take_nil, Nat.reduceSub, Int.reduceAdd, Int.reduceSub, Int.reduceMul, Int.reduceMod, Int.reduceDiv, Int.reduceNeg, List.length_cons, List.length_nil, Nat.zero_add, fComp, compL, rg1_3, mInt, mAbs, mGcd, mMax2, mMin2, mMax3, mMin3, mIsqrt, isT, e1, e2]); try rfl))
      show (iRg1 (eC (.int 4)) _).bind _ = _
      rw [show iRg1 (eC (.int 4)) _ = _ from rg1_4]
      exact q1 x6
    show (stB [.va (.list (ns.map .int)), .va (.int 14), x2, .ow (L.map (rw3 true)), .va (.int (i : Int)), x5, x6]).bind _ = _
    rw [body]
    exact q2
theorem w_steps (ns : List Int) {q : Int} (h : 0 ≤ q ∧ q < 13) : ∃ L : List V3, L.length ≤ 12 ∧ (∀ s ∈ L, OkS s) ∧ m__law_steps [.list (ns.map .int), .int 14, .int q] = some (.list (L.map (rw3 true))) := by
  obtain ⟨L, x4, x5, x6, hl, hL, e⟩ := draw_go ns (.va (.int q)) 3 0 [] .un .un .un rfl rfl (fun s hs => nomatch hs)
  refine ⟨L.take q.toNat, by rw [List.length_take]; omega, fun s hs => hL s (List.mem_of_mem_take hs), ?_⟩
  have r3 : rg1 (.int 3) = some (rng 0 3) := rg1_nat 3 (by decide)
  have e' : forL (gNm 4) stB (rng 0 3) [.va (.list (ns.map .int)), .va (.int 14), .va (.int q), .ow [], .un, .un, .un] = _ := e
  have sl : gSl (.list (L.map (rw3 true))) (some 0) (some q) = some (.list ((L.take q.toNat).map (rw3 true))) := by
    rw [gSl_l, cut_pos (by decide) h.1]
    simp
  refine run_rt (k := 4) (u := b__law_steps) ?_
  simp only [List.map_cons, List.map_nil, List.replicate_succ, List.replicate_zero, List.cons_append, List.nil_append]
  unfold b__law_steps
  (refine Eq.trans (sSeq_eq (ρ' := ?_) ?_) ?_; rotate_left; ((conv => lhs; simp (config := {decide := true}) only [runD, List.map_cons, List.map_nil, List.replicate_zero, List.replicate_succ, List.cons_append, List.nil_append, List.append_nil, sRet, sRetN, sNx, sSeq, sSet, sSetF, sOwn, sTo, gsCons, gsNil, sPar, sPar3, eChain, sExp, sApp, sPut, sIf, sFrz, frz, frz1, List.foldl_cons, List.foldl_nil, eBin, eUn, eVar, eC, eAnd, eOr, eIf, eLend, flat, eIxO, eOfF, eTup, eAll, fAll, eCall, eIs, eSl, fSl, oNone, oSome, aNil, aCons, bVal, bAnd, bOr, bNot, bYes, blOf, gNot, iSeq, iRg1, iRg2, seq_l, seq_t, tup_l, tup_t, lst_l, lst_t, len_l, len_t, gIx_l, gIx_t, gNm, wipeR, List.getElem?_cons_zero, List.getElem?_cons_succ, List.set_cons_zero, List.set_cons_succ, Option.bind_some, Option.bind_none, Option.map_some, Option.map_none, if_true, if_false, decide_true, decide_false, Bool.not_true, Bool.not_false, Bool.false_eq_true, reduceIte, gAdd_i, gSub_i, gNeg_i, gLt_i, gLe_i, gGt_i, gGe_i, gEq_i, gNe_i, gMul_b, gMod_p, gFdiv_p, Nat.reduceAdd, Nat.reduceMul, Nat.reduceLeDiff, at0, at1, at2, at3, at4, at5, at6, at7, at8, at9, at10, at11, at12, at13, at14, at15, gSl_l, cut_pos, cut_from, cut_to, Int.reduceToNat, List.drop_succ_cons, List.drop_zero, List.take_succ_cons, List.take_zero, List.take_nil, Nat.reduceSub, Int.reduceAdd, Int.reduceSub, Int.reduceMul, Int.reduceMod, Int.reduceDiv, Int.reduceNeg, List.length_cons, List.length_nil, Nat.zero_add, fComp, compL, rg1_3, mInt, mAbs, mGcd, mMax2, mMin2, mMax3, mMin3, mIsqrt, isT, lst_l]); try rfl))
  refine Eq.trans (sSeq_eq (ρ' := [.va (.list (ns.map .int)), .va (.int 14), .va (.int q), .ow (L.map (rw3 true)), x4, x5, x6]) ?_) ?_
  · show (iRg1 (eC (.int 3)) _).bind _ = _
    rw [show iRg1 (eC (.int 3)) _ = _ from r3]
    exact e'
  · simp only [sFrz, frz, List.foldl_cons, List.foldl_nil, frz1, List.getElem?_cons_succ, List.getElem?_cons_zero, List.set_cons_succ, List.set_cons_zero, sRet, eSl, eVar, oSome, eC, Option.bind_some, Option.map_some, sl]
/-! a small change -/
theorem det_sg (u v w : V3) (a b c : Int) : (⟨u.smul a, v.smul b, w.smul c⟩ : M3).det = a * b * c * (⟨u, v, w⟩ : M3).det := by
  simp only [M3.det, V3.smul, V3.dot, V3.cross]
  grind
theorem det_p1 (u v w : V3) : (⟨u, w, v⟩ : M3).det = -(⟨u, v, w⟩ : M3).det := by
  simp only [M3.det, V3.dot, V3.cross]
  grind
theorem det_p2 (u v w : V3) : (⟨v, u, w⟩ : M3).det = -(⟨u, v, w⟩ : M3).det := by
  simp only [M3.det, V3.dot, V3.cross]
  grind
theorem sgn_pm {a b c d : Int} (ha : a = 1 ∨ a = -1) (hb : b = 1 ∨ b = -1) (hc : c = 1 ∨ c = -1) (hd : d = 1 ∨ d = -1) : a * b * c * d = 1 ∨ a * b * c * d = -1 := by
  rcases ha with rfl | rfl <;> rcases hb with rfl | rfl <;> rcases hc with rfl | rfl <;> rcases hd with rfl | rfl <;> decide
theorem bm_st1 {s : V3} (h : s.z.natAbs < 2) : BM 1 (stM s) := by
  have k : ∀ a b : Int, (stE s a b).natAbs < 2 ^ 1 := fun a b => by
    unfold stE
    split
    · exact h
    · split <;> decide
  exact ⟨⟨k _ _, k _ _, k _ _⟩, ⟨k _ _, k _ _, k _ _⟩, ⟨k _ _, k _ _, k _ _⟩⟩
noncomputable abbrev smB : ES := (sSeq (sSet 4 (eBin gIx (eVar 1) (eBin gAdd (eC (.int 1)) (eBin gMul (eC (.int 3)) (eVar 3))))) (sSeq (sSet 5 (eTup (aCons (eVar 4) (aCons (eBin gMod (eAll mInt (aCons (eBin gAdd (eBin gAdd (eVar 4) (eC (.int 1))) (eBin gIx (eVar 1) (eBin gAdd (eC (.int 2)) (eBin gMul (eC (.int 3)) (eVar 3))))) aNil)) (eC (.int 3))) (aCons (eBin gSub (eC (.int 1)) (eBin gMul (eC (.int 2)) (eBin gIx (eVar 1) (eBin gAdd (eC (.int 3)) (eBin gMul (eC (.int 3)) (eVar 3)))))) aNil))))) (sSet 2 (eCall m__law_product (aCons (eVar 2) (aCons (eCall m__law_step_table (aCons (eVar 5) aNil)) aNil))))))
theorem w_small_change (c : Int) : ∃ T : M3, BM 8 T ∧ (T.det = 1 ∨ T.det = -1) ∧ m__law_small_change [.int c] = some (tb true true T) := by
  obtain ⟨ds, q1, q2⟩ := w_digits c [3, 3, 2, 2, 3, 2, 2, 6, 2, 2, 2] (by decide) (by decide)
  obtain ⟨d0, r, rfl, a0, b0, q1⟩ := inD_cons q1
  obtain ⟨d1, r, rfl, a1, b1, q1⟩ := inD_cons q1
  obtain ⟨d2, r, rfl, a2, b2, q1⟩ := inD_cons q1
  obtain ⟨d3, r, rfl, a3, b3, q1⟩ := inD_cons q1
  obtain ⟨d4, r, rfl, a4, b4, q1⟩ := inD_cons q1
  obtain ⟨d5, r, rfl, a5, b5, q1⟩ := inD_cons q1
  obtain ⟨d6, r, rfl, a6, b6, q1⟩ := inD_cons q1
  obtain ⟨d7, r, rfl, a7, b7, q1⟩ := inD_cons q1
  obtain ⟨d8, r, rfl, a8, b8, q1⟩ := inD_cons q1
  obtain ⟨d9, r, rfl, a9, b9, q1⟩ := inD_cons q1
  obtain ⟨d10, r, rfl, a10, b10, q1⟩ := inD_cons q1
  obtain rfl := inD_nil q1
  simp only [List.map_cons, List.map_nil] at q2
  have ok : ∀ a b c : Int, 0 ≤ a → a < 3 → 0 ≤ b → b < 2 → 0 ≤ c → c < 2 → OkS ⟨a, (a + 1 + b) % 3, 1 - 2 * c⟩ ∧ (1 - 2 * c).natAbs < 2 := fun a b c p1 p2 p3 p4 p5 p6 => by
    refine ⟨⟨⟨p1, p2⟩, ⟨?_, ?_⟩, ?_, ?_⟩, by omega⟩
    · show 0 ≤ (a + 1 + b) % 3; omega
    · show (a + 1 + b) % 3 < 3; omega
    · show a ≠ (a + 1 + b) % 3; omega
    · show (1 - 2 * c).natAbs < 16; omega
  obtain ⟨o1, z1⟩ := ok d1 d2 d3 a1 b1 a2 b2 a3 b3
  obtain ⟨o2, z2⟩ := ok d4 d5 d6 a4 b4 a5 b5 a6 b6
  have s1 := w_step_table (k := true) o1
  have s2 := w_step_table (k := true) o2
  haveI m1 := bm_st1 (s := ⟨d1, (d1 + 1 + d2) % 3, 1 - 2 * d3⟩) z1
  haveI m2 := bm_st1 (s := ⟨d4, (d4 + 1 + d5) % 3, 1 - 2 * d6⟩) z2
  have t1 := det_st o1
  have t2 := det_st o2
  haveI : Bd 1 d3 := ⟨by omega⟩
  haveI : Bd 1 d6 := ⟨by omega⟩
  have p1 := w_product (j := true) (k := true) (j' := true) (k' := true) (s := M3.one) (t := stM ⟨d1, (d1 + 1 + d2) % 3, 1 - 2 * d3⟩) (n := 1) (m := 1) (by decide)
  have p2 := w_product (j := true) (k := true) (j' := true) (k' := true) (s := M3.one.mul (stM ⟨d1, (d1 + 1 + d2) % 3, 1 - 2 * d3⟩)) (t := stM ⟨d4, (d4 + 1 + d5) % 3, 1 - 2 * d6⟩) (n := 4) (m := 1) (by decide)
  have key : ∃ (T : M3) (y3 y4 y5 : SC), BM 7 T ∧ T.det = 1 ∧ ∀ (x0 x1 x6 : SC), x1 = .va (.list [.int d0, .int d1, .int d2, .int d3, .int d4, .int d5, .int d6, .int d7, .int d8, .int d9, .int d10]) → sFor (iRg1 (eBin gIx (eVar 1) (eC (.int 0)))) (gNm 3) smB [x0, x1, .va (tb true true M3.one), .un, .un, .un, x6] = some (.nx [x0, x1, .va (tb true true T), y3, y4, y5, x6]) := by
    have h0 : d0 = 0 ∨ d0 = 1 ∨ d0 = 2 := by omega
    rcases h0 with rfl | rfl | rfl
    · refine ⟨M3.one, .un, .un, .un, bm_one.mono (by decide), M3.det_one, fun x0 x1 x6 hx => ?_⟩
      subst hx
      have r : rg1 (.int 0) = some [] := rg1_nat 0 (by decide)
      simp only [sFor, runD, List.map_cons, List.map_nil, List.replicate_zero, List.replicate_succ, List.cons_append, List.nil_append, List.append_nil, sRet, sRetN, sNx, sSeq, sSet, sSetF, sOwn, sTo, gsCons, gsNil, sPar, sPar3, eChain, sExp, sApp, sPut, sIf, sFrz, frz, frz1, List.foldl_cons, List.foldl_nil, eBin, eUn, eVar, eC, eAnd, eOr, eIf, eLend, flat, eIxO, eOfF, eTup, eAll, fAll, eCall, eIs, eSl, fSl, oNone, oSome, aNil, aCons, bVal, bAnd, bOr, bNot, bYes, blOf, gNot, iSeq, iRg1, iRg2, seq_l, seq_t, tup_l, tup_t, lst_l, lst_t, len_l, len_t, gIx_l, gIx_t, gNm, wipeR, List.getElem?_cons_zero, List.getElem?_cons_succ, List.set_cons_zero, List.set_cons_succ, Option.bind_some, Option.bind_none, Option.map_some, Option.map_none, if_true, if_false, decide_true, decide_false, Bool.not_true, Bool.not_false, Bool.false_eq_true, reduceIte, gAdd_i, gSub_i, gNeg_i, gLt_i, gLe_i, gGt_i, gGe_i, gEq_i, gNe_i, gMul_b, gMod_p, gFdiv_p, Nat.reduceAdd, Nat.reduceMul, Nat.reduceLeDiff, at0, at1, at2, at3, at4, at5, at6, at7, at8, at9, at10, at11, at12, at13, at14, at15, gSl_l, cut_pos, cut_from, cut_to, Int.reduceToNat, List.drop_succ_cons, List.drop_zero, List.take_succ_cons, List.take_zero, List.take_nil, Nat.reduceSub, Int.reduceAdd, Int.reduceSub, Int.reduceMul, Int.reduceMod, Int.reduceDiv, Int.reduceNeg, List.length_cons, List.length_nil, Nat.zero_add, fComp, compL, rg1_3, mInt, mAbs, mGcd, mMax2, mMin2, mMax3, mMin3, mIsqrt, isT, r, forL]
    · refine ⟨_, .va (.int 0), .va (.int d1), .va (rw3 true ⟨d1, (d1 + 1 + d2) % 3, 1 - 2 * d3⟩), BM.mono (bm_mul (s := M3.one) (t := stM ⟨d1, (d1 + 1 + d2) % 3, 1 - 2 * d3⟩)) (by decide), by rw [M3.det_mul, M3.det_one, t1]; rfl, fun x0 x1 x6 hx => ?_⟩
      subst hx
      have r : rg1 (.int 1) = some [.int 0] := rg1_nat 1 (by decide)
      simp (config := {decide := true}) only [sFor, runD, List.map_cons, List.map_nil, List.replicate_zero, List.replicate_succ, List.cons_append, List.nil_append, List.append_nil, sRet, sRetN, sNx, sSeq, sSet, sSetF, sOwn, sTo, gsCons, gsNil, sPar, sPar3, eChain, sExp, sApp, sPut, sIf, sFrz, frz, frz1, List.foldl_cons, List.foldl_nil, eBin, eUn, eVar, eC, eAnd, eOr, eIf, eLend, flat, eIxO, eOfF, eTup, eAll, fAll, eCall, eIs, eSl, fSl, oNone, oSome, aNil, aCons, bVal, bAnd, bOr, bNot, bYes, blOf, gNot, iSeq, iRg1, iRg2, seq_l, seq_t, tup_l, tup_t, lst_l, lst_t, len_l, len_t, gIx_l, gIx_t, gNm, wipeR, List.getElem?_cons_zero, List.getElem?_cons_succ, List.set_cons_zero, List.set_cons_succ, Option.bind_some, Option.bind_none, Option.map_some, Option.map_none, if_true, if_false, decide_true, decide_false, Bool.not_true, Bool.not_false, Bool.false_eq_true, reduceIte, gAdd_i, gSub_i, gNeg_i, gLt_i, gLe_i, gGt_i, gGe_i, gEq_i, gNe_i, gMul_b, gMod_p, gFdiv_p, Nat.reduceAdd, Nat.reduceMul, Nat.reduceLeDiff, at0, at1, at2, at3, at4, at5, at6, at7, at8, at9, at10, at11, at12, at13, at14, at15, gSl_l, cut_pos, cut_from, cut_to, Int.reduceToNat, List.drop_succ_cons, List.drop_zero, List.take_succ_cons, List.take_zero, List.take_nil, Nat.reduceSub, Int.reduceAdd, Int.reduceSub, Int.reduceMul, Int.reduceMod, Int.reduceDiv, Int.reduceNeg, List.length_cons, List.length_nil, Nat.zero_add, fComp, compL, rg1_3, mInt, mAbs, mGcd, mMax2, mMin2, mMax3, mMin3, mIsqrt, isT, r, forL, row_t, s1, p1]
    · refine ⟨_, .va (.int 1), .va (.int d4), .va (rw3 true ⟨d4, (d4 + 1 + d5) % 3, 1 - 2 * d6⟩), BM.mono (bm_mul (s := M3.one.mul (stM ⟨d1, (d1 + 1 + d2) % 3, 1 - 2 * d3⟩)) (t := stM ⟨d4, (d4 + 1 + d5) % 3, 1 - 2 * d6⟩)) (by decide), by rw [M3.det_mul, M3.det_mul, M3.det_one, t1, t2]; rfl, fun x0 x1 x6 hx => ?_⟩
      subst hx
      have r : rg1 (.int 2) = some [.int 0, .int 1] := rg1_nat 2 (by decide)
      simp (config := {decide := true}) only [sFor, runD, List.map_cons, List.map_nil, List.replicate_zero, List.replicate_succ, List.cons_append, List.nil_append, List.append_nil, sRet, sRetN, sNx, sSeq, sSet, sSetF, sOwn, sTo, gsCons, gsNil, sPar, sPar3, eChain, sExp, sApp, sPut, sIf, sFrz, frz, frz1, List.foldl_cons, List.foldl_nil, eBin, eUn, eVar, eC, eAnd, eOr, eIf, eLend, flat, eIxO, eOfF, eTup, eAll, fAll, eCall, eIs, eSl, fSl, oNone, oSome, aNil, aCons, bVal, bAnd, bOr, bNot, bYes, blOf, gNot, iSeq, iRg1, iRg2, seq_l, seq_t, tup_l, tup_t, lst_l, lst_t, len_l, len_t, gIx_l, gIx_t, gNm, wipeR, List.getElem?_cons_zero, List.getElem?_cons_succ, List.set_cons_zero, List.set_cons_succ, Option.bind_some, Option.bind_none, Option.map_some, Option.map_none, if_true, if_false, decide_true, decide_false, Bool.not_true, Bool.not_false, Bool.false_eq_true, reduceIte, gAdd_i, gSub_i, gNeg_i, gLt_i, gLe_i, gGt_i, gGe_i, gEq_i, gNe_i, gMul_b, gMod_p, gFdiv_p, Nat.reduceAdd, Nat.reduceMul, Nat.reduceLeDiff, at0, at1, at2, at3, at4, at5, at6, at7, at8, at9, at10, at11, at12, at13, at14, at15, gSl_l, cut_pos, cut_from, cut_to, Int.reduceToNat, List.drop_succ_cons, List.drop_zero, List.take_succ_cons, List.take_zero, List.take_nil, Nat.reduceSub, Int.reduceAdd, Int.reduceSub, Int.reduceMul, Int.reduceMod, Int.reduceDiv, Int.reduceNeg, List.length_cons, List.length_nil, Nat.zero_add, fComp, compL, rg1_3, mInt, mAbs, mGcd, mMax2, mMin2, mMax3, mMin3, mIsqrt, isT, r, forL, row_t, s1, s2, p1, p2]
  obtain ⟨T, y3, y4, y5, hT, hd, hf⟩ := key
  have hf' := hf (.va (.int c)) _ .un rfl
  have sg : ∀ {d : Int}, 0 ≤ d → d < 2 → Bd 1 (1 - 2 * d) ∧ (1 - 2 * d = 1 ∨ 1 - 2 * d = -1) := fun h1 h2 => ⟨⟨by omega⟩, by omega⟩
  obtain ⟨g8, k8⟩ := sg a8 b8
  obtain ⟨g9, k9⟩ := sg a9 b9
  obtain ⟨g10, k10⟩ := sg a10 b10
  haveI : Bd 1 d8 := ⟨by omega⟩
  haveI : Bd 1 d9 := ⟨by omega⟩
  haveI : Bd 1 d10 := ⟨by omega⟩
  have wt : ∀ (s : Int) (v : V3), Bd 1 s → BV 7 v → m__law_times [.int s, rw3 true v] = some (rw3 true (v.smul s)) := fun s v hs hv => w_times (n := 1) (m := 7) (by decide)
  have bt : ∀ {s : Int} {v : V3}, Bd 1 s → BV 7 v → BV 8 (v.smul s) := fun hs hv => BV.mono bv_smul (by decide)
  have ea := wt
  have d1' : (⟨T.a, T.b, T.c⟩ : M3).det = 1 := hd
  have fin : ∀ (u v w : V3), BV 7 u → BV 7 v → BV 7 w → ((⟨u, v, w⟩ : M3).det = 1 ∨ (⟨u, v, w⟩ : M3).det = -1) → BM 8 ⟨u.smul (1 - 2 * d8), v.smul (1 - 2 * d9), w.smul (1 - 2 * d10)⟩ ∧ ((⟨u.smul (1 - 2 * d8), v.smul (1 - 2 * d9), w.smul (1 - 2 * d10)⟩ : M3).det = 1 ∨ (⟨u.smul (1 - 2 * d8), v.smul (1 - 2 * d9), w.smul (1 - 2 * d10)⟩ : M3).det = -1) := fun u v w hu hv hw h => ⟨⟨bt g8 hu, bt g9 hv, bt g10 hw⟩, by rw [det_sg]; exact sgn_pm k8 k9 k10 h⟩
  have run : ∀ (P : PyData) (u v w : V3), BV 7 u → BV 7 v → BV 7 w → (∀ ρ : Rho, (eBin gIx (eOfF (aCons (eTup (aCons (eC (.int 0)) (aCons (eC (.int 1)) (aCons (eC (.int 2)) aNil)))) (aCons (eTup (aCons (eC (.int 0)) (aCons (eC (.int 2)) (aCons (eC (.int 1)) aNil)))) (aCons (eTup (aCons (eC (.int 1)) (aCons (eC (.int 0)) (aCons (eC (.int 2)) aNil)))) (aCons (eTup (aCons (eC (.int 1)) (aCons (eC (.int 2)) (aCons (eC (.int 0)) aNil)))) (aCons (eTup (aCons (eC (.int 2)) (aCons (eC (.int 0)) (aCons (eC (.int 1)) aNil)))) (aCons (eTup (aCons (eC (.int 2)) (aCons (eC (.int 1)) (aCons (eC (.int 0)) aNil)))) aNil))))))) (fun _ => some (.int d7))) ρ = some P) →
      (gIx P (.int 0)).bind (gIx (tb true true T)) = some (rw3 true u) → (gIx P (.int 1)).bind (gIx (tb true true T)) = some (rw3 true v) → (gIx P (.int 2)).bind (gIx (tb true true T)) = some (rw3 true w) →
      m__law_small_change [.int c] = some (tb true true ⟨u.smul (1 - 2 * d8), v.smul (1 - 2 * d9), w.smul (1 - 2 * d10)⟩) := fun P u v w hu hv hw hP f0 f1 f2 => by
    have w8 := wt _ u g8 hu
    have w9 := wt _ v g9 hv
    have w10 := wt _ w g10 hw
    obtain ⟨i0, j0, f0⟩ := bind_some f0
    obtain ⟨i1, j1, f1⟩ := bind_some f1
    obtain ⟨i2, j2, f2⟩ := bind_some f2
    have hP' := hP []
    simp only [eBin, eOfF, aCons, aNil, eTup, eC, Option.bind_some, Option.map_some] at hP'
    refine run_rt (k := 6) (u := b__law_small_change) ?_
    simp only [List.map_cons, List.map_nil, List.replicate_succ, List.replicate_zero, List.cons_append, List.nil_append]
    unfold b__law_small_change
    (refine Eq.trans (sSeq_eq (ρ' := ?_) ?_) ?_; rotate_left; ((conv => lhs; simp (config := {decide := true}) only [runD, List.map_cons, List.map_nil, List.replicate_zero, List.replicate_succ, List.cons_append, List.nil_append, List.append_nil, sRet, sRetN, sNx, sSeq, sSet, sSetF, sOwn, sTo, gsCons, gsNil, sPar, sPar3, eChain, sExp, sApp, sPut, sIf, sFrz, frz, frz1, List.foldl_cons, List.foldl_nil, eBin, eUn, eVar, eC, eAnd, eOr, eIf, eLend, flat, eIxO, eOfF, eTup, eAll, fAll, eCall, eIs, eSl, fSl, oNone, oSome, aNil, aCons, bVal, bAnd, bOr, bNot, bYes, blOf, gNot, iSeq, iRg1, iRg2, seq_l, seq_t, tup_l, tup_t, lst_l, lst_t, len_l, len_t, gIx_l, gIx_t, gNm, wipeR, List.getElem?_cons_zero, List.getElem?_cons_succ, List.set_cons_zero, List.set_cons_succ, Option.bind_some, Option.bind_none, Option.map_some, Option.map_none, if_true, if_false, decide_true, decide_false, Bool.not_true, Bool.not_false, Bool.false_eq_true, reduceIte, gAdd_i, gSub_i, gNeg_i, gLt_i, gLe_i, gGt_i, gGe_i, gEq_i, gNe_i, gMul_b, gMod_p, gFdiv_p, Nat.reduceAdd, Nat.reduceMul, Nat.reduceLeDiff, at0, at1, at2, at3, at4, at5, at6, at7, at8, at9, at10, at11, at12, at13, at14, at15, gSl_l, cut_pos, cut_from, cut_to, Int.reduceToNat, List.drop_succ_cons, List.drop_zero, List.take_succ_cons, List.take_zero, List.take_nil, Nat.reduceSub, Int.reduceAdd, Int.reduceSub, Int.reduceMul, Int.reduceMod, Int.reduceDiv, Int.reduceNeg, List.length_cons, List.length_nil, Nat.zero_add, fComp, compL, rg1_3, mInt, mAbs, mGcd, mMax2, mMin2, mMax3, mMin3, mIsqrt, isT, q2]); try rfl))
    (refine Eq.trans (sSeq_eq (ρ' := ?_) ?_) ?_; rotate_left; ((conv => lhs; simp (config := {decide := true}) only [runD, List.map_cons, List.map_nil, List.replicate_zero, List.replicate_succ, List.cons_append, List.nil_append, List.append_nil, sRet, sRetN, sNx, sSeq, sSet, sSetF, sOwn, sTo, gsCons, gsNil, sPar, sPar3, eChain, sExp, sApp, sPut, sIf, sFrz, frz, frz1, List.foldl_cons, List.foldl_nil, eBin, eUn, eVar, eC, eAnd, eOr, eIf, eLend, flat, eIxO, eOfF, eTup, eAll, fAll, eCall, eIs, eSl, fSl, oNone, oSome, aNil, aCons, bVal, bAnd, bOr, bNot, bYes, blOf, gNot, iSeq, iRg1, iRg2, seq_l, seq_t, tup_l, tup_t, lst_l, lst_t, len_l, len_t, gIx_l, gIx_t, gNm, wipeR, List.getElem?_cons_zero, List.getElem?_cons_succ, List.set_cons_zero, List.set_cons_succ, Option.bind_some, Option.bind_none, Option.map_some, Option.map_none, if_true, if_false, decide_true, decide_false, Bool.not_true, Bool.not_false, Bool.false_eq_true, reduceIte, gAdd_i, gSub_i, gNeg_i, gLt_i, gLe_i, gGt_i, gGe_i, gEq_i, gNe_i, gMul_b, gMod_p, gFdiv_p, Nat.reduceAdd, Nat.reduceMul, Nat.reduceLeDiff, at0, at1, at2, at3, at4, at5, at6, at7, at8, at9, at10, at11, at12, at13, at14, at15, gSl_l, cut_pos, cut_from, cut_to, Int.reduceToNat, List.drop_succ_cons, List.drop_zero, List.take_succ_cons, List.take_zero, List.take_nil, Nat.reduceSub, Int.reduceAdd, Int.reduceSub, Int.reduceMul, Int.reduceMod, Int.reduceDiv, Int.reduceNeg, List.length_cons, List.length_nil, Nat.zero_add, fComp, compL, rg1_3, mInt, mAbs, mGcd, mMax2, mMin2, mMax3, mMin3, mIsqrt, isT, row_t, tab_t]); try rfl))
    refine Eq.trans (sSeq_eq hf') ?_
    (refine Eq.trans (sSeq_eq (ρ' := ?_) ?_) ?_; rotate_left; ((conv => lhs; simp (config := {decide := true}) only [runD, List.map_cons, List.map_nil, List.replicate_zero, List.replicate_succ, List.cons_append, List.nil_append, List.append_nil, sRet, sRetN, sNx, sSeq, sSet, sSetF, sOwn, sTo, gsCons, gsNil, sPar, sPar3, eChain, sExp, sApp, sPut, sIf, sFrz, frz, frz1, List.foldl_cons, List.foldl_nil, eBin, eUn, eVar, eC, eAnd, eOr, eIf, eLend, flat, eIxO, eOfF, eTup, eAll, fAll, eCall, eIs, eSl, fSl, oNone, oSome, aNil, aCons, bVal, bAnd, bOr, bNot, bYes, blOf, gNot, iSeq, iRg1, iRg2, seq_l, seq_t, tup_l, tup_t, lst_l, lst_t, len_l, len_t, gIx_l, gIx_t, gNm, wipeR, List.getElem?_cons_zero, List.getElem?_cons_succ, List.set_cons_zero, List.set_cons_succ, Option.bind_some, Option.bind_none, Option.map_some, Option.map_none, if_true, if_false, decide_true, decide_false, Bool.not_true, Bool.not_false, Bool.false_eq_true, reduceIte, gAdd_i, gSub_i, gNeg_i, gLt_i, gLe_i, gGt_i, gGe_i, gEq_i, gNe_i, gMul_b, gMod_p, gFdiv_p, Nat.reduceAdd, Nat.reduceMul, Nat.reduceLeDiff, at0, at1, at2, at3, at4, at5, at6, at7, at8, at9, at10, at11, at12, at13, at14, at15, gSl_l, cut_pos, cut_from, cut_to, Int.reduceToNat, List.drop_succ_cons, List.drop_zero, List.take_succ_cons, List.take_zero, List.take_nil, Nat.reduceSub, Int.reduceAdd, Int.reduceSub, Int.reduceMul, Int.reduceMod, Int.reduceDiv, Int.reduceNeg, List.length_cons, List.length_nil, Nat.zero_add, fComp, compL, rg1_3, mInt, mAbs, mGcd, mMax2, mMin2, mMax3, mMin3, mIsqrt, isT, hP']); try rfl))
    simp (config := {decide := true}) only [runD, List.map_cons, List.map_nil, List.replicate_zero, List.replicate_succ, List.cons_append, List.nil_append, List.append_nil, sRet, sRetN, sNx, sSeq, sSet, sSetF, sOwn, sTo, gsCons, gsNil, sPar, sPar3, eChain, sExp, sApp, sPut, sIf, sFrz, frz, frz1, List.foldl_cons, List.foldl_nil, eBin, eUn, eVar, eC, eAnd, eOr, eIf, eLend, flat, eIxO, eOfF, eTup, eAll, fAll, eCall, eIs, eSl, fSl, oNone, oSome, aNil, aCons, bVal, bAnd, bOr, bNot, bYes, blOf, gNot, iSeq, iRg1, iRg2, seq_l, seq_t, tup_l, tup_t, lst_l, lst_t, len_l, len_t, gIx_l, gIx_t, gNm, wipeR, List.getElem?_cons_zero, List.getElem?_cons_succ, List.set_cons_zero, List.set_cons_succ, Option.bind_some, Option.bind_none, Option.map_some, Option.map_none, if_true, if_false, decide_true, decide_false, Bool.not_true, Bool.not_false, Bool.false_eq_true, reduceIte, gAdd_i, gSub_i, gNeg_i, gLt_i, gLe_i, gGt_i, gGe_i, gEq_i, gNe_i, gMul_b, gMod_p, gFdiv_p, Nat.reduceAdd, Nat.reduceMul, Nat.reduceLeDiff, at0, at1, at2, at3, at4, at5, at6, at7, at8, at9, at10, at11, at12, at13, at14, at15, gSl_l, cut_pos, cut_from, cut_to, Int.reduceToNat, List.drop_succ_cons, List.drop_zero, List.take_succ_cons, List.take_zero, List.take_nil, Nat.reduceSub, Int.reduceAdd, Int.reduceSub, Int.reduceMul, Int.reduceMod, Int.reduceDiv, Int.reduceNeg, List.length_cons, List.length_nil, Nat.zero_add, fComp, compL, rg1_3, mInt, mAbs, mGcd, mMax2, mMin2, mMax3, mMin3, mIsqrt, isT, j0, j1, j2, f0, f1, f2, w8, w9, w10]
    rfl
  have h7 : d7 = 0 ∨ d7 = 1 ∨ d7 = 2 ∨ d7 = 3 ∨ d7 = 4 ∨ d7 = 5 := by omega
  rcases h7 with rfl | rfl | rfl | rfl | rfl | rfl
  · obtain ⟨f1, f2⟩ := fin T.a T.b T.c hT.a hT.b hT.c (.inl d1')
    exact ⟨_, f1, f2, run _ _ _ _ hT.a hT.b hT.c (fun _ => rfl) rfl rfl rfl⟩
  · obtain ⟨f1, f2⟩ := fin T.a T.c T.b hT.a hT.c hT.b (.inr (by rw [det_p1, d1']))
    exact ⟨_, f1, f2, run _ _ _ _ hT.a hT.c hT.b (fun _ => rfl) rfl rfl rfl⟩
  · obtain ⟨f1, f2⟩ := fin T.b T.a T.c hT.b hT.a hT.c (.inr (by rw [det_p2, d1']))
    exact ⟨_, f1, f2, run _ _ _ _ hT.b hT.a hT.c (fun _ => rfl) rfl rfl rfl⟩
  · obtain ⟨f1, f2⟩ := fin T.b T.c T.a hT.b hT.c hT.a (.inl (by rw [det_p1, det_p2, d1']; rfl))
    exact ⟨_, f1, f2, run _ _ _ _ hT.b hT.c hT.a (fun _ => rfl) rfl rfl rfl⟩
  · obtain ⟨f1, f2⟩ := fin T.c T.a T.b hT.c hT.a hT.b (.inl (by rw [det_p2, det_p1, d1']; rfl))
    exact ⟨_, f1, f2, run _ _ _ _ hT.c hT.a hT.b (fun _ => rfl) rfl rfl rfl⟩
  · obtain ⟨f1, f2⟩ := fin T.c T.b T.a hT.c hT.b hT.a (.inr (by rw [det_p1, det_p2, det_p1, d1']; rfl))
    exact ⟨_, f1, f2, run _ _ _ _ hT.c hT.b hT.a (fun _ => rfl) rfl rfl rfl⟩
end W

set_option linter.all false
set_option maxRecDepth 100000
set_option maxHeartbeats 8000000
set_option exponentiation.threshold 20000
namespace DL
open PySem
theorem depthAll_le : ∀ {ds : List PyData} {n : Nat}, (∀ d ∈ ds, d.depth ≤ n) → PyData.depthAll ds ≤ n
  | [], n, _ => by unfold PyData.depthAll; omega
  | d :: ds, n, h => by
    have h1 := h d List.mem_cons_self
    have h2 := depthAll_le (ds := ds) fun e he => h e (List.mem_cons_of_mem _ he)
    unfold PyData.depthAll
    omega
theorem layAll : ∀ {ds : List PyData}, (∀ d ∈ ds, d.canLay0 = true) → PyData.canLayAll0 ds = true
  | [], _ => by unfold PyData.canLayAll0; rfl
  | d :: ds, h => by
    unfold PyData.canLayAll0
    rw [h d List.mem_cons_self, layAll fun e he => h e (List.mem_cons_of_mem _ he)]
    rfl
theorem eq_list {ds : List PyData} (h : ∀ d ∈ ds, d.canLay0 = true ∧ d.depth ≤ 10) : gEq (.list ds) (.list ds) = some (.bool true) := by
  have c : (PyData.list ds).canLay0 = true := by
    rw [PyData.canLay0]
    exact layAll fun d hd => (h d hd).1
  have dp : (PyData.list ds).depth ≤ 64 := by
    have := depthAll_le fun d hd => (h d hd).2
    rw [PyData.depth]
    omega
  have sh : SeqAt.shaped (.list ds) = true := by
    unfold SeqAt.shaped
    rw [c]
    simp [dp]
  unfold gEq
  rw [sh, SeqAt.eqv_refl _ c]
  rfl
theorem ok_r {v : V3} : (rw3 true v).canLay0 = true ∧ (rw3 true v).depth ≤ 10 := ⟨rfl, by show PyData.depth (.tuple [.int v.x, .int v.y, .int v.z]) ≤ 10; simp [PyData.depth, PyData.depthAll]⟩
theorem is_f {k : Bool} {f : F6} : gIs (fm k f) .none = some (.bool false) := by cases k <;> rfl
end DL
namespace W
open PySem DL L2
theorem w_steps_right {L : List V3} {o : Int} (hL : ∀ s ∈ L, OkS s) (hn : L.length ≤ 12) : m__law_steps_right [.list (L.map (rw3 true)), .int o] = some (.bool true) := by
  obtain ⟨e1, hb⟩ := w_steps_table hL hn
  have e2 : ∀ ρ : Rho, 5 < ρ.length → ρ[1]? = some (.va (.int o)) → compL (gNm 5) bYes (eCall m__law_handed (aCons (eVar 5) (aCons (eVar 1) aNil))) ρ (L.map (rw3 true)) = some (L.map (rw3 (decide (o = 0)))) := fun ρ h5 h1 => compL_map L fun s _ => by
    refine ⟨ρ.set 5 (.va (rw3 true s)), rfl, rfl, ?_⟩
    have g5 : (ρ.set 5 (.va (rw3 true s)))[5]? = some (.va (rw3 true s)) := List.getElem?_set_self h5
    have g1 : (ρ.set 5 (.va (rw3 true s)))[1]? = some (.va (.int o)) := by rw [List.getElem?_set_ne (by decide)]; exact h1
    simp only [eCall, aCons, aNil, eVar, g5, g1, Option.bind_some, w_handed]
  have e3 : ∀ ρ : Rho, 5 < ρ.length → compL (gNm 5) bYes (eAll mTuple (aCons (eVar 5) aNil)) ρ (L.map (rw3 (decide (o = 0)))) = some (L.map (rw3 true)) := fun ρ h5 => compL_map L fun s _ => by
    refine ⟨ρ.set 5 (.va (rw3 (decide (o = 0)) s)), rfl, rfl, ?_⟩
    have g5 : (ρ.set 5 (.va (rw3 (decide (o = 0)) s)))[5]? = some (.va (rw3 (decide (o = 0)) s)) := List.getElem?_set_self h5
    simp only [eAll, aCons, aNil, eVar, g5, Option.bind_some, tup_r]
  have e4 : m__law_handed [.list (L.map (rw3 (decide (o = 0)))), .int (1 - o)] = some (sq (decide (1 - o = 0)) (L.map (rw3 (decide (o = 0))))) := w_handed_g (k := false) (by rw [List.length_map]; omega)
  have e5 := v_table_of_steps (j := decide (1 - o = 0)) (k := decide (o = 0)) hL hn
  have e6 : gEq (.list (L.map (rw3 true))) (.list (L.map (rw3 true))) = some (.bool true) := eq_list fun d hd => by
    obtain ⟨s, _, rfl⟩ := List.mem_map.mp hd
    exact ok_r
  have l16 : (L.map (rw3 true)).length ≤ 16000000 := by rw [List.length_map]; omega
  have l17 : (L.map (rw3 (decide (o = 0)))).length ≤ 16000000 := by rw [List.length_map]; omega
  refine run_rt (k := 4) (u := b__law_steps_right) ?_
  simp only [List.map_cons, List.map_nil, List.replicate_succ, List.replicate_zero, List.cons_append, List.nil_append]
  unfold b__law_steps_right
  (refine Eq.trans (sSeq_eq (ρ' := ?_) ?_) ?_; rotate_left; ((conv => lhs; simp (config := {decide := true}) only [runD, List.map_cons, List.map_nil, List.replicate_zero, List.replicate_succ, List.cons_append, List.nil_append, List.append_nil, sRet, sRetN, sNx, sSeq, sSet, sSetF, sOwn, sTo, gsCons, gsNil, sPar, sPar3, eChain, sExp, sApp, sPut, sIf, sFrz, frz, frz1, List.foldl_cons, List.foldl_nil, eBin, eUn, eVar, eC, eAnd, eOr, eIf, eLend, flat, eIxO, eOfF, eTup, eAll, fAll, eCall, eIs, eSl, fSl, oNone, oSome, aNil, aCons, bVal, bAnd, bOr, bNot, bYes, blOf, gNot, iSeq, iRg1, iRg2, seq_l, seq_t, tup_l, tup_t, lst_l, lst_t, len_l, len_t, gIx_l, gIx_t, gNm, wipeR, List.getElem?_cons_zero, List.getElem?_cons_succ, List.set_cons_zero, List.set_cons_succ, Option.bind_some, Option.bind_none, Option.map_some, Option.map_none, if_true, if_false, decide_true, decide_false, Bool.not_true, Bool.not_false, Bool.false_eq_true, reduceIte, gAdd_i, gSub_i, gNeg_i, gLt_i, gLe_i, gGt_i, gGe_i, gEq_i, gNe_i, gMul_b, gMod_p, gFdiv_p, Nat.reduceAdd, Nat.reduceMul, Nat.reduceLeDiff, at0, at1, at2, at3, at4, at5, at6, at7, at8, at9, at10, at11, at12, at13, at14, at15, gSl_l, cut_pos, cut_from, cut_to, Int.reduceToNat, List.drop_succ_cons, List.drop_zero, List.take_succ_cons, List.take_zero, List.take_nil, Nat.reduceSub, Int.reduceAdd, Int.reduceSub, Int.reduceMul, Int.reduceMod, Int.reduceDiv, Int.reduceNeg, List.length_cons, List.length_nil, Nat.zero_add, fComp, compL, rg1_3, mInt, mAbs, mGcd, mMax2, mMin2, mMax3, mMin3, mIsqrt, isT, e1]); try rfl))
  have k1 := e2 (wipeR [.va (.list (L.map (rw3 true))), .va (.int o), .va (tb true true (prodS M3.one L)), .un, .un, .un] [5]) (by simp [wipeR]) rfl
  simp only [wipeR, List.set_cons_succ, List.set_cons_zero] at k1
  (refine Eq.trans (sSeq_eq (ρ' := ?_) ?_) ?_; rotate_left; ((conv => lhs; simp (config := {decide := true}) only [runD, List.map_cons, List.map_nil, List.replicate_zero, List.replicate_succ, List.cons_append, List.nil_append, List.append_nil, sRet, sRetN, sNx, sSeq, sSet, sSetF, sOwn, sTo, gsCons, gsNil, sPar, sPar3, eChain, sExp, sApp, sPut, sIf, sFrz, frz, frz1, List.foldl_cons, List.foldl_nil, eBin, eUn, eVar, eC, eAnd, eOr, eIf, eLend, flat, eIxO, eOfF, eTup, eAll, fAll, eCall, eIs, eSl, fSl, oNone, oSome, aNil, aCons, bVal, bAnd, bOr, bNot, bYes, blOf, gNot, iSeq, iRg1, iRg2, seq_l, seq_t, tup_l, tup_t, lst_l, lst_t, len_l, len_t, gIx_l, gIx_t, gNm, wipeR, List.getElem?_cons_zero, List.getElem?_cons_succ, List.set_cons_zero, List.set_cons_succ, Option.bind_some, Option.bind_none, Option.map_some, Option.map_none, if_true, if_false, decide_true, decide_false, Bool.not_true, Bool.not_false, Bool.false_eq_true, reduceIte, gAdd_i, gSub_i, gNeg_i, gLt_i, gLe_i, gGt_i, gGe_i, gEq_i, gNe_i, gMul_b, gMod_p, gFdiv_p, Nat.reduceAdd, Nat.reduceMul, Nat.reduceLeDiff, at0, at1, at2, at3, at4, at5, at6, at7, at8, at9, at10, at11, at12, at13, at14, at15, gSl_l, cut_pos, cut_from, cut_to, Int.reduceToNat, List.drop_succ_cons, List.drop_zero, List.take_succ_cons, List.take_zero, List.take_nil, Nat.reduceSub, Int.reduceAdd, Int.reduceSub, Int.reduceMul, Int.reduceMod, Int.reduceDiv, Int.reduceNeg, List.length_cons, List.length_nil, Nat.zero_add, fComp, compL, rg1_3, mInt, mAbs, mGcd, mMax2, mMin2, mMax3, mMin3, mIsqrt, isT, l16, k1, e4]); try rfl))
  (refine Eq.trans (sSeq_eq (ρ' := ?_) ?_) ?_; rotate_left; ((conv => lhs; simp (config := {decide := true}) only [runD, List.map_cons, List.map_nil, List.replicate_zero, List.replicate_succ, List.cons_append, List.nil_append, List.append_nil, sRet, sRetN, sNx, sSeq, sSet, sSetF, sOwn, sTo, gsCons, gsNil, sPar, sPar3, eChain, sExp, sApp, sPut, sIf, sFrz, frz, frz1, List.foldl_cons, List.foldl_nil, eBin, eUn, eVar, eC, eAnd, eOr, eIf, eLend, flat, eIxO, eOfF, eTup, eAll, fAll, eCall, eIs, eSl, fSl, oNone, oSome, aNil, aCons, bVal, bAnd, bOr, bNot, bYes, blOf, gNot, iSeq, iRg1, iRg2, seq_l, seq_t, tup_l, tup_t, lst_l, lst_t, len_l, len_t, gIx_l, gIx_t, gNm, wipeR, List.getElem?_cons_zero, List.getElem?_cons_succ, List.set_cons_zero, List.set_cons_succ, Option.bind_some, Option.bind_none, Option.map_some, Option.map_none, if_true, if_false, decide_true, decide_false, Bool.not_true, Bool.not_false, Bool.false_eq_true, reduceIte, gAdd_i, gSub_i, gNeg_i, gLt_i, gLe_i, gGt_i, gGe_i, gEq_i, gNe_i, gMul_b, gMod_p, gFdiv_p, Nat.reduceAdd, Nat.reduceMul, Nat.reduceLeDiff, at0, at1, at2, at3, at4, at5, at6, at7, at8, at9, at10, at11, at12, at13, at14, at15, gSl_l, cut_pos, cut_from, cut_to, Int.reduceToNat, List.drop_succ_cons, List.drop_zero, List.take_succ_cons, List.take_zero, List.take_nil, Nat.reduceSub, Int.reduceAdd, Int.reduceSub, Int.reduceMul, Int.reduceMod, Int.reduceDiv, Int.reduceNeg, List.length_cons, List.length_nil, Nat.zero_add, fComp, compL, rg1_3, mInt, mAbs, mGcd, mMax2, mMin2, mMax3, mMin3, mIsqrt, isT, e5]); try rfl))
  have k2 := e3 (wipeR [.va (.list (L.map (rw3 true))), .va (.int o), .va (tb true true (prodS M3.one L)), .va (sq (decide (1 - o = 0)) (L.map (rw3 (decide (o = 0))))), .va (tb true true (prodS M3.one L)), .un] [5]) (by simp [wipeR])
  simp only [wipeR, List.set_cons_succ, List.set_cons_zero] at k2
  simp only [runD, List.map_cons, List.map_nil, List.replicate_zero, List.replicate_succ, List.cons_append, List.nil_append, List.append_nil, sRet, sRetN, sNx, sSeq, sSet, sSetF, sOwn, sTo, gsCons, gsNil, sPar, sPar3, eChain, sExp, sApp, sPut, sIf, sFrz, frz, frz1, List.foldl_cons, List.foldl_nil, eBin, eUn, eVar, eC, eAnd, eOr, eIf, eLend, flat, eIxO, eOfF, eTup, eAll, fAll, eCall, eIs, eSl, fSl, oNone, oSome, aNil, aCons, bVal, bAnd, bOr, bNot, bYes, blOf, gNot, iSeq, iRg1, iRg2, seq_l, seq_t, tup_l, tup_t, lst_l, lst_t, len_l, len_t, gIx_l, gIx_t, gNm, wipeR, List.getElem?_cons_zero, List.getElem?_cons_succ, List.set_cons_zero, List.set_cons_succ, Option.bind_some, Option.bind_none, Option.map_some, Option.map_none, if_true, if_false, decide_true, decide_false, Bool.not_true, Bool.not_false, Bool.false_eq_true, reduceIte, gAdd_i, gSub_i, gNeg_i, gLt_i, gLe_i, gGt_i, gGe_i, gEq_i, gNe_i, gMul_b, gMod_p, gFdiv_p, Nat.reduceAdd, Nat.reduceMul, Nat.reduceLeDiff, at0, at1, at2, at3, at4, at5, at6, at7, at8, at9, at10, at11, at12, at13, at14, at15, gSl_l, cut_pos, cut_from, cut_to, Int.reduceToNat, List.drop_succ_cons, List.drop_zero, List.take_succ_cons, List.take_zero, List.take_nil, Nat.reduceSub, Int.reduceAdd, Int.reduceSub, Int.reduceMul, Int.reduceMod, Int.reduceDiv, Int.reduceNeg, List.length_cons, List.length_nil, Nat.zero_add, fComp, compL, rg1_3, mInt, mAbs, mGcd, mMax2, mMin2, mMax3, mMin3, mIsqrt, isT, w_is_table, eq_tb, Bool.and_self, seq_sq, l17, k2, e6]
section
variable {x0 x1 x2 x3 x4 x5 x6 x7 x8 x9 x10 x11 x12 d1 : Int} [h0 : Bd 103 x0] [h1 : Bd 103 x1] [h2 : Bd 103 x2] [h3 : Bd 103 x3] [h4 : Bd 103 x4] [h5 : Bd 103 x5] [h6 : Bd 103 x6] [h7 : Bd 103 x7] [h8 : Bd 103 x8] [h9 : Bd 103 x9] [h10 : Bd 103 x10] [h11 : Bd 103 x11] [h12 : Bd 103 x12]
theorem tab0 (g1 : 0 ≤ d1 ∧ d1 < 3) {S : PyData} : ∃ T, BM 300 T ∧ m__law_table [.list [.int x0, .int x1, .int x2, .int x3, .int x4, .int x5, .int x6, .int x7, .int x8, .int x9, .int x10, .int x11, .int x12], .int 0, .int d1, S] = some (tb true true T) := by
  have up : ∀ {n : Nat} {i : Int}, Bd n i → n ≤ 300 → i.natAbs < 2 ^ 300 := fun h l => Bd.mono h.lt l
  have e1 : d1 = 0 ∨ d1 = 1 ∨ d1 = 2 := by omega
  rcases e1 with rfl | rfl | rfl
  · exact ⟨⟨⟨x9 * x3, x9 * x4, x9 * x5⟩, ⟨x3, x4, x5⟩, ⟨x6, x7, x8⟩⟩, ⟨⟨up (bd_mul (i := x9) (j := x3)) (by decide), up (bd_mul (i := x9) (j := x4)) (by decide), up (bd_mul (i := x9) (j := x5)) (by decide)⟩, ⟨up h3 (by decide), up h4 (by decide), up h5 (by decide)⟩, ⟨up h6 (by decide), up h7 (by decide), up h8 (by decide)⟩⟩, by simp (config := {decide := true}) only [m__law_table, b__law_table, runD, List.map_cons, List.map_nil, List.replicate_zero, List.replicate_succ, List.cons_append, List.nil_append, List.append_nil, sRet, sRetN, sNx, sSeq, sSet, sSetF, sOwn, sTo, gsCons, gsNil, sPar, sPar3, eChain, sExp, sApp, sPut, sIf, sFrz, frz, frz1, List.foldl_cons, List.foldl_nil, eBin, eUn, eVar, eC, eAnd, eOr, eIf, eLend, flat, eIxO, eOfF, eTup, eAll, fAll, eCall, eIs, eSl, fSl, oNone, oSome, aNil, aCons, bVal, bAnd, bOr, bNot, bYes, blOf, gNot, iSeq, iRg1, iRg2, seq_l, seq_t, tup_l, tup_t, lst_l, lst_t, len_l, len_t, gIx_l, gIx_t, gNm, wipeR, List.getElem?_cons_zero, List.getElem?_cons_succ, List.set_cons_zero, List.set_cons_succ, Option.bind_some, Option.bind_none, Option.map_some, Option.map_none, if_true, if_false, decide_true, decide_false, Bool.not_true, Bool.not_false, Bool.false_eq_true, reduceIte, gAdd_i, gSub_i, gNeg_i, gLt_i, gLe_i, gGt_i, gGe_i, gEq_i, gNe_i, gMul_b, gMod_p, gFdiv_p, Nat.reduceAdd, Nat.reduceMul, Nat.reduceLeDiff, at0, at1, at2, at3, at4, at5, at6, at7, at8, at9, at10, at11, at12, at13, at14, at15, gSl_l, cut_pos, cut_from, cut_to, Int.reduceToNat, List.drop_succ_cons, List.drop_zero, List.take_succ_cons, List.take_zero, List.take_nil, Nat.reduceSub, Int.reduceAdd, Int.reduceSub, Int.reduceMul, Int.reduceMod, Int.reduceDiv, Int.reduceNeg, List.length_cons, List.length_nil, Nat.zero_add, fComp, compL, rg1_3, mInt, mAbs, mGcd, mMax2, mMin2, mMax3, mMin3, mIsqrt, isT, sOwnO, sPut2, sPutF, sAli, bLend, eIxOO, ffNil, ffCons, ffComp, compLL, ix30, ix31, ix32]; rfl⟩
  · exact ⟨⟨⟨x0, x1, x2⟩, ⟨x9 * x6, x9 * x7, x9 * x8⟩, ⟨x6, x7, x8⟩⟩, ⟨⟨up h0 (by decide), up h1 (by decide), up h2 (by decide)⟩, ⟨up (bd_mul (i := x9) (j := x6)) (by decide), up (bd_mul (i := x9) (j := x7)) (by decide), up (bd_mul (i := x9) (j := x8)) (by decide)⟩, ⟨up h6 (by decide), up h7 (by decide), up h8 (by decide)⟩⟩, by simp (config := {decide := true}) only [m__law_table, b__law_table, runD, List.map_cons, List.map_nil, List.replicate_zero, List.replicate_succ, List.cons_append, List.nil_append, List.append_nil, sRet, sRetN, sNx, sSeq, sSet, sSetF, sOwn, sTo, gsCons, gsNil, sPar, sPar3, eChain, sExp, sApp, sPut, sIf, sFrz, frz, frz1, List.foldl_cons, List.foldl_nil, eBin, eUn, eVar, eC, eAnd, eOr, eIf, eLend, flat, eIxO, eOfF, eTup, eAll, fAll, eCall, eIs, eSl, fSl, oNone, oSome, aNil, aCons, bVal, bAnd, bOr, bNot, bYes, blOf, gNot, iSeq, iRg1, iRg2, seq_l, seq_t, tup_l, tup_t, lst_l, lst_t, len_l, len_t, gIx_l, gIx_t, gNm, wipeR, List.getElem?_cons_zero, List.getElem?_cons_succ, List.set_cons_zero, List.set_cons_succ, Option.bind_some, Option.bind_none, Option.map_some, Option.map_none, if_true, if_false, decide_true, decide_false, Bool.not_true, Bool.not_false, Bool.false_eq_true, reduceIte, gAdd_i, gSub_i, gNeg_i, gLt_i, gLe_i, gGt_i, gGe_i, gEq_i, gNe_i, gMul_b, gMod_p, gFdiv_p, Nat.reduceAdd, Nat.reduceMul, Nat.reduceLeDiff, at0, at1, at2, at3, at4, at5, at6, at7, at8, at9, at10, at11, at12, at13, at14, at15, gSl_l, cut_pos, cut_from, cut_to, Int.reduceToNat, List.drop_succ_cons, List.drop_zero, List.take_succ_cons, List.take_zero, List.take_nil, Nat.reduceSub, Int.reduceAdd, Int.reduceSub, Int.reduceMul, Int.reduceMod, Int.reduceDiv, Int.reduceNeg, List.length_cons, List.length_nil, Nat.zero_add, fComp, compL, rg1_3, mInt, mAbs, mGcd, mMax2, mMin2, mMax3, mMin3, mIsqrt, isT, sOwnO, sPut2, sPutF, sAli, bLend, eIxOO, ffNil, ffCons, ffComp, compLL, ix30, ix31, ix32]; rfl⟩
  · exact ⟨⟨⟨x0, x1, x2⟩, ⟨x3, x4, x5⟩, ⟨x9 * x0, x9 * x1, x9 * x2⟩⟩, ⟨⟨up h0 (by decide), up h1 (by decide), up h2 (by decide)⟩, ⟨up h3 (by decide), up h4 (by decide), up h5 (by decide)⟩, ⟨up (bd_mul (i := x9) (j := x0)) (by decide), up (bd_mul (i := x9) (j := x1)) (by decide), up (bd_mul (i := x9) (j := x2)) (by decide)⟩⟩, by simp (config := {decide := true}) only [m__law_table, b__law_table, runD, List.map_cons, List.map_nil, List.replicate_zero, List.replicate_succ, List.cons_append, List.nil_append, List.append_nil, sRet, sRetN, sNx, sSeq, sSet, sSetF, sOwn, sTo, gsCons, gsNil, sPar, sPar3, eChain, sExp, sApp, sPut, sIf, sFrz, frz, frz1, List.foldl_cons, List.foldl_nil, eBin, eUn, eVar, eC, eAnd, eOr, eIf, eLend, flat, eIxO, eOfF, eTup, eAll, fAll, eCall, eIs, eSl, fSl, oNone, oSome, aNil, aCons, bVal, bAnd, bOr, bNot, bYes, blOf, gNot, iSeq, iRg1, iRg2, seq_l, seq_t, tup_l, tup_t, lst_l, lst_t, len_l, len_t, gIx_l, gIx_t, gNm, wipeR, List.getElem?_cons_zero, List.getElem?_cons_succ, List.set_cons_zero, List.set_cons_succ, Option.bind_some, Option.bind_none, Option.map_some, Option.map_none, if_true, if_false, decide_true, decide_false, Bool.not_true, Bool.not_false, Bool.false_eq_true, reduceIte, gAdd_i, gSub_i, gNeg_i, gLt_i, gLe_i, gGt_i, gGe_i, gEq_i, gNe_i, gMul_b, gMod_p, gFdiv_p, Nat.reduceAdd, Nat.reduceMul, Nat.reduceLeDiff, at0, at1, at2, at3, at4, at5, at6, at7, at8, at9, at10, at11, at12, at13, at14, at15, gSl_l, cut_pos, cut_from, cut_to, Int.reduceToNat, List.drop_succ_cons, List.drop_zero, List.take_succ_cons, List.take_zero, List.take_nil, Nat.reduceSub, Int.reduceAdd, Int.reduceSub, Int.reduceMul, Int.reduceMod, Int.reduceDiv, Int.reduceNeg, List.length_cons, List.length_nil, Nat.zero_add, fComp, compL, rg1_3, mInt, mAbs, mGcd, mMax2, mMin2, mMax3, mMin3, mIsqrt, isT, sOwnO, sPut2, sPutF, sAli, bLend, eIxOO, ffNil, ffCons, ffComp, compLL, ix30, ix31, ix32]; rfl⟩
theorem tab1  {S : PyData} : ∃ T, BM 300 T ∧ m__law_table [.list [.int x0, .int x1, .int x2, .int x3, .int x4, .int x5, .int x6, .int x7, .int x8, .int x9, .int x10, .int x11, .int x12], .int 1, .int d1, S] = some (tb true true T) := by
  have up : ∀ {n : Nat} {i : Int}, Bd n i → n ≤ 300 → i.natAbs < 2 ^ 300 := fun h l => Bd.mono h.lt l
  have m3 : ∀ x : Int, (x % 3 - 1).natAbs < 2 ^ 300 := fun x => Nat.lt_of_lt_of_le (show (x % 3 - 1).natAbs < 2 ^ 2 by omega) (Nat.pow_le_pow_right (by decide) (by decide))
  exact ⟨⟨⟨x0 % 3 - 1, x1 % 3 - 1, x2 % 3 - 1⟩, ⟨x3 % 3 - 1, x4 % 3 - 1, x5 % 3 - 1⟩, ⟨x6 % 3 - 1, x7 % 3 - 1, x8 % 3 - 1⟩⟩, ⟨⟨m3 _, m3 _, m3 _⟩, ⟨m3 _, m3 _, m3 _⟩, ⟨m3 _, m3 _, m3 _⟩⟩, by simp (config := {decide := true}) only [m__law_table, b__law_table, runD, List.map_cons, List.map_nil, List.replicate_zero, List.replicate_succ, List.cons_append, List.nil_append, List.append_nil, sRet, sRetN, sNx, sSeq, sSet, sSetF, sOwn, sTo, gsCons, gsNil, sPar, sPar3, eChain, sExp, sApp, sPut, sIf, sFrz, frz, frz1, List.foldl_cons, List.foldl_nil, eBin, eUn, eVar, eC, eAnd, eOr, eIf, eLend, flat, eIxO, eOfF, eTup, eAll, fAll, eCall, eIs, eSl, fSl, oNone, oSome, aNil, aCons, bVal, bAnd, bOr, bNot, bYes, blOf, gNot, iSeq, iRg1, iRg2, seq_l, seq_t, tup_l, tup_t, lst_l, lst_t, len_l, len_t, gIx_l, gIx_t, gNm, wipeR, List.getElem?_cons_zero, List.getElem?_cons_succ, List.set_cons_zero, List.set_cons_succ, Option.bind_some, Option.bind_none, Option.map_some, Option.map_none, if_true, if_false, decide_true, decide_false, Bool.not_true, Bool.not_false, Bool.false_eq_true, reduceIte, gAdd_i, gSub_i, gNeg_i, gLt_i, gLe_i, gGt_i, gGe_i, gEq_i, gNe_i, gMul_b, gMod_p, gFdiv_p, Nat.reduceAdd, Nat.reduceMul, Nat.reduceLeDiff, at0, at1, at2, at3, at4, at5, at6, at7, at8, at9, at10, at11, at12, at13, at14, at15, gSl_l, cut_pos, cut_from, cut_to, Int.reduceToNat, List.drop_succ_cons, List.drop_zero, List.take_succ_cons, List.take_zero, List.take_nil, Nat.reduceSub, Int.reduceAdd, Int.reduceSub, Int.reduceMul, Int.reduceMod, Int.reduceDiv, Int.reduceNeg, List.length_cons, List.length_nil, Nat.zero_add, fComp, compL, rg1_3, mInt, mAbs, mGcd, mMax2, mMin2, mMax3, mMin3, mIsqrt, isT, sOwnO, sPut2, sPutF, sAli, bLend, eIxOO, ffNil, ffCons, ffComp, compLL, ix30, ix31, ix32]; rfl⟩
theorem tab3  {S : PyData} : ∃ T, BM 300 T ∧ m__law_table [.list [.int x0, .int x1, .int x2, .int x3, .int x4, .int x5, .int x6, .int x7, .int x8, .int x9, .int x10, .int x11, .int x12], .int 3, .int d1, S] = some (tb true true T) := by
  have up : ∀ {n : Nat} {i : Int}, Bd n i → n ≤ 300 → i.natAbs < 2 ^ 300 := fun h l => Bd.mono h.lt l
  exact ⟨⟨⟨x0, x1, x2⟩, ⟨x3, x4, x5⟩, ⟨x6, x7, x8⟩⟩, ⟨⟨up h0 (by decide), up h1 (by decide), up h2 (by decide)⟩, ⟨up h3 (by decide), up h4 (by decide), up h5 (by decide)⟩, ⟨up h6 (by decide), up h7 (by decide), up h8 (by decide)⟩⟩, by simp (config := {decide := true}) only [m__law_table, b__law_table, runD, List.map_cons, List.map_nil, List.replicate_zero, List.replicate_succ, List.cons_append, List.nil_append, List.append_nil, sRet, sRetN, sNx, sSeq, sSet, sSetF, sOwn, sTo, gsCons, gsNil, sPar, sPar3, eChain, sExp, sApp, sPut, sIf, sFrz, frz, frz1, List.foldl_cons, List.foldl_nil, eBin, eUn, eVar, eC, eAnd, eOr, eIf, eLend, flat, eIxO, eOfF, eTup, eAll, fAll, eCall, eIs, eSl, fSl, oNone, oSome, aNil, aCons, bVal, bAnd, bOr, bNot, bYes, blOf, gNot, iSeq, iRg1, iRg2, seq_l, seq_t, tup_l, tup_t, lst_l, lst_t, len_l, len_t, gIx_l, gIx_t, gNm, wipeR, List.getElem?_cons_zero, List.getElem?_cons_succ, List.set_cons_zero, List.set_cons_succ, Option.bind_some, Option.bind_none, Option.map_some, Option.map_none, if_true, if_false, decide_true, decide_false, Bool.not_true, Bool.not_false, Bool.false_eq_true, reduceIte, gAdd_i, gSub_i, gNeg_i, gLt_i, gLe_i, gGt_i, gGe_i, gEq_i, gNe_i, gMul_b, gMod_p, gFdiv_p, Nat.reduceAdd, Nat.reduceMul, Nat.reduceLeDiff, at0, at1, at2, at3, at4, at5, at6, at7, at8, at9, at10, at11, at12, at13, at14, at15, gSl_l, cut_pos, cut_from, cut_to, Int.reduceToNat, List.drop_succ_cons, List.drop_zero, List.take_succ_cons, List.take_zero, List.take_nil, Nat.reduceSub, Int.reduceAdd, Int.reduceSub, Int.reduceMul, Int.reduceMod, Int.reduceDiv, Int.reduceNeg, List.length_cons, List.length_nil, Nat.zero_add, fComp, compL, rg1_3, mInt, mAbs, mGcd, mMax2, mMin2, mMax3, mMin3, mIsqrt, isT, sOwnO, sPut2, sPutF, sAli, bLend, eIxOO, ffNil, ffCons, ffComp, compLL, ix30, ix31, ix32]; rfl⟩
theorem tab4  {S : PyData} : ∃ T, BM 300 T ∧ m__law_table [.list [.int x0, .int x1, .int x2, .int x3, .int x4, .int x5, .int x6, .int x7, .int x8, .int x9, .int x10, .int x11, .int x12], .int 4, .int d1, S] = some (tb true true T) := by
  have up : ∀ {n : Nat} {i : Int}, Bd n i → n ≤ 300 → i.natAbs < 2 ^ 300 := fun h l => Bd.mono h.lt l
  exact ⟨⟨⟨x0, x1, x2⟩, ⟨x3, x4, x5⟩, ⟨x6, x7, x8⟩⟩, ⟨⟨up h0 (by decide), up h1 (by decide), up h2 (by decide)⟩, ⟨up h3 (by decide), up h4 (by decide), up h5 (by decide)⟩, ⟨up h6 (by decide), up h7 (by decide), up h8 (by decide)⟩⟩, by simp (config := {decide := true}) only [m__law_table, b__law_table, runD, List.map_cons, List.map_nil, List.replicate_zero, List.replicate_succ, List.cons_append, List.nil_append, List.append_nil, sRet, sRetN, sNx, sSeq, sSet, sSetF, sOwn, sTo, gsCons, gsNil, sPar, sPar3, eChain, sExp, sApp, sPut, sIf, sFrz, frz, frz1, List.foldl_cons, List.foldl_nil, eBin, eUn, eVar, eC, eAnd, eOr, eIf, eLend, flat, eIxO, eOfF, eTup, eAll, fAll, eCall, eIs, eSl, fSl, oNone, oSome, aNil, aCons, bVal, bAnd, bOr, bNot, bYes, blOf, gNot, iSeq, iRg1, iRg2, seq_l, seq_t, tup_l, tup_t, lst_l, lst_t, len_l, len_t, gIx_l, gIx_t, gNm, wipeR, List.getElem?_cons_zero, List.getElem?_cons_succ, List.set_cons_zero, List.set_cons_succ, Option.bind_some, Option.bind_none, Option.map_some, Option.map_none, if_true, if_false, decide_true, decide_false, Bool.not_true, Bool.not_false, Bool.false_eq_true, reduceIte, gAdd_i, gSub_i, gNeg_i, gLt_i, gLe_i, gGt_i, gGe_i, gEq_i, gNe_i, gMul_b, gMod_p, gFdiv_p, Nat.reduceAdd, Nat.reduceMul, Nat.reduceLeDiff, at0, at1, at2, at3, at4, at5, at6, at7, at8, at9, at10, at11, at12, at13, at14, at15, gSl_l, cut_pos, cut_from, cut_to, Int.reduceToNat, List.drop_succ_cons, List.drop_zero, List.take_succ_cons, List.take_zero, List.take_nil, Nat.reduceSub, Int.reduceAdd, Int.reduceSub, Int.reduceMul, Int.reduceMod, Int.reduceDiv, Int.reduceNeg, List.length_cons, List.length_nil, Nat.zero_add, fComp, compL, rg1_3, mInt, mAbs, mGcd, mMax2, mMin2, mMax3, mMin3, mIsqrt, isT, sOwnO, sPut2, sPutF, sAli, bLend, eIxOO, ffNil, ffCons, ffComp, compLL, ix30, ix31, ix32]; rfl⟩
theorem tab2 {L : List V3} (hL : ∀ s ∈ L, OkS s) (hn : L.length ≤ 12) : ∃ T, BM 300 T ∧ m__law_table [.list [.int x0, .int x1, .int x2, .int x3, .int x4, .int x5, .int x6, .int x7, .int x8, .int x9, .int x10, .int x11, .int x12], .int 2, .int d1, .list (L.map (rw3 true))] = some (tb true true T) := by
  obtain ⟨e1, hb⟩ := w_steps_table hL hn
  exact ⟨_, hb.mono (by decide), by simp (config := {decide := true}) only [m__law_table, b__law_table, runD, List.map_cons, List.map_nil, List.replicate_zero, List.replicate_succ, List.cons_append, List.nil_append, List.append_nil, sRet, sRetN, sNx, sSeq, sSet, sSetF, sOwn, sTo, gsCons, gsNil, sPar, sPar3, eChain, sExp, sApp, sPut, sIf, sFrz, frz, frz1, List.foldl_cons, List.foldl_nil, eBin, eUn, eVar, eC, eAnd, eOr, eIf, eLend, flat, eIxO, eOfF, eTup, eAll, fAll, eCall, eIs, eSl, fSl, oNone, oSome, aNil, aCons, bVal, bAnd, bOr, bNot, bYes, blOf, gNot, iSeq, iRg1, iRg2, seq_l, seq_t, tup_l, tup_t, lst_l, lst_t, len_l, len_t, gIx_l, gIx_t, gNm, wipeR, List.getElem?_cons_zero, List.getElem?_cons_succ, List.set_cons_zero, List.set_cons_succ, Option.bind_some, Option.bind_none, Option.map_some, Option.map_none, if_true, if_false, decide_true, decide_false, Bool.not_true, Bool.not_false, Bool.false_eq_true, reduceIte, gAdd_i, gSub_i, gNeg_i, gLt_i, gLe_i, gGt_i, gGe_i, gEq_i, gNe_i, gMul_b, gMod_p, gFdiv_p, Nat.reduceAdd, Nat.reduceMul, Nat.reduceLeDiff, at0, at1, at2, at3, at4, at5, at6, at7, at8, at9, at10, at11, at12, at13, at14, at15, gSl_l, cut_pos, cut_from, cut_to, Int.reduceToNat, List.drop_succ_cons, List.drop_zero, List.take_succ_cons, List.take_zero, List.take_nil, Nat.reduceSub, Int.reduceAdd, Int.reduceSub, Int.reduceMul, Int.reduceMod, Int.reduceDiv, Int.reduceNeg, List.length_cons, List.length_nil, Nat.zero_add, fComp, compL, rg1_3, mInt, mAbs, mGcd, mMax2, mMin2, mMax3, mMin3, mIsqrt, isT, sOwnO, sPut2, sPutF, sAli, bLend, eIxOO, ffNil, ffCons, ffComp, compLL, ix30, ix31, ix32, e1]⟩
theorem w_table {d0 : Int} {L : List V3} (g0 : 0 ≤ d0 ∧ d0 < 5) (g1 : 0 ≤ d1 ∧ d1 < 3) (hL : ∀ s ∈ L, OkS s) (hn : L.length ≤ 12) : ∃ T, BM 300 T ∧ m__law_table [.list [.int x0, .int x1, .int x2, .int x3, .int x4, .int x5, .int x6, .int x7, .int x8, .int x9, .int x10, .int x11, .int x12], .int d0, .int d1, .list (L.map (rw3 true))] = some (tb true true T) := by
  have e0 : d0 = 0 ∨ d0 = 1 ∨ d0 = 2 ∨ d0 = 3 ∨ d0 = 4 := by omega
  rcases e0 with rfl | rfl | rfl | rfl | rfl
  · exact tab0 g1
  · exact tab1
  · exact tab2 hL hn
  · exact tab3
  · exact tab4
end
noncomputable def b_tail : ES := (sSeq (sSet 5 (eCall m__law_table (aCons (eVar 2) (aCons (eBin gIx (eVar 1) (eC (.int 0))) (aCons (eBin gIx (eVar 1) (eC (.int 1))) (aCons (eVar 3) aNil)))))) (sSeq (sSet 6 (eAll mTuple (aCons (eSl (eVar 2) (oSome (eC (.int 10))) (oSome (eC (.int 13)))) aNil))) (sSeq (sSet 7 (eCall m__law_new_form (aCons (eVar 4) (aCons (eVar 5) (aCons (eVar 6) (aCons (eBin gIx (eVar 1) (eC (.int 2))) aNil)))))) (sSeq (sIf (bVal (eBin gIs (eVar 7) (eC .none))) (sRet (eC (.bool false))) sNx) (sSeq (sIf (bAnd (bVal (eBin gLe (eAll mMaxL (aCons (eOfF (fComp (iSeq (eVar 7)) (gNm 12) bYes (eAll mAbs (aCons (eVar 12) aNil)) [12])) aNil)) (eC (.int 40)))) (bVal (eBin gNe (eCall m__law_determinant (aCons (eVar 5) aNil)) (eC (.int 0))))) (sIf (bNot (bVal (eCall m__law_signature_stays (aCons (eVar 4) (aCons (eVar 7) (aCons (eBin gIx (eVar 1) (eC (.int 5))) aNil)))))) (sRet (eC (.bool false))) sNx) sNx) (sSeq (sSet 8 (eCall m__law_small_change (aCons (eCall m__law_cell (aCons (eVar 0) (aCons (eC (.int 19)) aNil))) aNil))) (sSeq (sIf (bVal (eBin gNe (eCall m__law_new_form (aCons (eVar 7) (aCons (eVar 8) (aCons (eVar 6) (aCons (eBin gIx (eVar 1) (eC (.int 3))) aNil))))) (eCall m__law_changed (aCons (eVar 4) (aCons (eCall m__law_product (aCons (eVar 5) (aCons (eVar 8) aNil))) aNil))))) (sRet (eC (.bool false))) sNx) (sSeq (sSet 9 (eAll mTuple (aCons (eOfF (fComp (iSeq (eCall m__law_digits (aCons (eCall m__law_cell (aCons (eVar 0) (aCons (eC (.int 20)) aNil))) (aCons (eOfF (aCons (eC (.int 5)) (aCons (eC (.int 5)) (aCons (eC (.int 5)) (aCons (eC (.int 5)) (aCons (eC (.int 5)) (aCons (eC (.int 5)) aNil))))))) aNil)))) (gNm 13) bYes (eBin gSub (eVar 13) (eC (.int 2))) [13])) aNil))) (sSeq (sSet 7 (eCall m__law_new_form (aCons (eVar 9) (aCons (eVar 8) (aCons (eVar 6) (aCons (eBin gIx (eVar 1) (eC (.int 3))) aNil)))))) (sSeq (sIf (bOr (bVal (eBin gIs (eVar 7) (eC .none))) (bNot (bVal (eCall m__law_signature_stays (aCons (eVar 9) (aCons (eVar 7) (aCons (eBin gIx (eVar 1) (eC (.int 6))) aNil))))))) (sRet (eC (.bool false))) sNx) (sSeq (sSet 10 (eCall m_changed (aCons (eVar 7) (aCons (eCall m__law_back (aCons (eVar 8) aNil)) aNil)))) (sSeq (sIf (bOr (bNot (bVal (eCall m__law_is_row (aCons (eVar 10) (aCons (eC (.int 6)) aNil))))) (bVal (eBin gNe (eVar 10) (eVar 9)))) (sRet (eC (.bool false))) sNx) (sSeq (sIf (bOr (bNot (bVal (eCall m__law_steps_right (aCons (eVar 3) (aCons (eBin gIx (eVar 1) (eC (.int 5))) aNil))))) (bNot (bVal (eCall m__law_steps_right (aCons (eOfF aNil) (aCons (eBin gIx (eVar 1) (eC (.int 5))) aNil)))))) (sRet (eC (.bool false))) sNx) (sRet (eCall m__law_changes_right (aCons (eOfF (aCons (eVar 5) (aCons (eCall m__law_steps_table (aCons (eVar 3) aNil)) aNil))) (aCons (eVar 8) (aCons (eBin gIx (eVar 1) (eC (.int 1))) (aCons (eBin gIx (eVar 1) (eC (.int 2))) aNil)))))))))))))))))))
end W

set_option linter.all false
set_option maxRecDepth 100000
set_option maxHeartbeats 8000000
set_option exponentiation.threshold 20000
namespace DL
open PySem
theorem max6 {f : F6} : ∃ M : Int, mMaxL [.list [.int (if f.a < 0 then -f.a else f.a), .int (if f.b < 0 then -f.b else f.b), .int (if f.c < 0 then -f.c else f.c), .int (if f.p < 0 then -f.p else f.p), .int (if f.q < 0 then -f.q else f.q), .int (if f.r < 0 then -f.r else f.r)]] = some (.int M) ∧ (M ≤ 40 → BF 6 f) := by
  have h := (lMax_ok (ns := [if f.a < 0 then -f.a else f.a, if f.b < 0 then -f.b else f.b, if f.c < 0 then -f.c else f.c, if f.p < 0 then -f.p else f.p, if f.q < 0 then -f.q else f.q, if f.r < 0 then -f.r else f.r]) (by simp)).2
  refine ⟨lMax [if f.a < 0 then -f.a else f.a, if f.b < 0 then -f.b else f.b, if f.c < 0 then -f.c else f.c, if f.p < 0 then -f.p else f.p, if f.q < 0 then -f.q else f.q, if f.r < 0 then -f.r else f.r], rfl, fun hM => ?_⟩
  have k : ∀ x : Int, (if x < 0 then -x else x) ∈ [if f.a < 0 then -f.a else f.a, if f.b < 0 then -f.b else f.b, if f.c < 0 then -f.c else f.c, if f.p < 0 then -f.p else f.p, if f.q < 0 then -f.q else f.q, if f.r < 0 then -f.r else f.r] → x.natAbs < 2 ^ 6 := fun x hx => by
    have := h _ hx
    split at this <;> omega
  exact ⟨k _ (by simp), k _ (by simp), k _ (by simp), k _ (by simp), k _ (by simp), k _ (by simp)⟩
end DL
namespace W
open PySem DL L2
theorem numbers_go (ns : List Int) (x1 x2 x3 x4 x5 x6 x7 x8 x9 x10 x12 x13 : SC) : ∀ (m : Nat) (i : Int), 0 ≤ i → i + m < 1000 → ∃ l, Nums m l ∧
    compL (gNm 11) bYes (eCall m__law_number (aCons (eCall m__law_cell (aCons (eVar 0) (aCons (eVar 11) aNil))) aNil)) [.va (.list (ns.map .int)), x1, x2, x3, x4, x5, x6, x7, x8, x9, x10, .un, x12, x13] (rng i m) = some (l.map PyData.int)
  | 0, i, _, _ => ⟨[], ⟨rfl, by simp⟩, rfl⟩
  | m + 1, i, h1, h2 => by
    obtain ⟨l, q1, q2⟩ := numbers_go ns x1 x2 x3 x4 x5 x6 x7 x8 x9 x10 x12 x13 m (i + 1) (by omega) (by omega)
    obtain ⟨c, e1⟩ := w_cell ns i h1 (by omega)
    obtain ⟨n, b, e2⟩ := w_number c
    refine ⟨n :: l, ⟨congrArg (· + 1) q1.1, fun x hx => ?_⟩, ?_⟩
    · rcases List.mem_cons.mp hx with rfl | hx
      · exact b.lt
      · exact q1.2 x hx
    · rw [rng_succ]
      simp only [runD, List.map_cons, List.map_nil, List.replicate_zero, List.replicate_succ, List.cons_append, List.nil_append, List.append_nil, sRet, sRetN, sNx, sSeq, sSet, sSetF, sOwn, sTo, gsCons, gsNil, sPar, sPar3, eChain, sExp, sApp, sPut, sIf, sFrz, frz, frz1, List.foldl_cons, List.foldl_nil, eBin, eUn, eVar, eC, eAnd, eOr, eIf, eLend, flat, eIxO, eOfF, eTup, eAll, fAll, eCall, eIs, eSl, fSl, oNone, oSome, aNil, aCons, bVal, bAnd, bOr, bNot, bYes, blOf, gNot, iSeq, iRg1, iRg2, seq_l, seq_t, tup_l, tup_t, lst_l, lst_t, len_l, len_t, gIx_l, gIx_t, gNm, wipeR, List.getElem?_cons_zero, List.getElem?_cons_succ, List.set_cons_zero, List.set_cons_succ, Option.bind_some, Option.bind_none, Option.map_some, Option.map_none, if_true, if_false, decide_true, decide_false, Bool.not_true, Bool.not_false, Bool.false_eq_true, reduceIte, gAdd_i, gSub_i, gNeg_i, gLt_i, gLe_i, gGt_i, gGe_i, gEq_i, gNe_i, gMul_b, gMod_p, gFdiv_p, Nat.reduceAdd, Nat.reduceMul, Nat.reduceLeDiff, at0, at1, at2, at3, at4, at5, at6, at7, at8, at9, at10, at11, at12, at13, at14, at15, gSl_l, cut_pos, cut_from, cut_to, Int.reduceToNat, List.drop_succ_cons, List.drop_zero, List.take_succ_cons, List.take_zero, List.take_nil, Nat.reduceSub, Int.reduceAdd, Int.reduceSub, Int.reduceMul, Int.reduceMod, Int.reduceDiv, Int.reduceNeg, List.length_cons, List.length_nil, Nat.zero_add, fComp, compL, rg1_3, mInt, mAbs, mGcd, mMax2, mMin2, mMax3, mMin3, mIsqrt, isT, e1, e2, q2]
theorem w_tail (ns : List Int) {d0 d1 d2 d3 d4 d5 d6 d7 : Int} {x0 x1 x2 x3 x4 x5 x6 x7 x8 x9 x10 x11 x12 : Int} [h0 : Bd 103 x0] [h1 : Bd 103 x1] [h2 : Bd 103 x2] [h3 : Bd 103 x3] [h4 : Bd 103 x4] [h5 : Bd 103 x5] [h6 : Bd 103 x6] [h7 : Bd 103 x7] [h8 : Bd 103 x8] [h9 : Bd 103 x9] [h10 : Bd 103 x10] [h11 : Bd 103 x11] [h12 : Bd 103 x12]
    {L : List V3} (hL : ∀ s ∈ L, OkS s) (hn : L.length ≤ 12) {f : F6} (hf : BF 110 f) (g0 : 0 ≤ d0 ∧ d0 < 5) (g1 : 0 ≤ d1 ∧ d1 < 3) :
    b_tail [.va (.list (ns.map .int)), .va (.list [.int d0, .int d1, .int d2, .int d3, .int d4, .int d5, .int d6, .int d7]), .va (.list [.int x0, .int x1, .int x2, .int x3, .int x4, .int x5, .int x6, .int x7, .int x8, .int x9, .int x10, .int x11, .int x12]), .va (.list (L.map (rw3 true))), .va (fm true f), .un, .un, .un, .un, .un, .un, .un, .un, .un] = some (.rt (.bool true)) := by
  obtain ⟨T, hT, eT⟩ := w_table (x0 := x0) (x1 := x1) (x2 := x2) (x3 := x3) (x4 := x4) (x5 := x5) (x6 := x6) (x7 := x7) (x8 := x8) (x9 := x9) (x10 := x10) (x11 := x11) (x12 := x12) g0 g1 hL hn
  obtain ⟨c19, e19⟩ := w_cell ns 19 (by decide) (by decide)
  obtain ⟨c20, e20⟩ := w_cell ns 20 (by decide) (by decide)
  obtain ⟨C, hC, dC, eC'⟩ := w_small_change c19
  obtain ⟨ds, q1, q2⟩ := w_digits c20 [5, 5, 5, 5, 5, 5] (by decide) (by decide)
  obtain ⟨s0, r, rfl, a0, b0, q1⟩ := inD_cons q1
  obtain ⟨s1, r, rfl, a1, b1, q1⟩ := inD_cons q1
  obtain ⟨s2, r, rfl, a2, b2, q1⟩ := inD_cons q1
  obtain ⟨s3, r, rfl, a3, b3, q1⟩ := inD_cons q1
  obtain ⟨s4, r, rfl, a4, b4, q1⟩ := inD_cons q1
  obtain ⟨s5, r, rfl, a5, b5, q1⟩ := inD_cons q1
  obtain rfl := inD_nil q1
  simp only [List.map_cons, List.map_nil] at q2
  have hv : BV 200 ⟨x10, x11, x12⟩ := ⟨Bd.mono h10.lt (by decide), Bd.mono h11.lt (by decide), Bd.mono h12.lt (by decide)⟩
  have nf := w_new_form (o := d2) hf hT hv (by decide)
  have hg : BF 714 (f.chg T) := (bf_chg hf hT).mono (by decide)
  have nf2 := w_new_form (o := d3) hg hC hv (by decide)
  have pTC := w_product (j := true) (k := true) (j' := true) (k' := true) (s := T) (t := C) (n := 300) (m := 8) (by decide)
  have hTC : BM 310 (T.mul C) := bm_mul (s := T) (t := C)
  have ch := w_changed (i := true) (j := true) (k := true) hf hTC (by decide)
  rw [F6.chg_chg] at nf2
  have hs : BF 2 ⟨s0 - 2, s1 - 2, s2 - 2, s3 - 2, s4 - 2, s5 - 2⟩ := ⟨by show (s0 - 2).natAbs < 4; omega, by show (s1 - 2).natAbs < 4; omega, by show (s2 - 2).natAbs < 4; omega, by show (s3 - 2).natAbs < 4; omega, by show (s4 - 2).natAbs < 4; omega, by show (s5 - 2).natAbs < 4; omega⟩
  have es : PyData.tuple [.int (s0 - 2), .int (s1 - 2), .int (s2 - 2), .int (s3 - 2), .int (s4 - 2), .int (s5 - 2)] = fm true ⟨s0 - 2, s1 - 2, s2 - 2, s3 - 2, s4 - 2, s5 - 2⟩ := rfl
  generalize hsm : (⟨s0 - 2, s1 - 2, s2 - 2, s3 - 2, s4 - 2, s5 - 2⟩ : F6) = sm at hs es
  have nf3 := w_new_form (o := d3) hs hC hv (by decide)
  have hsc : BF 24 (sm.chg C) := (bf_chg hs hC).mono (by decide)
  have C0 : C.det ≠ 0 := by omega
  have st2 := w_stays (o := d6) (hs.mono (by decide)) hsc C0
  have eb := w_back (j := true) (k := true) hC (by decide)
  have hCi : BM 100 C.inv := by
    unfold M3.inv
    haveI : Bd 1 C.det := ⟨by rcases dC with h | h <;> rw [h] <;> decide⟩
    exact BM.mono (bm_sm (n := 1) (m := 17) (i := C.det) (t := C.adj)) (by decide)
  have vb := v_changed (i := true) (j := true) (k := true) hsc hCi (by decide)
  rw [F6.chg_chg, M3.mul_inv dC, F6.chg_one] at vb
  have sr1 := w_steps_right (o := d5) hL hn
  have sr2 : m__law_steps_right [.list [], .int d5] = some (.bool true) := w_steps_right (L := []) (o := d5) (fun s hs => nomatch hs) (by decide)
  obtain ⟨stT, hstT⟩ := w_steps_table hL hn
  have cr := w_changes_right (o := d2) hT (hstT.mono (by decide)) (hC.mono (by decide)) g1
  have eD := w_determinant (j := true) (k := true) (t := T) (n := 300) (by decide)
  obtain ⟨M, eM, bM⟩ := max6 (f := f.chg T)
  unfold b_tail
  (refine Eq.trans (sSeq_eq (ρ' := ?_) ?_) ?_; rotate_left; ((conv => lhs; simp (config := {decide := true}) only [runD, List.map_cons, List.map_nil, List.replicate_zero, List.replicate_succ, List.cons_append, List.nil_append, List.append_nil, sRet, sRetN, sNx, sSeq, sSet, sSetF, sOwn, sTo, gsCons, gsNil, sPar, sPar3, eChain, sExp, sApp, sPut, sIf, sFrz, frz, frz1, List.foldl_cons, List.foldl_nil, eBin, eUn, eVar, eC, eAnd, eOr, eIf, eLend, flat, eIxO, eOfF, eTup, eAll, fAll, eCall, eIs, eSl, fSl, oNone, oSome, aNil, aCons, bVal, bAnd, bOr, bNot, bYes, blOf, gNot, iSeq, iRg1, iRg2, seq_l, seq_t, tup_l, tup_t, lst_l, lst_t, len_l, len_t, gIx_l, gIx_t, gNm, wipeR, List.getElem?_cons_zero, List.getElem?_cons_succ, List.set_cons_zero, List.set_cons_succ, Option.bind_some, Option.bind_none, Option.map_some, Option.map_none, if_true, if_false, decide_true, decide_false, Bool.not_true, Bool.not_false, Bool.false_eq_true, reduceIte, gAdd_i, gSub_i, gNeg_i, gLt_i, gLe_i, gGt_i, gGe_i, gEq_i, gNe_i, gMul_b, gMod_p, gFdiv_p, Nat.reduceAdd, Nat.reduceMul, Nat.reduceLeDiff, at0, at1, at2, at3, at4, at5, at6, at7, at8, at9, at10, at11, at12, at13, at14, at15, gSl_l, cut_pos, cut_from, cut_to, Int.reduceToNat, List.drop_succ_cons, List.drop_zero, List.take_succ_cons, List.take_zero, List.take_nil, Nat.reduceSub, Int.reduceAdd, Int.reduceSub, Int.reduceMul, Int.reduceMod, Int.reduceDiv, Int.reduceNeg, List.length_cons, List.length_nil, Nat.zero_add, fComp, compL, rg1_3, mInt, mAbs, mGcd, mMax2, mMin2, mMax3, mMin3, mIsqrt, isT, eT]); try rfl))
  (refine Eq.trans (sSeq_eq (ρ' := ?_) ?_) ?_; rotate_left; ((conv => lhs; simp (config := {decide := true}) only [runD, List.map_cons, List.map_nil, List.replicate_zero, List.replicate_succ, List.cons_append, List.nil_append, List.append_nil, sRet, sRetN, sNx, sSeq, sSet, sSetF, sOwn, sTo, gsCons, gsNil, sPar, sPar3, eChain, sExp, sApp, sPut, sIf, sFrz, frz, frz1, List.foldl_cons, List.foldl_nil, eBin, eUn, eVar, eC, eAnd, eOr, eIf, eLend, flat, eIxO, eOfF, eTup, eAll, fAll, eCall, eIs, eSl, fSl, oNone, oSome, aNil, aCons, bVal, bAnd, bOr, bNot, bYes, blOf, gNot, iSeq, iRg1, iRg2, seq_l, seq_t, tup_l, tup_t, lst_l, lst_t, len_l, len_t, gIx_l, gIx_t, gNm, wipeR, List.getElem?_cons_zero, List.getElem?_cons_succ, List.set_cons_zero, List.set_cons_succ, Option.bind_some, Option.bind_none, Option.map_some, Option.map_none, if_true, if_false, decide_true, decide_false, Bool.not_true, Bool.not_false, Bool.false_eq_true, reduceIte, gAdd_i, gSub_i, gNeg_i, gLt_i, gLe_i, gGt_i, gGe_i, gEq_i, gNe_i, gMul_b, gMod_p, gFdiv_p, Nat.reduceAdd, Nat.reduceMul, Nat.reduceLeDiff, at0, at1, at2, at3, at4, at5, at6, at7, at8, at9, at10, at11, at12, at13, at14, at15, gSl_l, cut_pos, cut_from, cut_to, Int.reduceToNat, List.drop_succ_cons, List.drop_zero, List.take_succ_cons, List.take_zero, List.take_nil, Nat.reduceSub, Int.reduceAdd, Int.reduceSub, Int.reduceMul, Int.reduceMod, Int.reduceDiv, Int.reduceNeg, List.length_cons, List.length_nil, Nat.zero_add, fComp, compL, rg1_3, mInt, mAbs, mGcd, mMax2, mMin2, mMax3, mMin3, mIsqrt, isT, row_t]); try rfl))
  (refine Eq.trans (sSeq_eq (ρ' := ?_) ?_) ?_; rotate_left; ((conv => lhs; simp (config := {decide := true}) only [runD, List.map_cons, List.map_nil, List.replicate_zero, List.replicate_succ, List.cons_append, List.nil_append, List.append_nil, sRet, sRetN, sNx, sSeq, sSet, sSetF, sOwn, sTo, gsCons, gsNil, sPar, sPar3, eChain, sExp, sApp, sPut, sIf, sFrz, frz, frz1, List.foldl_cons, List.foldl_nil, eBin, eUn, eVar, eC, eAnd, eOr, eIf, eLend, flat, eIxO, eOfF, eTup, eAll, fAll, eCall, eIs, eSl, fSl, oNone, oSome, aNil, aCons, bVal, bAnd, bOr, bNot, bYes, blOf, gNot, iSeq, iRg1, iRg2, seq_l, seq_t, tup_l, tup_t, lst_l, lst_t, len_l, len_t, gIx_l, gIx_t, gNm, wipeR, List.getElem?_cons_zero, List.getElem?_cons_succ, List.set_cons_zero, List.set_cons_succ, Option.bind_some, Option.bind_none, Option.map_some, Option.map_none, if_true, if_false, decide_true, decide_false, Bool.not_true, Bool.not_false, Bool.false_eq_true, reduceIte, gAdd_i, gSub_i, gNeg_i, gLt_i, gLe_i, gGt_i, gGe_i, gEq_i, gNe_i, gMul_b, gMod_p, gFdiv_p, Nat.reduceAdd, Nat.reduceMul, Nat.reduceLeDiff, at0, at1, at2, at3, at4, at5, at6, at7, at8, at9, at10, at11, at12, at13, at14, at15, gSl_l, cut_pos, cut_from, cut_to, Int.reduceToNat, List.drop_succ_cons, List.drop_zero, List.take_succ_cons, List.take_zero, List.take_nil, Nat.reduceSub, Int.reduceAdd, Int.reduceSub, Int.reduceMul, Int.reduceMod, Int.reduceDiv, Int.reduceNeg, List.length_cons, List.length_nil, Nat.zero_add, fComp, compL, rg1_3, mInt, mAbs, mGcd, mMax2, mMin2, mMax3, mMin3, mIsqrt, isT, nf]); try rfl))
  (refine Eq.trans (sSeq_eq (ρ' := ?_) ?_) ?_; rotate_left; ((conv => lhs; simp (config := {decide := true}) only [runD, List.map_cons, List.map_nil, List.replicate_zero, List.replicate_succ, List.cons_append, List.nil_append, List.append_nil, sRet, sRetN, sNx, sSeq, sSet, sSetF, sOwn, sTo, gsCons, gsNil, sPar, sPar3, eChain, sExp, sApp, sPut, sIf, sFrz, frz, frz1, List.foldl_cons, List.foldl_nil, eBin, eUn, eVar, eC, eAnd, eOr, eIf, eLend, flat, eIxO, eOfF, eTup, eAll, fAll, eCall, eIs, eSl, fSl, oNone, oSome, aNil, aCons, bVal, bAnd, bOr, bNot, bYes, blOf, gNot, iSeq, iRg1, iRg2, seq_l, seq_t, tup_l, tup_t, lst_l, lst_t, len_l, len_t, gIx_l, gIx_t, gNm, wipeR, List.getElem?_cons_zero, List.getElem?_cons_succ, List.set_cons_zero, List.set_cons_succ, Option.bind_some, Option.bind_none, Option.map_some, Option.map_none, if_true, if_false, decide_true, decide_false, Bool.not_true, Bool.not_false, Bool.false_eq_true, reduceIte, gAdd_i, gSub_i, gNeg_i, gLt_i, gLe_i, gGt_i, gGe_i, gEq_i, gNe_i, gMul_b, gMod_p, gFdiv_p, Nat.reduceAdd, Nat.reduceMul, Nat.reduceLeDiff, at0, at1, at2, at3, at4, at5, at6, at7, at8, at9, at10, at11, at12, at13, at14, at15, gSl_l, cut_pos, cut_from, cut_to, Int.reduceToNat, List.drop_succ_cons, List.drop_zero, List.take_succ_cons, List.take_zero, List.take_nil, Nat.reduceSub, Int.reduceAdd, Int.reduceSub, Int.reduceMul, Int.reduceMod, Int.reduceDiv, Int.reduceNeg, List.length_cons, List.length_nil, Nat.zero_add, fComp, compL, rg1_3, mInt, mAbs, mGcd, mMax2, mMin2, mMax3, mMin3, mIsqrt, isT, is_f]); try rfl))
  refine Eq.trans (sSeq_eq (ρ' := [.va (.list (ns.map .int)), .va (.list [.int d0, .int d1, .int d2, .int d3, .int d4, .int d5, .int d6, .int d7]), .va (.list [.int x0, .int x1, .int x2, .int x3, .int x4, .int x5, .int x6, .int x7, .int x8, .int x9, .int x10, .int x11, .int x12]), .va (.list (L.map (rw3 true))), .va (fm true f), .va (tb true true T), .va (rw3 true ⟨x10, x11, x12⟩), .va (fm true (f.chg T)), .un, .un, .un, .un, .un, .un]) ?_) ?_
  · by_cases c1 : M ≤ 40
    · by_cases c2 : T.det = 0
      · simp only [runD, List.map_cons, List.map_nil, List.replicate_zero, List.replicate_succ, List.cons_append, List.nil_append, List.append_nil, sRet, sRetN, sNx, sSeq, sSet, sSetF, sOwn, sTo, gsCons, gsNil, sPar, sPar3, eChain, sExp, sApp, sPut, sIf, sFrz, frz, frz1, List.foldl_cons, List.foldl_nil, eBin, eUn, eVar, eC, eAnd, eOr, eIf, eLend, flat, eIxO, eOfF, eTup, eAll, fAll, eCall, eIs, eSl, fSl, oNone, oSome, aNil, aCons, bVal, bAnd, bOr, bNot, bYes, blOf, gNot, iSeq, iRg1, iRg2, seq_l, seq_t, tup_l, tup_t, lst_l, lst_t, len_l, len_t, gIx_l, gIx_t, gNm, wipeR, List.getElem?_cons_zero, List.getElem?_cons_succ, List.set_cons_zero, List.set_cons_succ, Option.bind_some, Option.bind_none, Option.map_some, Option.map_none, if_true, if_false, decide_true, decide_false, Bool.not_true, Bool.not_false, Bool.false_eq_true, reduceIte, gAdd_i, gSub_i, gNeg_i, gLt_i, gLe_i, gGt_i, gGe_i, gEq_i, gNe_i, gMul_b, gMod_p, gFdiv_p, Nat.reduceAdd, Nat.reduceMul, Nat.reduceLeDiff, at0, at1, at2, at3, at4, at5, at6, at7, at8, at9, at10, at11, at12, at13, at14, at15, gSl_l, cut_pos, cut_from, cut_to, Int.reduceToNat, List.drop_succ_cons, List.drop_zero, List.take_succ_cons, List.take_zero, List.take_nil, Nat.reduceSub, Int.reduceAdd, Int.reduceSub, Int.reduceMul, Int.reduceMod, Int.reduceDiv, Int.reduceNeg, List.length_cons, List.length_nil, Nat.zero_add, fComp, compL, rg1_3, mInt, mAbs, mGcd, mMax2, mMin2, mMax3, mMin3, mIsqrt, isT, seq_f, eM, c1, eD, c2]
      · have st1 := w_stays (o := d5) hf ((bM c1).mono (by decide)) c2
        simp only [runD, List.map_cons, List.map_nil, List.replicate_zero, List.replicate_succ, List.cons_append, List.nil_append, List.append_nil, sRet, sRetN, sNx, sSeq, sSet, sSetF, sOwn, sTo, gsCons, gsNil, sPar, sPar3, eChain, sExp, sApp, sPut, sIf, sFrz, frz, frz1, List.foldl_cons, List.foldl_nil, eBin, eUn, eVar, eC, eAnd, eOr, eIf, eLend, flat, eIxO, eOfF, eTup, eAll, fAll, eCall, eIs, eSl, fSl, oNone, oSome, aNil, aCons, bVal, bAnd, bOr, bNot, bYes, blOf, gNot, iSeq, iRg1, iRg2, seq_l, seq_t, tup_l, tup_t, lst_l, lst_t, len_l, len_t, gIx_l, gIx_t, gNm, wipeR, List.getElem?_cons_zero, List.getElem?_cons_succ, List.set_cons_zero, List.set_cons_succ, Option.bind_some, Option.bind_none, Option.map_some, Option.map_none, if_true, if_false, decide_true, decide_false, Bool.not_true, Bool.not_false, Bool.false_eq_true, reduceIte, gAdd_i, gSub_i, gNeg_i, gLt_i, gLe_i, gGt_i, gGe_i, gEq_i, gNe_i, gMul_b, gMod_p, gFdiv_p, Nat.reduceAdd, Nat.reduceMul, Nat.reduceLeDiff, at0, at1, at2, at3, at4, at5, at6, at7, at8, at9, at10, at11, at12, at13, at14, at15, gSl_l, cut_pos, cut_from, cut_to, Int.reduceToNat, List.drop_succ_cons, List.drop_zero, List.take_succ_cons, List.take_zero, List.take_nil, Nat.reduceSub, Int.reduceAdd, Int.reduceSub, Int.reduceMul, Int.reduceMod, Int.reduceDiv, Int.reduceNeg, List.length_cons, List.length_nil, Nat.zero_add, fComp, compL, rg1_3, mInt, mAbs, mGcd, mMax2, mMin2, mMax3, mMin3, mIsqrt, isT, seq_f, eM, c1, eD, c2, st1]
    · simp only [runD, List.map_cons, List.map_nil, List.replicate_zero, List.replicate_succ, List.cons_append, List.nil_append, List.append_nil, sRet, sRetN, sNx, sSeq, sSet, sSetF, sOwn, sTo, gsCons, gsNil, sPar, sPar3, eChain, sExp, sApp, sPut, sIf, sFrz, frz, frz1, List.foldl_cons, List.foldl_nil, eBin, eUn, eVar, eC, eAnd, eOr, eIf, eLend, flat, eIxO, eOfF, eTup, eAll, fAll, eCall, eIs, eSl, fSl, oNone, oSome, aNil, aCons, bVal, bAnd, bOr, bNot, bYes, blOf, gNot, iSeq, iRg1, iRg2, seq_l, seq_t, tup_l, tup_t, lst_l, lst_t, len_l, len_t, gIx_l, gIx_t, gNm, wipeR, List.getElem?_cons_zero, List.getElem?_cons_succ, List.set_cons_zero, List.set_cons_succ, Option.bind_some, Option.bind_none, Option.map_some, Option.map_none, if_true, if_false, decide_true, decide_false, Bool.not_true, Bool.not_false, Bool.false_eq_true, reduceIte, gAdd_i, gSub_i, gNeg_i, gLt_i, gLe_i, gGt_i, gGe_i, gEq_i, gNe_i, gMul_b, gMod_p, gFdiv_p, Nat.reduceAdd, Nat.reduceMul, Nat.reduceLeDiff, at0, at1, at2, at3, at4, at5, at6, at7, at8, at9, at10, at11, at12, at13, at14, at15, gSl_l, cut_pos, cut_from, cut_to, Int.reduceToNat, List.drop_succ_cons, List.drop_zero, List.take_succ_cons, List.take_zero, List.take_nil, Nat.reduceSub, Int.reduceAdd, Int.reduceSub, Int.reduceMul, Int.reduceMod, Int.reduceDiv, Int.reduceNeg, List.length_cons, List.length_nil, Nat.zero_add, fComp, compL, rg1_3, mInt, mAbs, mGcd, mMax2, mMin2, mMax3, mMin3, mIsqrt, isT, seq_f, eM, c1]
  (refine Eq.trans (sSeq_eq (ρ' := ?_) ?_) ?_; rotate_left; ((conv => lhs; simp (config := {decide := true}) only [runD, List.map_cons, List.map_nil, List.replicate_zero, List.replicate_succ, List.cons_append, List.nil_append, List.append_nil, sRet, sRetN, sNx, sSeq, sSet, sSetF, sOwn, sTo, gsCons, gsNil, sPar, sPar3, eChain, sExp, sApp, sPut, sIf, sFrz, frz, frz1, List.foldl_cons, List.foldl_nil, eBin, eUn, eVar, eC, eAnd, eOr, eIf, eLend, flat, eIxO, eOfF, eTup, eAll, fAll, eCall, eIs, eSl, fSl, oNone, oSome, aNil, aCons, bVal, bAnd, bOr, bNot, bYes, blOf, gNot, iSeq, iRg1, iRg2, seq_l, seq_t, tup_l, tup_t, lst_l, lst_t, len_l, len_t, gIx_l, gIx_t, gNm, wipeR, List.getElem?_cons_zero, List.getElem?_cons_succ, List.set_cons_zero, List.set_cons_succ, Option.bind_some, Option.bind_none, Option.map_some, Option.map_none, if_true, if_false, decide_true, decide_false, Bool.not_true, Bool.not_false, Bool.false_eq_true, reduceIte, gAdd_i, gSub_i, gNeg_i, gLt_i, gLe_i, gGt_i, gGe_i, gEq_i, gNe_i, gMul_b, gMod_p, gFdiv_p, Nat.reduceAdd, Nat.reduceMul, Nat.reduceLeDiff, at0, at1, at2, at3, at4, at5, at6, at7, at8, at9, at10, at11, at12, at13, at14, at15, gSl_l, cut_pos, cut_from, cut_to, Int.reduceToNat, List.drop_succ_cons, List.drop_zero, List.take_succ_cons, List.take_zero, List.take_nil, Nat.reduceSub, Int.reduceAdd, Int.reduceSub, Int.reduceMul, Int.reduceMod, Int.reduceDiv, Int.reduceNeg, List.length_cons, List.length_nil, Nat.zero_add, fComp, compL, rg1_3, mInt, mAbs, mGcd, mMax2, mMin2, mMax3, mMin3, mIsqrt, isT, e19, eC']); try rfl))
  (refine Eq.trans (sSeq_eq (ρ' := ?_) ?_) ?_; rotate_left; ((conv => lhs; simp (config := {decide := true}) only [runD, List.map_cons, List.map_nil, List.replicate_zero, List.replicate_succ, List.cons_append, List.nil_append, List.append_nil, sRet, sRetN, sNx, sSeq, sSet, sSetF, sOwn, sTo, gsCons, gsNil, sPar, sPar3, eChain, sExp, sApp, sPut, sIf, sFrz, frz, frz1, List.foldl_cons, List.foldl_nil, eBin, eUn, eVar, eC, eAnd, eOr, eIf, eLend, flat, eIxO, eOfF, eTup, eAll, fAll, eCall, eIs, eSl, fSl, oNone, oSome, aNil, aCons, bVal, bAnd, bOr, bNot, bYes, blOf, gNot, iSeq, iRg1, iRg2, seq_l, seq_t, tup_l, tup_t, lst_l, lst_t, len_l, len_t, gIx_l, gIx_t, gNm, wipeR, List.getElem?_cons_zero, List.getElem?_cons_succ, List.set_cons_zero, List.set_cons_succ, Option.bind_some, Option.bind_none, Option.map_some, Option.map_none, if_true, if_false, decide_true, decide_false, Bool.not_true, Bool.not_false, Bool.false_eq_true, reduceIte, gAdd_i, gSub_i, gNeg_i, gLt_i, gLe_i, gGt_i, gGe_i, gEq_i, gNe_i, gMul_b, gMod_p, gFdiv_p, Nat.reduceAdd, Nat.reduceMul, Nat.reduceLeDiff, at0, at1, at2, at3, at4, at5, at6, at7, at8, at9, at10, at11, at12, at13, at14, at15, gSl_l, cut_pos, cut_from, cut_to, Int.reduceToNat, List.drop_succ_cons, List.drop_zero, List.take_succ_cons, List.take_zero, List.take_nil, Nat.reduceSub, Int.reduceAdd, Int.reduceSub, Int.reduceMul, Int.reduceMod, Int.reduceDiv, Int.reduceNeg, List.length_cons, List.length_nil, Nat.zero_add, fComp, compL, rg1_3, mInt, mAbs, mGcd, mMax2, mMin2, mMax3, mMin3, mIsqrt, isT, nf2, pTC, ch, ne_f]); try rfl))
  (refine Eq.trans (sSeq_eq (ρ' := ?_) ?_) ?_; rotate_left; ((conv => lhs; simp (config := {decide := true}) only [runD, List.map_cons, List.map_nil, List.replicate_zero, List.replicate_succ, List.cons_append, List.nil_append, List.append_nil, sRet, sRetN, sNx, sSeq, sSet, sSetF, sOwn, sTo, gsCons, gsNil, sPar, sPar3, eChain, sExp, sApp, sPut, sIf, sFrz, frz, frz1, List.foldl_cons, List.foldl_nil, eBin, eUn, eVar, eC, eAnd, eOr, eIf, eLend, flat, eIxO, eOfF, eTup, eAll, fAll, eCall, eIs, eSl, fSl, oNone, oSome, aNil, aCons, bVal, bAnd, bOr, bNot, bYes, blOf, gNot, iSeq, iRg1, iRg2, seq_l, seq_t, tup_l, tup_t, lst_l, lst_t, len_l, len_t, gIx_l, gIx_t, gNm, wipeR, List.getElem?_cons_zero, List.getElem?_cons_succ, List.set_cons_zero, List.set_cons_succ, Option.bind_some, Option.bind_none, Option.map_some, Option.map_none, if_true, if_false, decide_true, decide_false, Bool.not_true, Bool.not_false, Bool.false_eq_true, reduceIte, gAdd_i, gSub_i, gNeg_i, gLt_i, gLe_i, gGt_i, gGe_i, gEq_i, gNe_i, gMul_b, gMod_p, gFdiv_p, Nat.reduceAdd, Nat.reduceMul, Nat.reduceLeDiff, at0, at1, at2, at3, at4, at5, at6, at7, at8, at9, at10, at11, at12, at13, at14, at15, gSl_l, cut_pos, cut_from, cut_to, Int.reduceToNat, List.drop_succ_cons, List.drop_zero, List.take_succ_cons, List.take_zero, List.take_nil, Nat.reduceSub, Int.reduceAdd, Int.reduceSub, Int.reduceMul, Int.reduceMod, Int.reduceDiv, Int.reduceNeg, List.length_cons, List.length_nil, Nat.zero_add, fComp, compL, rg1_3, mInt, mAbs, mGcd, mMax2, mMin2, mMax3, mMin3, mIsqrt, isT, e20, q2, es]); try rfl))
  (refine Eq.trans (sSeq_eq (ρ' := ?_) ?_) ?_; rotate_left; ((conv => lhs; simp (config := {decide := true}) only [runD, List.map_cons, List.map_nil, List.replicate_zero, List.replicate_succ, List.cons_append, List.nil_append, List.append_nil, sRet, sRetN, sNx, sSeq, sSet, sSetF, sOwn, sTo, gsCons, gsNil, sPar, sPar3, eChain, sExp, sApp, sPut, sIf, sFrz, frz, frz1, List.foldl_cons, List.foldl_nil, eBin, eUn, eVar, eC, eAnd, eOr, eIf, eLend, flat, eIxO, eOfF, eTup, eAll, fAll, eCall, eIs, eSl, fSl, oNone, oSome, aNil, aCons, bVal, bAnd, bOr, bNot, bYes, blOf, gNot, iSeq, iRg1, iRg2, seq_l, seq_t, tup_l, tup_t, lst_l, lst_t, len_l, len_t, gIx_l, gIx_t, gNm, wipeR, List.getElem?_cons_zero, List.getElem?_cons_succ, List.set_cons_zero, List.set_cons_succ, Option.bind_some, Option.bind_none, Option.map_some, Option.map_none, if_true, if_false, decide_true, decide_false, Bool.not_true, Bool.not_false, Bool.false_eq_true, reduceIte, gAdd_i, gSub_i, gNeg_i, gLt_i, gLe_i, gGt_i, gGe_i, gEq_i, gNe_i, gMul_b, gMod_p, gFdiv_p, Nat.reduceAdd, Nat.reduceMul, Nat.reduceLeDiff, at0, at1, at2, at3, at4, at5, at6, at7, at8, at9, at10, at11, at12, at13, at14, at15, gSl_l, cut_pos, cut_from, cut_to, Int.reduceToNat, List.drop_succ_cons, List.drop_zero, List.take_succ_cons, List.take_zero, List.take_nil, Nat.reduceSub, Int.reduceAdd, Int.reduceSub, Int.reduceMul, Int.reduceMod, Int.reduceDiv, Int.reduceNeg, List.length_cons, List.length_nil, Nat.zero_add, fComp, compL, rg1_3, mInt, mAbs, mGcd, mMax2, mMin2, mMax3, mMin3, mIsqrt, isT, nf3]); try rfl))
  (refine Eq.trans (sSeq_eq (ρ' := ?_) ?_) ?_; rotate_left; ((conv => lhs; simp (config := {decide := true}) only [runD, List.map_cons, List.map_nil, List.replicate_zero, List.replicate_succ, List.cons_append, List.nil_append, List.append_nil, sRet, sRetN, sNx, sSeq, sSet, sSetF, sOwn, sTo, gsCons, gsNil, sPar, sPar3, eChain, sExp, sApp, sPut, sIf, sFrz, frz, frz1, List.foldl_cons, List.foldl_nil, eBin, eUn, eVar, eC, eAnd, eOr, eIf, eLend, flat, eIxO, eOfF, eTup, eAll, fAll, eCall, eIs, eSl, fSl, oNone, oSome, aNil, aCons, bVal, bAnd, bOr, bNot, bYes, blOf, gNot, iSeq, iRg1, iRg2, seq_l, seq_t, tup_l, tup_t, lst_l, lst_t, len_l, len_t, gIx_l, gIx_t, gNm, wipeR, List.getElem?_cons_zero, List.getElem?_cons_succ, List.set_cons_zero, List.set_cons_succ, Option.bind_some, Option.bind_none, Option.map_some, Option.map_none, if_true, if_false, decide_true, decide_false, Bool.not_true, Bool.not_false, Bool.false_eq_true, reduceIte, gAdd_i, gSub_i, gNeg_i, gLt_i, gLe_i, gGt_i, gGe_i, gEq_i, gNe_i, gMul_b, gMod_p, gFdiv_p, Nat.reduceAdd, Nat.reduceMul, Nat.reduceLeDiff, at0, at1, at2, at3, at4, at5, at6, at7, at8, at9, at10, at11, at12, at13, at14, at15, gSl_l, cut_pos, cut_from, cut_to, Int.reduceToNat, List.drop_succ_cons, List.drop_zero, List.take_succ_cons, List.take_zero, List.take_nil, Nat.reduceSub, Int.reduceAdd, Int.reduceSub, Int.reduceMul, Int.reduceMod, Int.reduceDiv, Int.reduceNeg, List.length_cons, List.length_nil, Nat.zero_add, fComp, compL, rg1_3, mInt, mAbs, mGcd, mMax2, mMin2, mMax3, mMin3, mIsqrt, isT, is_f, st2]); try rfl))
  (refine Eq.trans (sSeq_eq (ρ' := ?_) ?_) ?_; rotate_left; ((conv => lhs; simp (config := {decide := true}) only [runD, List.map_cons, List.map_nil, List.replicate_zero, List.replicate_succ, List.cons_append, List.nil_append, List.append_nil, sRet, sRetN, sNx, sSeq, sSet, sSetF, sOwn, sTo, gsCons, gsNil, sPar, sPar3, eChain, sExp, sApp, sPut, sIf, sFrz, frz, frz1, List.foldl_cons, List.foldl_nil, eBin, eUn, eVar, eC, eAnd, eOr, eIf, eLend, flat, eIxO, eOfF, eTup, eAll, fAll, eCall, eIs, eSl, fSl, oNone, oSome, aNil, aCons, bVal, bAnd, bOr, bNot, bYes, blOf, gNot, iSeq, iRg1, iRg2, seq_l, seq_t, tup_l, tup_t, lst_l, lst_t, len_l, len_t, gIx_l, gIx_t, gNm, wipeR, List.getElem?_cons_zero, List.getElem?_cons_succ, List.set_cons_zero, List.set_cons_succ, Option.bind_some, Option.bind_none, Option.map_some, Option.map_none, if_true, if_false, decide_true, decide_false, Bool.not_true, Bool.not_false, Bool.false_eq_true, reduceIte, gAdd_i, gSub_i, gNeg_i, gLt_i, gLe_i, gGt_i, gGe_i, gEq_i, gNe_i, gMul_b, gMod_p, gFdiv_p, Nat.reduceAdd, Nat.reduceMul, Nat.reduceLeDiff, at0, at1, at2, at3, at4, at5, at6, at7, at8, at9, at10, at11, at12, at13, at14, at15, gSl_l, cut_pos, cut_from, cut_to, Int.reduceToNat, List.drop_succ_cons, List.drop_zero, List.take_succ_cons, List.take_zero, List.take_nil, Nat.reduceSub, Int.reduceAdd, Int.reduceSub, Int.reduceMul, Int.reduceMod, Int.reduceDiv, Int.reduceNeg, List.length_cons, List.length_nil, Nat.zero_add, fComp, compL, rg1_3, mInt, mAbs, mGcd, mMax2, mMin2, mMax3, mMin3, mIsqrt, isT, eb, vb]); try rfl))
  (refine Eq.trans (sSeq_eq (ρ' := ?_) ?_) ?_; rotate_left; ((conv => lhs; simp (config := {decide := true}) only [runD, List.map_cons, List.map_nil, List.replicate_zero, List.replicate_succ, List.cons_append, List.nil_append, List.append_nil, sRet, sRetN, sNx, sSeq, sSet, sSetF, sOwn, sTo, gsCons, gsNil, sPar, sPar3, eChain, sExp, sApp, sPut, sIf, sFrz, frz, frz1, List.foldl_cons, List.foldl_nil, eBin, eUn, eVar, eC, eAnd, eOr, eIf, eLend, flat, eIxO, eOfF, eTup, eAll, fAll, eCall, eIs, eSl, fSl, oNone, oSome, aNil, aCons, bVal, bAnd, bOr, bNot, bYes, blOf, gNot, iSeq, iRg1, iRg2, seq_l, seq_t, tup_l, tup_t, lst_l, lst_t, len_l, len_t, gIx_l, gIx_t, gNm, wipeR, List.getElem?_cons_zero, List.getElem?_cons_succ, List.set_cons_zero, List.set_cons_succ, Option.bind_some, Option.bind_none, Option.map_some, Option.map_none, if_true, if_false, decide_true, decide_false, Bool.not_true, Bool.not_false, Bool.false_eq_true, reduceIte, gAdd_i, gSub_i, gNeg_i, gLt_i, gLe_i, gGt_i, gGe_i, gEq_i, gNe_i, gMul_b, gMod_p, gFdiv_p, Nat.reduceAdd, Nat.reduceMul, Nat.reduceLeDiff, at0, at1, at2, at3, at4, at5, at6, at7, at8, at9, at10, at11, at12, at13, at14, at15, gSl_l, cut_pos, cut_from, cut_to, Int.reduceToNat, List.drop_succ_cons, List.drop_zero, List.take_succ_cons, List.take_zero, List.take_nil, Nat.reduceSub, Int.reduceAdd, Int.reduceSub, Int.reduceMul, Int.reduceMod, Int.reduceDiv, Int.reduceNeg, List.length_cons, List.length_nil, Nat.zero_add, fComp, compL, rg1_3, mInt, mAbs, mGcd, mMax2, mMin2, mMax3, mMin3, mIsqrt, isT, w_is_row6, ne_f]); try rfl))
  (refine Eq.trans (sSeq_eq (ρ' := ?_) ?_) ?_; rotate_left; ((conv => lhs; simp (config := {decide := true}) only [runD, List.map_cons, List.map_nil, List.replicate_zero, List.replicate_succ, List.cons_append, List.nil_append, List.append_nil, sRet, sRetN, sNx, sSeq, sSet, sSetF, sOwn, sTo, gsCons, gsNil, sPar, sPar3, eChain, sExp, sApp, sPut, sIf, sFrz, frz, frz1, List.foldl_cons, List.foldl_nil, eBin, eUn, eVar, eC, eAnd, eOr, eIf, eLend, flat, eIxO, eOfF, eTup, eAll, fAll, eCall, eIs, eSl, fSl, oNone, oSome, aNil, aCons, bVal, bAnd, bOr, bNot, bYes, blOf, gNot, iSeq, iRg1, iRg2, seq_l, seq_t, tup_l, tup_t, lst_l, lst_t, len_l, len_t, gIx_l, gIx_t, gNm, wipeR, List.getElem?_cons_zero, List.getElem?_cons_succ, List.set_cons_zero, List.set_cons_succ, Option.bind_some, Option.bind_none, Option.map_some, Option.map_none, if_true, if_false, decide_true, decide_false, Bool.not_true, Bool.not_false, Bool.false_eq_true, reduceIte, gAdd_i, gSub_i, gNeg_i, gLt_i, gLe_i, gGt_i, gGe_i, gEq_i, gNe_i, gMul_b, gMod_p, gFdiv_p, Nat.reduceAdd, Nat.reduceMul, Nat.reduceLeDiff, at0, at1, at2, at3, at4, at5, at6, at7, at8, at9, at10, at11, at12, at13, at14, at15, gSl_l, cut_pos, cut_from, cut_to, Int.reduceToNat, List.drop_succ_cons, List.drop_zero, List.take_succ_cons, List.take_zero, List.take_nil, Nat.reduceSub, Int.reduceAdd, Int.reduceSub, Int.reduceMul, Int.reduceMod, Int.reduceDiv, Int.reduceNeg, List.length_cons, List.length_nil, Nat.zero_add, fComp, compL, rg1_3, mInt, mAbs, mGcd, mMax2, mMin2, mMax3, mMin3, mIsqrt, isT, sr1, sr2]); try rfl))
  simp only [runD, List.map_cons, List.map_nil, List.replicate_zero, List.replicate_succ, List.cons_append, List.nil_append, List.append_nil, sRet, sRetN, sNx, sSeq, sSet, sSetF, sOwn, sTo, gsCons, gsNil, sPar, sPar3, eChain, sExp, sApp, sPut, sIf, sFrz, frz, frz1, List.foldl_cons, List.foldl_nil, eBin, eUn, eVar, eC, eAnd, eOr, eIf, eLend, flat, eIxO, eOfF, eTup, eAll, fAll, eCall, eIs, eSl, fSl, oNone, oSome, aNil, aCons, bVal, bAnd, bOr, bNot, bYes, blOf, gNot, iSeq, iRg1, iRg2, seq_l, seq_t, tup_l, tup_t, lst_l, lst_t, len_l, len_t, gIx_l, gIx_t, gNm, wipeR, List.getElem?_cons_zero, List.getElem?_cons_succ, List.set_cons_zero, List.set_cons_succ, Option.bind_some, Option.bind_none, Option.map_some, Option.map_none, if_true, if_false, decide_true, decide_false, Bool.not_true, Bool.not_false, Bool.false_eq_true, reduceIte, gAdd_i, gSub_i, gNeg_i, gLt_i, gLe_i, gGt_i, gGe_i, gEq_i, gNe_i, gMul_b, gMod_p, gFdiv_p, Nat.reduceAdd, Nat.reduceMul, Nat.reduceLeDiff, at0, at1, at2, at3, at4, at5, at6, at7, at8, at9, at10, at11, at12, at13, at14, at15, gSl_l, cut_pos, cut_from, cut_to, Int.reduceToNat, List.drop_succ_cons, List.drop_zero, List.take_succ_cons, List.take_zero, List.take_nil, Nat.reduceSub, Int.reduceAdd, Int.reduceSub, Int.reduceMul, Int.reduceMod, Int.reduceDiv, Int.reduceNeg, List.length_cons, List.length_nil, Nat.zero_add, fComp, compL, rg1_3, mInt, mAbs, mGcd, mMax2, mMin2, mMax3, mMin3, mIsqrt, isT, stT, cr]
theorem law_true (ns : List Int) (h : ns.length ≤ 63) (hb : ∀ z ∈ ns, Builtin.Int.intBits z ≤ 1048576) : m_law [.list (ns.map PyData.int)] = some (.bool true) := by
  obtain ⟨c0, e0⟩ := w_cell ns 0 (by decide) (by decide)
  obtain ⟨c17, e17⟩ := w_cell ns 17 (by decide) (by decide)
  obtain ⟨c18, e18⟩ := w_cell ns 18 (by decide) (by decide)
  obtain ⟨ds, q1, q2⟩ := w_digits c0 [5, 3, 4, 4, 13, 2, 2, 3] (by decide) (by decide)
  obtain ⟨d0, r, rfl, a0, b0, q1⟩ := inD_cons q1
  obtain ⟨d1, r, rfl, a1, b1, q1⟩ := inD_cons q1
  obtain ⟨d2, r, rfl, a2, b2, q1⟩ := inD_cons q1
  obtain ⟨d3, r, rfl, a3, b3, q1⟩ := inD_cons q1
  obtain ⟨d4, r, rfl, a4, b4, q1⟩ := inD_cons q1
  obtain ⟨d5, r, rfl, a5, b5, q1⟩ := inD_cons q1
  obtain ⟨d6, r, rfl, a6, b6, q1⟩ := inD_cons q1
  obtain ⟨d7, r, rfl, a7, b7, q1⟩ := inD_cons q1
  obtain rfl := inD_nil q1
  simp only [List.map_cons, List.map_nil] at q2
  obtain ⟨L, hn, hL, eL⟩ := w_steps ns ⟨a4, b4⟩
  obtain ⟨f0, hf0, ef0⟩ := w_any_form c17 c18
  obtain ⟨l, n1, n2⟩ := numbers_go ns (.va (.list [.int d0, .int d1, .int d2, .int d3, .int d4, .int d5, .int d6, .int d7])) .un .un .un .un .un .un .un .un .un .un .un 13 1 (by decide) (by decide)
  have n3 : rg2 (.int 1) (.int 14) = some (rng 1 13) := rg2_lit 1 14 (by decide) (by decide) (by decide) (by decide)
  have n4 : (rng 1 13).length ≤ 16000000 := by rw [rng_len]; decide
  obtain ⟨x0, l, rfl, h0, n1⟩ := n1.cons
  obtain ⟨x1, l, rfl, h1, n1⟩ := n1.cons
  obtain ⟨x2, l, rfl, h2, n1⟩ := n1.cons
  obtain ⟨x3, l, rfl, h3, n1⟩ := n1.cons
  obtain ⟨x4, l, rfl, h4, n1⟩ := n1.cons
  obtain ⟨x5, l, rfl, h5, n1⟩ := n1.cons
  obtain ⟨x6, l, rfl, h6, n1⟩ := n1.cons
  obtain ⟨x7, l, rfl, h7, n1⟩ := n1.cons
  obtain ⟨x8, l, rfl, h8, n1⟩ := n1.cons
  obtain ⟨x9, l, rfl, h9, n1⟩ := n1.cons
  obtain ⟨x10, l, rfl, h10, n1⟩ := n1.cons
  obtain ⟨x11, l, rfl, h11, n1⟩ := n1.cons
  obtain ⟨x12, l, rfl, h12, n1⟩ := n1.cons
  obtain rfl := n1.nil
  simp only [List.map_cons, List.map_nil] at n2
  obtain ⟨l2, m1, m2⟩ := numbers_go ns (.va (.list [.int d0, .int d1, .int d2, .int d3, .int d4, .int d5, .int d6, .int d7])) (.va (.list [.int x0, .int x1, .int x2, .int x3, .int x4, .int x5, .int x6, .int x7, .int x8, .int x9, .int x10, .int x11, .int x12])) (.va (.list (L.map (rw3 true)))) (.va (fm true f0)) .un .un .un .un .un .un .un .un 6 21 (by decide) (by decide)
  have m3 : rg2 (.int 21) (.int 27) = some (rng 21 6) := rg2_lit 21 27 (by decide) (by decide) (by decide) (by decide)
  have m4 : (rng 21 6).length ≤ 16000000 := by rw [rng_len]; decide
  obtain ⟨z0, l2, rfl, k0, m1⟩ := m1.cons
  obtain ⟨z1, l2, rfl, k1, m1⟩ := m1.cons
  obtain ⟨z2, l2, rfl, k2, m1⟩ := m1.cons
  obtain ⟨z3, l2, rfl, k3, m1⟩ := m1.cons
  obtain ⟨z4, l2, rfl, k4, m1⟩ := m1.cons
  obtain ⟨z5, l2, rfl, k5, m1⟩ := m1.cons
  obtain rfl := m1.nil
  simp only [List.map_cons, List.map_nil] at m2
  have hz : BF 110 ⟨z0, z1, z2, z3, z4, z5⟩ := ⟨Bd.mono k0.lt (by decide), Bd.mono k1.lt (by decide), Bd.mono k2.lt (by decide), Bd.mono k3.lt (by decide), Bd.mono k4.lt (by decide), Bd.mono k5.lt (by decide)⟩
  have key : ∀ f : F6, BF 110 f → b_tail [.va (.list (ns.map .int)), .va (.list [.int d0, .int d1, .int d2, .int d3, .int d4, .int d5, .int d6, .int d7]), .va (.list [.int x0, .int x1, .int x2, .int x3, .int x4, .int x5, .int x6, .int x7, .int x8, .int x9, .int x10, .int x11, .int x12]), .va (.list (L.map (rw3 true))), .va (fm true f), .un, .un, .un, .un, .un, .un, .un, .un, .un] = some (.rt (.bool true)) :=
    fun f hf => w_tail ns hL hn hf ⟨a0, b0⟩ ⟨a1, b1⟩
  refine run_rt (k := 13) (u := b_law) ?_
  simp only [List.map_cons, List.map_nil, List.replicate_succ, List.replicate_zero, List.cons_append, List.nil_append]
  unfold b_law
  (refine Eq.trans (sSeq_eq (ρ' := ?_) ?_) ?_; rotate_left; ((conv => lhs; simp (config := {decide := true}) only [runD, List.map_cons, List.map_nil, List.replicate_zero, List.replicate_succ, List.cons_append, List.nil_append, List.append_nil, sRet, sRetN, sNx, sSeq, sSet, sSetF, sOwn, sTo, gsCons, gsNil, sPar, sPar3, eChain, sExp, sApp, sPut, sIf, sFrz, frz, frz1, List.foldl_cons, List.foldl_nil, eBin, eUn, eVar, eC, eAnd, eOr, eIf, eLend, flat, eIxO, eOfF, eTup, eAll, fAll, eCall, eIs, eSl, fSl, oNone, oSome, aNil, aCons, bVal, bAnd, bOr, bNot, bYes, blOf, gNot, iSeq, iRg1, iRg2, seq_l, seq_t, tup_l, tup_t, lst_l, lst_t, len_l, len_t, gIx_l, gIx_t, gNm, wipeR, List.getElem?_cons_zero, List.getElem?_cons_succ, List.set_cons_zero, List.set_cons_succ, Option.bind_some, Option.bind_none, Option.map_some, Option.map_none, if_true, if_false, decide_true, decide_false, Bool.not_true, Bool.not_false, Bool.false_eq_true, reduceIte, gAdd_i, gSub_i, gNeg_i, gLt_i, gLe_i, gGt_i, gGe_i, gEq_i, gNe_i, gMul_b, gMod_p, gFdiv_p, Nat.reduceAdd, Nat.reduceMul, Nat.reduceLeDiff, at0, at1, at2, at3, at4, at5, at6, at7, at8, at9, at10, at11, at12, at13, at14, at15, gSl_l, cut_pos, cut_from, cut_to, Int.reduceToNat, List.drop_succ_cons, List.drop_zero, List.take_succ_cons, List.take_zero, List.take_nil, Nat.reduceSub, Int.reduceAdd, Int.reduceSub, Int.reduceMul, Int.reduceMod, Int.reduceDiv, Int.reduceNeg, List.length_cons, List.length_nil, Nat.zero_add, fComp, compL, rg1_3, mInt, mAbs, mGcd, mMax2, mMin2, mMax3, mMin3, mIsqrt, isT, e0, q2]); try rfl))
  (refine Eq.trans (sSeq_eq (ρ' := ?_) ?_) ?_; rotate_left; ((conv => lhs; simp (config := {decide := true}) only [runD, List.map_cons, List.map_nil, List.replicate_zero, List.replicate_succ, List.cons_append, List.nil_append, List.append_nil, sRet, sRetN, sNx, sSeq, sSet, sSetF, sOwn, sTo, gsCons, gsNil, sPar, sPar3, eChain, sExp, sApp, sPut, sIf, sFrz, frz, frz1, List.foldl_cons, List.foldl_nil, eBin, eUn, eVar, eC, eAnd, eOr, eIf, eLend, flat, eIxO, eOfF, eTup, eAll, fAll, eCall, eIs, eSl, fSl, oNone, oSome, aNil, aCons, bVal, bAnd, bOr, bNot, bYes, blOf, gNot, iSeq, iRg1, iRg2, seq_l, seq_t, tup_l, tup_t, lst_l, lst_t, len_l, len_t, gIx_l, gIx_t, gNm, wipeR, List.getElem?_cons_zero, List.getElem?_cons_succ, List.set_cons_zero, List.set_cons_succ, Option.bind_some, Option.bind_none, Option.map_some, Option.map_none, if_true, if_false, decide_true, decide_false, Bool.not_true, Bool.not_false, Bool.false_eq_true, reduceIte, gAdd_i, gSub_i, gNeg_i, gLt_i, gLe_i, gGt_i, gGe_i, gEq_i, gNe_i, gMul_b, gMod_p, gFdiv_p, Nat.reduceAdd, Nat.reduceMul, Nat.reduceLeDiff, at0, at1, at2, at3, at4, at5, at6, at7, at8, at9, at10, at11, at12, at13, at14, at15, gSl_l, cut_pos, cut_from, cut_to, Int.reduceToNat, List.drop_succ_cons, List.drop_zero, List.take_succ_cons, List.take_zero, List.take_nil, Nat.reduceSub, Int.reduceAdd, Int.reduceSub, Int.reduceMul, Int.reduceMod, Int.reduceDiv, Int.reduceNeg, List.length_cons, List.length_nil, Nat.zero_add, fComp, compL, rg1_3, mInt, mAbs, mGcd, mMax2, mMin2, mMax3, mMin3, mIsqrt, isT, n2, n3, n4]); try rfl))
  (refine Eq.trans (sSeq_eq (ρ' := ?_) ?_) ?_; rotate_left; ((conv => lhs; simp (config := {decide := true}) only [runD, List.map_cons, List.map_nil, List.replicate_zero, List.replicate_succ, List.cons_append, List.nil_append, List.append_nil, sRet, sRetN, sNx, sSeq, sSet, sSetF, sOwn, sTo, gsCons, gsNil, sPar, sPar3, eChain, sExp, sApp, sPut, sIf, sFrz, frz, frz1, List.foldl_cons, List.foldl_nil, eBin, eUn, eVar, eC, eAnd, eOr, eIf, eLend, flat, eIxO, eOfF, eTup, eAll, fAll, eCall, eIs, eSl, fSl, oNone, oSome, aNil, aCons, bVal, bAnd, bOr, bNot, bYes, blOf, gNot, iSeq, iRg1, iRg2, seq_l, seq_t, tup_l, tup_t, lst_l, lst_t, len_l, len_t, gIx_l, gIx_t, gNm, wipeR, List.getElem?_cons_zero, List.getElem?_cons_succ, List.set_cons_zero, List.set_cons_succ, Option.bind_some, Option.bind_none, Option.map_some, Option.map_none, if_true, if_false, decide_true, decide_false, Bool.not_true, Bool.not_false, Bool.false_eq_true, reduceIte, gAdd_i, gSub_i, gNeg_i, gLt_i, gLe_i, gGt_i, gGe_i, gEq_i, gNe_i, gMul_b, gMod_p, gFdiv_p, Nat.reduceAdd, Nat.reduceMul, Nat.reduceLeDiff, at0, at1, at2, at3, at4, at5, at6, at7, at8, at9, at10, at11, at12, at13, at14, at15, gSl_l, cut_pos, cut_from, cut_to, Int.reduceToNat, List.drop_succ_cons, List.drop_zero, List.take_succ_cons, List.take_zero, List.take_nil, Nat.reduceSub, Int.reduceAdd, Int.reduceSub, Int.reduceMul, Int.reduceMod, Int.reduceDiv, Int.reduceNeg, List.length_cons, List.length_nil, Nat.zero_add, fComp, compL, rg1_3, mInt, mAbs, mGcd, mMax2, mMin2, mMax3, mMin3, mIsqrt, isT, eL]); try rfl))
  (refine Eq.trans (sSeq_eq (ρ' := ?_) ?_) ?_; rotate_left; ((conv => lhs; simp (config := {decide := true}) only [runD, List.map_cons, List.map_nil, List.replicate_zero, List.replicate_succ, List.cons_append, List.nil_append, List.append_nil, sRet, sRetN, sNx, sSeq, sSet, sSetF, sOwn, sTo, gsCons, gsNil, sPar, sPar3, eChain, sExp, sApp, sPut, sIf, sFrz, frz, frz1, List.foldl_cons, List.foldl_nil, eBin, eUn, eVar, eC, eAnd, eOr, eIf, eLend, flat, eIxO, eOfF, eTup, eAll, fAll, eCall, eIs, eSl, fSl, oNone, oSome, aNil, aCons, bVal, bAnd, bOr, bNot, bYes, blOf, gNot, iSeq, iRg1, iRg2, seq_l, seq_t, tup_l, tup_t, lst_l, lst_t, len_l, len_t, gIx_l, gIx_t, gNm, wipeR, List.getElem?_cons_zero, List.getElem?_cons_succ, List.set_cons_zero, List.set_cons_succ, Option.bind_some, Option.bind_none, Option.map_some, Option.map_none, if_true, if_false, decide_true, decide_false, Bool.not_true, Bool.not_false, Bool.false_eq_true, reduceIte, gAdd_i, gSub_i, gNeg_i, gLt_i, gLe_i, gGt_i, gGe_i, gEq_i, gNe_i, gMul_b, gMod_p, gFdiv_p, Nat.reduceAdd, Nat.reduceMul, Nat.reduceLeDiff, at0, at1, at2, at3, at4, at5, at6, at7, at8, at9, at10, at11, at12, at13, at14, at15, gSl_l, cut_pos, cut_from, cut_to, Int.reduceToNat, List.drop_succ_cons, List.drop_zero, List.take_succ_cons, List.take_zero, List.take_nil, Nat.reduceSub, Int.reduceAdd, Int.reduceSub, Int.reduceMul, Int.reduceMod, Int.reduceDiv, Int.reduceNeg, List.length_cons, List.length_nil, Nat.zero_add, fComp, compL, rg1_3, mInt, mAbs, mGcd, mMax2, mMin2, mMax3, mMin3, mIsqrt, isT, e17, e18, ef0]); try rfl))
  by_cases c7 : d7 = 0
  · subst c7
    (refine Eq.trans (sSeq_eq (ρ' := ?_) ?_) ?_; rotate_left; ((conv => lhs; simp (config := {decide := true}) only [runD, List.map_cons, List.map_nil, List.replicate_zero, List.replicate_succ, List.cons_append, List.nil_append, List.append_nil, sRet, sRetN, sNx, sSeq, sSet, sSetF, sOwn, sTo, gsCons, gsNil, sPar, sPar3, eChain, sExp, sApp, sPut, sIf, sFrz, frz, frz1, List.foldl_cons, List.foldl_nil, eBin, eUn, eVar, eC, eAnd, eOr, eIf, eLend, flat, eIxO, eOfF, eTup, eAll, fAll, eCall, eIs, eSl, fSl, oNone, oSome, aNil, aCons, bVal, bAnd, bOr, bNot, bYes, blOf, gNot, iSeq, iRg1, iRg2, seq_l, seq_t, tup_l, tup_t, lst_l, lst_t, len_l, len_t, gIx_l, gIx_t, gNm, wipeR, List.getElem?_cons_zero, List.getElem?_cons_succ, List.set_cons_zero, List.set_cons_succ, Option.bind_some, Option.bind_none, Option.map_some, Option.map_none, if_true, if_false, decide_true, decide_false, Bool.not_true, Bool.not_false, Bool.false_eq_true, reduceIte, gAdd_i, gSub_i, gNeg_i, gLt_i, gLe_i, gGt_i, gGe_i, gEq_i, gNe_i, gMul_b, gMod_p, gFdiv_p, Nat.reduceAdd, Nat.reduceMul, Nat.reduceLeDiff, at0, at1, at2, at3, at4, at5, at6, at7, at8, at9, at10, at11, at12, at13, at14, at15, gSl_l, cut_pos, cut_from, cut_to, Int.reduceToNat, List.drop_succ_cons, List.drop_zero, List.take_succ_cons, List.take_zero, List.take_nil, Nat.reduceSub, Int.reduceAdd, Int.reduceSub, Int.reduceMul, Int.reduceMod, Int.reduceDiv, Int.reduceNeg, List.length_cons, List.length_nil, Nat.zero_add, fComp, compL, rg1_3, mInt, mAbs, mGcd, mMax2, mMin2, mMax3, mMin3, mIsqrt, isT, m2, m3, m4, fm_t]); try rfl))
    exact key _ hz
  · (refine Eq.trans (sSeq_eq (ρ' := ?_) ?_) ?_; rotate_left; ((conv => lhs; simp (config := {decide := true}) only [runD, List.map_cons, List.map_nil, List.replicate_zero, List.replicate_succ, List.cons_append, List.nil_append, List.append_nil, sRet, sRetN, sNx, sSeq, sSet, sSetF, sOwn, sTo, gsCons, gsNil, sPar, sPar3, eChain, sExp, sApp, sPut, sIf, sFrz, frz, frz1, List.foldl_cons, List.foldl_nil, eBin, eUn, eVar, eC, eAnd, eOr, eIf, eLend, flat, eIxO, eOfF, eTup, eAll, fAll, eCall, eIs, eSl, fSl, oNone, oSome, aNil, aCons, bVal, bAnd, bOr, bNot, bYes, blOf, gNot, iSeq, iRg1, iRg2, seq_l, seq_t, tup_l, tup_t, lst_l, lst_t, len_l, len_t, gIx_l, gIx_t, gNm, wipeR, List.getElem?_cons_zero, List.getElem?_cons_succ, List.set_cons_zero, List.set_cons_succ, Option.bind_some, Option.bind_none, Option.map_some, Option.map_none, if_true, if_false, decide_true, decide_false, Bool.not_true, Bool.not_false, Bool.false_eq_true, reduceIte, gAdd_i, gSub_i, gNeg_i, gLt_i, gLe_i, gGt_i, gGe_i, gEq_i, gNe_i, gMul_b, gMod_p, gFdiv_p, Nat.reduceAdd, Nat.reduceMul, Nat.reduceLeDiff, at0, at1, at2, at3, at4, at5, at6, at7, at8, at9, at10, at11, at12, at13, at14, at15, gSl_l, cut_pos, cut_from, cut_to, Int.reduceToNat, List.drop_succ_cons, List.drop_zero, List.take_succ_cons, List.take_zero, List.take_nil, Nat.reduceSub, Int.reduceAdd, Int.reduceSub, Int.reduceMul, Int.reduceMod, Int.reduceDiv, Int.reduceNeg, List.length_cons, List.length_nil, Nat.zero_add, fComp, compL, rg1_3, mInt, mAbs, mGcd, mMax2, mMin2, mMax3, mMin3, mIsqrt, isT, c7]); try rfl))
    exact key _ (hf0.mono (by decide))
end W

set_option Elab.async false
set_option linter.all false
set_option maxRecDepth 100000
set_option maxHeartbeats 0
namespace W
open PySem PySem.Spec PyProof.Rows L2 DL
def hfa_0 : List Fct := [fFree "len", fFree "int", fFree "range", fFree "tuple", fFree "abs", fFree "isinstance", fFree "bool", fFree "list", fFree "max", fBlt "gcd" "math.gcd", fCon "TRIALS" c_TRIALS, fCon "IDLE" c_IDLE]
def hfa : List Fct := hfa_0
def hfn_0 : List He.DefD := [dfn "_law_cell" s__law_cell, dfn "_law_digits" s__law_digits, dfn "_law_number" s__law_number, dfn "_law_steps" s__law_steps, dfn "_law_any_form" s__law_any_form, dfn "_law_step_table" s__law_step_table, dfn "_law_turned" s__law_turned, dfn "_law_dot" s__law_dot, dfn "_law_product" s__law_product, dfn "_law_steps_table" s__law_steps_table, dfn "_law_table" s__law_table, dfn "_law_handed" s__law_handed, dfn "_law_handed_table" s__law_handed_table, dfn "gram" s_gram, dfn "transpose" s_transpose, dfn "dot" s_dot, dfn "product" s_product, dfn "form_of" s_form_of, dfn "changed" s_changed, dfn "_law_gram" s__law_gram, dfn "_law_changed" s__law_changed, dfn "_law_whole" s__law_whole, dfn "_law_is_row" s__law_is_row, dfn "_law_stayed" s__law_stayed, dfn "value" s_value, dfn "_law_image" s__law_image, dfn "_law_value" s__law_value, dfn "_law_cross" s__law_cross, dfn "_law_determinant" s__law_determinant, dfn "cross" s_cross]
def hfn_1 : List He.DefD := [dfn "determinant" s_determinant, dfn "form_determinant" s_form_determinant, dfn "_law_new_form" s__law_new_form, dfn "_law_signature" s__law_signature, dfn "image" s_image, dfn "visible_row" s_visible_row, dfn "content" s_content, dfn "primitive" s_primitive, dfn "ratio" s_ratio, dfn "times" s_times, dfn "square_taken" s_square_taken, dfn "completed" s_completed, dfn "ratio_sign" s_ratio_sign, dfn "signature" s_signature, dfn "is_one_minus" s_is_one_minus, dfn "_law_signature_stays" s__law_signature_stays, dfn "_law_times" s__law_times, dfn "_law_small_change" s__law_small_change, dfn "_law_back" s__law_back, dfn "step_table" s_step_table, dfn "table_of_steps" s_table_of_steps, dfn "_law_is_table" s__law_is_table, dfn "_law_steps_right" s__law_steps_right, dfn "is_change" s_is_change, dfn "_law_changes_right" s__law_changes_right, dfn "law" s_law]
def hfn : List He.DefD := hfn_0 ++ hfn_1
def hnm_0 : List Str := ["FewError", "ZeroBottom", "times", "dot", "cross", "content", "primitive", "IDLE", "image", "transpose", "product", "determinant", "value", "gram", "form_of", "form_determinant", "is_change", "changed", "step_table", "table_of_steps", "ratio", "ratio_sign", "TRIALS", "visible_row", "square_taken", "completed", "signature", "is_one_minus", "_law_whole", "_law_is_row"]
def hnm_1 : List Str := ["_law_is_table", "_law_cell", "_law_digits", "_law_number", "_law_dot", "_law_cross", "_law_times", "_law_image", "_law_turned", "_law_product", "_law_determinant", "_law_gram", "_law_value", "_law_back", "_law_changed", "_law_step_table", "_law_steps_table", "_law_any_form", "_law_signature", "_law_handed", "_law_handed_table", "_law_stayed", "_law_steps", "_law_small_change", "_law_table", "_law_new_form", "_law_signature_stays", "_law_changes_right", "_law_steps_right"]
def hnm : List Str := hnm_0 ++ hnm_1
abbrev R : PySem.W.OpenRow := PySem.W.OpenLaw.row PySem.Challenge.rw_fewfounders_k06_changed_forms
def has : List Addr := [3, 81, 80, 88, 87, 95, 94, 102, 101, 109, 108, 113, 110, 111, 112, 120, 119, 125, 124, 130, 129, 137, 136, 144, 143, 151, 150, 158, 157, 165, 164, 172, 171, 179, 178, 184, 183, 191, 190, 198, 197, 205, 204, 212, 206, 207, 208, 209, 210, 211, 219, 218, 224, 223, 231, 230, 236, 235, 243, 242, 250, 249, 257, 256, 264, 263, 271, 270, 278, 277, 285, 284, 292, 291, 299, 298, 306, 305, 313, 312, 318, 317, 323, 322, 330, 329, 337, 336, 344, 343, 349, 348, 356, 355, 361, 360, 368, 367, 373, 372, 378, 377, 383, 382, 388, 387, 393, 392, 400, 399, 405, 404, 410, 409, 417, 416, 424, 423, 431, 430, 436, 435, 441, 440]
abbrev hk : PySem.W.Hook := hookL has hfa hfn
def ob (s : PySem.W.SharedT) : He.AlD := obsL has hfa hfn (HandSHeadRun.getT s)
theorem ob_eq (s : PySem.W.SharedT) : ob s = hk.obs s.abs := obsL_eq (HandSHeadRun.getT_eq s)
theorem run (w : World) : HandSHeadRun.RunEqI R (PySem.W.view R.prog [0, 68]) hk ob 63160 hnm w := by
  unfold HandSHeadRun.RunEqI
  kernel_rfl
theorem facts {P : Program} {w : World} {K : PySem.W.Frag} {h : Heap} {mg : Str → Option Value} {f : Addr} (X : K.In h) (G : h.Ns mainGlobals mg) (hf0 : mg ("law" : Str) = some (.ref f)) (c : SaysX hfa hfn K) :
    ∃ fd : FuncData, (∀ (s : Shared) (v : Value), BindsTo s fd ⟨[v], []⟩ [("script", v)]) ∧ ∀ base : Heap, K.In base → base.Ns mainGlobals mg → FnOk P w K mg base CX0 8 f fd ["script"] (spD K 1 m_law) := by
  have z_len := c.free X G 0 "len"
  have z_int := c.free X G 1 "int"
  have z_range := c.free X G 2 "range"
  have z_tuple := c.free X G 3 "tuple"
  have z_abs := c.free X G 4 "abs"
  have z_isinstance := c.free X G 5 "isinstance"
  have z_bool := c.free X G 6 "bool"
  have z_list := c.free X G 7 "list"
  have z_max := c.free X G 8 "max"
  have g_gcd := c.blt X G 9 "gcd" "math.gcd"
  have k_TRIALS := c.con X G 10 "TRIALS" c_TRIALS
  have k_IDLE := c.con X G 11 "IDLE" c_IDLE
  have f__law_cell := c.fd X G 0 "_law_cell" s__law_cell
  have f__law_digits := c.fd X G 1 "_law_digits" s__law_digits
  have f__law_number := c.fd X G 2 "_law_number" s__law_number
  have f__law_steps := c.fd X G 3 "_law_steps" s__law_steps
  have f__law_any_form := c.fd X G 4 "_law_any_form" s__law_any_form
  have f__law_step_table := c.fd X G 5 "_law_step_table" s__law_step_table
  have f__law_turned := c.fd X G 6 "_law_turned" s__law_turned
  have f__law_dot := c.fd X G 7 "_law_dot" s__law_dot
  have f__law_product := c.fd X G 8 "_law_product" s__law_product
  have f__law_steps_table := c.fd X G 9 "_law_steps_table" s__law_steps_table
  have f__law_table := c.fd X G 10 "_law_table" s__law_table
  have f__law_handed := c.fd X G 11 "_law_handed" s__law_handed
  have f__law_handed_table := c.fd X G 12 "_law_handed_table" s__law_handed_table
  have f_gram := c.fd X G 13 "gram" s_gram
  have f_transpose := c.fd X G 14 "transpose" s_transpose
  have f_dot := c.fd X G 15 "dot" s_dot
  have f_product := c.fd X G 16 "product" s_product
  have f_form_of := c.fd X G 17 "form_of" s_form_of
  have f_changed := c.fd X G 18 "changed" s_changed
  have f__law_gram := c.fd X G 19 "_law_gram" s__law_gram
  have f__law_changed := c.fd X G 20 "_law_changed" s__law_changed
  have f__law_whole := c.fd X G 21 "_law_whole" s__law_whole
  have f__law_is_row := c.fd X G 22 "_law_is_row" s__law_is_row
  have f__law_stayed := c.fd X G 23 "_law_stayed" s__law_stayed
  have f_value := c.fd X G 24 "value" s_value
  have f__law_image := c.fd X G 25 "_law_image" s__law_image
  have f__law_value := c.fd X G 26 "_law_value" s__law_value
  have f__law_cross := c.fd X G 27 "_law_cross" s__law_cross
  have f__law_determinant := c.fd X G 28 "_law_determinant" s__law_determinant
  have f_cross := c.fd X G 29 "cross" s_cross
  have f_determinant := c.fd X G 30 "determinant" s_determinant
  have f_form_determinant := c.fd X G 31 "form_determinant" s_form_determinant
  have f__law_new_form := c.fd X G 32 "_law_new_form" s__law_new_form
  have f__law_signature := c.fd X G 33 "_law_signature" s__law_signature
  have f_image := c.fd X G 34 "image" s_image
  have f_visible_row := c.fd X G 35 "visible_row" s_visible_row
  have f_content := c.fd X G 36 "content" s_content
  have f_primitive := c.fd X G 37 "primitive" s_primitive
  have f_ratio := c.fd X G 38 "ratio" s_ratio
  have f_times := c.fd X G 39 "times" s_times
  have f_square_taken := c.fd X G 40 "square_taken" s_square_taken
  have f_completed := c.fd X G 41 "completed" s_completed
  have f_ratio_sign := c.fd X G 42 "ratio_sign" s_ratio_sign
  have f_signature := c.fd X G 43 "signature" s_signature
  have f_is_one_minus := c.fd X G 44 "is_one_minus" s_is_one_minus
  have f__law_signature_stays := c.fd X G 45 "_law_signature_stays" s__law_signature_stays
  have f__law_times := c.fd X G 46 "_law_times" s__law_times
  have f__law_small_change := c.fd X G 47 "_law_small_change" s__law_small_change
  have f__law_back := c.fd X G 48 "_law_back" s__law_back
  have f_step_table := c.fd X G 49 "step_table" s_step_table
  have f_table_of_steps := c.fd X G 50 "table_of_steps" s_table_of_steps
  have f__law_is_table := c.fd X G 51 "_law_is_table" s__law_is_table
  have f__law_steps_right := c.fd X G 52 "_law_steps_right" s__law_steps_right
  have f_is_change := c.fd X G 53 "is_change" s_is_change
  have f__law_changes_right := c.fd X G 54 "_law_changes_right" s__law_changes_right
  obtain ⟨fd, F, e⟩ := c.fnP X G 55 "law" s_law
  have e2 := hf0.symm.trans e
  cases e2
  have b := FunD.bindsA (ps := ["script"]) F fun _ _ _ _ _ _ us hl => match us, hl with | [_], _ => rfl
  refine ⟨fd, fun s v => b s [v] rfl, fun base _ _ => ?_⟩
  have d__law_cell := ok__law_cell (P := P) (w := w) (base := base) f__law_cell z_len z_int
  have d__law_digits := ok__law_digits (P := P) (w := w) (base := base) f__law_digits z_int z_range z_len
  have d__law_number := ok__law_number (P := P) (w := w) (base := base) f__law_number d__law_digits z_int
  have d__law_steps := ok__law_steps (P := P) (w := w) (base := base) f__law_steps d__law_cell d__law_digits z_range z_int
  have d__law_any_form := ok__law_any_form (P := P) (w := w) (base := base) f__law_any_form d__law_digits z_tuple z_int z_range z_abs
  have d__law_step_table := ok__law_step_table (P := P) (w := w) (base := base) f__law_step_table z_range z_int z_tuple
  have d__law_turned := ok__law_turned (P := P) (w := w) (base := base) f__law_turned z_range z_tuple
  have d__law_dot := ok__law_dot (P := P) (w := w) (base := base) f__law_dot 
  have d__law_product := ok__law_product (P := P) (w := w) (base := base) f__law_product d__law_turned d__law_dot z_tuple
  have d__law_steps_table := ok__law_steps_table (P := P) (w := w) (base := base) f__law_steps_table d__law_step_table d__law_product
  have d__law_table := ok__law_table (P := P) (w := w) (base := base) f__law_table d__law_steps_table z_int z_tuple
  have d__law_handed := ok__law_handed (P := P) (w := w) (base := base) f__law_handed z_tuple
  have d__law_handed_table := ok__law_handed_table (P := P) (w := w) (base := base) f__law_handed_table d__law_handed z_int z_tuple
  have d_gram := ok_gram (P := P) (w := w) (base := base) f_gram 
  have d_transpose := ok_transpose (P := P) (w := w) (base := base) f_transpose z_range z_tuple
  have d_dot := ok_dot (P := P) (w := w) (base := base) f_dot 
  have d_product := ok_product (P := P) (w := w) (base := base) f_product d_transpose d_dot z_tuple
  have d_form_of := ok_form_of (P := P) (w := w) (base := base) f_form_of 
  have d_changed := ok_changed (P := P) (w := w) (base := base) f_changed d_gram d_transpose d_product d_form_of
  have d__law_gram := ok__law_gram (P := P) (w := w) (base := base) f__law_gram 
  have d__law_changed := ok__law_changed (P := P) (w := w) (base := base) f__law_changed d__law_gram d__law_turned d__law_product
  have d__law_whole := ok__law_whole (P := P) (w := w) (base := base) f__law_whole z_isinstance z_bool z_int
  have d__law_is_row := ok__law_is_row (P := P) (w := w) (base := base) f__law_is_row d__law_whole z_len z_isinstance z_tuple
  have d__law_stayed := ok__law_stayed (P := P) (w := w) (base := base) f__law_stayed z_tuple z_len
  have d_value := ok_value (P := P) (w := w) (base := base) f_value 
  have d__law_image := ok__law_image (P := P) (w := w) (base := base) f__law_image d__law_dot
  have d__law_value := ok__law_value (P := P) (w := w) (base := base) f__law_value 
  have d__law_cross := ok__law_cross (P := P) (w := w) (base := base) f__law_cross 
  have d__law_determinant := ok__law_determinant (P := P) (w := w) (base := base) f__law_determinant d__law_cross d__law_dot
  have d_cross := ok_cross (P := P) (w := w) (base := base) f_cross 
  have d_determinant := ok_determinant (P := P) (w := w) (base := base) f_determinant d_cross d_dot
  have d_form_determinant := ok_form_determinant (P := P) (w := w) (base := base) f_form_determinant d_gram d_determinant
  have d__law_new_form := ok__law_new_form (P := P) (w := w) (base := base) f__law_new_form d__law_handed d__law_handed_table d_changed d__law_changed d__law_is_row d__law_stayed d_value d__law_image d__law_value d__law_whole d__law_determinant d_form_determinant d__law_gram z_int z_tuple
  have d__law_signature := ok__law_signature (P := P) (w := w) (base := base) f__law_signature z_range z_len
  have d_image := ok_image (P := P) (w := w) (base := base) f_image d_dot
  have d_visible_row := ok_visible_row (P := P) (w := w) (base := base) f_visible_row d_image d_dot k_TRIALS
  have d_content := ok_content (P := P) (w := w) (base := base) f_content g_gcd
  have d_primitive := ok_primitive (P := P) (w := w) (base := base) f_primitive d_content
  have d_ratio := ok_ratio (P := P) (w := w) (base := base) f_ratio g_gcd
  have d_times := ok_times (P := P) (w := w) (base := base) f_times 
  have d_square_taken := ok_square_taken (P := P) (w := w) (base := base) f_square_taken d_times z_range z_tuple
  have d_completed := ok_completed (P := P) (w := w) (base := base) f_completed d_gram d_visible_row d_image d_dot d_content d_primitive d_ratio d_square_taken z_tuple
  have d_ratio_sign := ok_ratio_sign (P := P) (w := w) (base := base) f_ratio_sign 
  have d_signature := ok_signature (P := P) (w := w) (base := base) f_signature d_completed d_ratio_sign z_len
  have d_is_one_minus := ok_is_one_minus (P := P) (w := w) (base := base) f_is_one_minus d_signature
  have d__law_signature_stays := ok__law_signature_stays (P := P) (w := w) (base := base) f__law_signature_stays d__law_signature d__law_handed d_signature d_is_one_minus d__law_is_row
  have d__law_times := ok__law_times (P := P) (w := w) (base := base) f__law_times 
  have d__law_small_change := ok__law_small_change (P := P) (w := w) (base := base) f__law_small_change d__law_digits d__law_step_table d__law_product d__law_times z_range z_int z_tuple
  have d__law_back := ok__law_back (P := P) (w := w) (base := base) f__law_back d__law_determinant d__law_cross d__law_turned d__law_times z_tuple
  have d_step_table := ok_step_table (P := P) (w := w) (base := base) f_step_table z_list z_tuple k_IDLE
  have d_table_of_steps := ok_table_of_steps (P := P) (w := w) (base := base) f_table_of_steps d_step_table d_product k_IDLE
  have d__law_is_table := ok__law_is_table (P := P) (w := w) (base := base) f__law_is_table d__law_is_row z_len z_isinstance z_tuple
  have d__law_steps_right := ok__law_steps_right (P := P) (w := w) (base := base) f__law_steps_right d__law_steps_table d__law_handed d_table_of_steps d__law_is_table z_tuple
  have d_is_change := ok_is_change (P := P) (w := w) (base := base) f_is_change d_determinant
  have d__law_changes_right := ok__law_changes_right (P := P) (w := w) (base := base) f__law_changes_right d__law_times d__law_handed_table d_is_change d__law_determinant z_list z_tuple
  exact fn_law F d__law_cell d__law_digits d__law_number d__law_steps d__law_any_form d__law_table d__law_new_form d__law_determinant d__law_signature_stays d__law_small_change d__law_product d__law_changed d__law_back d_changed d__law_is_row d__law_steps_right d__law_steps_table d__law_changes_right z_range z_tuple z_abs z_max
end W
open PySem PySem.W PySem.Calls PyProof.Rows
set_option maxRecDepth 100000 in
set_option maxHeartbeats 0 in
theorem PySem.Challenge.cw_fewfounders_k06_changed_forms_holds : PySem.Challenge.rw_fewfounders_k06_changed_forms.Holds := by
  w_on; o_law
  refine HandSHeadRun.head_imp (r := OpenLaw.row PySem.Challenge.rw_fewfounders_k06_changed_forms) (q := view (OpenLaw.row PySem.Challenge.rw_fewfounders_k06_changed_forms).prog [0, 68]) (H := W.hk) (ob := W.ob) (M := 63160) (loose := W.hnm) (d := HandSHeadRun.topDef (OpenLaw.row PySem.Challenge.rw_fewfounders_k06_changed_forms).prog 68) (kwd := []) W.ob_eq
    W.run (by kernel_rfl) (by kernel_rfl) (by kernel_rfl) (by rfl) (by first | assumption | decide +kernel) (by decide +kernel) ⟨rfl, rfl, rfl, rfl, rfl, by decide +kernel⟩ ?hw ?hc
  case hw => w_witness2
  case hc =>
    refine DL.walk_law (l := PySem.Challenge.rw_fewfounders_k06_changed_forms) (k := 8) (x := "script") (m := W.m_law) rfl (by kernel_rfl) ⟨rfl, by decide, by decide⟩ ?F W.law_true
    intro w mg fa h Y G hmg0
    obtain ⟨K, KX, c⟩ := Y
    have hmg : mg ("law" : PySem.Str) = some (.ref fa) := by
      have e : (HandSHeadRun.topDef (OpenLaw.row PySem.Challenge.rw_fewfounders_k06_changed_forms).prog 68).name = ("law" : PySem.Str) := by kernel_rfl
      rw [← e]
      exact hmg0
    obtain ⟨fd, hb, hF⟩ := W.facts (P := (PySem.Challenge.rw_fewfounders_k06_changed_forms).prog) (w := w) KX G hmg c
    exact ⟨K, fd, KX, hb, hF⟩
