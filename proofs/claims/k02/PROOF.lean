import PyProof.Rows.All
import Wide.All
import OpenK.AllK
import Wide.FinOn
import HandS.ForMost
import HandS.IsInst
import HandS.Gcd
import HandS.Wide
import HandS.Walk
import HandS.Flow
import HandS.NoneIn
import HandS.Defaults
import HandS.Exc
import HandS.ExcOwn
import HandS.WordsExc
import HandS.HeadHook1
import HandS.Style
import HandS.Flt
import KE.KStateDown
import HandS.Head0
import HandS.Head1
import HandS.Head2
import HandS.Head3
import HandS.HeadEnd
import HandS.HeadHook2
import HandS.EndBits
import HandS.SetFor
import KE.KIsAll
import KE.KExcIs
import HandS.ExcInit
import HandS.ExcField
import HandS.ExcIs
import Flt.RightSqrt
import PySem.Challenge.RW_fewfounders_k02_wholes_and_ratios
set_option Elab.async false
set_option linter.all false
set_option maxRecDepth 100000
set_option maxHeartbeats 4000000
/-! DL: plain data over the hand layer. -/
namespace DL
open PySem PySem.Spec PyProof.Rows L2

/-- what a slot holds: nothing known, a value, a list of one's own -/
inductive SC where
  | un | va (d : PyData) | ow (ds : List PyData)
abbrev Rho := List SC

section
variable {K : PySem.W.Frag} {F H F' H' F1 H1 F2 H2 B : Hp}
theorem sameT {a : Addr} {xs : List V} (e : Same F H) (h : SqT K F a xs) : SqT K H a xs := by
  rcases h with (h | ⟨o, h⟩) | h
  · exact .inl (.inl (e _ _ h))
  · exact .inl (.inr ⟨o, e _ _ h⟩)
  · exact .inr h
mutual
theorem dpMono (e : Same F H) : ∀ (d : PyData) (v : V), Dp K F v d → Dp K H v d
  | .none, _, h => by cases h; exact .non
  | .bool b, _, h => by cases h; exact .bl b
  | .int i, _, h => by cases h; exact .int i
  | .str x, _, h => by cases h; exact .str x
  | .list ds, _, h => by
    cases h with
    | lst a b => exact .lst (e.seq a) (dpMonoAll e ds _ b)
  | .tuple ds, _, h => by
    cases h with
    | tup a b => exact .tup (sameT e a) (dpMonoAll e ds _ b)
  | .dict _, _, h => by cases h
theorem dpMonoAll (e : Same F H) : ∀ (ds : List PyData) (vs : List V), DpAll K F vs ds → DpAll K H vs ds
  | [], _, h => by cases h; exact .nil
  | d :: ds, _, h => by
    cases h with
    | cons a b => exact .cons (dpMono e d _ a) (dpMonoAll e ds _ b)
end
theorem dpLen : ∀ {vs : List V} {ds : List PyData}, DpAll K H vs ds → vs.length = ds.length
  | _, _, .nil => rfl
  | _, _, .cons _ b => congrArg (· + 1) (dpLen b)
theorem dpGet : ∀ {vs : List V} {ds : List PyData} {i : Nat} {d : PyData}, DpAll K H vs ds → ds[i]? = some d → ∃ v, vs[i]? = some v ∧ Dp K H v d
  | _, _, _, _, .nil, e => by simp at e
  | _, _, 0, _, .cons a _, e => by
    simp at e
    subst e
    exact ⟨_, rfl, a⟩
  | _, _, i + 1, _, .cons _ b, e => by
    obtain ⟨v, h1, h2⟩ := dpGet (i := i) b (by simpa using e)
    exact ⟨v, by simpa using h1, h2⟩
theorem dpGetV : ∀ {vs : List V} {ds : List PyData} {i : Nat} {v : V}, DpAll K H vs ds → vs[i]? = some v → ∃ d, ds[i]? = some d ∧ Dp K H v d
  | _, _, _, _, .nil, e => by simp at e
  | _, _, 0, _, .cons a _, e => by
    simp at e
    subst e
    exact ⟨_, rfl, a⟩
  | _, _, i + 1, _, .cons _ b, e => by
    obtain ⟨v, h1, h2⟩ := dpGetV (i := i) b (by simpa using e)
    exact ⟨v, by simpa using h1, h2⟩
theorem dpApp : ∀ {vs ws : List V} {ds es : List PyData}, DpAll K H vs ds → DpAll K H ws es → DpAll K H (vs ++ ws) (ds ++ es)
  | _, _, _, _, .nil, b => b
  | _, _, _, _, .cons a r, b => .cons a (dpApp r b)
theorem dpTake : ∀ (n : Nat) {vs : List V} {ds : List PyData}, DpAll K H vs ds → DpAll K H (vs.take n) (ds.take n)
  | 0, _, _, _ => .nil
  | _ + 1, _, _, .nil => .nil
  | n + 1, _, _, .cons a r => .cons a (dpTake n r)
theorem dpDrop : ∀ (n : Nat) {vs : List V} {ds : List PyData}, DpAll K H vs ds → DpAll K H (vs.drop n) (ds.drop n)
  | 0, _, _, h => h
  | _ + 1, _, _, .nil => .nil
  | n + 1, _, _, .cons _ r => dpDrop n r
theorem dpSet : ∀ (i : Nat) {vs : List V} {ds : List PyData} {v : V} {d : PyData}, DpAll K H vs ds → Dp K H v d → DpAll K H (vs.set i v) (ds.set i d)
  | _, _, _, _, _, .nil, _ => .nil
  | 0, _, _, _, _, .cons _ r, h => .cons h r
  | i + 1, _, _, _, _, .cons a r, h => .cons a (dpSet i r h)

/-- F: what is known for good; H: what is tracked. Behind a stretch that makes new things alone -/
structure Grow (F H F' H' : Hp) : Prop where
  ff : Same F F'
  fh : Same F' H'
  hh : Same H H'
  nn : ∀ a o, H a = some o → F a = none → F' a = none
theorem Grow.refl (s : Same F H) : Grow F H F H := ⟨.refl F, s, .refl H, fun _ _ _ h => h⟩
theorem Grow.trans (a : Grow F H F1 H1) (b : Grow F1 H1 F2 H2) : Grow F H F2 H2 :=
  ⟨a.ff.trans b.ff, b.fh, a.hh.trans b.hh, fun c o h n => b.nn c o (a.hh c o h) (a.nn c o h n)⟩
theorem sameUpd {p : Addr} {o : HO} (h : H p = none) : Same H (upd H p o) := fun b x e => by
  rw [upd_ne (ne_of_none e h)]
  exact e
theorem sameUpd2 {p : Addr} {o : HO} (s : Same F H) : Same (upd F p o) (upd H p o) := fun b x e => by
  by_cases hb : b = p
  · subst hb
    rw [upd_same] at e ⊢
    exact e
  · rw [upd_ne hb] at e ⊢
    exact s b x e
theorem Grow.new {p : Addr} {o : HO} (s : Same F H) (h : H p = none) : Grow F H (upd F p o) (upd H p o) :=
  ⟨sameUpd (s.free h), sameUpd2 s, sameUpd h, fun a x e n => by rw [upd_ne (ne_of_none e h)]; exact n⟩
theorem Grow.side {p : Addr} {o : HO} (s : Same F H) (h : H p = none) : Grow F H F (upd H p o) :=
  ⟨.refl F, s.trans (sameUpd h), sameUpd h, fun _ _ _ n => n⟩
/-- a thing that is tracked, made since, is known for good from here on -/
theorem Grow.keep {p : Addr} {o : HO} (g : Grow F H F1 H1) (h : H p = none) (h1 : H1 p = some o) (f1 : F1 p = none) : Grow F H (upd F1 p o) H1 :=
  ⟨g.ff.trans (sameUpd f1), fun b x e => by
    by_cases hb : b = p
    · subst hb
      rw [upd_same] at e
      rw [h1]
      exact e
    · rw [upd_ne hb] at e
      exact g.fh b x e, g.hh, fun a x e n => by rw [upd_ne (ne_of_none e h)]; exact g.nn a x e n⟩

/-- the slots -/
structure ER (K : PySem.W.Frag) (B F H : Hp) (σ : L2.St) (ρ : Rho) : Prop where
  fh : Same F H
  len : σ.length = ρ.length
  va : ∀ (i : Nat) (d : PyData), ρ[i]? = some (.va d) → ∃ v, σ[i]? = some (some v) ∧ Dp K F v d
  ow : ∀ (i : Nat) (ds : List PyData), ρ[i]? = some (.ow ds) → ∃ (a : Addr) (vs : List V), σ[i]? = some (some (.ref a)) ∧ F a = none ∧ B a = none ∧ H a = some (.lst vs) ∧ DpAll K F vs ds
  dj : ∀ (i j : Nat) (ds es : List PyData) (a : Addr), ρ[i]? = some (.ow ds) → ρ[j]? = some (.ow es) → σ[i]? = some (some (.ref a)) → σ[j]? = some (some (.ref a)) → i = j
theorem ER.grow {σ : L2.St} {ρ : Rho} (E : ER K B F H σ ρ) (g : Grow F H F' H') : ER K B F' H' σ ρ where
  fh := g.fh
  len := E.len
  va := fun i d e => by
    obtain ⟨v, h1, h2⟩ := E.va i d e
    exact ⟨v, h1, dpMono g.ff _ _ h2⟩
  ow := fun i ds e => by
    obtain ⟨a, vs, h1, h2, h3, h4, h5⟩ := E.ow i ds e
    exact ⟨a, vs, h1, g.nn _ _ h4 h2, h3, g.hh _ _ h4, dpMonoAll g.ff _ _ h5⟩
  dj := E.dj
theorem ER.setVa {σ : L2.St} {ρ : Rho} {i : Nat} {v : V} {d : PyData} (E : ER K B F H σ ρ) (r : Dp K F v d) : ER K B F H (σ.set i (some v)) (ρ.set i (.va d)) where
  fh := E.fh
  len := by rw [List.length_set, List.length_set]; exact E.len
  va := fun j e h => by
    by_cases hj : i = j
    · subst hj
      by_cases hl : i < ρ.length
      · rw [List.getElem?_set_self hl] at h
        cases h
        rw [List.getElem?_set_self (by rw [E.len]; exact hl)]
        exact ⟨v, rfl, r⟩
      · rw [List.getElem?_eq_none (by simpa using hl)] at h
        cases h
    · rw [List.getElem?_set_ne hj] at h ⊢
      exact E.va j e h
  ow := fun j e h => by
    by_cases hj : i = j
    · subst hj
      by_cases hl : i < ρ.length
      · rw [List.getElem?_set_self hl] at h
        cases h
      · rw [List.getElem?_eq_none (by simpa using hl)] at h
        cases h
    · rw [List.getElem?_set_ne hj] at h ⊢
      exact E.ow j e h
  dj := fun j k e e' a h h' s s' => by
    have q : ∀ j e, (ρ.set i (.va d))[j]? = some (.ow e) → i ≠ j := fun j e h z => by
      subst z
      by_cases hl : i < ρ.length
      · rw [List.getElem?_set_self hl] at h
        cases h
      · rw [List.getElem?_eq_none (by simpa using hl)] at h
        cases h
    have q1 := q j e h
    have q2 := q k e' h'
    rw [List.getElem?_set_ne q1] at h s
    rw [List.getElem?_set_ne q2] at h' s'
    exact E.dj j k e e' a h h' s s'
/-- a slot gets a list of its own -/
theorem ER.setOw {σ : L2.St} {ρ : Rho} {i : Nat} {a : Addr} {vs : List V} {ds : List PyData} (E : ER K B F H σ ρ) (f : F a = none) (b : B a = none) (h : H a = some (.lst vs)) (r : DpAll K F vs ds)
    (no : ∀ (j : Nat) (es : List PyData), i ≠ j → ρ[j]? = some (.ow es) → σ[j]? ≠ some (some (.ref a))) : ER K B F H (σ.set i (some (.ref a))) (ρ.set i (.ow ds)) where
  fh := E.fh
  len := by rw [List.length_set, List.length_set]; exact E.len
  va := fun j e h => by
    by_cases hj : i = j
    · subst hj
      by_cases hl : i < ρ.length
      · rw [List.getElem?_set_self hl] at h
        cases h
      · rw [List.getElem?_eq_none (by simpa using hl)] at h
        cases h
    · rw [List.getElem?_set_ne hj] at h ⊢
      exact E.va j e h
  ow := fun j e q => by
    by_cases hj : i = j
    · subst hj
      by_cases hl : i < ρ.length
      · rw [List.getElem?_set_self hl] at q
        cases q
        rw [List.getElem?_set_self (by rw [E.len]; exact hl)]
        exact ⟨a, vs, rfl, f, b, h, r⟩
      · rw [List.getElem?_eq_none (by simpa using hl)] at q
        cases q
    · rw [List.getElem?_set_ne hj] at q ⊢
      exact E.ow j e q
  dj := fun j k e e' c h h' s s' => by
    by_cases hj : i = j
    · by_cases hk : i = k
      · exact hj.symm.trans hk
      · subst hj
        rw [List.getElem?_set_ne hk] at h' s'
        have hl : i < σ.length := by
          by_cases hl : i < σ.length
          · exact hl
          · rw [List.getElem?_eq_none (by simpa using hl)] at s
            cases s
        rw [List.getElem?_set_self hl] at s
        cases s
        exact absurd s' (no k e' hk h')
    · by_cases hk : i = k
      · subst hk
        rw [List.getElem?_set_ne hj] at h s
        have hl : i < σ.length := by
          by_cases hl : i < σ.length
          · exact hl
          · rw [List.getElem?_eq_none (by simpa using hl)] at s'
            cases s'
        rw [List.getElem?_set_self hl] at s'
        cases s'
        exact absurd s (no j e hj h)
      · rw [List.getElem?_set_ne hj] at h s
        rw [List.getElem?_set_ne hk] at h' s'
        exact E.dj j k e e' c h h' s s'
/-- own lists made known for good: those of the slots in S -/
def frz1 (ρ : Rho) (i : Nat) : Rho := match ρ[i]? with
  | some (SC.ow ds) => ρ.set i (SC.va (PyData.list ds))
  | _ => ρ
def frz (S : List Nat) (ρ : Rho) : Rho := S.foldl frz1 ρ
theorem ER.frz1 {σ : L2.St} {ρ : Rho} {i : Nat} {ds : List PyData} (E : ER K B F H σ ρ) (e : ρ[i]? = some (.ow ds)) :
    ∃ F', Same F F' ∧ ER K B F' H σ (ρ.set i (.va (.list ds))) ∧ ∀ a o, B a = some o → F a = none → F' a = none := by
  obtain ⟨a, vs, h1, h2, h3, h4, h5⟩ := E.ow i ds e
  have hl : i < ρ.length := by
    by_cases hl : i < ρ.length
    · exact hl
    · rw [List.getElem?_eq_none (by simpa using hl)] at e
      cases e
  have sf : Same F (upd F a (.lst vs)) := sameUpd h2
  have nw : ∀ j es, i ≠ j → ρ[j]? = some (.ow es) → σ[j]? ≠ some (some (.ref a)) := fun j es hj q s => hj (E.dj i j ds es a e q h1 s)
  refine ⟨upd F a (.lst vs), sf, ⟨?_, ?_, ?_, ?_, ?_⟩, ?_⟩
  · intro b o q
    by_cases hb : b = a
    · subst hb
      rw [upd_same] at q
      rw [h4]
      exact q
    · rw [upd_ne hb] at q
      exact E.fh b o q
  · rw [List.length_set]
    exact E.len
  · intro j d q
    by_cases hj : i = j
    · subst hj
      rw [List.getElem?_set_self hl] at q
      cases q
      exact ⟨_, h1, .lst (.inl (.inl upd_same)) (dpMonoAll sf _ _ h5)⟩
    · rw [List.getElem?_set_ne hj] at q
      obtain ⟨v, q1, q2⟩ := E.va j d q
      exact ⟨v, q1, dpMono sf _ _ q2⟩
  · intro j es q
    by_cases hj : i = j
    · subst hj
      rw [List.getElem?_set_self hl] at q
      cases q
    · rw [List.getElem?_set_ne hj] at q
      obtain ⟨c, ws, q1, q2, q3, q4, q5⟩ := E.ow j es q
      refine ⟨c, ws, q1, ?_, q3, q4, dpMonoAll sf _ _ q5⟩
      rw [upd_ne (fun z => nw j es hj q (by rw [q1, z]))]
      exact q2
  · intro j k es es' c q q' s s'
    have hj : i ≠ j := fun z => by
      subst z
      rw [List.getElem?_set_self hl] at q
      cases q
    have hk : i ≠ k := fun z => by
      subst z
      rw [List.getElem?_set_self hl] at q'
      cases q'
    rw [List.getElem?_set_ne hj] at q
    rw [List.getElem?_set_ne hk] at q'
    exact E.dj j k es es' c q q' s s'
  · intro b o q n
    rw [upd_ne (fun z => by rw [z, h3] at q; cases q)]
    exact n
theorem ER.frz {σ : L2.St} : ∀ (S : List Nat) {F : Hp} {ρ : Rho}, ER K B F H σ ρ → ∃ F', Same F F' ∧ ER K B F' H σ (DL.frz S ρ) ∧ ∀ a o, B a = some o → F a = none → F' a = none
  | [], F, ρ, E => ⟨F, .refl F, E, fun _ _ _ n => n⟩
  | i :: S, F, ρ, E => by
    unfold DL.frz
    rw [List.foldl_cons]
    have h1 : ∃ F', Same F F' ∧ ER K B F' H σ (DL.frz1 ρ i) ∧ ∀ a o, B a = some o → F a = none → F' a = none := by
      unfold DL.frz1
      split
      · rename_i ds e
        exact E.frz1 e
      · exact ⟨F, .refl F, E, fun _ _ _ n => n⟩
    obtain ⟨F1, s1, E1, n1⟩ := h1
    obtain ⟨F2, s2, E2, n2⟩ := ER.frz S E1
    exact ⟨F2, s1.trans s2, E2, fun a o h n => n2 a o h (n1 a o h n)⟩
theorem ER.start {vs : List V} {ds : List PyData} {n : Nat} (s : Same F H) (h : DpAll K F vs ds) : ER K B F H (vs.map some ++ List.replicate n none) (ds.map SC.va ++ List.replicate n SC.un) where
  fh := s
  len := by simp [dpLen h]
  va := fun i d e => by
    by_cases hi : i < ds.length
    · rw [List.getElem?_append_left (by simpa using hi), List.getElem?_map] at e
      cases q : ds[i]? with
      | none => rw [q] at e; cases e
      | some d' =>
        rw [q] at e
        cases e
        obtain ⟨v, h1, h2⟩ := dpGet h q
        refine ⟨v, ?_, h2⟩
        rw [List.getElem?_append_left (by rw [List.length_map, dpLen h]; exact hi), List.getElem?_map, h1]
        rfl
    · rw [List.getElem?_append_right (by simpa using hi), List.getElem?_replicate] at e
      split at e <;> cases e
  ow := fun i d e => by
    by_cases hi : i < ds.length
    · rw [List.getElem?_append_left (by simpa using hi), List.getElem?_map] at e
      cases q : ds[i]? with
      | none => rw [q] at e; cases e
      | some d' => rw [q] at e; cases e
    · rw [List.getElem?_append_right (by simpa using hi), List.getElem?_replicate] at e
      split at e <;> cases e
  dj := fun i j d d' a e => by
    by_cases hi : i < ds.length
    · rw [List.getElem?_append_left (by simpa using hi), List.getElem?_map] at e
      cases q : ds[i]? with
      | none => rw [q] at e; cases e
      | some d' => rw [q] at e; cases e
    · rw [List.getElem?_append_right (by simpa using hi), List.getElem?_replicate] at e
      split at e <;> cases e
end
end DL

set_option Elab.async false
set_option linter.all false
set_option maxRecDepth 100000
set_option maxHeartbeats 4000000
namespace DL
open PySem PySem.Spec PyProof.Rows L2
/-! ### judgements -/
abbrev EV := Rho → Option PyData
abbrev EA := Rho → Option (List PyData)
abbrev EB := Rho → Option Bool
def tD (K : PySem.W.Frag) (f : EV) : TE := fun σ H Q => ∃ B F ρ d, ER K B F H σ ρ ∧ f ρ = some d ∧ ∀ v F' H', Grow F H F' H' → Dp K F' v d → Q v H'
def tF (K : PySem.W.Frag) (f : EA) : TE := fun σ H Q => ∃ B F ρ ds, ER K B F H σ ρ ∧ f ρ = some ds ∧
  ∀ (a : Addr) (vs : List V) F' H', Grow F H F' H' → H a = none → F' a = none → H' a = some (.lst vs) → DpAll K F' vs ds → Q (.ref a) H'
def tT (K : PySem.W.Frag) (f : EB) : TT := fun σ H Q => ∃ B F ρ b, ER K B F H σ ρ ∧ f ρ = some b ∧ ∀ F' H', Grow F H F' H' → Q b H'
def tA (K : PySem.W.Frag) (f : EA) : TA := fun σ H Q => ∃ B F ρ ds, ER K B F H σ ρ ∧ f ρ = some ds ∧ ∀ vs F' H', Grow F H F' H' → DpAll K F' vs ds → Q vs H'
def DV (X : Cx) (e : Expr) (f : EV) : Prop := PE X e (tD X.K f)
/-- a new list -/
def DF (X : Cx) (e : Expr) (f : EA) : Prop := PE X e (tF X.K f)
def DT (X : Cx) (e : Expr) (f : EB) : Prop := PT X e (tT X.K f)
def DW (X : Cx) (e : Expr) (f : EB) : Prop := PW X e (tT X.K f)
structure DA (X : Cx) (es : List Expr) (f : EA) : Prop where
  pa : PA X es (tA X.K f)
  len : ∀ ρ ds, f ρ = some ds → ds.length = es.length
theorem peMono {X : Cx} {e : Expr} {t t' : TE} (h : PE X e t) (k : ∀ σ H Q, t' σ H Q → t σ H Q) : PE X e t' := ⟨fun pins s σ H Q I q => h.run pins s σ H Q I (k _ _ _ q)⟩
theorem ptMono {X : Cx} {e : Expr} {t t' : TT} (h : PT X e t) (k : ∀ σ H Q, t' σ H Q → t σ H Q) : PT X e t' := ⟨fun pins s σ H Q I q => h.run pins s σ H Q I (k _ _ _ q)⟩
theorem pwMono {X : Cx} {e : Expr} {t t' : TT} (h : PW X e t) (k : ∀ σ H Q, t' σ H Q → t σ H Q) : PW X e t' := ⟨fun w pins s σ H Q I q => h.run w pins s σ H Q I (k _ _ _ q)⟩
theorem paMono {X : Cx} {e : List Expr} {t t' : TA} (h : PA X e t) (k : ∀ σ H Q, t' σ H Q → t σ H Q) : PA X e t' := ⟨fun p pins s σ H Q I q => h.run p pins s σ H Q I (k _ _ _ q)⟩
theorem opMono {X : Cx} {f : Value → Value → Sem Value} {r r' : R2} (h : OpR X f r) (k : ∀ x y H Q, r' x y H Q → r x y H Q) : OpR X f r' := fun pins s σ H x y v u Q I rx ry q => h pins s σ H x y v u Q I rx ry (k _ _ _ _ q)
theorem ixMono {X : Cx} {r r' : R2} (h : IxR X r) (k : ∀ x y H Q, r' x y H Q → r x y H Q) : IxR X r' := fun a b pins s σ H x y v u Q I rx ry q hs => h a b pins s σ H x y v u Q I rx ry (k _ _ _ _ q) hs
theorem unMono {X : Cx} {f : Value → Sem Value} {r r' : V → Hp → VK → Prop} (h : UnR X f r) (k : ∀ x H Q, r' x H Q → r x H Q) : UnR X f r' := fun pins s σ H x v Q I rx q => h pins s σ H x v Q I rx (k _ _ _ q)
theorem clMono {X : Cx} {f : Value} {r r' : List V → Hp → VK → Prop} (h : CallR X f r) (k : ∀ xs H Q, r' xs H Q → r xs H Q) : CallR X f r' := fun pins s σ H x v Q I rx q => h pins s σ H x v Q I rx (k _ _ _ q)
/-- operators over data -/
def rG (K : PySem.W.Frag) (g : PyData → PyData → Option PyData) : R2 := fun x y H Q => ∃ F dx dy d, Same F H ∧ Dp K F x dx ∧ Dp K F y dy ∧ g dx dy = some d ∧ ∀ v F' H', Grow F H F' H' → Dp K F' v d → Q v H'
def rG1 (K : PySem.W.Frag) (g : PyData → Option PyData) : V → Hp → VK → Prop := fun x H Q => ∃ F dx d, Same F H ∧ Dp K F x dx ∧ g dx = some d ∧ ∀ v F' H', Grow F H F' H' → Dp K F' v d → Q v H'
def rGA (K : PySem.W.Frag) (g : List PyData → Option PyData) : List V → Hp → VK → Prop := fun xs H Q => ∃ F ds d, Same F H ∧ DpAll K F xs ds ∧ g ds = some d ∧ ∀ v F' H', Grow F H F' H' → Dp K F' v d → Q v H'
/-- calls that hand back a new list -/
def rGF (K : PySem.W.Frag) (g : List PyData → Option (List PyData)) : List V → Hp → VK → Prop := fun xs H Q => ∃ F ds d, Same F H ∧ DpAll K F xs ds ∧ g ds = some d ∧
  ∀ (a : Addr) (vs : List V) F' H', Grow F H F' H' → H a = none → F' a = none → H' a = some (.lst vs) → DpAll K F' vs d → Q (.ref a) H'

/-! ### meanings -/
def eVar (i : Nat) : EV := fun ρ => match ρ[i]? with
  | some (SC.va d) => some d
  | _ => none
def eC (d : PyData) : EV := fun _ => some d
def eBin (g : PyData → PyData → Option PyData) (f1 f2 : EV) : EV := fun ρ => (f1 ρ).bind fun x => (f2 ρ).bind fun y => g x y
def eUn (g : PyData → Option PyData) (f : EV) : EV := fun ρ => (f ρ).bind g
def eOfF (f : EA) : EV := fun ρ => (f ρ).map PyData.list
def aNil : EA := fun _ => some []
def aCons (f : EV) (g : EA) : EA := fun ρ => (f ρ).bind fun x => (g ρ).bind fun xs => some (x :: xs)
def eAll (g : List PyData → Option PyData) (f : EA) : EV := fun ρ => (f ρ).bind g
def fAll (g : List PyData → Option (List PyData)) (f : EA) : EA := fun ρ => (f ρ).bind g
def eTup (f : EA) : EV := fun ρ => (f ρ).map PyData.tuple
def blOf : PyData → Option Bool
  | .bool b => some b
  | _ => none
def eAnd (f g : EV) : EV := fun ρ => (f ρ).bind fun x => (blOf x).bind fun b => if b then g ρ else some (.bool false)
def eOr (f g : EV) : EV := fun ρ => (f ρ).bind fun x => (blOf x).bind fun b => if b then some (.bool true) else g ρ
def gNot : PyData → Option PyData
  | .bool b => some (.bool !b)
  | _ => none
def bVal (f : EV) : EB := fun ρ => (f ρ).bind blOf
def bAnd (f g : EB) : EB := fun ρ => (f ρ).bind fun b => if b then g ρ else some false
def bOr (f g : EB) : EB := fun ρ => (f ρ).bind fun b => if b then some true else g ρ
def bNot (f : EB) : EB := fun ρ => (f ρ).bind fun b => some !b
def eIf (c : EB) (f g : EV) : EV := fun ρ => (c ρ).bind fun b => if b then f ρ else g ρ
/-- a scalar -/
def flat : PyData → Bool
  | .none => true | .bool _ => true | .int _ => true | .str _ => true
  | _ => false
/-- own lists lent while e is worked out: its value is a scalar -/
def eLend (S : List Nat) (f : EV) : EV := fun ρ => (f (frz S ρ)).bind fun d => if flat d then some d else none
/-- the item of an own list -/
def gIx : PyData → PyData → Option PyData
  | .list xs, .int i => atI xs i
  | .tuple xs, .int i => atI xs i
  | _, _ => none
def eIxO (i : Nat) (f : EV) : EV := fun ρ => match ρ[i]? with
  | some (SC.ow ds) => (f ρ).bind fun x => gIx (.list ds) x
  | _ => none

section
variable {X : Cx} {a b c e : Expr} {es : List Expr} {f g f1 f2 : EV} {h : EA} {cb cb' : EB} {pos : Pos}
theorem dv_var {i : Nat} {x : Str} {pos : Pos} (h : PE X (.Name x pos) (tVar i)) : DV X (.Name x pos) (eVar i) := peMono h fun σ H Q ⟨B, F, ρ, d, E, e, q⟩ => by
  unfold eVar at e
  split at e
  · rename_i d' h'
    cases e
    obtain ⟨v, h1, h2⟩ := E.va i d h'
    exact ⟨v, h1, q v F H (.refl E.fh) h2⟩
  · cases e
theorem dv_int {i : Int} {j} : DV X (.Constant (.int i) j pos) (eC (.int i)) := peMono pe_int fun σ H Q ⟨B, F, ρ, d, E, e, q⟩ => by
  cases e
  exact q _ F H (.refl E.fh) (.int i)
theorem dv_bl {i : Bool} {j} : DV X (.Constant (.bool i) j pos) (eC (.bool i)) := peMono pe_bl fun σ H Q ⟨B, F, ρ, d, E, e, q⟩ => by
  cases e
  exact q _ F H (.refl E.fh) (.bl i)
theorem dv_non {j} : DV X (.Constant .none j pos) (eC .none) := peMono pe_non fun σ H Q ⟨B, F, ρ, d, E, e, q⟩ => by
  cases e
  exact q _ F H (.refl E.fh) .non
theorem dv_str {x : Str} {j} : DV X (.Constant (.str x) j pos) (eC (.str x)) := peMono pe_str fun σ H Q ⟨B, F, ρ, d, E, e, q⟩ => by
  cases e
  exact q _ F H (.refl E.fh) (.str x)
theorem bind_some {α β : Type} {o : Option α} {f : α → Option β} {y : β} (e : o.bind f = some y) : ∃ x, o = some x ∧ f x = some y := by
  cases o with
  | none => cases e
  | some x => exact ⟨x, rfl, e⟩
theorem tBin {g : PyData → PyData → Option PyData} {σ : L2.St} {H : Hp} {Q : VK} {K : PySem.W.Frag} (h : tD K (eBin g f1 f2) σ H Q) : tOp (rG K g) (tD K f1) (tD K f2) σ H Q := by
  obtain ⟨B, F, ρ, d, E, e, q⟩ := h
  obtain ⟨dx, e1, e⟩ := bind_some e
  obtain ⟨dy, e2, e⟩ := bind_some e
  exact ⟨B, F, ρ, dx, E, e1, fun x F1 H1 G1 r1 => ⟨B, F1, ρ, dy, E.grow G1, e2, fun y F2 H2 G2 r2 => ⟨F2, dx, dy, d, G2.fh, dpMono G2.ff _ _ r1, r2, e, fun v F' H' G3 r3 => q v F' H' (G1.trans (G2.trans G3)) r3⟩⟩⟩
theorem dv_bin {op : Operator} {g : PyData → PyData → Option PyData} (ho : OpR X (binaryOp op) (rG X.K g)) (ha : DV X a f1) (hb : DV X b f2) : DV X (.BinOp a op b pos) (eBin g f1 f2) :=
  peMono (pe_op ho ha hb) fun _ _ _ q => tBin q
theorem dv_cmp {op : CmpOp} {g : PyData → PyData → Option PyData} (ho : OpR X (compareOp op) (rG X.K g)) (ha : DV X a f1) (hb : DV X b f2) (hm : behindInMarks op b = false := by first | exact nomark _ | rfl) : DV X (.Compare a [op] [b] pos) (eBin g f1 f2) :=
  peMono (pe_cmpR ho ha hb hm) fun _ _ _ q => tBin q
theorem dt_cmp {op : CmpOp} {g : PyData → PyData → Option PyData} (ho : OpR X (compareOp op) (rG X.K g)) (ha : DV X a f1) (hb : DV X b f2) (hm : behindInMarks op b = false := by first | exact nomark _ | rfl) : DT X (.Compare a [op] [b] pos) (bVal (eBin g f1 f2)) :=
  ptMono (pt_cmpR ho ha hb hm) fun σ H Q ⟨B, F, ρ, b, E, e, q⟩ => by
    obtain ⟨d, e1, e2⟩ := bind_some e
    refine tBin ⟨B, F, ρ, d, E, e1, fun v F' H' G r => ?_⟩
    cases d with
    | bool k =>
      cases e2
      cases r
      exact ⟨_, rfl, q F' H' G⟩
    | _ => cases e2
theorem dv_un {op : UnaryOp} {g : PyData → Option PyData} (ho : UnR X (unaryOp op) (rG1 X.K g)) (ha : DV X a f) : DV X (.UnaryOp op a pos) (eUn g f) :=
  peMono (pe_un ho ha) fun σ H Q ⟨B, F, ρ, d, E, e, q⟩ => by
    obtain ⟨dx, e1, e⟩ := bind_some e
    exact ⟨B, F, ρ, dx, E, e1, fun x F1 H1 G1 r1 => ⟨F1, dx, d, G1.fh, r1, e, fun v F' H' G3 r3 => q v F' H' (G1.trans G3) r3⟩⟩
theorem dv_ix {g : PyData → PyData → Option PyData} (ho : IxR X (rG X.K g)) (ha : DV X a f1) (hb : DV X b f2) (hs : PlainIx b := by exact fun _ _ => rfl) : DV X (.Subscript a b pos) (eBin g f1 f2) :=
  peMono (pe_ix ho ha hb hs) fun _ _ _ q => tBin q
theorem dv_ofF (hf : DF X e h) : DV X e (eOfF h) := peMono hf fun σ H Q ⟨B, F, ρ, d, E, e, q⟩ => by
  obtain ⟨ds, e1, e2⟩ := Option.map_eq_some_iff.mp e
  subst e2
  refine ⟨B, F, ρ, ds, E, e1, fun a vs F' H' G h1 h2 h3 h4 => q _ (upd F' a (.lst vs)) H' (G.keep h1 h3 h2) (.lst (.inl (.inl upd_same)) (dpMonoAll (sameUpd h2) _ _ h4))⟩
theorem da_nil : DA X [] aNil := ⟨paMono pa_nil fun σ H Q ⟨B, F, ρ, ds, E, e, q⟩ => by
  cases e
  exact q _ F H (.refl E.fh) .nil, fun ρ ds e => by cases e; rfl⟩
theorem da_cons (ha : DV X e f) (hr : DA X es h) (hs : starEach (e :: es) X.env = (false, eval e X.env) :: starEach es X.env := by rfl) : DA X (e :: es) (aCons f h) := ⟨paMono (pa_cons ha hr.pa hs) fun σ H Q ⟨B, F, ρ, ds, E, e, q⟩ => by
  obtain ⟨dx, e1, e⟩ := bind_some e
  obtain ⟨dr, e2, e⟩ := bind_some e
  cases e
  exact ⟨B, F, ρ, dx, E, e1, fun x F1 H1 G1 r1 => ⟨B, F1, ρ, dr, E.grow G1, e2, fun xs F2 H2 G2 r2 => q _ F2 H2 (G1.trans G2) (.cons (dpMono G2.ff _ _ r1) r2)⟩⟩, fun ρ ds e => by
  obtain ⟨dx, e1, e⟩ := bind_some e
  obtain ⟨dr, e2, e⟩ := bind_some e
  cases e
  exact congrArg (· + 1) (hr.len ρ dr e2)⟩
theorem dv_tup {x1} (ha : DA X es h) (hz : es.length ≤ sizeLine := by decide) : DV X (.Tuple es x1 pos) (eTup h) := peMono (pe_tup ha.pa) fun σ H Q ⟨B, F, ρ, d, E, e, q⟩ => by
  obtain ⟨ds, e1, e2⟩ := Option.map_eq_some_iff.mp e
  subst e2
  refine ⟨B, F, ρ, ds, E, e1, fun vs F' H' G r => ⟨by rw [dpLen r, ha.len ρ ds e1]; exact hz, fun p np => ?_⟩⟩
  have s1 : Same F' (upd F' p (.tup vs)) := sameUpd (G.fh.free np)
  exact q _ _ _ (G.trans (.new G.fh np)) (.tup (.inl (.inl upd_same)) (dpMonoAll s1 _ _ r))
theorem df_lst (ha : DA X es h) (hz : es.length ≤ sizeLine := by decide) : DF X (.List es pos) h := peMono (pe_lst ha.pa) fun σ H Q ⟨B, F, ρ, ds, E, e1, q⟩ => by
  refine ⟨B, F, ρ, ds, E, e1, fun vs F' H' G r => ⟨by rw [dpLen r, ha.len ρ ds e1]; exact hz, fun p np => ?_⟩⟩
  have hn : H p = none := G.hh.free np
  exact q p vs F' _ (G.trans (.side G.fh np)) hn (G.fh.free np) upd_same r
theorem dv_and {rest : List Expr} (ha : DV X a f) (hb : DV X (.BoolOp .And (b :: rest) pos) g) : DV X (.BoolOp .And (a :: b :: rest) pos) (eAnd f g) := peMono (pe_and ha hb) fun σ H Q ⟨B, F, ρ, d, E, e, q⟩ => by
  obtain ⟨dx, e1, e⟩ := bind_some e
  refine ⟨B, F, ρ, dx, E, e1, fun x F1 H1 G1 r1 => ?_⟩
  cases dx with
  | bool k =>
    cases r1
    refine ⟨k, rfl, ?_⟩
    cases k with
    | true => exact ⟨B, F1, ρ, d, E.grow G1, e, fun v F2 H2 G2 r2 => q v F2 H2 (G1.trans G2) r2⟩
    | false =>
      cases e
      exact q _ F1 H1 G1 (.bl false)
  | _ => cases e
theorem dv_or {rest : List Expr} (ha : DV X a f) (hb : DV X (.BoolOp .Or (b :: rest) pos) g) : DV X (.BoolOp .Or (a :: b :: rest) pos) (eOr f g) := peMono (pe_or ha hb) fun σ H Q ⟨B, F, ρ, d, E, e, q⟩ => by
  obtain ⟨dx, e1, e⟩ := bind_some e
  refine ⟨B, F, ρ, dx, E, e1, fun x F1 H1 G1 r1 => ?_⟩
  cases dx with
  | bool k =>
    cases r1
    refine ⟨k, rfl, ?_⟩
    cases k with
    | false => exact ⟨B, F1, ρ, d, E.grow G1, e, fun v F2 H2 G2 r2 => q v F2 H2 (G1.trans G2) r2⟩
    | true =>
      cases e
      exact q _ F1 H1 G1 (.bl true)
  | _ => cases e
theorem dv_one {op} (ha : DV X a f) : DV X (.BoolOp op [a] pos) f := pe_one ha
theorem dv_not (ha : DV X a f) : DV X (.UnaryOp .Not a pos) (eUn gNot f) := peMono (pe_not ha) fun σ H Q ⟨B, F, ρ, d, E, e, q⟩ => by
  obtain ⟨dx, e1, e⟩ := bind_some e
  refine ⟨B, F, ρ, dx, E, e1, fun x F1 H1 G1 r1 => ?_⟩
  cases dx with
  | bool k =>
    cases r1
    cases e
    exact ⟨k, rfl, q _ F1 H1 G1 (.bl _)⟩
  | _ => cases e
theorem dt_val (h : DV X e f) (he : ∀ whole, isTrue e X.env whole = (do let v ← whole; standAt e.pos; holding [v] (truthy v)) := by intro _; rfl) : DT X e (bVal f) := ptMono (pt_val h he) fun σ H Q ⟨B, F, ρ, b, E, e, q⟩ => by
  obtain ⟨d, e1, e2⟩ := bind_some e
  refine ⟨B, F, ρ, d, E, e1, fun v F' H' G r => ?_⟩
  cases d with
  | bool k =>
    cases e2
    cases r
    exact ⟨_, rfl, q F' H' G⟩
  | _ => cases e2
theorem dt_w (h : DW X e cb) : DT X e cb := PW.pt h
theorem dw_and1 (ha : DT X a cb) : DW X (.BoolOp .And [a] pos) cb := pw_and1 ha
theorem dw_or1 (ha : DT X a cb) : DW X (.BoolOp .Or [a] pos) cb := pw_or1 ha
theorem dw_and {rest : List Expr} (ha : DT X a cb) (hb : DW X (.BoolOp .And (b :: rest) pos) cb') : DW X (.BoolOp .And (a :: b :: rest) pos) (bAnd cb cb') := pwMono (pw_and ha hb) fun σ H Q ⟨B, F, ρ, k, E, e, q⟩ => by
  obtain ⟨k1, e1, e⟩ := bind_some e
  refine ⟨B, F, ρ, k1, E, e1, fun F1 H1 G1 => ?_⟩
  cases k1 with
  | true =>
    rw [if_pos rfl] at e ⊢
    exact ⟨B, F1, ρ, k, E.grow G1, e, fun F2 H2 G2 => q F2 H2 (G1.trans G2)⟩
  | false =>
    rw [if_neg (by simp)] at e ⊢
    cases e
    exact q F1 H1 G1
theorem dw_or {rest : List Expr} (ha : DT X a cb) (hb : DW X (.BoolOp .Or (b :: rest) pos) cb') : DW X (.BoolOp .Or (a :: b :: rest) pos) (bOr cb cb') := pwMono (pw_or ha hb) fun σ H Q ⟨B, F, ρ, k, E, e, q⟩ => by
  obtain ⟨k1, e1, e⟩ := bind_some e
  refine ⟨B, F, ρ, k1, E, e1, fun F1 H1 G1 => ?_⟩
  cases k1 with
  | false =>
    rw [if_neg (by simp)] at e ⊢
    exact ⟨B, F1, ρ, k, E.grow G1, e, fun F2 H2 G2 => q F2 H2 (G1.trans G2)⟩
  | true =>
    rw [if_pos rfl] at e ⊢
    cases e
    exact q F1 H1 G1
theorem dt_not (ha : DT X a cb) : DT X (.UnaryOp .Not a pos) (bNot cb) := ptMono (pt_not ha) fun σ H Q ⟨B, F, ρ, k, E, e, q⟩ => by
  obtain ⟨k1, e1, e⟩ := bind_some e
  cases e
  exact ⟨B, F, ρ, k1, E, e1, fun F1 H1 G1 => q F1 H1 G1⟩
theorem dv_if (hc : DT X c cb) (ha : DV X a f1) (hb : DV X b f2) : DV X (.IfExp c a b pos) (eIf cb f1 f2) := peMono (pe_ifExp hc ha hb) fun σ H Q ⟨B, F, ρ, d, E, e, q⟩ => by
  obtain ⟨k1, e1, e⟩ := bind_some e
  refine ⟨B, F, ρ, k1, E, e1, fun F1 H1 G1 => ?_⟩
  cases k1 with
  | false =>
    rw [if_neg (by simp)] at e ⊢
    exact ⟨B, F1, ρ, d, E.grow G1, e, fun v F2 H2 G2 r => q v F2 H2 (G1.trans G2) r⟩
  | true =>
    rw [if_pos rfl] at e ⊢
    exact ⟨B, F1, ρ, d, E.grow G1, e, fun v F2 H2 G2 r => q v F2 H2 (G1.trans G2) r⟩
theorem flatDp {K : PySem.W.Frag} {F F' : Hp} {v : V} {d : PyData} (h : Dp K F v d) (hf : flat d = true) : Dp K F' v d := by
  cases h with
  | non => exact .non
  | bl b => exact .bl b
  | int i => exact .int i
  | str x => exact .str x
  | lst _ _ => cases hf
  | tup _ _ => cases hf
theorem dv_lend {S : List Nat} (ha : DV X e f) : DV X e (eLend S f) := peMono ha fun σ H Q ⟨B, F, ρ, d, E, e, q⟩ => by
  obtain ⟨dx, e1, e⟩ := bind_some e
  split at e
  · rename_i hf
    cases e
    obtain ⟨F1, s1, E1, n1⟩ := E.frz S
    refine ⟨B, F1, DL.frz S ρ, d, E1, e1, fun v F2 H2 G r => q v F H2 ⟨.refl F, s1.trans (G.ff.trans G.fh), G.hh, fun _ _ _ n => n⟩ (flatDp r hf)⟩
  · cases e
theorem pvO {x : Str} {i : Nat} {pos : Pos} (h : PE X (.Name x pos) (tVar i)) : PE X (.Name x pos) (fun σ H Q => ∃ v, σ[i]? = some (some v) ∧ Q v H) := h
end
end DL

set_option Elab.async false
set_option linter.all false
set_option maxRecDepth 100000
set_option maxHeartbeats 4000000
namespace DL
open PySem PySem.Spec PyProof.Rows L2
section
variable {X : Cx} {a b c e : Expr} {es : List Expr} {f g f1 f2 : EV} {h : EA} {cb cb' : EB} {pos : Pos}
theorem ixNat {xs : List V} {ds : List PyData} {K : PySem.W.Frag} {H : Hp} {i : Int} {d : PyData} (r : DpAll K H xs ds) (e : atI ds i = some d) : ∃ v, atI xs i = some v ∧ Dp K H v d := by
  unfold atI at e ⊢
  obtain ⟨j, e1, e2⟩ := bind_some e
  rw [dpLen r, e1]
  obtain ⟨v, h1, h2⟩ := dpGet r e2
  exact ⟨v, h1, h2⟩
theorem ix_g : IxR X (rG X.K gIx) := ixMono ix_seq fun x y H Q ⟨F, dx, dy, d, s, rx, ry, e, q⟩ => by
  cases dy with
  | int i =>
    cases ry
    cases dx with
    | list ds =>
      cases rx with
      | lst hs r =>
        obtain ⟨v, h1, h2⟩ := ixNat r e
        exact .inl ⟨_, _, i, v, rfl, rfl, s.seq hs, h1, q v F H (.refl s) h2⟩
    | tuple ds =>
      cases rx with
      | tup hs r =>
        obtain ⟨v, h1, h2⟩ := ixNat r e
        exact .inr (.inl ⟨_, _, i, v, rfl, rfl, sameT s hs, h1, q v F H (.refl s) h2⟩)
    | _ => cases e
  | _ => cases dx <;> cases e
theorem dv_ixO {i : Nat} {x : Str} {px : Pos} (hx : PE X (.Name x px) (tVar i)) (hb : DV X b f) (hs : PlainIx b := by exact fun _ _ => rfl) : DV X (.Subscript (.Name x px) b pos) (eIxO i f) :=
  peMono (pe_ix ix_list hx hb hs) fun σ H Q ⟨B, F, ρ, d, E, e, q⟩ => by
    unfold eIxO at e
    split at e
    · rename_i ds hρ
      obtain ⟨dy, e1, e2⟩ := bind_some e
      obtain ⟨l, vs, h1, h2, h3, h4, h5⟩ := E.ow i ds hρ
      refine ⟨.ref l, h1, B, F, ρ, dy, E, e1, fun y F1 H1 G r => ?_⟩
      cases dy with
      | int k =>
        cases r
        obtain ⟨v, r1, r2⟩ := ixNat h5 e2
        exact ⟨l, vs, k, v, rfl, rfl, .inl (.inl (G.hh _ _ h4)), r1, q v F1 H1 G (dpMono G.ff _ _ r2)⟩
      | _ => cases e2
    · cases e

/-! ### calls -/
/-- the promise of a def that works out data: n arguments, the value by m -/
def spD (K : PySem.W.Frag) (n : Nat) (m : List PyData → Option PyData) : Sp := fun vs H Q _ => vs.length = n ∧ ∃ F ds d, Same F H ∧ DpAll K F vs ds ∧ m ds = some d ∧ ∀ v F' H', Grow F H F' H' → Dp K F' v d → Q v H'
def eCall (m : List PyData → Option PyData) (f : EA) : EV := fun ρ => (f ρ).bind m
theorem dv_call {k n : Nat} {fa : Addr} {fd : FuncData} {ps : List Str} {m : List PyData → Option PyData} {x : Str} {p : Pos} (F : FnOk X.prog X.w X.K X.mg X.base CX0 k fa fd ps (spD X.K n m)) (hr : Room k X.A) (hg : Gl X x) (hm : X.mg x = some (.ref fa)) (hk : PySem.W.keepIn X.K (.ref fa) = true)
    (hb : Binds X.K fd ps []) (ha : DA X (e :: es) h) (hn : (e :: es).length = n := by rfl) (hdb : (x == ("__debug__" : Str)) = false := by decide) (he : starEach (e :: es) X.env = (false, eval e X.env) :: starEach es X.env := by rfl) (hpl : (backTo pos (starEach es X.env)).any (·.1) = false := by rfl) :
    DV X (.Call (.Name x p) (e :: es) [] pos) (eCall m h) := peMono (pe_call F hr hg hm hk hb .nil pass0 ha.pa hdb he hpl) fun σ H Q ⟨B, F, ρ, d, E, e, q⟩ => by
  obtain ⟨ds, e1, e2⟩ := bind_some e
  refine ⟨B, F, ρ, ds, E, e1, fun vs F1 H1 G r => ?_⟩
  show spD X.K n m (vs ++ []) H1 Q E0
  rw [List.append_nil]
  exact ⟨by rw [dpLen r, ha.len ρ ds e1]; exact hn, F1, ds, d, G.fh, r, e2, fun v F2 H2 G2 r2 => q v F2 H2 (G.trans G2) r2⟩
theorem dv_blt {x : Str} {p : Pos} {id : String} {m : List PyData → Option PyData} (hc : CallR X (.builtin id) (rGA X.K m)) (hg : Gl X x) (hm : X.mg x = none) (hv : bootBuiltins x = some (.builtin id)) (ha : DA X (e :: es) h) (hn : x ≠ "__name__" := by decide) (hdb : (x == ("__debug__" : Str)) = false := by decide)
    (he : starEach (e :: es) X.env = (false, eval e X.env) :: starEach es X.env := by rfl) (hpl : (backTo pos (starEach es X.env)).any (·.1) = false := by rfl) : DV X (.Call (.Name x p) (e :: es) [] pos) (eAll m h) :=
  peMono (pe_callB hc hg hm hv ha.pa hn hdb he hpl) fun σ H Q ⟨B, F, ρ, d, E, e, q⟩ => by
    obtain ⟨ds, e1, e2⟩ := bind_some e
    exact ⟨B, F, ρ, ds, E, e1, fun vs F1 H1 G r => ⟨F1, ds, d, G.fh, r, e2, fun v F2 H2 G2 r2 => q v F2 H2 (G.trans G2) r2⟩⟩
theorem dv_ty {x : Str} {p : Pos} {T : String} {m : List PyData → Option PyData} (hc : CallR X (.type T) (rGA X.K m)) (hg : Gl X x) (hm : X.mg x = none) (hv : bootBuiltins x = some (.type T)) (ha : DA X (e :: es) h) (hn : x ≠ "__name__" := by decide) (hdb : (x == ("__debug__" : Str)) = false := by decide)
    (he : starEach (e :: es) X.env = (false, eval e X.env) :: starEach es X.env := by rfl) (hpl : (backTo pos (starEach es X.env)).any (·.1) = false := by rfl) : DV X (.Call (.Name x p) (e :: es) [] pos) (eAll m h) :=
  peMono (pe_callTy hc hg hm hv ha.pa hn hdb he hpl) fun σ H Q ⟨B, F, ρ, d, E, e, q⟩ => by
    obtain ⟨ds, e1, e2⟩ := bind_some e
    exact ⟨B, F, ρ, ds, E, e1, fun vs F1 H1 G r => ⟨F1, ds, d, G.fh, r, e2, fun v F2 H2 G2 r2 => q v F2 H2 (G.trans G2) r2⟩⟩
/-- a module's name for a built-in function -/
theorem dv_mod {x : Str} {p : Pos} {id : String} {m : List PyData → Option PyData} (hc : CallR X (.builtin id) (rGA X.K m)) (hg : Gl X x) (hm : X.mg x = some (.builtin id)) (ha : DA X (e :: es) h) (hdb : (x == ("__debug__" : Str)) = false := by decide)
    (he : starEach (e :: es) X.env = (false, eval e X.env) :: starEach es X.env := by rfl) (hpl : (backTo pos (starEach es X.env)).any (·.1) = false := by rfl) : DV X (.Call (.Name x p) (e :: es) [] pos) (eAll m h) :=
  peMono (pe_callBfun hc hg hm ha.pa hdb he hpl) fun σ H Q ⟨B, F, ρ, d, E, e, q⟩ => by
    obtain ⟨ds, e1, e2⟩ := bind_some e
    exact ⟨B, F, ρ, ds, E, e1, fun vs F1 H1 G r => ⟨F1, ds, d, G.fh, r, e2, fun v F2 H2 G2 r2 => q v F2 H2 (G.trans G2) r2⟩⟩
theorem df_blt {x : Str} {p : Pos} {id : String} {m : List PyData → Option (List PyData)} (hc : CallR X (.builtin id) (rGF X.K m)) (hg : Gl X x) (hm : X.mg x = none) (hv : bootBuiltins x = some (.builtin id)) (ha : DA X (e :: es) h) (hn : x ≠ "__name__" := by decide) (hdb : (x == ("__debug__" : Str)) = false := by decide)
    (he : starEach (e :: es) X.env = (false, eval e X.env) :: starEach es X.env := by rfl) (hpl : (backTo pos (starEach es X.env)).any (·.1) = false := by rfl) : DF X (.Call (.Name x p) (e :: es) [] pos) (fAll m h) :=
  peMono (pe_callB hc hg hm hv ha.pa hn hdb he hpl) fun σ H Q ⟨B, F, ρ, d, E, e, q⟩ => by
    obtain ⟨ds, e1, e2⟩ := bind_some e
    exact ⟨B, F, ρ, ds, E, e1, fun vs F1 H1 G r => ⟨F1, ds, d, G.fh, r, e2, fun a ws F2 H2 G2 n1 n2 n3 r2 => q a ws F2 H2 (G.trans G2) (G.hh.free n1) n2 n3 r2⟩⟩
theorem df_ty {x : Str} {p : Pos} {T : String} {m : List PyData → Option (List PyData)} (hc : CallR X (.type T) (rGF X.K m)) (hg : Gl X x) (hm : X.mg x = none) (hv : bootBuiltins x = some (.type T)) (ha : DA X (e :: es) h) (hn : x ≠ "__name__" := by decide) (hdb : (x == ("__debug__" : Str)) = false := by decide)
    (he : starEach (e :: es) X.env = (false, eval e X.env) :: starEach es X.env := by rfl) (hpl : (backTo pos (starEach es X.env)).any (·.1) = false := by rfl) : DF X (.Call (.Name x p) (e :: es) [] pos) (fAll m h) :=
  peMono (pe_callTy hc hg hm hv ha.pa hn hdb he hpl) fun σ H Q ⟨B, F, ρ, d, E, e, q⟩ => by
    obtain ⟨ds, e1, e2⟩ := bind_some e
    exact ⟨B, F, ρ, ds, E, e1, fun vs F1 H1 G r => ⟨F1, ds, d, G.fh, r, e2, fun a ws F2 H2 G2 n1 n2 n3 r2 => q a ws F2 H2 (G.trans G2) (G.hh.free n1) n2 n3 r2⟩⟩

/-! ### operators -/
def gI (C : Int → Int → Prop) [∀ i j, Decidable (C i j)] (r : Int → Int → PyData) : PyData → PyData → Option PyData
  | .int i, .int j => if C i j then some (r i j) else none
  | _, _ => none
def gI0 (r : Int → Int → PyData) : PyData → PyData → Option PyData
  | .int i, .int j => some (r i j)
  | _, _ => none
theorem op_i {f : Value → Value → Sem Value} {C : Int → Int → Prop} [∀ i j, Decidable (C i j)] {r : Int → Int → Int} (h : OpR X f (rI C fun i j => .int (r i j))) : OpR X f (rG X.K (gI C fun i j => .int (r i j))) := opMono h fun x y H Q ⟨F, dx, dy, d, s, rx, ry, e, q⟩ => by
  unfold gI at e
  split at e
  · rename_i i j
    cases rx
    cases ry
    split at e
    · rename_i hc
      cases e
      exact ⟨i, j, rfl, rfl, hc, q _ F H (.refl s) (.int _)⟩
    · cases e
  · cases e
theorem op_i0 {f : Value → Value → Sem Value} {r : Int → Int → Int} (h : OpR X f (rI0 fun i j => .int (r i j))) : OpR X f (rG X.K (gI0 fun i j => .int (r i j))) := opMono h fun x y H Q ⟨F, dx, dy, d, s, rx, ry, e, q⟩ => by
  cases dx <;> cases dy <;> try cases e
  rename_i i j
  cases rx
  cases ry
  exact ⟨i, j, rfl, rfl, q _ F H (.refl s) (.int _)⟩
theorem op_b0 {f : Value → Value → Sem Value} {r : Int → Int → Bool} (h : OpR X f (rI0 fun i j => .bl (r i j))) : OpR X f (rG X.K (gI0 fun i j => .bool (r i j))) := opMono h fun x y H Q ⟨F, dx, dy, d, s, rx, ry, e, q⟩ => by
  cases dx <;> cases dy <;> try cases e
  rename_i i j
  cases rx
  cases ry
  exact ⟨i, j, rfl, rfl, q _ F H (.refl s) (.bl _)⟩
abbrev gAdd : PyData → PyData → Option PyData := gI0 fun i j => .int (i + j)
abbrev gSub : PyData → PyData → Option PyData := gI0 fun i j => .int (i - j)
instance : ∀ i j, Decidable (CMulW i j) := fun i j => by unfold CMulW; infer_instance
abbrev gMul : PyData → PyData → Option PyData := gI CMulW fun i j => .int (i * j)
def CDivA (_ j : Int) : Prop := j ≠ 0 ∧ j.natAbs.log2 < 9000
instance : ∀ i j, Decidable (CDivA i j) := fun i j => by unfold CDivA; infer_instance
abbrev gFdiv : PyData → PyData → Option PyData := gI CDivA fun i j => .int (i.fdiv j)
abbrev gMod : PyData → PyData → Option PyData := gI (fun _ j => j ≠ 0) fun i j => .int (i.fmod j)
instance : ∀ i j, Decidable (CPow i j) := fun i j => by unfold CPow; infer_instance
abbrev gPow : PyData → PyData → Option PyData := gI CPow fun i j => .int (i ^ j.toNat)
abbrev gLt : PyData → PyData → Option PyData := gI0 fun i j => .bool (decide (i < j))
abbrev gLe : PyData → PyData → Option PyData := gI0 fun i j => .bool (decide (i ≤ j))
abbrev gGt : PyData → PyData → Option PyData := gI0 fun i j => .bool (decide (j < i))
abbrev gGe : PyData → PyData → Option PyData := gI0 fun i j => .bool (decide (j ≤ i))
theorem o_add : OpR X (binaryOp .Add) (rG X.K gAdd) := op_i0 op_add
theorem o_sub : OpR X (binaryOp .Sub) (rG X.K gSub) := op_i0 op_sub
theorem o_mul : OpR X (binaryOp .Mult) (rG X.K gMul) := op_i op_mulW
theorem o_fdiv : OpR X (binaryOp .FloorDiv) (rG X.K gFdiv) := op_i (opI fun i j _ _ _ _ _ hc q => floordiv_int hc.1 q (.inl (PyProof.noPylong_of_log2 hc.2)))
theorem o_mod : OpR X (binaryOp .Mod) (rG X.K gMod) := op_i op_modN
theorem o_pow : OpR X (binaryOp .Pow) (rG X.K gPow) := op_i op_pow
theorem o_lt : OpR X (compareOp .Lt) (rG X.K gLt) := op_b0 op_lt
theorem o_le : OpR X (compareOp .LtE) (rG X.K gLe) := op_b0 op_le
theorem o_gt : OpR X (compareOp .Gt) (rG X.K gGt) := op_b0 op_gt
theorem o_ge : OpR X (compareOp .GtE) (rG X.K gGe) := op_b0 op_ge
def gNeg : PyData → Option PyData
  | .int i => some (.int (-i))
  | _ => none
theorem u_neg : UnR X (unaryOp .USub) (rG1 X.K gNeg) := unMono un_neg fun x H Q ⟨F, dx, d, s, rx, e, q⟩ => by
  cases dx <;> try cases e
  rename_i i
  cases rx
  exact ⟨i, rfl, q _ F H (.refl s) (.int _)⟩
def gEq (x y : PyData) : Option PyData := if SeqAt.shaped x && SeqAt.shaped y then some (.bool (PyData.eqv x y)) else none
def gNe (x y : PyData) : Option PyData := if SeqAt.shaped x && SeqAt.shaped y then some (.bool (!PyData.eqv x y)) else none
theorem o_eq (hu : X.A.units + 64 < cLine) : OpR X (compareOp .Eq) (rG X.K gEq) := opMono (op_eqD hu) fun x y H Q ⟨F, dx, dy, d, s, rx, ry, e, q⟩ => by
  unfold gEq at e
  split at e
  · rename_i hc
    cases e
    obtain ⟨h1, h2⟩ := Bool.and_eq_true_iff.mp hc
    exact ⟨dx, dy, dpMono s _ _ rx, dpMono s _ _ ry, h1, h2, q _ F H (.refl s) (.bl _)⟩
  · cases e
theorem o_ne (hu : X.A.units + 64 < cLine) : OpR X (compareOp .NotEq) (rG X.K gNe) := opMono (op_neD hu) fun x y H Q ⟨F, dx, dy, d, s, rx, ry, e, q⟩ => by
  unfold gNe at e
  split at e
  · rename_i hc
    cases e
    obtain ⟨h1, h2⟩ := Bool.and_eq_true_iff.mp hc
    exact ⟨dx, dy, dpMono s _ _ rx, dpMono s _ _ ry, h1, h2, q _ F H (.refl s) (.bl _)⟩
  · cases e
def isN : PyData → Bool
  | .none => true
  | _ => false
def gIs : PyData → PyData → Option PyData
  | x, .none => some (.bool (isN x))
  | _, _ => none
def gIsnt : PyData → PyData → Option PyData
  | x, .none => some (.bool !(isN x))
  | _, _ => none
theorem isN_v {K : PySem.W.Frag} {F : Hp} {x : V} {d : PyData} (r : Dp K F x d) : decide (x = .non) = isN d := by
  cases r <;> simp [isN]
theorem o_isN : OpR X (compareOp .Is) (rG X.K gIs) := opMono op_isN fun x y H Q ⟨F, dx, dy, d, s, rx, ry, e, q⟩ => by
  cases dy <;> try cases e
  cases ry
  exact ⟨rfl, by rw [isN_v rx]; exact q _ F H (.refl s) (.bl _)⟩
theorem o_notN : OpR X (compareOp .IsNot) (rG X.K gIsnt) := opMono op_notN fun x y H Q ⟨F, dx, dy, d, s, rx, ry, e, q⟩ => by
  cases dy <;> try cases e
  cases ry
  exact ⟨rfl, by rw [isN_v rx]; exact q _ F H (.refl s) (.bl _)⟩

/-! ### built-in functions -/
def mLen : List PyData → Option PyData
  | [.list xs] => some (.int xs.length)
  | [.tuple xs] => some (.int xs.length)
  | _ => none
theorem one_of {K : PySem.W.Frag} {F : Hp} {vs : List V} {d : PyData} (r : DpAll K F vs [d]) : ∃ v, vs = [v] ∧ Dp K F v d := by
  cases r with
  | cons a b =>
    cases b
    exact ⟨_, rfl, a⟩
theorem two_of {K : PySem.W.Frag} {F : Hp} {vs : List V} {d e : PyData} (r : DpAll K F vs [d, e]) : ∃ v u, vs = [v, u] ∧ Dp K F v d ∧ Dp K F u e := by
  cases r with
  | cons a b =>
    obtain ⟨u, rfl, r⟩ := one_of b
    exact ⟨_, u, rfl, a, r⟩
theorem c_len : CallR X (.builtin "len") (rGA X.K mLen) := clMono call_len_seq fun xs H Q ⟨F, ds, d, s, r, e, q⟩ => by
  unfold mLen at e
  split at e
  · cases e
    obtain ⟨v, rfl, rv⟩ := one_of r
    cases rv with
    | lst hs ha => exact ⟨_, _, rfl, .inl (s.seq hs), by rw [dpLen ha]; exact q _ F H (.refl s) (.int _)⟩
  · cases e
    obtain ⟨v, rfl, rv⟩ := one_of r
    cases rv with
    | tup hs ha => exact ⟨_, _, rfl, .inr (sameT s hs), by rw [dpLen ha]; exact q _ F H (.refl s) (.int _)⟩
  · cases e
def mAbs : List PyData → Option PyData
  | [.int i] => some (.int (if i < 0 then -i else i))
  | _ => none
theorem c_abs : CallR X (.builtin "abs") (rGA X.K mAbs) := clMono call_abs fun xs H Q ⟨F, ds, d, s, r, e, q⟩ => by
  unfold mAbs at e
  split at e
  · cases e
    obtain ⟨v, rfl, rv⟩ := one_of r
    cases rv
    exact ⟨_, rfl, q _ F H (.refl s) (.int _)⟩
  · cases e
def mInt : List PyData → Option PyData
  | [.int i] => some (.int i)
  | [.bool b] => some (.int (if b then 1 else 0))
  | _ => none
theorem c_int : CallR X (.type "int") (rGA X.K mInt) := clMono call_int1 fun xs H Q ⟨F, ds, d, s, r, e, q⟩ => by
  unfold mInt at e
  split at e
  · cases e
    obtain ⟨v, rfl, rv⟩ := one_of r
    cases rv
    exact .inl ⟨_, rfl, q _ F H (.refl s) (.int _)⟩
  · cases e
    obtain ⟨v, rfl, rv⟩ := one_of r
    cases rv
    exact .inr ⟨_, rfl, q _ F H (.refl s) (.int _)⟩
  · cases e
def mMax2 : List PyData → Option PyData
  | [.int i, .int j] => some (.int (if j > i then j else i))
  | _ => none
theorem c_max2 (hc : X.calm = true) : CallR X (.builtin "max") (rGA X.K mMax2) := clMono (call_max2 hc) fun xs H Q ⟨F, ds, d, s, r, e, q⟩ => by
  unfold mMax2 at e
  split at e
  · cases e
    obtain ⟨v, u, rfl, rv, ru⟩ := two_of r
    cases rv
    cases ru
    exact ⟨_, _, rfl, q _ F H (.refl s) (.int _)⟩
  · cases e
def mMin2 : List PyData → Option PyData
  | [.int i, .int j] => some (.int (if j < i then j else i))
  | _ => none
theorem c_min2 (hc : X.calm = true) : CallR X (.builtin "min") (rGA X.K mMin2) := clMono (call_min2 hc) fun xs H Q ⟨F, ds, d, s, r, e, q⟩ => by
  unfold mMin2 at e
  split at e
  · cases e
    obtain ⟨v, u, rfl, rv, ru⟩ := two_of r
    cases rv
    cases ru
    exact ⟨_, _, rfl, q _ F H (.refl s) (.int _)⟩
  · cases e
def mGcd : List PyData → Option PyData
  | [.int i, .int j] => some (.int ((Nat.gcd i.natAbs j.natAbs : Nat) : Int))
  | _ => none
theorem c_gcd : CallR X (.builtin "math.gcd") (rGA X.K mGcd) := clMono cr_gcd fun xs H Q ⟨F, ds, d, s, r, e, q⟩ => by
  unfold mGcd at e
  split at e
  · cases e
    obtain ⟨v, u, rfl, rv, ru⟩ := two_of r
    cases rv
    cases ru
    exact ⟨_, _, rfl, q _ F H (.refl s) (.int _)⟩
  · cases e
def mTuple : List PyData → Option PyData
  | [.list xs] => some (.tuple xs)
  | [.tuple xs] => some (.tuple xs)
  | _ => none
theorem c_tuple : CallR X (.type "tuple") (rGA X.K mTuple) := clMono call_tuple_of fun xs H Q ⟨F, ds, d, s, r, e, q⟩ => by
  unfold mTuple at e
  split at e
  · cases e
    obtain ⟨v, rfl, rv⟩ := one_of r
    cases rv with
    | lst hs ha => exact ⟨_, _, rfl, .inl ⟨s.seq hs, fun l nl => q _ _ _ (.new s nl) (.tup (.inl (.inl upd_same)) (dpMonoAll (sameUpd (s.free nl)) _ _ ha))⟩⟩
  · cases e
    obtain ⟨v, rfl, rv⟩ := one_of r
    cases rv with
    | tup hs ha => exact ⟨_, _, rfl, .inr ⟨sameT s hs, q _ F H (.refl s) (.tup hs ha)⟩⟩
  · cases e
def mList : List PyData → Option (List PyData)
  | [.list xs] => some xs
  | [.tuple xs] => some xs
  | _ => none
theorem c_list : CallR X (.type "list") (rGF X.K mList) := clMono call_list_of fun xs H Q ⟨F, ds, d, s, r, e, q⟩ => by
  unfold mList at e
  split at e
  · cases e
    obtain ⟨v, rfl, rv⟩ := one_of r
    cases rv with
    | lst hs ha => exact ⟨_, _, rfl, .inl (s.seq hs), fun l nl => q _ _ _ _ (.side s nl) nl (s.free nl) upd_same ha⟩
  · cases e
    obtain ⟨v, rfl, rv⟩ := one_of r
    cases rv with
    | tup hs ha => exact ⟨_, _, rfl, .inr (sameT s hs), fun l nl => q _ _ _ _ (.side s nl) nl (s.free nl) upd_same ha⟩
  · cases e
/-! ### isinstance of a built-in type -/
inductive Ty where
  | int | bool | tuple | list | str
def Ty.s : Ty → String
  | .int => "int" | .bool => "bool" | .tuple => "tuple" | .list => "list" | .str => "str"
def isT : Ty → PyData → Option Bool
  | .int, .int _ => some true
  | .int, .bool _ => some true
  | .bool, .bool _ => some true
  | .tuple, .tuple _ => some true
  | .list, .list _ => some true
  | .str, .str _ => some true
  | _, .dict _ => none
  | _, _ => some false
def eIs (T : Ty) (f : EV) : EV := fun ρ => (f ρ).bind fun d => (isT T d).map PyData.bool
theorem ty_of {K : PySem.W.Frag} {F : Hp} {x : V} {d : PyData} (r : Dp K F x d) : ∃ t, TyX K F x (.type t) ∧ ∀ T b, isT T d = some b → PySem.W.kitOne K (.type t) (.type T.s) = some b := by
  cases r with
  | non => exact ⟨_, .base .non, fun T b e => by cases T <;> cases e <;> exact kit_ty (by decide +kernel)⟩
  | bl k => exact ⟨_, .base (.bl k), fun T b e => by cases T <;> cases e <;> exact kit_ty (by decide +kernel)⟩
  | int k => exact ⟨_, .base (.int k), fun T b e => by cases T <;> cases e <;> exact kit_ty (by decide +kernel)⟩
  | str k => exact ⟨_, .base (.str k), fun T b e => by cases T <;> cases e <;> exact kit_ty (by decide +kernel)⟩
  | lst hs _ =>
    refine ⟨"list", ?_, fun T b e => by cases T <;> cases e <;> exact kit_ty (by decide +kernel)⟩
    rcases hs with (hs | ⟨o, hs⟩) | ⟨o, its, n, h1, h2, _⟩
    · exact .base (.lst hs)
    · exact .base (.frz hs)
    · exact .kList h1 h2
  | tup hs _ =>
    refine ⟨"tuple", ?_, fun T b e => by cases T <;> cases e <;> exact kit_ty (by decide +kernel)⟩
    rcases hs with (hs | ⟨o, hs⟩) | ⟨o, its, n, h1, h2, _⟩
    · exact .base (.tup hs)
    · exact .fTuple hs
    · exact .kTuple h1 h2
theorem dv_isi {x y : Str} {p p2 : Pos} {T : Ty} (hg : Gl X x) (hm : X.mg x = none) (hx : x = "isinstance") (hgt : Gl X y) (hmt : X.mg y = none) (hvt : bootBuiltins y = some (.type T.s)) (ha : DV X a f) (hnt : y ≠ "__name__" := by decide) (hdt : (y == ("__debug__" : Str)) = false := by decide)
    (he : starEach [a, .Name y p2] X.env = (false, eval a X.env) :: starEach [.Name y p2] X.env := by rfl) (he2 : starEach [.Name y p2] X.env = (false, eval (.Name y p2) X.env) :: starEach [] X.env := by rfl) (hpl : (backTo pos (starEach [.Name y p2] X.env)).any (·.1) = false := by rfl) : DV X (.Call (.Name x p) [a, .Name y p2] [] pos) (eIs T f) := by
  subst hx
  refine peMono (pe_callB call_isi hg hm (by decide +kernel) (pa_cons ha (pa_cons (pe_bltn (v := .ty T.s) hgt hmt hvt rfl hnt hdt) pa_nil he2) he) (by decide) (by decide) he hpl) fun σ H Q ⟨B, F, ρ, d, E, e, q⟩ => ?_
  obtain ⟨dx, e1, e2⟩ := bind_some e
  obtain ⟨k, e3, e4⟩ := Option.map_eq_some_iff.mp e2
  subst e4
  refine ⟨B, F, ρ, dx, E, e1, fun v F1 H1 G r => ?_⟩
  obtain ⟨t, h1, h2⟩ := ty_of (dpMono G.fh _ _ r)
  exact ⟨v, .ty T.s, .type t, .type T.s, k, rfl, .ty _, h1, h2 T k e3, q _ F1 H1 G (.bl k)⟩
end
end DL

set_option Elab.async false
set_option linter.all false
set_option maxRecDepth 100000
set_option maxHeartbeats 4000000
namespace DL
open PySem PySem.Spec PyProof.Rows L2
/-! ### what is walked -/
structure Ylds (K : PySem.W.Frag) (J : It) (F : Hp) (ds : List PyData) : Prop where
  go : ∀ i H, i < ds.length → Same F H → J.go i H
  stop : ∀ H, Same F H → J.stop ds.length H
  yld : ∀ i H x H' F1, i < ds.length → Same F F1 → Same F1 H → J.yld i H x H' → ∃ d F2, ds[i]? = some d ∧ Grow F1 H F2 H' ∧ Dp K F2 x d
def tI (K : PySem.W.Frag) (f : EA) : TI := fun σ H R => ∃ B F ρ ds, ER K B F H σ ρ ∧ f ρ = some ds ∧ ∀ J F' H', Grow F H F' H' → Ylds K J F' ds → R J H'
def DI (X : Cx) (tg iter : Expr) (f : EA) : Prop := PI X tg iter (tI X.K f)
theorem piMono {X : Cx} {tg it : Expr} {t t' : TI} (h : PI X tg it t) (k : ∀ σ H R, t' σ H R → t σ H R) : PI X tg it t' := ⟨fun pins s σ H R I q => h.run pins s σ H R I (k _ _ _ q)⟩
theorem piOr {X : Cx} {tg it : Expr} {t t' : TI} (h : PI X tg it t) (h' : PI X tg it t') : PI X tg it (fun σ H R => t σ H R ∨ t' σ H R) := ⟨fun pins s σ H R I q => q.elim (h.run pins s σ H R I) (h'.run pins s σ H R I)⟩
theorem ylds_list {K : PySem.W.Frag} {F : Hp} {a : Addr} {xs : List V} {ds : List PyData} (hs : SqL K F a xs) (r : DpAll K F xs ds) : Ylds K (Itl K a) F ds :=
  have w := walk_list (K := K) (a := a) (xs := xs)
  have e := dpLen r
  ⟨fun i H hi s => w.goes i H (by rw [e]; exact hi) (s.seq hs), fun H s => by rw [← e]; exact w.stops H (s.seq hs), fun i H x H' F1 hi s1 s y => by
    obtain ⟨y1, y2⟩ := w.yields i H x H' (by rw [e]; exact hi) (s.seq (s1.seq hs)) y
    obtain ⟨d, h1, h2⟩ := dpGetV r y2
    rw [y1]
    exact ⟨d, F1, h1, .refl s, dpMono s1 _ _ h2⟩⟩
theorem ylds_tup {K : PySem.W.Frag} {F : Hp} {a : Addr} {xs : List V} {ds : List PyData} (hs : SqT K F a xs) (r : DpAll K F xs ds) : Ylds K (Itt K a) F ds :=
  have w := walk_tup (K := K) (a := a) (xs := xs)
  have e := dpLen r
  ⟨fun i H hi s => w.goes i H (by rw [e]; exact hi) (sameT s hs), fun H s => by rw [← e]; exact w.stops H (sameT s hs), fun i H x H' F1 hi s1 s y => by
    obtain ⟨y1, y2⟩ := w.yields i H x H' (by rw [e]; exact hi) (sameT s (sameT s1 hs)) y
    obtain ⟨d, h1, h2⟩ := dpGetV r y2
    rw [y1]
    exact ⟨d, F1, h1, .refl s, dpMono s1 _ _ h2⟩⟩
def rng (lo : Int) (n : Nat) : List PyData := (List.range n).map fun (i : Nat) => PyData.int (lo + (i : Int))
theorem rng_len (lo : Int) (n : Nat) : (rng lo n).length = n := by simp [rng]
theorem ylds_rng {K : PySem.W.Frag} {F : Hp} {lo : Int} {n : Nat} : Ylds K (Itr lo n) F (rng lo n) :=
  ⟨fun i H hi _ => by rw [rng_len] at hi; exact hi, fun H _ => by rw [rng_len]; exact Nat.le_refl _, fun i H x H' F1 hi s1 s y => by
    rw [rng_len] at hi
    obtain ⟨y1, y2⟩ := y
    rw [y1, y2]
    exact ⟨.int (lo + i), F1, by simp [rng, hi], .refl s, .int _⟩⟩
def seqOf : PyData → Option (List PyData)
  | .list xs => some xs
  | .tuple xs => some xs
  | _ => none
def iSeq (f : EV) : EA := fun ρ => (f ρ).bind seqOf
noncomputable def cIf {α : Type} (c : Prop) (a b : α) : α := @ite α c (Classical.propDecidable c) a b
theorem cIf_pos {α : Type} {c : Prop} {a b : α} (h : c) : cIf c a b = a := if_pos h
theorem cIf_neg {α : Type} {c : Prop} {a b : α} (h : ¬ c) : cIf c a b = b := if_neg h
theorem cIf_some {α : Type} {c : Prop} {a : α} {y : α} (h : cIf c (some a) none = some y) : c ∧ a = y := by
  by_cases hc : c
  · rw [cIf_pos hc] at h
    exact ⟨hc, Option.some.inj h⟩
  · rw [cIf_neg hc] at h
    cases h
noncomputable def rg1 : PyData → Option (List PyData)
  | .int j => cIf (-(2 ^ 62) ≤ j ∧ j < 2 ^ 62) (some (rng 0 j.toNat)) none
  | _ => none
noncomputable def rg2 : PyData → PyData → Option (List PyData)
  | .int i, .int j => cIf (-(2 ^ 62) ≤ i ∧ i < 2 ^ 62 ∧ -(2 ^ 62) ≤ j ∧ j < 2 ^ 62) (some (rng i (j - i).toNat)) none
  | _, _ => none
noncomputable def iRg1 (f : EV) : EA := fun ρ => (f ρ).bind rg1
noncomputable def iRg2 (f g : EV) : EA := fun ρ => (f ρ).bind fun d => (g ρ).bind fun e => rg2 d e
section
variable {X : Cx} {tg a b c e elt iter : Expr} {es : List Expr} {f g f1 f2 : EV} {h : EA} {cb cb' : EB} {pos : Pos}
theorem di_seq (h : DV X a f) : DI X tg a (iSeq f) := piMono (piOr (pi_list h) (pi_tup h)) fun σ H R ⟨B, F, ρ, ds, E, e, q⟩ => by
  obtain ⟨d, e1, e2⟩ := bind_some e
  cases d with
  | list xs =>
    cases e2
    refine .inl ⟨B, F, ρ, _, E, e1, fun v F1 H1 G r => ?_⟩
    cases r with
    | lst hs ha => exact ⟨_, rfl, ⟨_, G.fh.seq hs⟩, q _ F1 H1 G (ylds_list hs ha)⟩
  | tuple xs =>
    cases e2
    refine .inr ⟨B, F, ρ, _, E, e1, fun v F1 H1 G r => ?_⟩
    cases r with
    | tup hs ha => exact ⟨_, rfl, ⟨_, sameT G.fh hs⟩, q _ F1 H1 G (ylds_tup hs ha)⟩
  | _ => cases e2
theorem di_rg1 {p : Pos} (hg : Gl X "range") (hm : X.mg "range" = none) (ha : DV X a f) (hs : starEach [a] X.env = (false, eval a X.env) :: starEach [] X.env := by rfl) (hs1 : starEach [a] X.env = [(false, eval a X.env)] := by rfl) : DI X tg (.Call (.Name "range" p) [a] [] pos) (iRg1 f) :=
  piMono (pi_range1 hg hm (pa_cons ha pa_nil hs) hs1) fun σ H R ⟨B, F, ρ, ds, E, e, q⟩ => by
    obtain ⟨d, e1, e2⟩ := bind_some e
    refine ⟨B, F, ρ, d, E, e1, fun v F1 H1 G r => ?_⟩
    cases d with
    | int j =>
      cases r
      obtain ⟨hc, e3⟩ := cIf_some (show cIf (-(2 ^ 62) ≤ j ∧ j < 2 ^ 62) (some (rng 0 j.toNat)) none = some ds from e2)
      subst e3
      exact ⟨j, rfl, hc.1, hc.2, q _ F1 H1 G ylds_rng⟩
    | _ => cases e2
theorem di_rg2 {p : Pos} (hg : Gl X "range") (hm : X.mg "range" = none) (ha : DV X a f) (hb : DV X b g) (hs : starEach [a, b] X.env = (false, eval a X.env) :: starEach [b] X.env := by rfl) (hs0 : starEach [b] X.env = (false, eval b X.env) :: starEach [] X.env := by rfl)
    (hs1 : starEach [a, b] X.env = [(false, eval a X.env), (false, eval b X.env)] := by rfl) (hs2 : starEach [b] X.env = [(false, eval b X.env)] := by rfl) : DI X tg (.Call (.Name "range" p) [a, b] [] pos) (iRg2 f g) :=
  piMono (pi_range2 hg hm (pa_cons ha (pa_cons hb pa_nil hs0) hs) hs1 hs2) fun σ H R ⟨B, F, ρ, ds, E, e, q⟩ => by
    obtain ⟨d, e1, e2⟩ := bind_some e
    obtain ⟨d2, e3, e4⟩ := bind_some e2
    refine ⟨B, F, ρ, d, E, e1, fun v F1 H1 G r => ⟨B, F1, ρ, d2, E.grow G, e3, fun v2 F2 H2 G2 r2 => ?_⟩⟩
    cases d with
    | int i =>
      cases d2 with
      | int j =>
        cases r
        cases r2
        obtain ⟨hc, e5⟩ := cIf_some (show cIf (-(2 ^ 62) ≤ i ∧ i < 2 ^ 62 ∧ -(2 ^ 62) ≤ j ∧ j < 2 ^ 62) (some (rng i (j - i).toNat)) none = some ds from e4)
        subst e5
        exact ⟨i, j, rfl, hc, q _ F2 H2 (G.trans G2) ylds_rng⟩
      | _ => cases e4
    | _ => cases e4

/-! ### targets -/
abbrev EG := PyData → Rho → Option Rho
def tG (K : PySem.W.Frag) (is : List Nat) (g : EG) : TG := fun v σ H Q => ∃ B F ρ d ρ', ER K B F H σ ρ ∧ Dp K F v d ∧ g d ρ = some ρ' ∧ ∀ σ', ER K B F H σ' ρ' → σ'.length = σ.length → (∀ j, j ∉ is → σ'[j]? = σ[j]?) → Q σ' H
def tGs (K : PySem.W.Frag) (is : List Nat) (g : List PyData → Rho → Option Rho) : TGs := fun vs σ H Q => ∃ B F ρ ds ρ', ER K B F H σ ρ ∧ DpAll K F vs ds ∧ g ds ρ = some ρ' ∧ ∀ σ', ER K B F H σ' ρ' → σ'.length = σ.length → (∀ j, j ∉ is → σ'[j]? = σ[j]?) → Q σ' H
def DG (X : Cx) (tg : Expr) (is : List Nat) (g : EG) : Prop := PG X tg (tG X.K is g)
def DGs (X : Cx) (tg : List Expr) (is : List Nat) (g : List PyData → Rho → Option Rho) : Prop := PGs X tg (tGs X.K is g)
theorem pgMono {t t' : TG} (h : PG X tg t) (k : ∀ v σ H Q, t' v σ H Q → t v σ H Q) : PG X tg t' := ⟨fun pins s σ H x v Q I r q => h.run pins s σ H x v Q I r (k _ _ _ _ q)⟩
theorem pgsMono {t t' : TGs} {ts : List Expr} (h : PGs X ts t) (k : ∀ v σ H Q, t' v σ H Q → t v σ H Q) : PGs X ts t' := ⟨fun pins s σ H x v Q I r q => h.run pins s σ H x v Q I r (k _ _ _ _ q)⟩
def gNm (i : Nat) : EG := fun d ρ => some (ρ.set i (.va d))
def gsNil : List PyData → Rho → Option Rho := fun ds ρ => match ds with
  | [] => some ρ
  | _ => none
def gsCons (g : EG) (r : List PyData → Rho → Option Rho) : List PyData → Rho → Option Rho := fun ds ρ => match ds with
  | d :: ds => (g d ρ).bind fun ρ' => r ds ρ'
  | [] => none
def gTp (n : Nat) (r : List PyData → Rho → Option Rho) : EG := fun d ρ => match d with
  | .tuple ds => if ds.length = n then r ds ρ else none
  | .list ds => if ds.length = n then r ds ρ else none
  | _ => none
theorem dg_name {i : Nat} {x : Str} (h : PG X (.Name x pos) (gName i)) : DG X (.Name x pos) [i] (gNm i) := pgMono h fun v σ H Q ⟨B, F, ρ, d, ρ', E, r, e, q⟩ => by
  cases e
  exact q _ (E.setVa r) (by rw [List.length_set]) fun j hj => List.getElem?_set_ne (fun z => hj (by simp [z]))
theorem dgs_nil : DGs X [] [] gsNil := pgsMono pgs_nil fun vs σ H Q ⟨B, F, ρ, ds, ρ', E, r, e, q⟩ => by
  cases ds with
  | nil =>
    cases r
    cases e
    exact ⟨rfl, q σ E rfl fun _ _ => rfl⟩
  | cons d ds => cases e
theorem dgs_cons {is js : List Nat} {g : EG} {gr : List PyData → Rho → Option Rho} (h1 : DG X e is g) (h2 : DGs X es js gr) (he : (assignEach (e :: es) X.env).map (·.2) = assign e X.env :: (assignEach es X.env).map (·.2) := by rfl) : DGs X (e :: es) (is ++ js) (gsCons g gr) := pgsMono (pgs_cons h1 h2 he) fun vs σ H Q ⟨B, F, ρ, ds, ρ', E, r, ee, q⟩ => by
  cases ds with
  | nil => cases ee
  | cons d ds =>
    obtain ⟨ρ1, e1, e2⟩ := bind_some ee
    cases r with
    | cons ra rb =>
      exact ⟨_, _, rfl, B, F, ρ, d, ρ1, E, ra, e1, fun σ1 E1 l1 k1 => ⟨B, F, ρ1, ds, ρ', E1, rb, e2, fun σ2 E2 l2 k2 => q σ2 E2 (l2.trans l1) fun j hj => (k2 j fun z => hj (List.mem_append_right _ z)).trans (k1 j fun z => hj (List.mem_append_left _ z))⟩⟩
theorem pgOr {t t' : TG} (h : PG X tg t) (h' : PG X tg t') : PG X tg (fun v σ H Q => t v σ H Q ∨ t' v σ H Q) := ⟨fun pins s σ H x v Q I r q => q.elim (h.run pins s σ H x v Q I r) (h'.run pins s σ H x v Q I r)⟩
theorem dg_tup {n k : Nat} {is : List Nat} {gr : List PyData → Rho → Option Rho} (hc : X.calm = true) (h : DGs X es is gr) (hn : (assignEach es X.env).length = n := by rfl) (hst : (assignEach es X.env).findIdx? (·.1) = none := by rfl) : DG X (.Tuple es k pos) is (gTp n gr) :=
  pgMono (pgOr (pg_tup (n := n) hc h hn hst) (pg_unl (n := n) hc h hn hst)) fun v σ H Q ⟨B, F, ρ, d, ρ', E, r, e, q⟩ => by
    unfold gTp at e
    split at e
    · rename_i ds
      split at e
      · rename_i hl
        cases r with
        | tup hs ha => exact .inl ⟨_, _, rfl, sameT E.fh hs, (dpLen ha).trans hl, B, F, ρ, _, ρ', E, ha, e, q⟩
      · cases e
    · rename_i ds
      split at e
      · rename_i hl
        cases r with
        | lst hs ha => exact .inr ⟨_, _, rfl, E.fh.seq hs, (dpLen ha).trans hl, B, F, ρ, _, ρ', E, ha, e, q⟩
      · cases e
    · cases e

/-! ### comprehensions -/
def wipeR (ρ : Rho) : List Nat → Rho
  | [] => ρ
  | v :: vs => (wipeR ρ vs).set v .un
def compL (g : EG) (c : EB) (e : EV) (ρ : Rho) : List PyData → Option (List PyData)
  | [] => some []
  | d :: ds => (g d ρ).bind fun ρ1 => (c ρ1).bind fun b => if b then (e ρ1).bind fun x => (compL g c e ρ ds).bind fun r => some (x :: r) else compL g c e ρ ds
def fComp (it : EA) (g : EG) (c : EB) (e : EV) (vs : List Nat) : EA := fun ρ => (it ρ).bind fun ds => if ds.length ≤ 16000000 then compL g c e (wipeR ρ vs) ds else none
theorem setUn {K : PySem.W.Frag} {B F H : Hp} {σ : L2.St} {ρ : Rho} (E : ER K B F H σ ρ) (i : Nat) (x : Option V) : ER K B F H (σ.set i x) (ρ.set i .un) where
  fh := E.fh
  len := by rw [List.length_set, List.length_set]; exact E.len
  va := fun j d h => by
    by_cases hj : i = j
    · subst hj
      by_cases hl : i < ρ.length
      · rw [List.getElem?_set_self hl] at h
        cases h
      · rw [List.getElem?_eq_none (by simpa using hl)] at h
        cases h
    · rw [List.getElem?_set_ne hj] at h ⊢
      exact E.va j d h
  ow := fun j d h => by
    by_cases hj : i = j
    · subst hj
      by_cases hl : i < ρ.length
      · rw [List.getElem?_set_self hl] at h
        cases h
      · rw [List.getElem?_eq_none (by simpa using hl)] at h
        cases h
    · rw [List.getElem?_set_ne hj] at h ⊢
      exact E.ow j d h
  dj := fun j k d d' a h h' s s' => by
    have q : ∀ j d, (ρ.set i SC.un)[j]? = some (.ow d) → i ≠ j := fun j d h z => by
      subst z
      by_cases hl : i < ρ.length
      · rw [List.getElem?_set_self hl] at h
        cases h
      · rw [List.getElem?_eq_none (by simpa using hl)] at h
        cases h
    have q1 := q j d h
    have q2 := q k d' h'
    rw [List.getElem?_set_ne q1] at h s
    rw [List.getElem?_set_ne q2] at h' s'
    exact E.dj j k d d' a h h' s s'
theorem erWipe {K : PySem.W.Frag} {B F H : Hp} {σ : L2.St} {ρ : Rho} (E : ER K B F H σ ρ) : ∀ vs : List Nat, ER K B F H (wipe σ vs) (wipeR ρ vs)
  | [] => E
  | v :: vs => setUn (erWipe E vs) v none
theorem wipe_at {σ : L2.St} : ∀ (vs : List Nat) (j : Nat), (wipe σ vs)[j]? = if j ∈ vs ∧ j < σ.length then some none else σ[j]?
  | [], j => by simp [wipe]
  | v :: vs, j => by
    unfold wipe
    rw [List.getElem?_set, wipe_at vs j, wipe_length]
    by_cases h1 : v = j
    · subst h1
      by_cases h2 : v < σ.length
      · simp [h2]
      · simp [h2]
    · have h3 : ¬ j = v := fun z => h1 z.symm
      simp [h1, h3]
theorem wipe_same {σ σ2 : L2.St} {is vs : List Nat} (hs : ∀ i ∈ is, i ∈ vs) (l : σ2.length = (wipe σ vs).length) (k : ∀ j, j ∉ is → σ2[j]? = (wipe σ vs)[j]?) : wipe σ2 vs = wipe σ vs := by
  rw [wipe_length] at l
  refine List.ext_getElem? fun j => ?_
  rw [wipe_at vs j, wipe_at vs j, l]
  by_cases hj : j ∈ vs
  · by_cases hl : j < σ.length
    · rw [if_pos ⟨hj, hl⟩, if_pos ⟨hj, hl⟩]
    · rw [if_neg fun z => hl z.2, if_neg fun z => hl z.2, List.getElem?_eq_none (by omega), List.getElem?_eq_none (by omega)]
  · rw [if_neg fun z => hj z.1, if_neg fun z => hj z.1, k j fun z => hj (hs j z), wipe_at vs j, if_neg fun z => hj z.1]
theorem compLen {g : EG} {c : EB} {e : EV} {ρ : Rho} : ∀ {ds rs : List PyData}, compL g c e ρ ds = some rs → rs.length ≤ ds.length
  | [], _, h => by cases h; exact Nat.le_refl _
  | d :: ds, rs, h => by
    obtain ⟨ρ1, _, h⟩ := bind_some h
    obtain ⟨b, _, h⟩ := bind_some h
    split at h
    · obtain ⟨x, _, h⟩ := bind_some h
      obtain ⟨r, h1, h⟩ := bind_some h
      cases h
      exact Nat.succ_le_succ (compLen h1)
    · exact Nat.le_succ_of_le (compLen h)
theorem tComp {K : PySem.W.Frag} {it : EA} {g : EG} {is : List Nat} {cb : EB} {ev : EV} {vs : List Nat} (hv : ∀ i ∈ is, i ∈ vs) {σ : L2.St} {H : Hp} {Q : VK} (h : tF K (fComp it g cb ev vs) σ H Q) : tLc (tI K it) (tG K is g) (tT K cb) (tD K ev) vs σ H Q := by
  obtain ⟨B, F, ρ, rs, E, e, q⟩ := h
  obtain ⟨ds, e1, e⟩ := bind_some e
  split at e
  case isFalse => cases e
  rename_i hz
  refine ⟨B, F, ρ, ds, E, e1, fun J F1 H1 G1 Y D nD => ⟨fun i m H2 => m = ds.length - i ∧ i ≤ ds.length ∧ ∃ F2 acc ws rest, Grow F1 H1 F2 H2 ∧ F2 D = none ∧ H2 D = some (.lst ws) ∧ DpAll K F2 ws acc ∧ compL g cb ev (wipeR ρ vs) (ds.drop i) = some rest ∧ acc ++ rest = rs ∧ acc.length ≤ i, ⟨ds.length, by simp, Nat.zero_le _, F1, [], [], rs, .side G1.fh nD, G1.fh.free nD, upd_same, .nil, e, rfl, Nat.le_refl _⟩, ?_⟩⟩
  rintro i m H2 ⟨rfl, hi, F2, acc, ws, rest, G2, n2, h2, r2, e2, e3, l2⟩
  by_cases hlt : i < ds.length
  · refine .inr ⟨Y.go i H2 hlt (G2.ff.trans G2.fh), _, fun H' p' => ⟨ds.length - (i + 1), by omega, rfl, hlt, p'⟩, fun x H3 y => ?_⟩
    obtain ⟨d, F3, hd, G3, r3⟩ := Y.yld i H2 x H3 F2 hlt G2.ff G2.fh y
    have ed : ds.drop i = d :: ds.drop (i + 1) := by
      rw [List.drop_eq_getElem_cons hlt]
      rw [List.getElem?_eq_getElem hlt] at hd
      cases hd
      rfl
    rw [ed] at e2
    obtain ⟨ρ1, c1, e2⟩ := bind_some e2
    obtain ⟨b, c2, e2⟩ := bind_some e2
    have GA := G1.trans (G2.trans G3)
    refine ⟨B, F3, wipeR ρ vs, d, ρ1, erWipe (E.grow GA) vs, r3, c1, fun σ2 E2 l k => ⟨wipe_same hv l k, B, F3, ρ1, b, E2, c2, fun F4 H4 G4 => ?_⟩⟩
    cases b with
    | false =>
      rw [if_neg (by simp)] at e2 ⊢
      exact ⟨F4, acc, ws, rest, G2.trans (G3.trans G4), G4.nn _ _ (G3.hh _ _ h2) (G3.nn _ _ h2 n2), G4.hh _ _ (G3.hh _ _ h2), dpMonoAll (G3.ff.trans G4.ff) _ _ r2, e2, e3, by omega⟩
    | true =>
      rw [if_pos rfl] at e2 ⊢
      obtain ⟨dx, c3, e2⟩ := bind_some e2
      obtain ⟨rr, c4, e2⟩ := bind_some e2
      cases e2
      refine ⟨B, F4, ρ1, dx, E2.grow G4, c3, fun v F5 H5 G5 r5 => ?_⟩
      have GG := G3.trans (G4.trans G5)
      have h5 := GG.hh _ _ h2
      have n5 := GG.nn _ _ h2 n2
      have w5 : ws.length = acc.length := dpLen r2
      refine ⟨ws, h5, by rw [w5]; exact Nat.lt_of_le_of_lt (show acc.length ≤ 16000000 by omega) (by decide), F5, acc ++ [dx], ws ++ [v], rr, ⟨G2.ff.trans GG.ff, fun b o z => ?_, fun b o z => ?_, fun b o z n => GG.nn b o (G2.hh b o z) (G2.nn b o z n)⟩, n5, upd_same, dpApp (dpMonoAll GG.ff _ _ r2) (.cons r5 .nil), c4, by rw [List.append_assoc]; exact e3, by rw [List.length_append, List.length_singleton]; omega⟩
      · rw [upd_ne (fun q => by rw [q, n5] at z; cases z)]
        exact G5.fh b o z
      · rw [upd_ne (ne_of_none z nD)]
        exact GG.hh b o (G2.hh b o z)
  · have ei : i = ds.length := by omega
    subst ei
    rw [List.drop_length] at e2
    cases e2
    rw [List.append_nil] at e3
    subst e3
    exact .inl ⟨Y.stop H2 (G2.ff.trans G2.fh), q D ws F2 H2 (G1.trans G2) (G1.hh.free nD) n2 h2 r2⟩
def DX (X : Cx) (ifs : List Expr) (f : EB) : Prop := PTs X ifs (tT X.K f)
theorem ptsMono {ifs : List Expr} {t t' : TT} (h : PTs X ifs t) (k : ∀ σ H Q, t' σ H Q → t σ H Q) : PTs X ifs t' := ⟨fun pins s σ H Q I q => h.run pins s σ H Q I (k _ _ _ q)⟩
def bYes : EB := fun _ => some true
theorem dx_nil : DX X [] bYes := ptsMono pts_nil fun σ H Q ⟨B, F, ρ, b, E, e, q⟩ => by
  cases e
  exact q F H (.refl E.fh)
theorem dx_one (h : DT X c cb) : DX X [c] cb := pts_one h
theorem df_comp {scope : Scope} {own : List (Str × Nat)} {ifs : List Expr} {is : List Nat} {gg : EG} {it : EA} {ev : EV} (hc : X.calm = true) (hN : X.N.Nodup) (hi : DI X tg iter it) (ok : BlkOk X.N X.env.scope scope own)
    (hg : ∀ (s : Shared) (H : Hp) (C : Addr) (cl : List (Str × Addr)) (fp : List Addr), DG (X.blk s H scope (compEnvC scope cl C X.env) fp) tg is gg) (ht : ∀ (s : Shared) (H : Hp) (C : Addr) (cl : List (Str × Addr)) (fp : List Addr), DX (X.blk s H scope (compEnvC scope cl C X.env) fp) ifs cb)
    (he : ∀ (s : Shared) (H : Hp) (C : Addr) (cl : List (Str × Addr)) (fp : List Addr), DV (X.blk s H scope (compEnvC scope cl C X.env) fp) elt ev) (hv : ∀ i ∈ is, i ∈ own.map (·.2) := by decide) (hs : ∀ x, foldedSetIterable iter X.env x = pure x := by intro _; rfl) :
    DF X (.ListComp elt [⟨tg, iter, ifs, 0⟩] scope pos) (fComp it gg cb ev (own.map (·.2))) := peMono (pe_lc (g := tG X.K is gg) (tt := tT X.K cb) (te := tD X.K ev) hc hN hi ok hg ht he hs) fun _ _ _ q => tComp hv q
end
end DL

set_option Elab.async false
set_option linter.all false
set_option maxRecDepth 100000
set_option maxHeartbeats 4000000
namespace DL
open PySem PySem.Spec PyProof.Rows L2
/-! ### statements -/
/-- an exception: its class by name, its one field -/
structure XD where
  c : Str
  f : Str
  d : PyData
inductive SR where
  | nx (ρ : Rho) | rt (d : PyData) | bk (ρ : Rho) | ct (ρ : Rho) | xc (ρ : Rho) (x : XD)
abbrev ES := Rho → Option SR
def stOk (K : PySem.W.Frag) (F0 B F : Hp) (P : L2.St → Hp → Prop) (ρ : Rho) : Prop := ∀ σ' F' H', Grow F0 B F' H' → ER K B F' H' σ' ρ → Same F F' → P σ' H'
def postX (K : PySem.W.Frag) (F0 B F : Hp) (W : WX) (ρ : Rho) (x : XD) : Prop := ∀ σ' F' H' dd v, Grow F0 B F' H' → ER K B F' H' σ' ρ → Same F F' → H' dd = some (.xd [(x.f, v)]) → F' dd = none → B dd = none → Dp K F' v x.d → W (.ref (He.ga K x.c)) (some dd) σ' H'
def post (K : PySem.W.Frag) (F0 B F : Hp) (W : WX) (D : Ends) : SR → Prop
  | .xc ρ x => postX K F0 B F W ρ x
  | .nx ρ => stOk K F0 B F D.nx ρ
  | .bk ρ => stOk K F0 B F D.bk ρ
  | .ct ρ => stOk K F0 B F D.ct ρ
  | .rt d => ∀ v F' H', Grow F0 B F' H' → Dp K F' v d → D.rt v H'
theorem stOk.mono {K : PySem.W.Frag} {F0 B F F1 : Hp} {P : L2.St → Hp → Prop} {ρ : Rho} (h : stOk K F0 B F P ρ) (s : Same F F1) : stOk K F0 B F1 P ρ := fun σ' F' H' g e s' => h σ' F' H' g e (s.trans s')
theorem post.mono {K : PySem.W.Frag} {F0 B F F1 : Hp} {W : WX} {D : Ends} {r : SR} (h : post K F0 B F W D r) (s : Same F F1) : post K F0 B F1 W D r := by
  cases r with
  | nx ρ => exact stOk.mono h s
  | bk ρ => exact stOk.mono h s
  | ct ρ => exact stOk.mono h s
  | rt d => exact h
  | xc ρ x => exact fun σ' F' H' dd v g e s' => h σ' F' H' dd v g e (s.trans s')
def tS (K : PySem.W.Frag) (W : WX) (f : ES) : TS := fun D σ H => ∃ F0 B F ρ r, Grow F0 B F H ∧ ER K B F H σ ρ ∧ f ρ = some r ∧ post K F0 B F W D r
def DS (X : Cx) (st : Stmt) (f : ES) : Prop := ∀ W : WX, Takes X W → PS X st (tS X.K W f)
def DSs (X : Cx) (st : List Stmt) (f : ES) : Prop := ∀ W : WX, Takes X W → PSs X st (tS X.K W f)
theorem psMono {X : Cx} {st : Stmt} {t t' : TS} (h : PS X st t) (k : ∀ D σ H, t' D σ H → t D σ H) : PS X st t' := ⟨fun pins s σ H D I q => h.run pins s σ H D I (k _ _ _ q)⟩
theorem pssMono {X : Cx} {st : List Stmt} {t t' : TS} (h : PSs X st t) (k : ∀ D σ H, t' D σ H → t D σ H) : PSs X st t' := ⟨fun pins s σ H D I q => h.run pins s σ H D I (k _ _ _ q)⟩
def sNx : ES := fun ρ => some (.nx ρ)
def sBk : ES := fun ρ => some (.bk ρ)
def sCt : ES := fun ρ => some (.ct ρ)
def sSeq (f g : ES) : ES := fun ρ => (f ρ).bind fun r => match r with
  | .nx ρ' => g ρ'
  | r => some r
def sSet (i : Nat) (f : EV) : ES := fun ρ => (f ρ).bind fun d => some (.nx (ρ.set i (.va d)))
def sOwn (i : Nat) (f : EA) : ES := fun ρ => (f ρ).bind fun ds => some (.nx (ρ.set i (.ow ds)))
def sTo (g : EG) (f : EV) : ES := fun ρ => (f ρ).bind fun d => (g d ρ).bind fun ρ' => some (.nx ρ')
def sExp (f : EV) : ES := fun ρ => (f ρ).bind fun _ => some (.nx ρ)
def sApp (i : Nat) (f : EV) : ES := fun ρ => match ρ[i]? with
  | some (SC.ow ds) => (f ρ).bind fun d => if ds.length < 16000000 then some (.nx (ρ.set i (.ow (ds ++ [d])))) else none
  | _ => none
def sPut (i : Nat) (j f : EV) : ES := fun ρ => match ρ[i]? with
  | some (SC.ow ds) => (f ρ).bind fun d => (j ρ).bind fun x => match x with
    | .int k => (ixN ds.length k).bind fun n => some (.nx (ρ.set i (.ow (ds.set n d))))
    | _ => none
  | _ => none
def sIf (c : EB) (f g : ES) : ES := fun ρ => (c ρ).bind fun b => if b then f ρ else g ρ
def sRet (f : EV) : ES := fun ρ => (f ρ).bind fun d => some (.rt d)
def sRetN : ES := fun _ => some (.rt .none)
def sFrz (S : List Nat) (f : ES) : ES := fun ρ => f (frz S ρ)
def forL (g : EG) (f : ES) : List PyData → Rho → Option SR
  | [], ρ => some (.nx ρ)
  | d :: ds, ρ => (g d ρ).bind fun ρ1 => (f ρ1).bind fun r => match r with
    | .nx ρ' => forL g f ds ρ'
    | .ct ρ' => forL g f ds ρ'
    | .bk ρ' => some (.nx ρ')
    | .rt d => some (.rt d)
    | .xc ρ' x => some (.xc ρ' x)
def sFor (it : EA) (g : EG) (f : ES) : ES := fun ρ => (it ρ).bind fun ds => forL g f ds ρ
def whileF (c : EB) (f : ES) : Nat → Rho → Option SR
  | 0, _ => none
  | n + 1, ρ => (c ρ).bind fun b => if b then (f ρ).bind fun r => match r with
    | .nx ρ' => whileF c f n ρ'
    | .ct ρ' => whileF c f n ρ'
    | .bk ρ' => some (.nx ρ')
    | .rt d => some (.rt d)
    | .xc ρ' x => some (.xc ρ' x)
    else some (.nx ρ)
open Classical in
noncomputable def sWhile (c : EB) (f : ES) : ES := fun ρ => if h : ∃ n, (whileF c f n ρ).isSome then whileF c f h.choose ρ else none
theorem whileF_succ {c : EB} {f : ES} : ∀ {n : Nat} {ρ : Rho} {r : SR}, whileF c f n ρ = some r → whileF c f (n + 1) ρ = some r
  | 0, _, _, h => by cases h
  | n + 1, ρ, r, h => by
    unfold whileF at h ⊢
    obtain ⟨b, h1, h⟩ := Option.bind_eq_some_iff.mp h
    rw [h1]
    show (if b = true then _ else _) = some r
    cases b with
    | false => exact h
    | true =>
      rw [if_pos rfl] at h ⊢
      obtain ⟨q, h2, h⟩ := Option.bind_eq_some_iff.mp h
      rw [h2]
      cases q with
      | nx ρ' => exact whileF_succ h
      | ct ρ' => exact whileF_succ h
      | bk ρ' => exact h
      | rt d => exact h
      | xc ρ' x => exact h
theorem whileF_le {c : EB} {f : ES} {n m : Nat} {ρ : Rho} {r : SR} (h : whileF c f n ρ = some r) (l : n ≤ m) : whileF c f m ρ = some r := by
  obtain ⟨k, rfl⟩ := Nat.le.dest l
  induction k with
  | zero => exact h
  | succ k ih => exact whileF_succ (ih (Nat.le_add_right _ _))
theorem sWhile_of {c : EB} {f : ES} {n : Nat} {ρ : Rho} {r : SR} (h : whileF c f n ρ = some r) : sWhile c f ρ = some r := by
  have ex : ∃ n, (whileF c f n ρ).isSome := ⟨n, by rw [h]; rfl⟩
  unfold sWhile
  rw [dif_pos ex]
  obtain ⟨r', h'⟩ := Option.isSome_iff_exists.mp ex.choose_spec
  rw [h']
  by_cases l : n ≤ ex.choose
  · rw [whileF_le h l] at h'
    exact h'.symm
  · rw [whileF_le h' (by omega)] at h
    exact h
theorem sWhile_some {c : EB} {f : ES} {ρ : Rho} {r : SR} (h : sWhile c f ρ = some r) : ∃ n, whileF c f n ρ = some r := by
  unfold sWhile at h
  split at h
  · rename_i ex
    exact ⟨_, h⟩
  · cases h

section
variable {X : Cx} {tg a b c e iter : Expr} {es : List Expr} {st : Stmt} {sts ss : List Stmt} {f g f1 f2 : EV} {h : EA} {cb cb' : EB} {u u1 u2 : ES} {pos : Pos}
theorem dss_nil : DSs X [] sNx := fun W tk => pssMono pss_nil fun D σ H ⟨F0, B, F, ρ, r, G, E, e, p⟩ => by
  cases e
  exact p σ F H G E (.refl F)
theorem dss_cons (h1 : DS X st u1) (h2 : DSs X sts u2) : DSs X (st :: sts) (sSeq u1 u2) := fun W tk => pssMono (pss_cons (h1 W tk) (h2 W tk)) fun D σ H ⟨F0, B, F, ρ, r, G, E, e, p⟩ => by
  obtain ⟨r1, e1, e⟩ := bind_some e
  refine ⟨F0, B, F, ρ, r1, G, E, e1, ?_⟩
  cases r1 with
  | nx ρ' => exact fun σ' F' H' G' E' s => ⟨F0, B, F', ρ', r, G', E', e, p.mono s⟩
  | bk ρ' =>
    cases e
    exact p
  | ct ρ' =>
    cases e
    exact p
  | rt d =>
    cases e
    exact p
  | xc ρ' x =>
    cases e
    exact p
theorem dss_one (h1 : DS X st u1) : DSs X [st] u1 := fun W tk => pss_one (h1 W tk)
theorem ds_pass : DS X (.Pass pos) sNx := fun W tk => psMono ps_pass fun D σ H ⟨F0, B, F, ρ, r, G, E, e, p⟩ => by
  cases e
  exact p σ F H G E (.refl F)
theorem ds_break : DS X (.Break pos) sBk := fun W tk => psMono ps_break fun D σ H ⟨F0, B, F, ρ, r, G, E, e, p⟩ => by
  cases e
  exact p σ F H G E (.refl F)
theorem ds_continue : DS X (.Continue pos) sCt := fun W tk => psMono ps_continue fun D σ H ⟨F0, B, F, ρ, r, G, E, e, p⟩ => by
  cases e
  exact p σ F H G E (.refl F)
theorem setOfV {i : Nat} {te : TE} (h : PS X st (tAsg te (gName i))) (k : ∀ σ H Q, tD X.K f σ H Q → te σ H Q) : DS X st (sSet i f) := fun W tk => psMono h fun D σ H ⟨F0, B, F, ρ, r, G, E, e, p⟩ => by
  obtain ⟨d, e1, e⟩ := bind_some e
  cases e
  exact k _ _ _ ⟨B, F, ρ, d, E, e1, fun v F' H' G' r' => p _ F' H' (G.trans G') ((E.grow G').setVa r') G'.ff⟩
theorem setOfF {i : Nat} {te : TE} (h1 : PS X st (tAsg te (gName i))) (k : ∀ σ H Q, tF X.K h σ H Q → te σ H Q) : DS X st (sOwn i h) := fun W tk => psMono h1 fun D σ H ⟨F0, B, F, ρ, r, G, E, e, p⟩ => by
  obtain ⟨ds, e1, e⟩ := bind_some e
  cases e
  refine k _ _ _ ⟨B, F, ρ, ds, E, e1, fun l vs F' H' G' n1 n2 h3 r' => p _ F' H' (G.trans G') ((E.grow G').setOw n2 (G.hh.free n1) h3 r' fun j es hj hρ hσ => ?_) G'.ff⟩
  obtain ⟨a, ws, q1, q2, q3, q4, q5⟩ := E.ow j es hρ
  rw [hσ] at q1
  cases q1
  rw [n1] at q4
  cases q4
theorem ds_set {i : Nat} {x : Str} {pos' : Pos} (hN : X.N.Nodup) (hi : X.N[i]? = some x) (hx : Loc X.env.scope x) (he : DV X e f) (hs : swapsWith e (some (.Name x pos')) pos.line X.env = pure false := by rfl) (hf : X.fn x = true ∨ X.env.scope.names.lookup x = some .local := by first | exact .inl rfl | exact .inr rfl | assumption) :
    DS X (.Assign [.Name x pos'] e pos) (sSet i f) := setOfV (ps_set hN hi hx he hs hf) fun _ _ _ q => q
theorem ds_own {i : Nat} {x : Str} {pos' : Pos} (hN : X.N.Nodup) (hi : X.N[i]? = some x) (hx : Loc X.env.scope x) (he : DF X e h) (hs : swapsWith e (some (.Name x pos')) pos.line X.env = pure false := by rfl) (hf : X.fn x = true ∨ X.env.scope.names.lookup x = some .local := by first | exact .inl rfl | exact .inr rfl | assumption) :
    DS X (.Assign [.Name x pos'] e pos) (sOwn i h) := setOfF (ps_set hN hi hx he hs hf) fun _ _ _ q => q
/-- x = [.. for ..], x no cell -/
theorem ds_lc {i : Nat} {y : Str} {py : Pos} {elt : Expr} {spos : Pos} {scope : Scope} {own : List (Str × Nat)} {ifs : List Expr} {is : List Nat} {gg : EG} {it : EA} {ev : EV} (hc : X.calm = true) (hN : X.N.Nodup) (hy : X.N[i]? = some y) (hyl : X.env.scope.names.lookup y = some .local)
    (hsw : swapsWith (.ListComp elt [⟨tg, iter, ifs, 0⟩] scope pos) (some (.Name y py)) spos.line X.env = pure true) (hi : DI X tg iter it) (ok : BlkOk X.N X.env.scope scope own)
    (hg : ∀ (s : Shared) (H : Hp) (C : Addr) (cl : List (Str × Addr)) (fp : List Addr), DG (X.blk s H scope (compEnvC scope cl C X.env) fp) tg is gg) (ht : ∀ (s : Shared) (H : Hp) (C : Addr) (cl : List (Str × Addr)) (fp : List Addr), DX (X.blk s H scope (compEnvC scope cl C X.env) fp) ifs cb)
    (he : ∀ (s : Shared) (H : Hp) (C : Addr) (cl : List (Str × Addr)) (fp : List Addr), DV (X.blk s H scope (compEnvC scope cl C X.env) fp) elt ev) (hv : ∀ i ∈ is, i ∈ own.map (·.2) := by decide) (hs : ∀ x, foldedSetIterable iter X.env x = pure x := by intro _; rfl) :
    DS X (.Assign [.Name y py] (.ListComp elt [⟨tg, iter, ifs, 0⟩] scope pos) spos) (sOwn i (fComp it gg cb ev (own.map (·.2)))) :=
  setOfF (ps_setLc (g := tG X.K is gg) (tt := tT X.K cb) (te := tD X.K ev) hc hN hy hyl hsw hi ok hg ht he hs) fun _ _ _ q => tComp hv q
theorem ds_to {is : List Nat} {gg : EG} (he : DV X e f) (hg : DG X tg is gg) (hs : swapsWithSole [tg] e pos.line X.env = pure false := by rfl) (hw : swappedStores [tg] e X.env = pure none := by rfl)
    (h1 : (assignEach [tg] X.env).map (·.2) = [assign tg X.env] := by rfl) : DS X (.Assign [tg] e pos) (sTo gg f) := fun W tk => psMono (ps_asg he hg hs hw h1) fun D σ H ⟨F0, B, F, ρ, r, G, E, e, p⟩ => by
  obtain ⟨d, e1, e⟩ := bind_some e
  obtain ⟨ρ', e2, e⟩ := bind_some e
  cases e
  exact ⟨B, F, ρ, d, E, e1, fun v F' H' G' r' => ⟨B, F', ρ, d, ρ', E.grow G', r', e2, fun σ' E' _ _ => p σ' F' H' (G.trans G') E' G'.ff⟩⟩
theorem ds_expr (he : DV X e f) (hs : swapsWith e none pos.line X.env = pure false := by rfl) : DS X (.Expr e pos) (sExp f) := fun W tk => psMono (ps_expr he hs) fun D σ H ⟨F0, B, F, ρ, r, G, E, e, p⟩ => by
  obtain ⟨d, e1, e⟩ := bind_some e
  cases e
  exact ⟨B, F, ρ, d, E, e1, fun v F' H' G' _ => p σ F' H' (G.trans G') (E.grow G') G'.ff⟩
theorem ownUpd {K : PySem.W.Frag} {F0 B F H : Hp} {σ : L2.St} {ρ : Rho} {i : Nat} {ds es : List PyData} {l : Addr} {ws : List V} (G : Grow F0 B F H) (E : ER K B F H σ ρ) (hρ : ρ[i]? = some (.ow ds)) (hl : σ[i]? = some (some (.ref l))) (r : DpAll K F ws es) :
    Grow F0 B F (upd H l (.lst ws)) ∧ ER K B F (upd H l (.lst ws)) σ (ρ.set i (.ow es)) := by
  obtain ⟨a, vs, q1, q2, q3, q4, q5⟩ := E.ow i ds hρ
  rw [hl] at q1
  cases q1
  have fh : Same F (upd H l (.lst ws)) := fun b o z => by
    rw [upd_ne (fun y => by rw [y, q2] at z; cases z)]
    exact E.fh b o z
  have hi : i < ρ.length := by
    by_cases hi : i < ρ.length
    · exact hi
    · rw [List.getElem?_eq_none (by simpa using hi)] at hρ
      cases hρ
  refine ⟨⟨G.ff, fh, fun b o z => ?_, G.nn⟩, fh, by rw [List.length_set]; exact E.len, fun j d z => ?_, fun j d z => ?_, fun j k d d' a z z' s s' => ?_⟩
  · rw [upd_ne (fun y => by rw [y, q3] at z; cases z)]
    exact G.hh b o z
  · by_cases hj : i = j
    · subst hj
      rw [List.getElem?_set_self hi] at z
      cases z
    · rw [List.getElem?_set_ne hj] at z
      exact E.va j d z
  · by_cases hj : i = j
    · subst hj
      rw [List.getElem?_set_self hi] at z
      cases z
      exact ⟨l, ws, hl, q2, q3, upd_same, r⟩
    · rw [List.getElem?_set_ne hj] at z
      obtain ⟨a, vs, p1, p2, p3, p4, p5⟩ := E.ow j d z
      exact ⟨a, vs, p1, p2, p3, by rw [upd_ne (fun y => hj (E.dj i j ds d l hρ z hl (by rw [p1, y])))]; exact p4, p5⟩
  · have w : ∀ (j : Nat) (d : List PyData), (ρ.set i (SC.ow es))[j]? = some (SC.ow d) → ∃ d', ρ[j]? = some (SC.ow d') := fun j d z => by
      by_cases hj : i = j
      · subst hj
        exact ⟨ds, hρ⟩
      · rw [List.getElem?_set_ne hj] at z
        exact ⟨d, z⟩
    obtain ⟨d1, z1⟩ := w j d z
    obtain ⟨d2, z2⟩ := w k d' z'
    exact E.dj j k d1 d2 a z1 z2 s s'
theorem ds_app {i : Nat} {x : Str} {px apos cpos : Pos} (hx : PE X (.Name x px) (tVar i)) (he : DV X e f) (hsw : swapsWith (.Call (.Attribute (.Name x px) "append" apos) [e] [] cpos) none pos.line X.env = pure false := by rfl)
    (hbase : attributeBase (.Name x px) "append" X.env (eval (.Name x px) X.env) = eval (.Name x px) X.env := by rfl)
    (hfew : ((backTo cpos (starEach [e] X.env)).all (fun x => !x.1) && (backToKw cpos (keywordEach [] X.env)).all (fun x => x.1.isSome)
      && decide (([e] : List Expr).length + ([] : List Keyword).length + (if ([] : List Keyword).isEmpty then 0 else 1) < 30)) = true := by rfl)
    (hline : (apos.endLine == cpos.line) = true := by rfl) (hs : starEach [e] X.env = (false, eval e X.env) :: starEach [] X.env := by rfl) (hplain : (backTo cpos (starEach [] X.env)).any (·.1) = false := by rfl) :
    DS X (.Expr (.Call (.Attribute (.Name x px) "append" apos) [e] [] cpos) pos) (sApp i f) :=
  fun W tk => psMono (ps_expr (pe_bm PySem.F.plainAttrs_list PySem.F.slot_list_append PySem.F.type_list_append mt_append hx (pa_cons he pa_nil hs) hbase hfew hline hs hplain) hsw) fun D σ H ⟨F0, B, F, ρ, r, G, E, e, p⟩ => by
    unfold sApp at e
    split at e
    · rename_i ds hρ
      obtain ⟨d, e1, e⟩ := bind_some e
      split at e
      · rename_i hz
        cases e
        obtain ⟨l, vs, q1, q2, q3, q4, q5⟩ := E.ow i ds hρ
        refine ⟨.ref l, q1, .inl ⟨rfl, _, .inl (.inl q4)⟩, B, F, ρ, d, E, e1, fun v F' H' G' r' => ⟨l, vs, v, rfl, rfl, G'.hh _ _ q4, by rw [dpLen q5]; exact Nat.lt_trans hz (by decide), ?_⟩⟩
        obtain ⟨G2, E2⟩ := ownUpd (G.trans G') (E.grow G') hρ q1 (dpApp (dpMonoAll G'.ff _ _ q5) (.cons r' .nil))
        exact p σ F' _ G2 E2 G'.ff
      · cases e
    · cases e
theorem ds_put {i : Nat} {x : Str} {px tpos : Pos} (hx : PE X (.Name x px) (tVar i)) (hb : DV X b g) (he : DV X e f) (hs : swapsWithSole [.Subscript (.Name x px) b tpos] e pos.line X.env = pure false := by rfl) (hw : swappedStores [.Subscript (.Name x px) b tpos] e X.env = pure none := by rfl)
    (h1 : (assignEach [.Subscript (.Name x px) b tpos] X.env).map (·.2) = [assign (.Subscript (.Name x px) b tpos) X.env] := by rfl)
    (hgs : PG X (.Subscript (.Name x px) b tpos) (L2.gSub (tVar i) (tD X.K g) rSetL)) : DS X (.Assign [.Subscript (.Name x px) b tpos] e pos) (sPut i g f) :=
  fun W tk => psMono (ps_asg he hgs hs hw h1) fun D σ H ⟨F0, B, F, ρ, r, G, E, e, p⟩ => by
    unfold sPut at e
    split at e
    · rename_i ds hρ
      obtain ⟨d, e1, e⟩ := bind_some e
      obtain ⟨dx, e2, e⟩ := bind_some e
      obtain ⟨l, vs, q1, q2, q3, q4, q5⟩ := E.ow i ds hρ
      refine ⟨B, F, ρ, d, E, e1, fun v F' H' G' r' => ⟨.ref l, q1, B, F', ρ, dx, E.grow G', e2, fun y F2 H2 G2 r2 => ?_⟩⟩
      cases dx with
      | int k =>
        cases r2
        obtain ⟨n, e3, e⟩ := bind_some e
        cases e
        have GG := G'.trans G2
        have q6 := dpMonoAll GG.ff _ _ q5
        refine ⟨l, vs, k, n, rfl, rfl, GG.hh _ _ q4, by rw [dpLen q5]; exact e3, ?_⟩
        obtain ⟨G3, E3⟩ := ownUpd (G.trans GG) (E.grow GG) hρ q1 (dpSet n q6 (dpMono G2.ff _ _ r'))
        exact p σ F2 _ G3 E3 GG.ff
      | _ => cases e
    · cases e
theorem ds_if (hc : DT X c cb) (ha : DSs X sts u1) (hb : DSs X ss u2) : DS X (.If c sts ss pos) (sIf cb u1 u2) := fun W tk => psMono (ps_if hc (ha W tk) (hb W tk)) fun D σ H ⟨F0, B, F, ρ, r, G, E, e, p⟩ => by
  obtain ⟨k, e1, e⟩ := bind_some e
  refine ⟨B, F, ρ, k, E, e1, fun F' H' G' => ?_⟩
  cases k with
  | true =>
    rw [if_pos rfl] at e ⊢
    exact ⟨F0, B, F', ρ, r, G.trans G', E.grow G', e, p.mono G'.ff⟩
  | false =>
    rw [if_neg (by simp)] at e ⊢
    exact ⟨F0, B, F', ρ, r, G.trans G', E.grow G', e, p.mono G'.ff⟩
theorem ds_ret (he : DV X e f) : DS X (.Return (some e) pos) (sRet f) := fun W tk => psMono (ps_ret he) fun D σ H ⟨F0, B, F, ρ, r, G, E, e, p⟩ => by
  obtain ⟨d, e1, e⟩ := bind_some e
  cases e
  exact ⟨B, F, ρ, d, E, e1, fun v F' H' G' r' => p v F' H' (G.trans G') r'⟩
theorem ds_retN : DS X (.Return none pos) sRetN := fun W tk => psMono ps_retN fun D σ H ⟨F0, B, F, ρ, r, G, E, e, p⟩ => by
  cases e
  exact p .non F H G .non
theorem ds_frz {S : List Nat} (h1 : DS X st u) : DS X st (sFrz S u) := fun W tk => psMono (h1 W tk) fun D σ H ⟨F0, B, F, ρ, r, G, E, e, p⟩ => by
  obtain ⟨F1, s1, E1, n1⟩ := E.frz S
  exact ⟨F0, B, F1, DL.frz S ρ, r, ⟨G.ff.trans s1, E1.fh, G.hh, fun a o z n => n1 a o z (G.nn a o z n)⟩, E1, e, p.mono s1⟩
theorem ds_for {is : List Nat} {gg : EG} (hp : PassesOwn (model X.prog X.w) X.A X.env X.xe) (hc : X.calm = true) (hi : DI X tg iter h) (hg : DG X tg is gg) (hb : DSs X sts u) (hs : ∀ x, foldedSetIterable iter X.env x = pure x := by intro _; rfl) : DS X (.For tg iter sts [] pos) (sFor h gg u) :=
  fun W tk => psMono (ps_for hp hc hi hg (hb W tk) hs) fun D σ H ⟨F0, B, F, ρ, r, G, E, e, p⟩ => by
    obtain ⟨ds, e1, e⟩ := bind_some e
    refine ⟨B, F, ρ, ds, E, e1, fun J F1 H1 G1 Y => ⟨fun i m σ2 H2 => m = ds.length - i ∧ i ≤ ds.length ∧ ∃ F2 ρ2, Grow F0 B F2 H2 ∧ ER X.K B F2 H2 σ2 ρ2 ∧ Same F1 F2 ∧ forL gg u (ds.drop i) ρ2 = some r, ⟨ds.length, by simp, Nat.zero_le _, F1, ρ, G.trans G1, E.grow G1, .refl F1, e⟩, ?_⟩⟩
    rintro i m σ2 H2 ⟨rfl, hi, F2, ρ2, G2, E2, s2, e2⟩
    by_cases hlt : i < ds.length
    · refine .inr ⟨Y.go i H2 hlt (s2.trans E2.fh), fun σ' H' => ∃ F2 ρ2, Grow F0 B F2 H' ∧ ER X.K B F2 H' σ' ρ2 ∧ Same F1 F2 ∧ forL gg u (ds.drop (i + 1)) ρ2 = some r, fun σ' H' p' => ⟨ds.length - (i + 1), by omega, rfl, hlt, p'⟩, fun x H3 y => ?_⟩
      obtain ⟨d, F3, hd, G3, r3⟩ := Y.yld i H2 x H3 F2 hlt s2 E2.fh y
      have ed : ds.drop i = d :: ds.drop (i + 1) := by
        rw [List.drop_eq_getElem_cons hlt]
        rw [List.getElem?_eq_getElem hlt] at hd
        cases hd
        rfl
      rw [ed] at e2
      obtain ⟨ρ3, c1, e2⟩ := bind_some e2
      obtain ⟨r4, c2, e2⟩ := bind_some e2
      refine ⟨B, F3, ρ2, d, ρ3, E2.grow G3, r3, c1, fun σ3 E3 _ _ => ⟨F0, B, F3, ρ3, r4, G2.trans G3, E3, c2, ?_⟩⟩
      have s3 : Same F1 F3 := s2.trans G3.ff
      cases r4 with
      | nx ρ' => exact fun σ' F' H' G' E' s => ⟨F', ρ', G', E', s3.trans s, e2⟩
      | ct ρ' => exact fun σ' F' H' G' E' s => ⟨F', ρ', G', E', s3.trans s, e2⟩
      | bk ρ' =>
        cases e2
        exact fun σ' F' H' G' E' s => p σ' F' H' G' E' (G1.ff.trans (s3.trans s))
      | rt d =>
        cases e2
        exact p
      | xc ρ' x =>
        cases e2
        exact fun σ' F' H' dd v G' E' s => p σ' F' H' dd v G' E' (G1.ff.trans (s3.trans s))
    · have ei : i = ds.length := by omega
      subst ei
      rw [List.drop_length] at e2
      cases e2
      exact .inl ⟨Y.stop H2 (s2.trans E2.fh), p σ2 F2 H2 G2 E2 (G1.ff.trans s2)⟩
theorem ds_while (hp : PassesOwn (model X.prog X.w) X.A X.env X.xe) (hc : DT X c cb) (hb : DSs X sts u) : DS X (.While c sts [] pos) (sWhile cb u) :=
  fun W tk => psMono (ps_while hp hc (hb W tk)) fun D σ H ⟨F0, B, F, ρ, r, G, E, e, p⟩ => by
    obtain ⟨n, e⟩ := sWhile_some e
    refine ⟨fun m σ2 H2 => ∃ F2 ρ2, Grow F0 B F2 H2 ∧ ER X.K B F2 H2 σ2 ρ2 ∧ Same F F2 ∧ whileF cb u m ρ2 = some r, ⟨n, F, ρ, G, E, .refl F, e⟩, ?_⟩
    rintro m σ2 H2 ⟨F2, ρ2, G2, E2, s2, e2⟩
    cases m with
    | zero => cases e2
    | succ m =>
      obtain ⟨k, e3, e2⟩ := Option.bind_eq_some_iff.mp e2
      refine ⟨B, F2, ρ2, k, E2, e3, fun F3 H3 G3 => ?_⟩
      cases k with
      | false =>
        rw [if_neg (by simp)] at e2 ⊢
        cases e2
        exact p σ2 F3 H3 (G2.trans G3) (E2.grow G3) (s2.trans G3.ff)
      | true =>
        rw [if_pos rfl] at e2 ⊢
        obtain ⟨r4, e4, e2⟩ := Option.bind_eq_some_iff.mp e2
        refine ⟨fun σ' H' => ∃ F2 ρ2, Grow F0 B F2 H' ∧ ER X.K B F2 H' σ' ρ2 ∧ Same F F2 ∧ whileF cb u m ρ2 = some r, fun σ' H' p' => ⟨m, Nat.lt_succ_self _, p'⟩, F0, B, F3, ρ2, r4, G2.trans G3, E2.grow G3, e4, ?_⟩
        have s3 : Same F F3 := s2.trans G3.ff
        cases r4 with
        | nx ρ' => exact fun σ' F' H' G' E' s => ⟨F', ρ', G', E', s3.trans s, e2⟩
        | ct ρ' => exact fun σ' F' H' G' E' s => ⟨F', ρ', G', E', s3.trans s, e2⟩
        | bk ρ' =>
          cases e2
          exact fun σ' F' H' G' E' s => p σ' F' H' G' E' (s3.trans s)
        | rt d =>
          cases e2
          exact p
        | xc ρ' x =>
          cases e2
          exact fun σ' F' H' dd v G' E' s => p σ' F' H' dd v G' E' (s3.trans s)
end
/-! ### a def -/
def runD (k : Nat) (u : ES) : List PyData → Option PyData := fun ds => (u (ds.map SC.va ++ List.replicate k SC.un)).bind fun r => match r with
  | .rt d => some d
  | .nx _ => some .none
  | _ => none
abbrev FnP (K : PySem.W.Frag) (x : Str) (st : Stmt) (f : Addr) (fd : FuncData) : Prop := FunD K x x (defArgs st) (defBody st) (defScope st) [] [] f fd
theorem fnOk {P : Program} {w : World} {K : PySem.W.Frag} {mg : Str → Option Value} {base : Heap} {x : Str} {st : Stmt} {fa : Addr} {fd : FuncData} {N ps : List Str} {u : ES} {k n m : Nat} (F : FnP K x st fa fd) (S : FnScope N ps (defScope st)) (hn : ps.length = n) (hm : N.length - n = m)
    (hbody : ∀ (cdv : Value) (A : Around) (outer : List Env) (s : Shared) (H : Hp) (E : XK), Room k (A.deeper (envOfC x (defScope st) s.heap.objs.size fa cdv)) → DSs (cxOf CX0 P w K mg base N x (defScope st) fa cdv A outer s H E).nox (defBody st) u) :
    FnOk P w K mg base CX0 (k + 1) fa fd ps (spD K n (runD m u)) := by
  subst hn hm
  refine F.ok S (fun vs H Q E h => h.1) fun cdv A outer s H vs Q E hr h => ⟨_, (hbody cdv A outer s H E hr (fun _ _ _ _ => False) takes0).nox, ?_⟩
  obtain ⟨hl, F1, ds, d, s1, r, e, q⟩ := h
  obtain ⟨r1, e1, e2⟩ := bind_some e
  refine ⟨F1, H, F1, _, r1, .refl s1, .start s1 r, ?_, ?_⟩
  · rw [hl]
    exact e1
  · cases r1 with
    | rt d' =>
      cases e2
      exact fun v F' H' G r' => q v F' H' G r'
    | nx ρ =>
      cases e2
      exact fun σ' F' H' G E' _ => q .non F' H' G .non
    | bk ρ => cases e2
    | ct ρ => cases e2
    | xc ρ x => cases e2
end DL

set_option Elab.async false
set_option linter.all false
set_option maxRecDepth 100000
set_option maxHeartbeats 4000000
namespace DL
open PySem PySem.Spec PyProof.Rows L2
section
variable {X : Cx} {tg a b c e iter : Expr} {es : List Expr} {st : Stmt} {f g f1 f2 : EV} {h : EA} {cb cb' : EB} {pos : Pos}
/-! ### slices -/
abbrev EO := Rho → Option (Option Int)
def tO (K : PySem.W.Frag) (f : EO) : TO := fun σ H Q => ∃ B F ρ o, ER K B F H σ ρ ∧ f ρ = some o ∧ ∀ F' H', Grow F H F' H' → Q o H'
def DO (X : Cx) (e : Option Expr) (f : EO) : Prop := PO X e (tO X.K f)
theorem poMono {o : Option Expr} {t t' : TO} (h : PO X o t) (k : ∀ σ H Q, t' σ H Q → t σ H Q) : PO X o t' := ⟨fun pins s σ H Q I q => h.run pins s σ H Q I (k _ _ _ q)⟩
def oNone : EO := fun _ => some none
def oSome (f : EV) : EO := fun ρ => (f ρ).bind fun d => match d with
  | .int i => some (some i)
  | _ => none
theorem do_none : DO X none oNone := poMono po_none fun σ H Q ⟨B, F, ρ, o, E, e, q⟩ => by
  cases e
  exact q F H (.refl E.fh)
theorem do_some (h : DV X a f) : DO X (some a) (oSome f) := poMono (po_some h) fun σ H Q ⟨B, F, ρ, o, E, e, q⟩ => by
  obtain ⟨d, e1, e2⟩ := bind_some e
  refine ⟨B, F, ρ, d, E, e1, fun v F' H' G r => ?_⟩
  cases d with
  | int i =>
    cases r
    cases e2
    exact ⟨i, rfl, q F' H' G⟩
  | _ => cases e2
def cutD {α : Type} (xs : List α) (lo hi : Option Int) : List α := (xs.drop (HT.sIx xs.length 0 lo)).take (HT.sIx xs.length xs.length hi - HT.sIx xs.length 0 lo)
theorem dpCut {K : PySem.W.Frag} {H : Hp} {vs : List V} {ds : List PyData} (r : DpAll K H vs ds) (lo hi : Option Int) : DpAll K H (cutV vs lo hi) (cutD ds lo hi) := by
  unfold cutV cutD
  rw [dpLen r]
  exact dpTake _ (dpDrop _ r)
def gSl (x : PyData) (lo hi : Option Int) : Option PyData := match x with
  | .list ds => some (.list (cutD ds lo hi))
  | .tuple ds => if HT.sIx ds.length 0 lo = 0 ∧ HT.sIx ds.length ds.length hi = ds.length then none else some (.tuple (cutD ds lo hi))
  | _ => none
def eSl (f : EV) (lo hi : EO) : EV := fun ρ => (f ρ).bind fun x => (lo ρ).bind fun l => (hi ρ).bind fun u => gSl x l u
theorem dv_sl {lo hi : Option Expr} {l u : EO} {p2 : Pos} (he : DV X e f) (hl : DO X lo l) (hu : DO X hi u) : DV X (.Subscript e (.Slice lo hi none p2) pos) (eSl f l u) :=
  peMono (pe_slice (sl_list.or sl_tup) he hl hu) fun σ H Q ⟨B, F, ρ, d, E, e, q⟩ => by
    obtain ⟨x, e1, e⟩ := bind_some e
    obtain ⟨lo, e2, e⟩ := bind_some e
    obtain ⟨hi, e3, e⟩ := bind_some e
    refine ⟨B, F, ρ, x, E, e1, fun v F1 H1 G1 r1 => ⟨B, F1, ρ, lo, E.grow G1, e2, fun F2 H2 G2 => ⟨B, F2, ρ, hi, (E.grow G1).grow G2, e3, fun F3 H3 G3 => ?_⟩⟩⟩
    have r3 := dpMono (G2.ff.trans G3.ff) _ _ r1
    have GG := G1.trans (G2.trans G3)
    unfold gSl at e
    split at e
    · cases e
      cases r3 with
      | lst hs ha => exact .inl ⟨_, _, rfl, G3.fh.seq hs, fun p np => q _ _ _ (GG.trans (.new G3.fh np)) (.lst (.inl (.inl upd_same)) (dpMonoAll (sameUpd (G3.fh.free np)) _ _ (dpCut ha lo hi)))⟩
    · split at e
      · cases e
      · rename_i hw
        cases e
        cases r3 with
        | tup hs ha => exact .inr ⟨_, _, rfl, sameT G3.fh hs, by rw [dpLen ha]; exact hw, fun p np => q _ _ _ (GG.trans (.new G3.fh np)) (.tup (.inl (.inl upd_same)) (dpMonoAll (sameUpd (G3.fh.free np)) _ _ (dpCut ha lo hi)))⟩
    · cases e
/-- a slice of a list, to be one's own -/
def fSl (f : EV) (lo hi : EO) : EA := fun ρ => (f ρ).bind fun x => (lo ρ).bind fun l => (hi ρ).bind fun u => match x with
  | .list ds => some (cutD ds l u)
  | _ => none
theorem df_sl {lo hi : Option Expr} {l u : EO} {p2 : Pos} (he : DV X e f) (hl : DO X lo l) (hu : DO X hi u) : DF X (.Subscript e (.Slice lo hi none p2) pos) (fSl f l u) :=
  peMono (pe_slice sl_list he hl hu) fun σ H Q ⟨B, F, ρ, d, E, e, q⟩ => by
    obtain ⟨x, e1, e⟩ := bind_some e
    obtain ⟨lo, e2, e⟩ := bind_some e
    obtain ⟨hi, e3, e⟩ := bind_some e
    refine ⟨B, F, ρ, x, E, e1, fun v F1 H1 G1 r1 => ⟨B, F1, ρ, lo, E.grow G1, e2, fun F2 H2 G2 => ⟨B, F2, ρ, hi, (E.grow G1).grow G2, e3, fun F3 H3 G3 => ?_⟩⟩⟩
    have r3 := dpMono (G2.ff.trans G3.ff) _ _ r1
    have GG := G1.trans (G2.trans G3)
    split at e
    · cases e
      cases r3 with
      | lst hs ha => exact ⟨_, _, rfl, G3.fh.seq hs, fun p np => q p _ F3 _ (GG.trans (.side G3.fh np)) (GG.hh.free np) (G3.fh.free np) upd_same (dpCut ha lo hi)⟩
    · cases e
/-! ### is of bools -/
def gIsB : PyData → PyData → Option PyData
  | .bool a, .bool b => some (.bool (decide (a = b)))
  | _, _ => none
def gIsntB : PyData → PyData → Option PyData
  | .bool a, .bool b => some (.bool !(decide (a = b)))
  | _, _ => none
theorem o_isB : OpR X (compareOp .Is) (rG X.K gIsB) := opMono op_isBl fun x y H Q ⟨F, dx, dy, d, s, rx, ry, e, q⟩ => by
  cases dx <;> cases dy <;> try cases e
  cases rx
  cases ry
  exact ⟨_, _, rfl, rfl, q _ F H (.refl s) (.bl _)⟩
theorem o_isntB : OpR X (compareOp .IsNot) (rG X.K gIsntB) := opMono op_notBl fun x y H Q ⟨F, dx, dy, d, s, rx, ry, e, q⟩ => by
  cases dx <;> cases dy <;> try cases e
  cases rx
  cases ry
  exact ⟨_, _, rfl, rfl, q _ F H (.refl s) (.bl _)⟩
/-! ### max, min, isqrt -/
theorem three_of {K : PySem.W.Frag} {F : Hp} {vs : List V} {d e f : PyData} (r : DpAll K F vs [d, e, f]) : ∃ v u w, vs = [v, u, w] ∧ Dp K F v d ∧ Dp K F u e ∧ Dp K F w f := by
  cases r with
  | cons a b =>
    obtain ⟨u, w, rfl, r1, r2⟩ := two_of b
    exact ⟨_, u, w, rfl, a, r1, r2⟩
def mMax3 : List PyData → Option PyData
  | [.int i, .int j, .int k] => some (.int (if (if i < j then j else i) < k then k else (if i < j then j else i)))
  | _ => none
def mMin3 : List PyData → Option PyData
  | [.int i, .int j, .int k] => some (.int (if k < (if j < i then j else i) then k else (if j < i then j else i)))
  | _ => none
theorem c_max3 (hc : X.calm = true) : CallR X (.builtin "max") (rGA X.K mMax3) := clMono (call_max3Nu hc) fun xs H Q ⟨F, ds, d, s, r, e, q⟩ => by
  unfold mMax3 at e
  split at e
  · rename_i i j k
    cases e
    obtain ⟨v, u, w, rfl, rv, ru, rw'⟩ := three_of r
    cases rv
    cases ru
    cases rw'
    refine ⟨_, _, _, _, rfl, ?_, q _ F H (.refl s) (.int _)⟩
    simp only [nuMax3, nuMax2, nuLt, nuCB, Option.map_some, Option.bind_some]
    by_cases c1 : i < j
    · simp only [c1, decide_true, if_true, Option.map_some]
      by_cases c2 : j < k <;> simp [c2]
    · by_cases c2 : i < k <;> simp [c1, c2]
  · cases e
theorem c_min3 (hc : X.calm = true) : CallR X (.builtin "min") (rGA X.K mMin3) := clMono (call_min3Nu hc) fun xs H Q ⟨F, ds, d, s, r, e, q⟩ => by
  unfold mMin3 at e
  split at e
  · rename_i i j k
    cases e
    obtain ⟨v, u, w, rfl, rv, ru, rw'⟩ := three_of r
    cases rv
    cases ru
    cases rw'
    refine ⟨_, _, _, _, rfl, ?_, q _ F H (.refl s) (.int _)⟩
    simp only [nuMin3, nuMin2, nuLt, nuCB, Option.map_some, Option.bind_some]
    by_cases c1 : j < i
    · simp only [c1, decide_true, if_true, Option.map_some]
      by_cases c2 : k < j <;> simp [c2]
    · by_cases c2 : k < i <;> simp [c1, c2]
  · cases e
/-- ints of a list of data -/
def intsOf : List PyData → Option (List Int)
  | [] => some []
  | .int i :: r => (intsOf r).map (i :: ·)
  | _ => none
theorem dpInts {K : PySem.W.Frag} {F : Hp} : ∀ {ds : List PyData} {ns : List Int} {vs : List V}, intsOf ds = some ns → DpAll K F vs ds → vs = ns.map V.int
  | [], ns, vs, e, r => by
    cases e
    cases r
    rfl
  | d :: ds, ns, vs, e, r => by
    cases d with
    | int i =>
      obtain ⟨ms, e1, e2⟩ := Option.map_eq_some_iff.mp e
      subst e2
      cases r with
      | cons a b =>
        cases a
        rw [dpInts e1 b]
        rfl
    | _ => cases e
def lMax : List Int → Int
  | [] => 0
  | [x] => x
  | x :: y :: r => let m := lMax (y :: r); if x < m then m else x
def lMin : List Int → Int
  | [] => 0
  | [x] => x
  | x :: y :: r => let m := lMin (y :: r); if m < x then m else x
theorem lMax_ok : ∀ {ns : List Int}, ns ≠ [] → lMax ns ∈ ns ∧ ∀ y, y ∈ ns → y ≤ lMax ns
  | [], h => absurd rfl h
  | [x], _ => ⟨by simp [lMax], fun y hy => by simp at hy; subst hy; exact Int.le_refl _⟩
  | x :: y :: r, _ => by
    obtain ⟨h1, h2⟩ := lMax_ok (ns := y :: r) (by simp)
    unfold lMax
    by_cases c : x < lMax (y :: r)
    · rw [if_pos c]
      exact ⟨List.mem_cons_of_mem _ h1, fun z hz => by
        rcases List.mem_cons.mp hz with rfl | hz
        · exact Int.le_of_lt c
        · exact h2 z hz⟩
    · rw [if_neg c]
      exact ⟨List.mem_cons_self, fun z hz => by
        rcases List.mem_cons.mp hz with rfl | hz
        · exact Int.le_refl _
        · have := h2 z hz
          omega⟩
theorem lMin_ok : ∀ {ns : List Int}, ns ≠ [] → lMin ns ∈ ns ∧ ∀ y, y ∈ ns → lMin ns ≤ y
  | [], h => absurd rfl h
  | [x], _ => ⟨by simp [lMin], fun y hy => by simp at hy; subst hy; exact Int.le_refl _⟩
  | x :: y :: r, _ => by
    obtain ⟨h1, h2⟩ := lMin_ok (ns := y :: r) (by simp)
    unfold lMin
    by_cases c : lMin (y :: r) < x
    · rw [if_pos c]
      exact ⟨List.mem_cons_of_mem _ h1, fun z hz => by
        rcases List.mem_cons.mp hz with rfl | hz
        · exact Int.le_of_lt c
        · exact h2 z hz⟩
    · rw [if_neg c]
      exact ⟨List.mem_cons_self, fun z hz => by
        rcases List.mem_cons.mp hz with rfl | hz
        · exact Int.le_refl _
        · have := h2 z hz
          omega⟩
theorem max_eq {ns : List Int} {m : Int} (h : m ∈ ns) (k : ∀ y, y ∈ ns → y ≤ m) : m = lMax ns := by
  obtain ⟨h1, h2⟩ := lMax_ok (ns := ns) (by rintro rfl; cases h)
  exact Int.le_antisymm (h2 m h) (k _ h1)
theorem min_eq {ns : List Int} {m : Int} (h : m ∈ ns) (k : ∀ y, y ∈ ns → m ≤ y) : m = lMin ns := by
  obtain ⟨h1, h2⟩ := lMin_ok (ns := ns) (by rintro rfl; cases h)
  exact Int.le_antisymm (k _ h1) (h2 m h)
def mMaxL : List PyData → Option PyData
  | [.list ds] => (intsOf ds).bind fun ns => if 0 < ns.length then some (.int (lMax ns)) else none
  | _ => none
def mMinL : List PyData → Option PyData
  | [.list ds] => (intsOf ds).bind fun ns => if 0 < ns.length then some (.int (lMin ns)) else none
  | _ => none
theorem c_maxL (hc : X.calm = true) : CallR X (.builtin "max") (rGA X.K mMaxL) := clMono (cr_max hc) fun xs H Q ⟨F, ds, d, s, r, e, q⟩ => by
  unfold mMaxL at e
  split at e
  · obtain ⟨ns, e1, e2⟩ := bind_some e
    obtain ⟨v, rfl, rv⟩ := one_of r
    cases rv with
    | lst hs ha =>
      split at e2
      · rename_i hl
        cases e2
        rw [dpInts e1 ha] at hs
        exact ⟨_, ns, rfl, s.seq hs, hl, fun m hm hk => by rw [max_eq hm hk]; exact q _ F H (.refl s) (.int _)⟩
      · cases e2
  · cases e
theorem c_minL (hc : X.calm = true) : CallR X (.builtin "min") (rGA X.K mMinL) := clMono (cr_min hc) fun xs H Q ⟨F, ds, d, s, r, e, q⟩ => by
  unfold mMinL at e
  split at e
  · obtain ⟨ns, e1, e2⟩ := bind_some e
    obtain ⟨v, rfl, rv⟩ := one_of r
    cases rv with
    | lst hs ha =>
      split at e2
      · rename_i hl
        cases e2
        rw [dpInts e1 ha] at hs
        exact ⟨_, ns, rfl, s.seq hs, hl, fun m hm hk => by rw [min_eq hm hk]; exact q _ F H (.refl s) (.int _)⟩
      · cases e2
  · cases e
def mIsqrt : List PyData → Option PyData
  | [.int i] => if 0 ≤ i ∧ i.toNat.log2 < 13400 then some (.int ((Float64.isqrt i.toNat : Nat) : Int)) else none
  | _ => none
theorem c_isqrt : CallR X (.builtin "math.isqrt") (rGA X.K mIsqrt) := fun pins s σ H xs us Q I r ⟨F, ds, d, sm, rd, e, q⟩ => by
  unfold mIsqrt at e
  split at e
  · rename_i i
    split at e
    · rename_i hc
      cases e
      obtain ⟨v, rfl, rv⟩ := one_of rd
      cases rv
      obtain ⟨u, rfl, ru⟩ := r.one
      obtain ⟨t, rfl⟩ := ru
      have h1 := hc.1
      have h2 := hc.2
      exact PySem.call_function_meets PySem.W.MGF.kind_isqrt PySem.W.MGF.plain_isqrt PySem.W.MGF.entry_isqrt (PySem.W.MGF.args_isqrt _) (PySem.W.mg_run_isqrt i t (by omega) (by omega) (by omega)).meets ⟨.int _, H, I.tok _, ⟨_, rfl⟩, q _ F H (.refl sm) (.int _)⟩
    · cases e
  · cases e
/-- x = [.. for ..], x no cell, then read alone -/
def sSetF (i : Nat) (f : EA) : ES := fun ρ => (f ρ).bind fun ds => some (.nx (ρ.set i (.va (.list ds))))
theorem setOfFV {i : Nat} {te : TE} (h1 : PS X st (tAsg te (gName i))) (k : ∀ σ H Q, tF X.K h σ H Q → te σ H Q) : DS X st (sSetF i h) := fun W tk => psMono h1 fun D σ H ⟨F0, B, F, ρ, r, G, E, e, p⟩ => by
  obtain ⟨ds, e1, e⟩ := bind_some e
  cases e
  refine k _ _ _ ⟨B, F, ρ, ds, E, e1, fun l vs F' H' G' n1 n2 h3 r' => ?_⟩
  have G2 := G'.keep n1 h3 n2
  exact p _ _ H' (G.trans G2) ((E.grow G2).setVa (.lst (.inl (.inl upd_same)) (dpMonoAll (sameUpd n2) _ _ r'))) G2.ff
theorem ds_lcV {i : Nat} {y : Str} {py : Pos} {elt : Expr} {spos : Pos} {scope : Scope} {own : List (Str × Nat)} {ifs : List Expr} {is : List Nat} {gg : EG} {it : EA} {ev : EV} (hc : X.calm = true) (hN : X.N.Nodup) (hy : X.N[i]? = some y) (hyl : X.env.scope.names.lookup y = some .local)
    (hsw : swapsWith (.ListComp elt [⟨tg, iter, ifs, 0⟩] scope pos) (some (.Name y py)) spos.line X.env = pure true) (hi : DI X tg iter it) (ok : BlkOk X.N X.env.scope scope own)
    (hg : ∀ (s : Shared) (H : Hp) (C : Addr) (cl : List (Str × Addr)) (fp : List Addr), DG (X.blk s H scope (compEnvC scope cl C X.env) fp) tg is gg) (ht : ∀ (s : Shared) (H : Hp) (C : Addr) (cl : List (Str × Addr)) (fp : List Addr), DX (X.blk s H scope (compEnvC scope cl C X.env) fp) ifs cb)
    (he : ∀ (s : Shared) (H : Hp) (C : Addr) (cl : List (Str × Addr)) (fp : List Addr), DV (X.blk s H scope (compEnvC scope cl C X.env) fp) elt ev) (hv : ∀ i ∈ is, i ∈ own.map (·.2) := by decide) (hs : ∀ x, foldedSetIterable iter X.env x = pure x := by intro _; rfl) :
    DS X (.Assign [.Name y py] (.ListComp elt [⟨tg, iter, ifs, 0⟩] scope pos) spos) (sSetF i (fComp it gg cb ev (own.map (·.2)))) :=
  setOfFV (ps_setLc (g := tG X.K is gg) (tt := tT X.K cb) (te := tD X.K ev) hc hN hy hyl hsw hi ok hg ht he hs) fun _ _ _ q => tComp hv q
/-! ### constants of the module -/
def Gk (K : PySem.W.Frag) (mg : Str → Option Value) (x : Str) (d : PyData) : Prop := ∃ v u, mg x = some u ∧ RelV v u ∧ ∀ H, Dp K H v d
theorem dv_glob {x : Str} {p : Pos} {d : PyData} (hg : Gl X x) (hk : Gk X.K X.mg x d) (hd : (x == ("__debug__" : Str)) = false := by decide) : DV X (.Name x p) (eC d) := by
  obtain ⟨v, u, h1, h2, h3⟩ := hk
  exact peMono (pe_glob hg h1 h2 hd) fun σ H Q ⟨B, F, ρ, d', E, e, q⟩ => by
    cases e
    exact q _ F H (.refl E.fh) (h3 F)
end
/-! ### defs by name -/
section
variable {P : Program} {w : World} {K : PySem.W.Frag} {mg : Str → Option Value} {base : Heap}
def Fd (K : PySem.W.Frag) (mg : Str → Option Value) (x : Str) (st : Stmt) : Prop := ∃ fa fd, FnP K x st fa fd ∧ mg x = some (.ref fa)
structure Def (P : Program) (w : World) (K : PySem.W.Frag) (mg : Str → Option Value) (base : Heap) (x : Str) (k n : Nat) (m : List PyData → Option PyData) : Prop where
  ex : ∃ (fa : Addr) (fd : FuncData) (ps : List Str), FnOk P w K mg base CX0 k fa fd ps (spD K n m) ∧ mg x = some (.ref fa) ∧ PySem.W.keepIn K (.ref fa) = true ∧ L2.Binds K fd ps []
theorem Fd.mk {x : Str} {st : Stmt} {N ps : List Str} {u : ES} {k n m : Nat} (F : Fd K mg x st) (S : FnScope N ps (defScope st)) (hn : ps.length = n) (hm : N.length - n = m)
    (hb : ∀ (kV doc pm : Value) (an : Option Addr) (cdv ct : Value) (us : List Value), us.length = ps.length → bindArgs (PySem.W.fnOf x x (defArgs st) (defBody st) (defScope st) .none kV doc pm an cdv ct) ⟨us, []⟩ = pure (ps.zip us))
    (hbody : ∀ {fa : Addr} (cdv : Value) (A : Around) (outer : List Env) (s : Shared) (H : Hp) (E : XK), Room k (A.deeper (envOfC x (defScope st) s.heap.objs.size fa cdv)) → DSs (cxOf CX0 P w K mg base N x (defScope st) fa cdv A outer s H E).nox (defBody st) u) :
    Def P w K mg base x (k + 1) n (runD m u) := by
  obtain ⟨fa, fd, h1, h2⟩ := F
  exact ⟨fa, fd, ps, fnOk h1 S hn hm hbody, h2, h1.kp, h1.bindsN hb⟩
theorem dv_callD {X : Cx} {e : Expr} {es : List Expr} {h : EA} {x : Str} {p pos : Pos} {k n j : Nat} {m : List PyData → Option PyData} (D : Def X.prog X.w X.K X.mg X.base x k n m) (hr : Room j X.A) (ha : DA X (e :: es) h) (hj : k ≤ j := by decide) (hg : Gl X x := by rfl) (hn : (e :: es).length = n := by rfl) (hdb : (x == ("__debug__" : Str)) = false := by decide)
    (he : starEach (e :: es) X.env = (false, eval e X.env) :: starEach es X.env := by rfl) (hpl : (backTo pos (starEach es X.env)).any (·.1) = false := by rfl) : DV X (.Call (.Name x p) (e :: es) [] pos) (eCall m h) := by
  obtain ⟨fa, fd, ps, h1, h2, h3, h4⟩ := D.ex
  exact dv_call h1 (hr.mono hj) hg h2 h3 h4 ha hn hdb he hpl
end
end DL

set_option Elab.async false
set_option linter.all false
set_option maxRecDepth 100000
set_option maxHeartbeats 4000000
namespace DL
open PySem PySem.Spec PyProof.Rows L2
/-! ### constants of the module, checked -/
mutual
def dpB (K : PySem.W.Frag) : PyData → Value → Bool
  | .none, u => (match u with
    | .none => true
    | _ => false)
  | .bool b, u => (match u with
    | .bool c => b == c
    | _ => false)
  | .int i, u => (match u with
    | .int j _ => decide (i = j)
    | _ => false)
  | .str x, u => (match u with
    | .str y _ => decide (x = y)
    | _ => false)
  | .list ds, u => (match u with
    | .ref a => (match K.lookup a with
      | some ⟨.type c, none, .seq its _, _⟩ => decide (c = "list") && (decide (its.size ≤ sizeLine) && dpBAll K ds its.toList)
      | _ => false)
    | _ => false)
  | .tuple ds, u => (match u with
    | .ref a => (match K.lookup a with
      | some ⟨.type c, _, .seq its _, _⟩ => decide (c = "tuple") && (decide (its.size ≤ sizeLine) && dpBAll K ds its.toList)
      | _ => false)
    | _ => false)
  | .dict _, _ => false
def dpBAll (K : PySem.W.Frag) : List PyData → List Value → Bool
  | [], us => (match us with
    | [] => true
    | _ => false)
  | d :: ds, us => (match us with
    | u :: us => dpB K d u && dpBAll K ds us
    | _ => false)
end
mutual
theorem dpB_ok {K : PySem.W.Frag} : ∀ (d : PyData) (u : Value), dpB K d u = true → ∃ v, RelV v u ∧ ∀ H, Dp K H v d
  | .none, u, h => by
    unfold dpB at h
    split at h
    · exact ⟨.non, rfl, fun _ => .non⟩
    · cases h
  | .bool b, u, h => by
    unfold dpB at h
    split at h
    · exact ⟨.bl b, by rw [eq_of_beq h]; rfl, fun _ => .bl b⟩
    · cases h
  | .int i, u, h => by
    unfold dpB at h
    split at h
    · exact ⟨.int i, ⟨_, by rw [of_decide_eq_true h]⟩, fun _ => .int i⟩
    · cases h
  | .str x, u, h => by
    unfold dpB at h
    split at h
    · exact ⟨.str x, ⟨_, by rw [of_decide_eq_true h]⟩, fun _ => .str x⟩
    · cases h
  | .list ds, u, h => by
    unfold dpB at h
    split at h
    · split at h
      · rename_i a _ c its n sl q
        obtain ⟨h1, h2⟩ := Bool.and_eq_true_iff.mp h
        obtain ⟨h3, h4⟩ := Bool.and_eq_true_iff.mp h2
        obtain ⟨vs, r, k⟩ := dpBAll_ok ds its.toList h4
        exact ⟨.ref a, rfl, fun H => .lst (.inr ⟨_, its, n, q, congrArg Value.type (of_decide_eq_true h1), rfl, rfl, of_decide_eq_true h3, r⟩) (k H)⟩
      · cases h
    · cases h
  | .tuple ds, u, h => by
    unfold dpB at h
    split at h
    · split at h
      · rename_i a _ c _ its n sl q
        obtain ⟨h1, h2⟩ := Bool.and_eq_true_iff.mp h
        obtain ⟨h3, h4⟩ := Bool.and_eq_true_iff.mp h2
        obtain ⟨vs, r, k⟩ := dpBAll_ok ds its.toList h4
        exact ⟨.ref a, rfl, fun H => .tup (.inr ⟨_, its, n, q, congrArg Value.type (of_decide_eq_true h1), rfl, of_decide_eq_true h3, r⟩) (k H)⟩
      · cases h
    · cases h
  | .dict _, u, h => by
    unfold dpB at h
    cases h
theorem dpBAll_ok {K : PySem.W.Frag} : ∀ (ds : List PyData) (us : List Value), dpBAll K ds us = true → ∃ vs, Vals vs us ∧ ∀ H, DpAll K H vs ds
  | [], us, h => by
    unfold dpBAll at h
    split at h
    · exact ⟨[], .nil, fun _ => .nil⟩
    · cases h
  | d :: ds, us, h => by
    unfold dpBAll at h
    split at h
    · rename_i u us
      obtain ⟨h1, h2⟩ := Bool.and_eq_true_iff.mp h
      obtain ⟨v, r1, k1⟩ := dpB_ok d u h1
      obtain ⟨vs, r2, k2⟩ := dpBAll_ok ds us h2
      exact ⟨v :: vs, .cons r1 r2, fun H => .cons (k1 H) (k2 H)⟩
    · cases h
end
/-! ### the head's facts -/
abbrev Fct : Type := PySem.W.Frag → Bool
def fFree (x : Str) : Fct := fun K => He.eqO (PySem.W.nsIn K mainGlobals x) (some none)
def fBlt (x : Str) (id : String) : Fct := fun K => He.eqO (PySem.W.nsIn K mainGlobals x) (some (some (.builtin id)))
def fGlo (x : Str) : Fct := fun K => He.eqO (PySem.W.nsIn K mainGlobals x) (some (some (.ref (He.ga K x))))
def fCon (x : Str) (d : PyData) : Fct := fun K => match PySem.W.nsIn K mainGlobals x with
  | some (some u) => dpB K d u
  | _ => false
def obsX (fa : List Fct) (fn : List He.DefD) (K : PySem.W.Frag) : He.AlD := ((fa.all fun f => f K) && fn.all fun d => d.ok K && fGlo d.at_.1 K, fn.map fun d => He.fnW K d.at_)
def SaysX (fa : List Fct) (fn : List He.DefD) (K : PySem.W.Frag) : Prop := obsX fa fn K = He.valD fn
def obsXG (n : Nat) (fa : List Fct) (fn : List He.DefD) (g : Addr → Option Obj) : He.AlD := obsX fa fn (He.frG g (He.asD g n))
def hookX (n : Nat) (fa : List Fct) (fn : List He.DefD) : PySem.W.Hook where
  α := He.AlD
  obs := fun s => obsXG n fa fn s.heap.get?
  val := fun _ => He.valD fn
  says := fun _ h => ∃ K : PySem.W.Frag, K.In h ∧ SaysX fa fn K
  of := fun _ _ e => ⟨_, He.frG_in, e⟩
  keeps := fun _ _ _ ⟨K, hK, c⟩ k => ⟨K, PySem.W.Frag.In.keeps hK k, c⟩
theorem obsXG_eq {n : Nat} {fa : List Fct} {fn : List He.DefD} {g : Addr → Option Obj} {s : Shared} (h : ∀ a, g a = s.heap.get? a) : obsXG n fa fn g = (hookX n fa fn).obs s := by
  have e : g = s.heap.get? := funext h
  rw [e] <;> rfl
section
variable {fa : List Fct} {fn : List He.DefD} {K : PySem.W.Frag} {h : Heap} {mg : Str → Option Value}
theorem SaysX.fact (c : SaysX fa fn K) (i : Nat) {f : Fct} (h : fa[i]? = some f := by rfl) : f K = true := by
  have c1 := (He.ba (show ((fa.all fun f => f K) && fn.all fun d => d.ok K && fGlo d.at_.1 K) = true from congrArg (fun z : He.AlD => z.1) c)).1
  exact List.all_eq_true.mp c1 f (List.mem_of_getElem? h)
theorem SaysX.def_ (c : SaysX fa fn K) (i : Nat) {d : He.DefD} (h : fn[i]? = some d := by rfl) : (∃ fd, FunD K d.name d.qual d.params d.body d.scope (d.dvs K) (d.kws K) (He.fAd K d.at_) fd) ∧ fGlo d.at_.1 K = true := by
  have c2 := (He.ba (show ((fa.all fun f => f K) && fn.all fun d => d.ok K && fGlo d.at_.1 K) = true from congrArg (fun z : He.AlD => z.1) c)).2
  have e : fn.map (fun d => He.fnW K d.at_) = fn.map He.DefD.val := congrArg (fun z : He.AlD => z.2) c
  have e2 : (fn.map fun d => He.fnW K d.at_)[i]? = (fn.map He.DefD.val)[i]? := by rw [e]
  rw [List.getElem?_map, List.getElem?_map, h] at e2
  obtain ⟨k1, k2⟩ := He.ba (List.all_eq_true.mp c2 d (List.mem_of_getElem? h))
  exact ⟨He.DefD.funD (Option.some.inj e2) k1, k2⟩
/-- a def of the text as a datum -/
abbrev dfn (x : Str) (st : Stmt) : He.DefD := ⟨(x, none), x, x, defArgs st, defBody st, defScope st, [], []⟩
theorem SaysX.fnP (c : SaysX fa fn K) (X : K.In h) (G : h.Ns mainGlobals mg) (i : Nat) (x : Str) (st : Stmt) (e : fn[i]? = some (dfn x st) := by rfl) : ∃ fd, FnP K x st (He.ga K x) fd ∧ mg x = some (.ref (He.ga K x)) := by
  obtain ⟨⟨fd, h1⟩, h2⟩ := c.def_ i e
  exact ⟨fd, h1, PySem.W.mg_of X G (He.eqO_ok h2)⟩
theorem SaysX.fd (c : SaysX fa fn K) (X : K.In h) (G : h.Ns mainGlobals mg) (i : Nat) (x : Str) (st : Stmt) (e : fn[i]? = some (dfn x st) := by rfl) : Fd K mg x st := by
  obtain ⟨fd, h1, h2⟩ := c.fnP X G i x st e
  exact ⟨_, fd, h1, h2⟩
theorem SaysX.free (c : SaysX fa fn K) (X : K.In h) (G : h.Ns mainGlobals mg) (i : Nat) (x : Str) (e : fa[i]? = some (fFree x) := by rfl) : mg x = none := PySem.W.mg_none_of X G (He.eqO_ok (c.fact i e))
theorem SaysX.blt (c : SaysX fa fn K) (X : K.In h) (G : h.Ns mainGlobals mg) (i : Nat) (x : Str) (id : String) (e : fa[i]? = some (fBlt x id) := by rfl) : mg x = some (.builtin id) := PySem.W.mg_of X G (He.eqO_ok (c.fact i e))
theorem SaysX.con (c : SaysX fa fn K) (X : K.In h) (G : h.Ns mainGlobals mg) (i : Nat) (x : Str) (d : PyData) (e : fa[i]? = some (fCon x d) := by rfl) : Gk K mg x d := by
  have c1 := c.fact i e
  unfold fCon at c1
  split at c1
  · rename_i u q
    obtain ⟨v, r, k⟩ := dpB_ok d u c1
    exact ⟨v, u, PySem.W.mg_of X G q, r, k⟩
  · cases c1
end
/-! ### the law's end -/
theorem intsDp {K : PySem.W.Frag} {H : Hp} : ∀ ns : List Int, DpAll K H (ns.map V.int) (ns.map PyData.int)
  | [] => .nil
  | n :: ns => .cons (.int n) (intsDp ns)
theorem walk_law {l : PySem.W.OpenLaw} {k : Nat} {q : Program} {loose : List Str} {XP : (Str → Option Value) → Heap → Prop} {YP : World → Heap → Prop} {d : DefRec} {x : Str} {m : List PyData → Option PyData}
    (hn : l.most = some 63) (hdf : d.params.defaults = []) (hr : Room k callerA)
    (F : ∀ (w : World) (mg : Str → Option Value) (fa : Addr) (h : Heap), YP w h → h.Ns mainGlobals mg → mg d.name = some (.ref fa) →
      ∃ (K : PySem.W.Frag) (fd : FuncData), K.In h ∧ (∀ (s : Shared) (u : Value), BindsTo s fd ⟨[u], []⟩ [(x, u)]) ∧ ∀ base : Heap, K.In base → base.Ns mainGlobals mg → FnOk l.prog w K mg base CX0 k fa fd [x] (spD K 1 m))
    (hm : ∀ ns : List Int, ns.length ≤ 63 → (∀ z ∈ ns, Builtin.Int.intBits z ≤ 1048576) → m [.list (ns.map PyData.int)] = some (.bool true)) :
    PySem.W.WalkO q loose XP YP l.row.toRowW d [] (fun f vs => PySem.call f vs) := by
  refine Att.attach_callB hn hdf fun w s₀ s₁ mg mb fa o pm cd doc a vs ns G Y ho hd hcd hmg hobj hints hlen hbits hg => ?_
  obtain ⟨K, fd, KX, hb, hF⟩ := F w mg fa _ Y G.T.g hmg
  refine law_call KX G.T.g G.T.b G.T.builtins G.T.nolimit hg hobj hints (Nat.le_trans hlen (by decide)) hr hF hb (fun H hO hS => ⟨rfl, H, [.list (ns.map PyData.int)], .bool true, .refl H, .cons (.lst hS (intsDp ns)) .nil, hm ns hlen hbits, fun v F' H' _ r => ?_⟩) fun H e s' z => z
  cases r
  rfl
end DL

set_option Elab.async false
set_option linter.all false
set_option maxRecDepth 100000
set_option maxHeartbeats 4000000
namespace DL
open PySem PySem.Spec PyProof.Rows L2
section
variable {X : Cx} {tg a b c e iter : Expr} {es : List Expr} {st : Stmt} {f g f1 f2 : EV} {h : EA} {cb cb' : EB} {pos : Pos}
/-! ### a, b = x, y -/
def sPar (i j : Nat) (f : EA) : ES := fun ρ => (f ρ).bind fun ds => match ds with
  | [x, y] => some (.nx ((ρ.set i (.va x)).set j (.va y)))
  | _ => none
def sPar3 (i j k : Nat) (f : EA) : ES := fun ρ => (f ρ).bind fun ds => match ds with
  | [x, y, z] => some (.nx (((ρ.set i (.va x)).set j (.va y)).set k (.va z)))
  | _ => none
theorem ds_par {i j : Nat} {x y : Str} {px py pt : Pos} {kt k2 pt2} (hc : X.calm = true) (hN : X.N.Nodup) (hi : X.N[i]? = some x) (hj : X.N[j]? = some y) (hij : i ≠ j)
    (hx : X.env.scope.names.lookup x = some .local) (hy : X.env.scope.names.lookup y = some .local) (ha : DA X [a, b] h)
    (hw : swappedStores [.Tuple [.Name x px, .Name y py] kt pt] (.Tuple [a, b] k2 pt2) X.env = pure (some [x, y]))
    (hs : swapsWithSole [.Tuple [.Name x px, .Name y py] kt pt] (.Tuple [a, b] k2 pt2) pos.line X.env = pure false := by rfl) :
    DS X (.Assign [.Tuple [.Name x px, .Name y py] kt pt] (.Tuple [a, b] k2 pt2) pos) (sPar i j h) := fun W tk => psMono (ps_par hc hN hi hj hij hx hy ha.pa hw hs) fun D σ H ⟨F0, B, F, ρ, r, G, E, e, p⟩ => by
  obtain ⟨ds, e1, e2⟩ := bind_some e
  split at e2
  · cases e2
    refine ⟨B, F, ρ, _, E, e1, fun vs F1 H1 G1 rr => ?_⟩
    obtain ⟨v, u, rfl, rv, ru⟩ := two_of rr
    exact ⟨v, u, rfl, p _ F1 H1 (G.trans G1) (((E.grow G1).setVa rv).setVa ru) G1.ff⟩
  · cases e2
theorem ds_par3 {i j l : Nat} {x y z : Str} {px py pz pt : Pos} {kt k2 pt2} (hc : X.calm = true) (hN : X.N.Nodup) (hi : X.N[i]? = some x) (hj : X.N[j]? = some y) (hl : X.N[l]? = some z) (hij : i ≠ j) (hil : i ≠ l) (hjl : j ≠ l)
    (hx : X.env.scope.names.lookup x = some .local) (hy : X.env.scope.names.lookup y = some .local) (hz : X.env.scope.names.lookup z = some .local) (ha : DA X [a, b, c] h)
    (hw : swappedStores [.Tuple [.Name x px, .Name y py, .Name z pz] kt pt] (.Tuple [a, b, c] k2 pt2) X.env = pure (some [x, y, z]))
    (hs : swapsWithSole [.Tuple [.Name x px, .Name y py, .Name z pz] kt pt] (.Tuple [a, b, c] k2 pt2) pos.line X.env = pure false := by rfl) :
    DS X (.Assign [.Tuple [.Name x px, .Name y py, .Name z pz] kt pt] (.Tuple [a, b, c] k2 pt2) pos) (sPar3 i j l h) := fun W tk => psMono (ps_par3 hc hN hi hj hl hij hil hjl hx hy hz ha.pa hw hs) fun D σ H ⟨F0, B, F, ρ, r, G, E, e, p⟩ => by
  obtain ⟨ds, e1, e2⟩ := bind_some e
  split at e2
  · cases e2
    refine ⟨B, F, ρ, _, E, e1, fun vs F1 H1 G1 rr => ?_⟩
    obtain ⟨v, u, w, rfl, rv, ru, rw'⟩ := three_of rr
    exact ⟨v, u, w, rfl, p _ F1 H1 (G.trans G1) ((((E.grow G1).setVa rv).setVa ru).setVa rw') G1.ff⟩
  · cases e2
/-! ### chains a < b < c -/
def eChain (g g' : PyData → PyData → Option PyData) (f1 f2 f3 : EV) : EV := fun ρ => (f1 ρ).bind fun x => (f2 ρ).bind fun y => (g x y).bind fun d => (blOf d).bind fun k => if k then (f3 ρ).bind fun z => g' y z else some (.bool false)
theorem tChain' {g g' : PyData → PyData → Option PyData} {f3 : EV} {σ : L2.St} {H : Hp} {Q : VK} {K : PySem.W.Frag} (h : tD K (eChain g g' f1 f2 f3) σ H Q) : tChain (rG K g) (rG K g') (tD K f1) (tD K f2) (tD K f3) σ H Q := by
  obtain ⟨B, F, ρ, d, E, e, q⟩ := h
  obtain ⟨dx, e1, e⟩ := bind_some e
  obtain ⟨dy, e2, e⟩ := bind_some e
  obtain ⟨dk, e3, e⟩ := bind_some e
  obtain ⟨k, e4, e6⟩ := bind_some e
  clear e
  refine ⟨B, F, ρ, dx, E, e1, fun x F1 H1 G1 r1 => ⟨B, F1, ρ, dy, E.grow G1, e2, fun y F2 H2 G2 r2 => ⟨F2, dx, dy, dk, G2.fh, dpMono G2.ff _ _ r1, r2, e3, fun v F3 H3 G3 r3 => ?_⟩⟩⟩
  cases dk with
  | bool k' =>
    cases e4
    cases r3
    refine ⟨k, rfl, ?_⟩
    cases k with
    | true =>
      rw [if_pos rfl] at e6 ⊢
      obtain ⟨dz, e5, e⟩ := bind_some e6
      exact ⟨B, F3, ρ, dz, (E.grow (G1.trans G2)).grow G3, e5, fun w F4 H4 G4 r4 => ⟨F4, dy, dz, d, G4.fh, dpMono (G3.ff.trans G4.ff) _ _ r2, r4, e, fun v F5 H5 G5 r5 => q v F5 H5 (G1.trans (G2.trans (G3.trans (G4.trans G5)))) r5⟩⟩
    | false =>
      rw [if_neg (by simp)] at e6 ⊢
      cases e6
      exact q _ F3 H3 (G1.trans (G2.trans G3)) (.bl false)
  | _ => cases e4
theorem dv_chain {op op' : CmpOp} {g g' : PyData → PyData → Option PyData} {f3 : EV} (ho : OpR X (compareOp op) (rG X.K g)) (ho' : OpR X (compareOp op') (rG X.K g')) (ha : DV X a f1) (hb : DV X b f2) (hc : DV X c f3)
    (hm : lastMarks [op, op'] [b, c] = false := by with_unfolding_all rfl) : DV X (.Compare a [op, op'] [b, c] pos) (eChain g g' f1 f2 f3) := peMono (pe_chain ho ho' ha hb hc hm) fun _ _ _ q => tChain' q
theorem dt_chain {op op' : CmpOp} {g g' : PyData → PyData → Option PyData} {f3 : EV} (ho : OpR X (compareOp op) (rG X.K g)) (ho' : OpR X (compareOp op') (rG X.K g')) (ha : DV X a f1) (hb : DV X b f2) (hc : DV X c f3)
    (hm : lastMarks [op, op'] [b, c] = false := by with_unfolding_all rfl) : DT X (.Compare a [op, op'] [b, c] pos) (bVal (eChain g g' f1 f2 f3)) := ptMono (pt_chain ho ho' ha hb hc hm) fun σ H Q ⟨B, F, ρ, b, E, e, q⟩ => by
  obtain ⟨d, e1, e2⟩ := bind_some e
  refine tChain' ⟨B, F, ρ, d, E, e1, fun v F' H' G r => ?_⟩
  cases d with
  | bool k =>
    cases e2
    cases r
    exact ⟨_, rfl, q F' H' G⟩
  | _ => cases e2
end
end DL

set_option Elab.async false
set_option linter.all false
set_option maxRecDepth 100000
set_option maxHeartbeats 4000000
namespace DL
open PySem PySem.Spec PyProof.Rows L2
section
variable {X : Cx} {tg a b c e iter : Expr} {es : List Expr} {st : Stmt} {f g f1 f2 : EV} {h h1 h2 : EA} {cb cb' : EB} {pos apos cpos : Pos}
/-! ### what is never reached -/
def sNo : ES := fun _ => none
theorem ds_no : DS X st sNo := fun W tk => ⟨fun pins s σ H D I ⟨_, _, _, _, _, _, _, e, _⟩ => by cases e⟩
/-! ### a new list times a number -/
def fRep (h : EA) (f : EV) : EA := fun ρ => (h ρ).bind fun ds => (f ρ).bind fun d => match d with
  | .int k => if 0 ≤ k ∧ k ≤ 1000000 ∧ ds.length * k.toNat ≤ 16000000 then some (List.replicate k.toNat ds).flatten else none
  | _ => none
theorem dpRep {K : PySem.W.Frag} {H : Hp} {vs : List V} {ds : List PyData} (r : DpAll K H vs ds) : ∀ n : Nat, DpAll K H (List.replicate n vs).flatten (List.replicate n ds).flatten
  | 0 => .nil
  | n + 1 => by
    rw [List.replicate_succ, List.replicate_succ, List.flatten_cons, List.flatten_cons]
    exact dpApp r (dpRep r n)
theorem df_rep (ha : DF X a h) (hb : DV X b f) : DF X (.BinOp a .Mult b pos) (fRep h f) := peMono (pe_op op_rep ha hb) fun σ H Q ⟨B, F, ρ, ds, E, e, q⟩ => by
  obtain ⟨xs, e1, e⟩ := bind_some e
  obtain ⟨d, e2, e⟩ := bind_some e
  refine ⟨B, F, ρ, xs, E, e1, fun l vs F1 H1 G1 n1 n2 h1 r1 => ⟨B, F1, ρ, d, E.grow G1, e2, fun y F2 H2 G2 r2 => ?_⟩⟩
  cases d with
  | int k =>
    cases r2
    change (if 0 ≤ k ∧ k ≤ 1000000 ∧ xs.length * k.toNat ≤ 16000000 then some (List.replicate k.toNat xs).flatten else none) = some ds at e
    split at e
    case isFalse => cases e
    rename_i hc
    cases e
    have r3 := dpMonoAll G2.ff _ _ r1
    refine ⟨l, k, vs, rfl, rfl, G2.hh _ _ h1, by omega, by omega, ?_, fun p np => ?_⟩
    · rw [dpLen r1]
      exact Nat.le_trans hc.2.2 (by decide)
    · exact q p _ F2 _ ((G1.trans G2).trans (.side G2.fh np)) ((G1.trans G2).hh.free np) (G2.fh.free np) upd_same (dpRep r3 _)
  | _ => cases e
/-! ### how often a number stands in a list -/
def gCnt : PyData → PyData → Option PyData
  | .list ds, .int k => (intsOf ds).map fun ns => .int (ns.count k : Nat)
  | _, _ => none
theorem dv_count {o : Expr} (ho : DV X o f1) (he : DV X e f2) (hbase : attributeBase o "count" X.env (eval o X.env) = eval o X.env := by rfl)
    (hfew : ((backTo cpos (starEach [e] X.env)).all (fun x => !x.1) && (backToKw cpos (keywordEach [] X.env)).all (fun x => x.1.isSome)
      && decide (([e] : List Expr).length + ([] : List Keyword).length + (if ([] : List Keyword).isEmpty then 0 else 1) < 30)) = true := by rfl)
    (hline : (apos.endLine == cpos.line) = true := by rfl) (hs : starEach [e] X.env = (false, eval e X.env) :: starEach [] X.env := by rfl) (hplain : (backTo cpos (starEach [] X.env)).any (·.1) = false := by rfl) :
    DV X (.Call (.Attribute o "count" apos) [e] [] cpos) (eBin gCnt f1 f2) :=
  peMono (pe_bm PySem.F.plainAttrs_list PySem.F.slot_list_count PySem.F.type_list_count mt_lcount ho (pa_cons he pa_nil hs) hbase hfew hline hs hplain) fun σ H Q ⟨B, F, ρ, d, E, e, q⟩ => by
    obtain ⟨dx, e1, e⟩ := bind_some e
    obtain ⟨dy, e2, e⟩ := bind_some e
    refine ⟨B, F, ρ, dx, E, e1, fun v F1 H1 G1 r1 => ?_⟩
    cases dx <;> cases dy <;> try cases e
    · rename_i ds k
      obtain ⟨ns, e3, e4⟩ := Option.map_eq_some_iff.mp e
      cases e4
      cases r1 with
      | lst hs ha =>
        have hv := dpInts e3 ha
        subst hv
        refine ⟨.inl ⟨rfl, _, G1.fh.seq hs⟩, B, F1, ρ, _, E.grow G1, e2, fun y F2 H2 G2 r2 => ?_⟩
        cases r2
        exact ⟨_, ns, k, rfl, rfl, (G1.fh.trans G2.hh).seq hs, q _ F2 H2 (G1.trans G2) (.int _)⟩
end
end DL

set_option Elab.async false
set_option linter.all false
set_option maxRecDepth 100000
set_option maxHeartbeats 4000000
/-! DLA: exceptions. A def that may raise; raise; try; the suite of an except clause. -/
namespace DL
open PySem PySem.Spec PyProof.Rows L2
inductive XR where
  | val (d : PyData) | exc (x : XD)
/-- what stands of an exception: its class, its dict with the one field -/
structure XAt (K : PySem.W.Frag) (F H : Hp) (cls : Value) (d : Option Addr) (x : XD) : Prop where
  c : cls = .ref (He.ga K x.c)
  e : ∃ dd v, d = some dd ∧ H dd = some (.xd [(x.f, v)]) ∧ Dp K F v x.d
theorem XAt.grow {K : PySem.W.Frag} {F H F' H' : Hp} {cls : Value} {d : Option Addr} {x : XD} (a : XAt K F H cls d x) (g : Grow F H F' H') : XAt K F' H' cls d x := by
  obtain ⟨dd, v, e1, e2, e3⟩ := a.e
  exact ⟨a.c, dd, v, e1, g.hh _ _ e2, dpMono g.ff _ _ e3⟩
def spX (K : PySem.W.Frag) (n : Nat) (m : List PyData → Option XR) : Sp := fun vs H Q E => vs.length = n ∧ ∃ F ds r, Same F H ∧ DpAll K F vs ds ∧ m ds = some r ∧ match r with
  | .val d => ∀ v F' H', Grow F H F' H' → Dp K F' v d → Q v H'
  | .exc x => ∀ F' H' dd v, Grow F H F' H' → H' dd = some (.xd [(x.f, v)]) → F' dd = none → H dd = none → Dp K F' v x.d → E (.ref (He.ga K x.c)) (some dd) H'
def runX (k : Nat) (u : ES) : List PyData → Option XR := fun ds => (u (ds.map SC.va ++ List.replicate k SC.un)).bind fun r => match r with
  | .rt d => some (.val d)
  | .nx _ => some (.val .none)
  | .xc _ x => some (.exc x)
  | _ => none
def vOf : XR → Option PyData
  | .val d => some d
  | _ => none
theorem fnOkX {P : Program} {w : World} {K : PySem.W.Frag} {mg : Str → Option Value} {base : Heap} {x : Str} {st : Stmt} {fa : Addr} {fd : FuncData} {N ps : List Str} {u : ES} {k n m : Nat} (F : FnP K x st fa fd) (S : FnScope N ps (defScope st)) (hn : ps.length = n) (hm : N.length - n = m)
    (hbody : ∀ (cdv : Value) (A : Around) (outer : List Env) (s : Shared) (H : Hp) (E : XK), Room k (A.deeper (envOfC x (defScope st) s.heap.objs.size fa cdv)) → DSs (cxOf (L2.CX P w) P w K mg base N x (defScope st) fa cdv A outer s H E) (defBody st) u) :
    FnOk P w K mg base (L2.CX P w) (k + 1) fa fd ps (spX K n (runX m u)) := by
  subst hn hm
  refine F.ok S (fun vs H Q E h => h.1) fun cdv A outer s H vs Q E hr h => ⟨_, hbody cdv A outer s H E hr (fun cls d _ H => E cls d H) (takes_of rfl rfl rfl rfl), ?_⟩
  obtain ⟨hl, F1, ds, r, s1, rr, e, q⟩ := h
  obtain ⟨r1, e1, e2⟩ := bind_some e
  refine ⟨F1, H, F1, _, r1, .refl s1, .start s1 rr, ?_, ?_⟩
  · rw [hl]
    exact e1
  · cases r1 with
    | rt d' =>
      cases e2
      exact fun v F' H' G r' => q v F' H' G r'
    | nx ρ =>
      cases e2
      exact fun σ' F' H' G E' _ => q .non F' H' G .non
    | xc ρ x =>
      cases e2
      exact fun σ' F' H' dd v G _ _ h1 h2 h3 h4 => q F' H' dd v G h1 h2 h3 h4
    | bk ρ => cases e2
    | ct ρ => cases e2
/-- a def that may raise, by name -/
structure DefX (P : Program) (w : World) (K : PySem.W.Frag) (mg : Str → Option Value) (base : Heap) (x : Str) (k n : Nat) (m : List PyData → Option XR) : Prop where
  ex : ∃ (fa : Addr) (fd : FuncData) (ps : List Str), FnOk P w K mg base (L2.CX P w) k fa fd ps (spX K n m) ∧ mg x = some (.ref fa) ∧ PySem.W.keepIn K (.ref fa) = true ∧ L2.Binds K fd ps []
section
variable {P : Program} {w : World} {K : PySem.W.Frag} {mg : Str → Option Value} {base : Heap}
theorem Fd.mkX {x : Str} {st : Stmt} {N ps : List Str} {u : ES} {k n m : Nat} (F : Fd K mg x st) (S : FnScope N ps (defScope st)) (hn : ps.length = n) (hm : N.length - n = m)
    (hb : ∀ (kV doc pm : Value) (an : Option Addr) (cdv ct : Value) (us : List Value), us.length = ps.length → bindArgs (PySem.W.fnOf x x (defArgs st) (defBody st) (defScope st) .none kV doc pm an cdv ct) ⟨us, []⟩ = pure (ps.zip us))
    (hbody : ∀ {fa : Addr} (cdv : Value) (A : Around) (outer : List Env) (s : Shared) (H : Hp) (E : XK), Room k (A.deeper (envOfC x (defScope st) s.heap.objs.size fa cdv)) → DSs (cxOf (L2.CX P w) P w K mg base N x (defScope st) fa cdv A outer s H E) (defBody st) u) :
    DefX P w K mg base x (k + 1) n (runX m u) := by
  obtain ⟨fa, fd, h1, h2⟩ := F
  exact ⟨fa, fd, ps, fnOkX h1 S hn hm hbody, h2, h1.kp, h1.bindsN hb⟩
/-- where it raises nothing it is a def that works out data -/
theorem DefX.dat {x : Str} {k n : Nat} {m : List PyData → Option XR} (D : DefX P w K mg base x k n m) : Def P w K mg base x k n (fun ds => (m ds).bind vOf) := by
  obtain ⟨fa, fd, ps, h1, h2, h3, h4⟩ := D.ex
  refine ⟨fa, fd, ps, ⟨fun vs H Q E h => ?_, fun A outer s H args us vs Q E hr e0 hb r hsp => ?_⟩, h2, h3, h4⟩
  · obtain ⟨hl, F, ds, d, s, rr, e, q⟩ := h
    obtain ⟨r, e1, e2⟩ := bind_some e
    cases r with
    | val d' =>
      cases e2
      exact h1.len vs H Q (fun _ _ _ => False) ⟨hl, F, ds, _, s, rr, e1, q⟩
    | exc x => cases e2
  · obtain ⟨hl, F, ds, d, s0, rr, e, q⟩ := hsp
    obtain ⟨r0, e1, e2⟩ := bind_some e
    cases r0 with
    | val d' =>
      cases e2
      refine codeAny_mono (h1.run A outer s H args us vs Q (fun _ _ _ => False) hr e0 hb r ⟨hl, F, ds, _, s0, rr, e1, q⟩) fun res s' hc => ?_
      cases res with
      | ok fl =>
        cases fl with
        | ret u => exact hc
        | next => exact hc
        | brk => exact hc
        | cont => exact hc
      | error er =>
        obtain ⟨_, _, _, _, _, _, _, _, _, _, _, _, z⟩ := hc
        exact z.elim
    | exc x => cases e2
end
/-! ### a class of exceptions: class C(..): def __init__(self, f): self.f = f -/
def spIn (K : PySem.W.Frag) (f : Str) : Sp := fun vs H Q _ => ∃ (a C : Addr) (v : V), vs = [.ref a, v] ∧ OexC K C ∧ PySem.W.findIn K (.ref C) f = some none ∧ H a = some (exo a C none) ∧ ∀ dx, H dx = none → dx ≠ a → Q .non (upd (upd H dx (exd dx [(f, v)])) a (exo a C (some dx)))
structure XCls (P : Program) (w : World) (K : PySem.W.Frag) (mg : Str → Option Value) (base : Heap) (C f : Str) : Prop where
  g : mg C = some (.ref (He.ga K C))
  o : OexC K (He.ga K C)
  x : XfC K (He.ga K C)
  nf : PySem.W.findIn K (.ref (He.ga K C)) f = some none
  i : ∃ fI fd ps, PySem.W.findIn K (.ref (He.ga K C)) "__init__" = some (some (.ref fI)) ∧ PySem.W.typeIn K (.ref fI) = some (.type "function") ∧ FnOk P w K mg base CX0 1 fI fd ps (spIn K f) ∧ Binds K fd ps []
section
variable {P : Program} {w : World} {K : PySem.W.Frag} {mg : Str → Option Value} {base : Heap}
/-- its __init__ -/
theorem init_ok {C f q : Str} {args : Arguments} {body : List Stmt} {scope : Scope} {fa : Addr} {fd : FuncData} {p1 p2 p3 p4 : Pos} (F : FunD K "__init__" q args body scope [] [] fa fd) (S : FnScope ["self", f] ["self", f] scope) (eb : body = [.Assign [.Attribute (.Name "self" p1) f p2] (.Name f p3) p4])
    (hl1 : scope.names.lookup ("self" : Str) = some .local) (hl2 : scope.names.lookup f = some .local) (hd1 : (f == ("__debug__" : Str)) = false) (hd2 : (f == ("__classdict__" : Str)) = false) : FnOk P w K mg base CX0 1 fa fd ["self", f] (spIn K f) := by
  subst eb
  refine F.ok S (fun vs H Q E h => ?_) fun cdv A outer s H vs Q E hr h => ⟨_, (pss_one (ps_ost (X := (cxOf CX0 P w K mg base ["self", f] q scope fa cdv A outer s H E).nox) (pv 0 rfl (.inl hl1)) (pv 1 rfl (.inl hl2) hd1 hd2))).nox, ?_⟩
  · obtain ⟨a, C, v, rfl, _⟩ := h
    rfl
  · obtain ⟨a, C, v, rfl, h1, h2, h3, h4⟩ := h
    exact ⟨v, rfl, .ref a, rfl, a, C, rfl, h1, h2, .inl ⟨h3, fun dx n1 n2 => h4 dx n1 n2⟩⟩
end

section
variable {X : Cx} {tg a b c e iter : Expr} {es : List Expr} {st : Stmt} {sts ss : List Stmt} {f g f1 f2 : EV} {h h1 h2 : EA} {cb cb' : EB} {u u1 u2 : ES} {pos apos cpos : Pos}
/-! ### raise C(e) -/
def sRaise (C fl : Str) (f : EV) : ES := fun ρ => (f ρ).bind fun d => some (.xc ρ ⟨C, fl, d⟩)
theorem ds_raise {C fl : Str} {p pos2 : Pos} {k : Nat} (hc : X.calm = true) (T : XCls X.prog X.w X.K X.mg X.base C fl) (hr : Room (k + 1) X.A) (ha : DV X a f) (hg : Gl X C) (hk : 1 ≤ k := by decide) (hdb : (C == ("__debug__" : Str)) = false := by decide) (he : starEach [a] X.env = (false, eval a X.env) :: starEach [] X.env := by rfl) (hpl : (backTo pos (starEach [] X.env)).any (·.1) = false := by rfl) :
    DS X (.Raise (some (.Call (.Name C p) [a] [] pos)) none pos2) (sRaise C fl f) := fun W tk => by
  obtain ⟨fI, fd, ps, i1, i2, i3, i4⟩ := T.i
  refine psMono (ps_raise hc tk (pmk_oex T.o i1 i2 (i3.mono hk) hr i4 .nil pass0 hg T.g (pa_cons ha pa_nil he) hdb he hpl)) fun D σ H ⟨F0, B, F, ρ, r, G, E, e, p⟩ => ?_
  obtain ⟨d, e1, e⟩ := bind_some e
  cases e
  refine ⟨B, F, ρ, d, E, e1, fun v F1 H1 G1 r1 => ⟨(by decide : (1 : Nat) ≤ 1000), fun ax na => ?_⟩⟩
  refine ⟨ax, _, v, rfl, T.o, T.nf, upd_same, fun dx n1 n2 => ⟨rfl, dx, [(fl, v)], upd_same, ?_, ?_, ?_⟩⟩
  · rw [upd_ne n2, upd_same]
  · rw [upd_ne n2] at n1
    exact n1
  · rw [upd_ne n2] at n1
    have eH : upd (del (upd (upd (upd H1 ax (exo ax (He.ga X.K C) none)) dx (exd dx [(fl, v)])) ax (exo ax (He.ga X.K C) (some dx))) ax) dx (.xd [(fl, v)]) = upd H1 dx (.xd [(fl, v)]) := by
      funext b
      by_cases hb : b = dx
      · subst hb
        rw [upd_same, upd_same]
      · rw [upd_ne hb, upd_ne hb]
        by_cases hb2 : b = ax
        · subst hb2
          rw [del_same, na]
        · rw [del_ne hb2, upd_ne hb2, upd_ne hb, upd_ne hb2]
    rw [eH]
    have G2 : Grow F H F1 (upd H1 dx (.xd [(fl, v)])) := G1.trans (.side G1.fh n1)
    exact p σ F1 _ dx v (G.trans G2) (E.grow G2) G2.ff upd_same (G1.fh.free n1) (G.hh.free (G1.hh.free n1)) r1
/-! ### calls that may raise -/
abbrev EX := Rho → Option XR
def tDX (K : PySem.W.Frag) (W : WX) (f : EX) : TE := fun σ H Q => ∃ B F ρ r, ER K B F H σ ρ ∧ f ρ = some r ∧ match r with
  | .val d => ∀ v F' H', Grow F H F' H' → Dp K F' v d → Q v H'
  | .exc x => ∀ F' H' dd v, Grow F H F' H' → H' dd = some (.xd [(x.f, v)]) → F' dd = none → H dd = none → Dp K F' v x.d → W (.ref (He.ga K x.c)) (some dd) σ H'
def DVX (X : Cx) (e : Expr) (f : EX) : Prop := ∀ W : WX, Takes X W → PE X e (tDX X.K W f)
def xCall (m : List PyData → Option XR) (f : EA) : EX := fun ρ => (f ρ).bind m
theorem dvx_call {x : Str} {p : Pos} {k n j : Nat} {m : List PyData → Option XR} (D : DefX X.prog X.w X.K X.mg X.base x k n m) (hr : Room j X.A) (ha : DA X (e :: es) h) (hj : k ≤ j := by decide) (hg : Gl X x := by rfl) (hn : (e :: es).length = n := by rfl) (hdb : (x == ("__debug__" : Str)) = false := by decide)
    (he : starEach (e :: es) X.env = (false, eval e X.env) :: starEach es X.env := by rfl) (hpl : (backTo pos (starEach es X.env)).any (·.1) = false := by rfl) : DVX X (.Call (.Name x p) (e :: es) [] pos) (xCall m h) := fun W tk => by
  obtain ⟨fa, fd, ps, q1, q2, q3, q4⟩ := D.ex
  refine peMono (pe_callS (E := WE W) q1 (hr.mono hj) hg q2 q3 q4 (fun σ => passAt tk σ) ha.pa hdb he hpl) fun σ H Q ⟨B, F, ρ, r, E, e, q⟩ => ?_
  obtain ⟨ds, e1, e2⟩ := bind_some e
  refine ⟨B, F, ρ, ds, E, e1, fun vs F1 H1 G rr => ⟨by rw [dpLen rr, ha.len ρ ds e1]; exact hn, F1, ds, r, G.fh, rr, e2, ?_⟩⟩
  cases r with
  | val d => exact fun v F2 H2 G2 r2 => q v F2 H2 (G.trans G2) r2
  | exc x => exact fun F2 H2 dd v G2 h1 h2 h3 h4 => q F2 H2 dd v (G.trans G2) h1 h2 (G.hh.free h3) h4
/-- [e, f(..)]: the last item may raise -/
def xLst1 (f : EV) (g : EX) : EX := fun ρ => (f ρ).bind fun d => (g ρ).bind fun r => match r with
  | .val d' => some (.val (.list [d, d']))
  | .exc x => some (.exc x)
theorem dvx_lst1 {g : EX} (ha : DV X a f) (hb : DVX X b g) (hs1 : starEach [a, b] X.env = (false, eval a X.env) :: starEach [b] X.env := by rfl) (hs2 : starEach [b] X.env = (false, eval b X.env) :: starEach [] X.env := by rfl) : DVX X (.List [a, b] pos) (xLst1 f g) := fun W tk =>
  peMono (pe_lst (pa_cons ha (pa_cons (hb W tk) pa_nil hs2) hs1)) fun σ H Q ⟨B, F, ρ, r, E, e, q⟩ => by
    obtain ⟨d, e1, e⟩ := bind_some e
    obtain ⟨r0, e2, e⟩ := bind_some e
    refine ⟨B, F, ρ, d, E, e1, fun v F1 H1 G1 r1 => ⟨B, F1, ρ, r0, E.grow G1, e2, ?_⟩⟩
    cases r0 with
    | val d' =>
      cases e
      refine fun v2 F2 H2 G2 r2 => ⟨by show 2 ≤ sizeLine; decide, fun p np => ?_⟩
      have G := G1.trans G2
      refine q (.ref p) _ _ (G.trans (.new G.fh np)) (.lst (.inl (.inl upd_same)) ?_)
      have s1 : Same F2 (upd F2 p (.lst [v, v2])) := sameUpd (G.fh.free np)
      exact .cons (dpMono (G2.ff.trans s1) _ _ r1) (.cons (dpMono s1 _ _ r2) .nil)
    | exc x =>
      cases e
      exact fun F2 H2 dd w G2 h1 h2 h3 h4 => q F2 H2 dd w (G1.trans G2) h1 h2 (G1.hh.free h3) h4
/-! ### statements that may raise -/
theorem xc_of {K : PySem.W.Frag} {F0 B F F' H H' : Hp} {W : WX} {ρ : Rho} {x : XD} {σ : L2.St} {dd : Addr} {v : V} (G : Grow F0 B F H) (E : ER K B F H σ ρ) (p : postX K F0 B F W ρ x) (G1 : Grow F H F' H') (h1 : H' dd = some (.xd [(x.f, v)])) (h2 : F' dd = none) (h3 : H dd = none) (h4 : Dp K F' v x.d) : W (.ref (He.ga K x.c)) (some dd) σ H' :=
  p σ F' H' dd v (G.trans G1) (E.grow G1) G1.ff h1 h2 (G.hh.free h3) h4
def sRetX (f : EX) : ES := fun ρ => (f ρ).bind fun r => match r with
  | .val d => some (.rt d)
  | .exc x => some (.xc ρ x)
def sSetX (i : Nat) (f : EX) : ES := fun ρ => (f ρ).bind fun r => match r with
  | .val d => some (.nx (ρ.set i (.va d)))
  | .exc x => some (.xc ρ x)
def sExpX (f : EX) : ES := fun ρ => (f ρ).bind fun r => match r with
  | .val _ => some (.nx ρ)
  | .exc x => some (.xc ρ x)
theorem ds_retX {g : EX} (he : DVX X e g) : DS X (.Return (some e) pos) (sRetX g) := fun W tk => psMono (ps_ret (he W tk)) fun D σ H ⟨F0, B, F, ρ, r, G, E, e, p⟩ => by
  obtain ⟨r0, e1, e⟩ := bind_some e
  refine ⟨B, F, ρ, r0, E, e1, ?_⟩
  cases r0 with
  | val d =>
    cases e
    exact fun v F' H' G' r' => p v F' H' (G.trans G') r'
  | exc x =>
    cases e
    exact fun F' H' dd v G1 h1 h2 h3 h4 => xc_of G E p G1 h1 h2 h3 h4
theorem ds_setX {g : EX} {i : Nat} {x : Str} {pos' : Pos} (hN : X.N.Nodup) (hi : X.N[i]? = some x) (hx : Loc X.env.scope x) (he : DVX X e g) (hs : swapsWith e (some (.Name x pos')) pos.line X.env = pure false := by rfl) (hf : X.fn x = true ∨ X.env.scope.names.lookup x = some .local := by first | exact .inl rfl | exact .inr rfl | assumption) :
    DS X (.Assign [.Name x pos'] e pos) (sSetX i g) := fun W tk => psMono (ps_set hN hi hx (he W tk) hs hf) fun D σ H ⟨F0, B, F, ρ, r, G, E, e, p⟩ => by
  obtain ⟨r0, e1, e⟩ := bind_some e
  refine ⟨B, F, ρ, r0, E, e1, ?_⟩
  cases r0 with
  | val d =>
    cases e
    exact fun v F' H' G' r' => p _ F' H' (G.trans G') ((E.grow G').setVa r') G'.ff
  | exc x =>
    cases e
    exact fun F' H' dd v G1 h1 h2 h3 h4 => xc_of G E p G1 h1 h2 h3 h4
theorem ds_exprX {g : EX} (he : DVX X e g) (hs : swapsWith e none pos.line X.env = pure false := by rfl) : DS X (.Expr e pos) (sExpX g) := fun W tk => psMono (ps_expr (he W tk) hs) fun D σ H ⟨F0, B, F, ρ, r, G, E, e, p⟩ => by
  obtain ⟨r0, e1, e⟩ := bind_some e
  refine ⟨B, F, ρ, r0, E, e1, ?_⟩
  cases r0 with
  | val d =>
    cases e
    exact fun v F' H' G' _ => p σ F' H' (G.trans G') (E.grow G') G'.ff
  | exc x =>
    cases e
    exact fun F' H' dd v G1 h1 h2 h3 h4 => xc_of G E p G1 h1 h2 h3 h4
end
end DL

set_option Elab.async false
set_option linter.all false
set_option maxRecDepth 100000
set_option maxHeartbeats 4000000
/-! DLB: try, and the suite of except .. as n -/
namespace DL
open PySem PySem.Spec PyProof.Rows L2
structure HAt (K : PySem.W.Frag) (i : Nat) (a : Addr) (cls : Value) (d : Option Addr) (F H : Hp) (σ : L2.St) (x : XD) : Prop where
  s : σ[i]? = some (some (.ref a))
  x : XAt K F H cls d x
theorem HAt.grow {K : PySem.W.Frag} {i : Nat} {a : Addr} {cls : Value} {d : Option Addr} {F H F' H' : Hp} {σ : L2.St} {x : XD} (h : HAt K i a cls d F H σ x) (g : Grow F H F' H') : HAt K i a cls d F' H' σ x := ⟨h.s, h.x.grow g⟩
abbrev EVH := XD → EV
abbrev EBH := XD → EB
abbrev EAH := XD → EA
def tDH (K : PySem.W.Frag) (i : Nat) (a : Addr) (cls : Value) (d : Option Addr) (f : EVH) : TE := fun σ H Q => ∃ B F ρ x r, ER K B F H σ ρ ∧ HAt K i a cls d F H σ x ∧ f x ρ = some r ∧ ∀ v F' H', Grow F H F' H' → Dp K F' v r → Q v H'
def tTH (K : PySem.W.Frag) (i : Nat) (a : Addr) (cls : Value) (d : Option Addr) (f : EBH) : TT := fun σ H Q => ∃ B F ρ x b, ER K B F H σ ρ ∧ HAt K i a cls d F H σ x ∧ f x ρ = some b ∧ ∀ F' H', Grow F H F' H' → Q b H'
def tAH (K : PySem.W.Frag) (i : Nat) (a : Addr) (cls : Value) (d : Option Addr) (f : EAH) : TA := fun σ H Q => ∃ B F ρ x ds, ER K B F H σ ρ ∧ HAt K i a cls d F H σ x ∧ f x ρ = some ds ∧ ∀ vs F' H', Grow F H F' H' → DpAll K F' vs ds → Q vs H'
/-- the suite's own facts -/
structure Su where
  i : Nat
  a : Addr
  cls : Value
  d : Option Addr
def DVH (X : Cx) (u : Su) (e : Expr) (f : EVH) : Prop := PE X e (tDH X.K u.i u.a u.cls u.d f)
def DTH (X : Cx) (u : Su) (e : Expr) (f : EBH) : Prop := PT X e (tTH X.K u.i u.a u.cls u.d f)
def DWH (X : Cx) (u : Su) (e : Expr) (f : EBH) : Prop := PW X e (tTH X.K u.i u.a u.cls u.d f)
structure DAH (X : Cx) (u : Su) (es : List Expr) (f : EAH) : Prop where
  pa : PA X es (tAH X.K u.i u.a u.cls u.d f)
  len : ∀ x ρ ds, f x ρ = some ds → ds.length = es.length
section
variable {X : Cx} {s : Su} {a b c e : Expr} {es : List Expr} {f : EV} {g f1 f2 : EVH} {h : EAH} {cb cb' : EBH} {pos : Pos}
theorem dvh_of (h : DV X e f) : DVH X s e (fun _ => f) := peMono h fun σ H Q ⟨B, F, ρ, x, r, E, hx, e, q⟩ => ⟨B, F, ρ, r, E, e, q⟩
def eAndH (f g : EVH) : EVH := fun x => eAnd (f x) (g x)
def eOrH (f g : EVH) : EVH := fun x => eOr (f x) (g x)
def eUnH (g : PyData → Option PyData) (f : EVH) : EVH := fun x => eUn g (f x)
def bValH (f : EVH) : EBH := fun x => bVal (f x)
def bAndH (f g : EBH) : EBH := fun x => bAnd (f x) (g x)
def bOrH (f g : EBH) : EBH := fun x => bOr (f x) (g x)
def bNotH (f : EBH) : EBH := fun x => bNot (f x)
def aConsH (f : EVH) (g : EAH) : EAH := fun x => aCons (f x) (g x)
def aNilH : EAH := fun _ => aNil
theorem dvh_and {rest : List Expr} (ha : DVH X s a f1) (hb : DVH X s (.BoolOp .And (b :: rest) pos) g) : DVH X s (.BoolOp .And (a :: b :: rest) pos) (eAndH f1 g) := peMono (pe_and ha hb) fun σ H Q ⟨B, F, ρ, x, d, E, hx, e, q⟩ => by
  obtain ⟨dx, e1, e⟩ := bind_some e
  refine ⟨B, F, ρ, x, dx, E, hx, e1, fun v F1 H1 G1 r1 => ?_⟩
  cases dx with
  | bool k =>
    cases r1
    refine ⟨k, rfl, ?_⟩
    cases k with
    | true => exact ⟨B, F1, ρ, x, d, E.grow G1, hx.grow G1, e, fun v F2 H2 G2 r2 => q v F2 H2 (G1.trans G2) r2⟩
    | false =>
      cases e
      exact q _ F1 H1 G1 (.bl false)
  | _ => cases e
theorem dvh_or {rest : List Expr} (ha : DVH X s a f1) (hb : DVH X s (.BoolOp .Or (b :: rest) pos) g) : DVH X s (.BoolOp .Or (a :: b :: rest) pos) (eOrH f1 g) := peMono (pe_or ha hb) fun σ H Q ⟨B, F, ρ, x, d, E, hx, e, q⟩ => by
  obtain ⟨dx, e1, e⟩ := bind_some e
  refine ⟨B, F, ρ, x, dx, E, hx, e1, fun v F1 H1 G1 r1 => ?_⟩
  cases dx with
  | bool k =>
    cases r1
    refine ⟨k, rfl, ?_⟩
    cases k with
    | false => exact ⟨B, F1, ρ, x, d, E.grow G1, hx.grow G1, e, fun v F2 H2 G2 r2 => q v F2 H2 (G1.trans G2) r2⟩
    | true =>
      cases e
      exact q _ F1 H1 G1 (.bl true)
  | _ => cases e
theorem dvh_one {op} (ha : DVH X s a g) : DVH X s (.BoolOp op [a] pos) g := pe_one ha
theorem dvh_not (ha : DVH X s a g) : DVH X s (.UnaryOp .Not a pos) (eUnH gNot g) := peMono (pe_not ha) fun σ H Q ⟨B, F, ρ, x, d, E, hx, e, q⟩ => by
  obtain ⟨dx, e1, e⟩ := bind_some e
  refine ⟨B, F, ρ, x, dx, E, hx, e1, fun v F1 H1 G1 r1 => ?_⟩
  cases dx with
  | bool k =>
    cases r1
    cases e
    exact ⟨k, rfl, q _ F1 H1 G1 (.bl _)⟩
  | _ => cases e
theorem dth_val (h : DVH X s e g) (he : ∀ whole, isTrue e X.env whole = (do let v ← whole; standAt e.pos; holding [v] (truthy v)) := by intro _; rfl) : DTH X s e (bValH g) := ptMono (pt_val h he) fun σ H Q ⟨B, F, ρ, x, b, E, hx, e, q⟩ => by
  obtain ⟨d, e1, e2⟩ := bind_some e
  refine ⟨B, F, ρ, x, d, E, hx, e1, fun v F' H' G r => ?_⟩
  cases d with
  | bool k =>
    cases e2
    cases r
    exact ⟨_, rfl, q F' H' G⟩
  | _ => cases e2
theorem dth_w (h : DWH X s e cb) : DTH X s e cb := PW.pt h
theorem dwh_and1 (ha : DTH X s a cb) : DWH X s (.BoolOp .And [a] pos) cb := pw_and1 ha
theorem dwh_or1 (ha : DTH X s a cb) : DWH X s (.BoolOp .Or [a] pos) cb := pw_or1 ha
theorem dwh_and {rest : List Expr} (ha : DTH X s a cb) (hb : DWH X s (.BoolOp .And (b :: rest) pos) cb') : DWH X s (.BoolOp .And (a :: b :: rest) pos) (bAndH cb cb') := pwMono (pw_and ha hb) fun σ H Q ⟨B, F, ρ, x, k, E, hx, e, q⟩ => by
  obtain ⟨k1, e1, e⟩ := bind_some e
  refine ⟨B, F, ρ, x, k1, E, hx, e1, fun F1 H1 G1 => ?_⟩
  cases k1 with
  | true =>
    rw [if_pos rfl] at e ⊢
    exact ⟨B, F1, ρ, x, k, E.grow G1, hx.grow G1, e, fun F2 H2 G2 => q F2 H2 (G1.trans G2)⟩
  | false =>
    rw [if_neg (by simp)] at e ⊢
    cases e
    exact q F1 H1 G1
theorem dwh_or {rest : List Expr} (ha : DTH X s a cb) (hb : DWH X s (.BoolOp .Or (b :: rest) pos) cb') : DWH X s (.BoolOp .Or (a :: b :: rest) pos) (bOrH cb cb') := pwMono (pw_or ha hb) fun σ H Q ⟨B, F, ρ, x, k, E, hx, e, q⟩ => by
  obtain ⟨k1, e1, e⟩ := bind_some e
  refine ⟨B, F, ρ, x, k1, E, hx, e1, fun F1 H1 G1 => ?_⟩
  cases k1 with
  | false =>
    rw [if_neg (by simp)] at e ⊢
    exact ⟨B, F1, ρ, x, k, E.grow G1, hx.grow G1, e, fun F2 H2 G2 => q F2 H2 (G1.trans G2)⟩
  | true =>
    rw [if_pos rfl] at e ⊢
    cases e
    exact q F1 H1 G1
theorem dth_not (ha : DTH X s a cb) : DTH X s (.UnaryOp .Not a pos) (bNotH cb) := ptMono (pt_not ha) fun σ H Q ⟨B, F, ρ, x, k, E, hx, e, q⟩ => by
  obtain ⟨k1, e1, e⟩ := bind_some e
  cases e
  exact ⟨B, F, ρ, x, k1, E, hx, e1, fun F1 H1 G1 => q F1 H1 G1⟩
theorem dah_nil : DAH X s [] aNilH := ⟨paMono pa_nil fun σ H Q ⟨B, F, ρ, x, ds, E, hx, e, q⟩ => by
  cases e
  exact q _ F H (.refl E.fh) .nil, fun x ρ ds e => by cases e; rfl⟩
theorem dah_cons (ha : DVH X s e g) (hr : DAH X s es h) (hs : starEach (e :: es) X.env = (false, eval e X.env) :: starEach es X.env := by rfl) : DAH X s (e :: es) (aConsH g h) := ⟨paMono (pa_cons ha hr.pa hs) fun σ H Q ⟨B, F, ρ, x, ds, E, hx, e, q⟩ => by
  obtain ⟨dx, e1, e⟩ := bind_some e
  obtain ⟨dr, e2, e⟩ := bind_some e
  cases e
  exact ⟨B, F, ρ, x, dx, E, hx, e1, fun y F1 H1 G1 r1 => ⟨B, F1, ρ, x, dr, E.grow G1, hx.grow G1, e2, fun xs F2 H2 G2 r2 => q _ F2 H2 (G1.trans G2) (.cons (dpMono G2.ff _ _ r1) r2)⟩⟩, fun x ρ ds e => by
  obtain ⟨dx, e1, e⟩ := bind_some e
  obtain ⟨dr, e2, e⟩ := bind_some e
  cases e
  exact congrArg (· + 1) (hr.len x ρ dr e2)⟩
def eLstH (h : EAH) : EVH := fun x => eOfF (h x)
theorem dvh_lst (ha : DAH X s es h) (hz : es.length ≤ sizeLine := by decide) : DVH X s (.List es pos) (eLstH h) := peMono (pe_lst ha.pa) fun σ H Q ⟨B, F, ρ, x, d, E, hx, e, q⟩ => by
  obtain ⟨ds, e1, e2⟩ := Option.map_eq_some_iff.mp e
  subst e2
  refine ⟨B, F, ρ, x, ds, E, hx, e1, fun vs F' H' G r => ⟨by rw [dpLen r, ha.len x ρ ds e1]; exact hz, fun p np => ?_⟩⟩
  have s1 : Same F' (upd F' p (.lst vs)) := sameUpd (G.fh.free np)
  exact q _ _ _ (G.trans (.new G.fh np)) (.lst (.inl (.inl upd_same)) (dpMonoAll s1 _ _ r))
end
/-! ### what the suite asks of the exception -/
section
variable {X : Cx} {a : Addr} {oe : Obj} {cls : Value} {d : Option Addr} {pn : List (Addr × Obj)} {i : Nat} {n : Str} {np pos pos2 : Pos}
abbrev suC (X : Cx) (a : Addr) (oe : Obj) (pn : List (Addr × Obj)) : Cx := X.suite a ((a, oe) :: pn)
/-- n.f, where the class is C -/
def eFld (C fl : Str) : EVH := fun x _ => if x.c = C ∧ x.f = fl then some x.d else none
theorem dvh_fld {C fl : Str} (T : XCls X.prog X.w X.K X.mg X.base C fl) (hz : Zc cls d oe) (hf : ∃ vs, oe.data = .fields vs) (he : PE (suC X a oe pn) (.Name n np) (tVar i)) (hb : attributeBase (.Name n np) fl X.env (eval (.Name n np) X.env) = eval (.Name n np) X.env := by rfl) :
    DVH (suC X a oe pn) ⟨i, a, cls, d⟩ (.Attribute (.Name n np) fl pos) (eFld C fl) := peMono (pe_xf T.x T.nf hz hf he hb) fun σ H Q ⟨B, F, ρ, x, r, E, hx, e, q⟩ => by
  unfold eFld at e
  split at e
  · rename_i hc
    cases e
    obtain ⟨e1, e2⟩ := hc
    obtain ⟨dd, v, h1, h2, h3⟩ := hx.x.e
    refine ⟨.ref a, hx.s, rfl, by have z := hx.x.c; rw [e1] at z; exact z, dd, _, v, h1, h2, ?_, q v F H (.refl E.fh) h3⟩
    rw [e2]
    simp [List.lookup]
  · cases e
/-- isinstance(n, T) -/
def rIsX (K : PySem.W.Frag) (a : Addr) (cls : Value) (d : Option Addr) (kit : Value → Value → Option Bool → Prop) : List V → Hp → VK → Prop := fun xs H Q => ∃ (c : V) (b : Bool) (D dd : Addr) (fs : List (Str × V)), xs = [.ref a, c] ∧ cls = .ref D ∧ d = some dd ∧ H dd = some (.xd fs) ∧ ExcC K D ∧ (∀ u, RelV c u → kit (.ref D) u (some b)) ∧ Q (.bl b) H
theorem inst_of {pins : List (Addr × Obj)} {s : Shared} {σ : L2.St} {H : Hp} {D dd : Addr} {fs : List (Str × V)} (I : Inv (suC X a oe pn) pins σ H s) (hz : Zc (.ref D) (some dd) oe) (hf : ∃ vs, oe.data = .fields vs) (h : H dd = some (.xd fs)) : ∃ od, PySem.W.InstAt s.heap a oe D (some od) := by
  obtain ⟨hget, _⟩ := I.pin (a, oe) (List.mem_append.mpr (.inl List.mem_cons_self))
  obtain ⟨vs, hd⟩ := hf
  have hx : ObjOk X.prog X.w H s.heap dd (.xd fs) := I.hok dd _ h
  obtain ⟨mA, hns, hr⟩ := hx
  obtain ⟨od, ho, hl⟩ := lookIn_ns hns
  exact ⟨od, hget, hz.1, by unfold PySem.W.notCls; rw [hd] <;> rfl, by rw [hz.2]; exact ho⟩
theorem kitx_of {K : PySem.W.Frag} {D x : Addr} {ox : Obj} {od : Option Obj} (C : ExcC K D) : PySem.W.KitX K (.ref x) (.ref D) (fun h => PySem.W.InstAt h x ox D od) := by
  have hcl : (PySem.W.clsIn K D).isSome = true := by
    obtain ⟨cd, hc, _⟩ := PySem.W.any_some C.hd
    rw [hc]
    rfl
  exact PySem.W.kitx_exc hcl C.hg C.hk C.hs C.ha C.hn C.ht C.hm
theorem call_is1 (hz : Zc cls d oe) (hf : ∃ vs, oe.data = .fields vs) : CallR (suC X a oe pn) (.builtin "isinstance") (rIsX X.K a cls d fun t u b => PySem.W.kitOne X.K t u = b) := by
  intro pins s σ H xs us Q I r h
  obtain ⟨c, b, D, dd, fs, rfl, ec, ed, hH, C, hk, q⟩ := h
  subst ec ed
  obtain ⟨u1, u2, rfl, r1, r2⟩ : ∃ u1 u2, us = [u1, u2] ∧ RelV (.ref a) u1 ∧ RelV c u2 := by
    cases r with
    | cons ra rb =>
      cases rb with
      | cons rc rd =>
        cases rd
        exact ⟨_, _, rfl, ra, rc⟩
  cases r1
  obtain ⟨od, J⟩ := inst_of I hz hf hH
  exact PySem.W.kia_one (kitx_of C) I.kIn J (hk _ r2) (fun z => nomatch z) fun tk => ⟨.bl b, H, I.kept (t' := tk) fun _ _ z => z, rfl, q⟩
/-- isinstance(n, (T, ..)) -/
def rIsXT (K : PySem.W.Frag) (a : Addr) (cls : Value) (d : Option Addr) : List V → Hp → VK → Prop := fun xs H Q => ∃ (p : Addr) (ts : List V) (b : Bool) (D dd : Addr) (fs : List (Str × V)), xs = [.ref a, .ref p] ∧ H p = some (.tup ts) ∧ cls = .ref D ∧ d = some dd ∧ H dd = some (.xd fs) ∧ ExcC K D ∧ (∀ us, Vals ts us → PySem.W.kitAny K (.ref D) us = some b) ∧ Q (.bl b) H
theorem call_isT (hz : Zc cls d oe) (hf : ∃ vs, oe.data = .fields vs) : CallR (suC X a oe pn) (.builtin "isinstance") (rIsXT X.K a cls d) := by
  intro pins s σ H xs us Q I r h
  obtain ⟨p, ts, b, D, dd, fs, rfl, hp, ec, ed, hH, C, hk, q⟩ := h
  subst ec ed
  obtain ⟨u1, u2, rfl, r1, r2⟩ : ∃ u1 u2, us = [u1, u2] ∧ RelV (.ref a) u1 ∧ RelV (.ref p) u2 := by
    cases r with
    | cons ra rb =>
      cases rb with
      | cons rc rd =>
        cases rd
        exact ⟨_, _, rfl, ra, rc⟩
  cases r1
  cases r2
  obtain ⟨od, J⟩ := inst_of I hz hf hH
  obtain ⟨its, rv, pt, _⟩ := I.tuple (SqT.of hp)
  obtain ⟨⟨oc, odd, oda, osl⟩, ho, h1, n, h2⟩ := pt
  dsimp only at h1 h2
  subst h1 h2
  exact PySem.W.kia_tup (kitx_of C) I.kIn J ho (hk _ rv) (fun z => nomatch z) fun tk => ⟨.bl b, H, I.kept (t' := tk) fun _ _ z => z, rfl, q⟩
end

/-! ### names of classes -/
section
variable {X : Cx} {e : Expr} {es : List Expr} {pos p np : Pos} {x : Str}
theorem pe_cls {T : Str} (hg : Gl X T) (hm : X.mg T = some (.ref (He.ga X.K T))) (hd : (T == ("__debug__" : Str)) = false := by decide) : PE X (.Name T p) (tC (.ref (He.ga X.K T))) := pe_glob hg hm rfl hd
def tVs (vs : List V) : TA := fun _ H Q => Q vs H
theorem pn_nil : PA X [] (tVs []) := paMono pa_nil fun _ _ _ q => q
theorem pn_cons {v : V} {vs : List V} (ha : PE X e (tC v)) (hr : PA X es (tVs vs)) (hs : starEach (e :: es) X.env = (false, eval e X.env) :: starEach es X.env := by rfl) : PA X (e :: es) (tVs (v :: vs)) := paMono (pa_cons ha hr hs) fun _ _ _ q => q
end
section
variable {X : Cx} {a : Addr} {oe : Obj} {cls : Value} {d : Option Addr} {pn : List (Addr × Obj)} {i : Nat} {n : Str} {np pos pos2 p : Pos} {es : List Expr} {e2 : Expr}
/-- the table of a test: the class's name, what the test says -/
def eIsC (t : Str → Option Bool) : EVH := fun x _ => (t x.c).map PyData.bool
theorem dvh_is1 {t : Str → Option Bool} {c : V} (hg : Gl X "isinstance") (hm : X.mg "isinstance" = none) (ht : PE (suC X a oe pn) e2 (tC c)) (hT : ∀ C b, t C = some b → ExcC X.K (He.ga X.K C) ∧ ∀ u, RelV c u → PySem.W.kitOne X.K (.ref (He.ga X.K C)) u = some b)
    (hz : Zc cls d oe) (hf : ∃ vs, oe.data = .fields vs) (he : PE (suC X a oe pn) (.Name n np) (tVar i))
    (h1 : starEach [.Name n np, e2] X.env = (false, eval (.Name n np) X.env) :: starEach [e2] X.env := by rfl) (h2 : starEach [e2] X.env = (false, eval e2 X.env) :: starEach [] X.env := by rfl) (hpl : (backTo pos (starEach [e2] X.env)).any (·.1) = false := by rfl) :
    DVH (suC X a oe pn) ⟨i, a, cls, d⟩ (.Call (.Name "isinstance" p) [.Name n np, e2] [] pos) (eIsC t) :=
  peMono (pe_callB (X := suC X a oe pn) (call_is1 hz hf) hg hm (by decide +kernel) (pa_cons he (pa_cons ht pa_nil h2) h1) (by decide) (by decide) h1 hpl) fun σ H Q ⟨B, F, ρ, x, r, E, hx, e, q⟩ => by
    obtain ⟨b, e1, e3⟩ := Option.map_eq_some_iff.mp e
    subst e3
    obtain ⟨k1, k2⟩ := hT _ _ e1
    obtain ⟨dd, v, q1, q2, q3⟩ := hx.x.e
    exact ⟨.ref a, hx.s, c, b, _, dd, _, rfl, hx.x.c, q1, q2, k1, k2, q _ F H (.refl E.fh) (.bl b)⟩
theorem dvh_isT {t : Str → Option Bool} {ts : List V} {x1 : Nat} {pt : Pos} (hg : Gl X "isinstance") (hm : X.mg "isinstance" = none) (ht : PA (suC X a oe pn) es (tVs ts)) (hT : ∀ C b, t C = some b → ExcC X.K (He.ga X.K C) ∧ ∀ us, Vals ts us → PySem.W.kitAny X.K (.ref (He.ga X.K C)) us = some b)
    (hz : Zc cls d oe) (hf : ∃ vs, oe.data = .fields vs) (he : PE (suC X a oe pn) (.Name n np) (tVar i)) (hl : ts.length ≤ sizeLine := by decide)
    (h1 : starEach [.Name n np, .Tuple es x1 pt] X.env = (false, eval (.Name n np) X.env) :: starEach [.Tuple es x1 pt] X.env := by rfl) (h2 : starEach [.Tuple es x1 pt] X.env = (false, eval (.Tuple es x1 pt) X.env) :: starEach [] X.env := by rfl) (hpl : (backTo pos (starEach [.Tuple es x1 pt] X.env)).any (·.1) = false := by rfl) :
    DVH (suC X a oe pn) ⟨i, a, cls, d⟩ (.Call (.Name "isinstance" p) [.Name n np, .Tuple es x1 pt] [] pos) (eIsC t) :=
  peMono (pe_callB (X := suC X a oe pn) (call_isT hz hf) hg hm (by decide +kernel) (pa_cons he (pa_cons (pe_tup ht) pa_nil h2) h1) (by decide) (by decide) h1 hpl) fun σ H Q ⟨B, F, ρ, x, r, E, hx, e, q⟩ => by
    obtain ⟨b, e1, e3⟩ := Option.map_eq_some_iff.mp e
    subst e3
    obtain ⟨k1, k2⟩ := hT _ _ e1
    obtain ⟨dd, v, q1, q2, q3⟩ := hx.x.e
    refine ⟨.ref a, hx.s, hl, fun p np => ?_⟩
    exact ⟨p, ts, b, _, dd, _, rfl, upd_same, hx.x.c, q1, by rw [upd_ne (ne_of_none q2 np)]; exact q2, k1, k2, q _ _ _ (.side E.fh np) (.bl b)⟩
end
/-! ### the suite's statements -/
def postH (K : PySem.W.Frag) (F0 B F : Hp) (s : Su) (x : XD) (D : Ends) : SR → Prop
  | .nx ρ => ∀ σ' F' H', Grow F0 B F' H' → ER K B F' H' σ' ρ → Same F F' → HAt K s.i s.a s.cls s.d F' H' σ' x → D.nx σ' H'
  | .rt d => ∀ v F' H', Grow F0 B F' H' → Dp K F' v d → D.rt v H'
  | _ => False
theorem postH.mono {K : PySem.W.Frag} {F0 B F F1 : Hp} {s : Su} {x : XD} {D : Ends} {r : SR} (h : postH K F0 B F s x D r) (q : Same F F1) : postH K F0 B F1 s x D r := by
  cases r with
  | nx ρ => exact fun σ' F' H' g e s' hx => h σ' F' H' g e (q.trans s') hx
  | rt d => exact h
  | bk ρ => exact h
  | ct ρ => exact h
  | xc ρ x => exact h
abbrev ESH := XD → ES
def tSH (K : PySem.W.Frag) (s : Su) (f : ESH) : TS := fun D σ H => ∃ F0 B F ρ x r, Grow F0 B F H ∧ ER K B F H σ ρ ∧ HAt K s.i s.a s.cls s.d F H σ x ∧ f x ρ = some r ∧ postH K F0 B F s x D r
def DSH (X : Cx) (s : Su) (st : Stmt) (f : ESH) : Prop := PS X st (tSH X.K s f)
def DSsH (X : Cx) (s : Su) (st : List Stmt) (f : ESH) : Prop := PSs X st (tSH X.K s f)
def sNxH : ESH := fun _ => sNx
def sSeqH (f g : ESH) : ESH := fun x => sSeq (f x) (g x)
def sSetH (j : Nat) (f : EVH) : ESH := fun x => sSet j (f x)
def sIfH (c : EBH) (f g : ESH) : ESH := fun x => sIf (c x) (f x) (g x)
def sRetH (f : EVH) : ESH := fun x => sRet (f x)
section
variable {X : Cx} {s : Su} {c e : Expr} {st : Stmt} {sts ss : List Stmt} {g : EVH} {cb : EBH} {u u1 u2 : ESH} {pos : Pos}
theorem dssh_nil : DSsH X s [] sNxH := pssMono pss_nil fun D σ H ⟨F0, B, F, ρ, x, r, G, E, hx, e, p⟩ => by
  cases e
  exact p σ F H G E (.refl F) hx
theorem dssh_cons (h1 : DSH X s st u1) (h2 : DSsH X s sts u2) : DSsH X s (st :: sts) (sSeqH u1 u2) := pssMono (pss_cons h1 h2) fun D σ H ⟨F0, B, F, ρ, x, r, G, E, hx, e, p⟩ => by
  obtain ⟨r1, e1, e⟩ := bind_some e
  refine ⟨F0, B, F, ρ, x, r1, G, E, hx, e1, ?_⟩
  cases r1 with
  | nx ρ' => exact fun σ' F' H' G' E' q hx' => ⟨F0, B, F', ρ', x, r, G', E', hx', e, p.mono q⟩
  | bk ρ' =>
    cases e
    exact p
  | ct ρ' =>
    cases e
    exact p
  | rt d =>
    cases e
    exact p
  | xc ρ' y =>
    cases e
    exact p
theorem dssh_one (h1 : DSH X s st u1) : DSsH X s [st] u1 := pss_one h1
theorem dsh_pass : DSH X s (.Pass pos) sNxH := psMono ps_pass fun D σ H ⟨F0, B, F, ρ, x, r, G, E, hx, e, p⟩ => by
  cases e
  exact p σ F H G E (.refl F) hx
theorem dsh_set {j : Nat} {x : Str} {pos' : Pos} (hN : X.N.Nodup) (hi : X.N[j]? = some x) (hx : Loc X.env.scope x) (hne : j ≠ s.i) (he : DVH X s e g) (hs : swapsWith e (some (.Name x pos')) pos.line X.env = pure false := by rfl) (hf : X.fn x = true ∨ X.env.scope.names.lookup x = some .local := by first | exact .inl rfl | exact .inr rfl | assumption) :
    DSH X s (.Assign [.Name x pos'] e pos) (sSetH j g) := psMono (ps_set hN hi hx he hs hf) fun D σ H ⟨F0, B, F, ρ, x, r, G, E, hx, e, p⟩ => by
  obtain ⟨d, e1, e⟩ := bind_some e
  cases e
  refine ⟨B, F, ρ, x, d, E, hx, e1, fun v F' H' G' r' => p _ F' H' (G.trans G') ((E.grow G').setVa r') G'.ff ⟨?_, (hx.grow G').x⟩⟩
  rw [List.getElem?_set_ne hne]
  exact hx.s
theorem dsh_if (hc : DTH X s c cb) (ha : DSsH X s sts u1) (hb : DSsH X s ss u2) : DSH X s (.If c sts ss pos) (sIfH cb u1 u2) := psMono (ps_if hc ha hb) fun D σ H ⟨F0, B, F, ρ, x, r, G, E, hx, e, p⟩ => by
  obtain ⟨k, e1, e⟩ := bind_some e
  refine ⟨B, F, ρ, x, k, E, hx, e1, fun F' H' G' => ?_⟩
  cases k with
  | true =>
    rw [if_pos rfl] at e ⊢
    exact ⟨F0, B, F', ρ, x, r, G.trans G', E.grow G', hx.grow G', e, p.mono G'.ff⟩
  | false =>
    rw [if_neg (by simp)] at e ⊢
    exact ⟨F0, B, F', ρ, x, r, G.trans G', E.grow G', hx.grow G', e, p.mono G'.ff⟩
theorem dsh_ret (he : DVH X s e g) : DSH X s (.Return (some e) pos) (sRetH g) := psMono (ps_ret he) fun D σ H ⟨F0, B, F, ρ, x, r, G, E, hx, e, p⟩ => by
  obtain ⟨d, e1, e⟩ := bind_some e
  cases e
  exact ⟨B, F, ρ, x, d, E, hx, e1, fun v F' H' G' r' => p v F' H' (G.trans G') r'⟩
end
/-! ### try: .. except C as n: .. -/
def sTry (i : Nat) (t : Str → Bool) (ub : ES) (us : ESH) : ES := fun ρ => (ub ρ).bind fun r => match r with
  | .xc ρ' x => if t x.c = true ∧ i < ρ'.length then (us x (ρ'.set i .un)).bind fun r' => match r' with
    | .nx ρ'' => some (.nx (ρ''.set i .un))
    | .rt d => some (.rt d)
    | _ => none
    else none
  | r => some r
theorem ds_try {X : Cx} {C n : Str} {i : Nat} {body suite : List Stmt} {b₀ : Stmt} {np pos pos' : Pos} {ub : ES} {us : ESH} (t : Str → Bool) (hs : X.stack = X.env :: X.outer) (hf : X.env.frame = some X.env.locals) (hN : X.N.Nodup) (hi : X.N[i]? = some n) (hln : X.env.kindOf n = some .local) (hc : Names X C (.ref (He.ga X.K C)))
    (hT : ∀ c, t c = true → PySem.W.exmOne X.K (.ref (He.ga X.K c)) (.ref (He.ga X.K C)) = some true)
    (hb : ∀ (pn : List (Addr × Obj)) (xe : Value → Shared → Prop), PassesOwn (model X.prog X.w) X.A X.env xe → DSs (X.tr pn xe) body ub)
    (hsu : ∀ (a : Addr) (oe : Obj) (cls : Value) (d : Option Addr) (pn : List (Addr × Obj)), Zc cls d oe → (∃ vs, oe.data = .fields vs) → DSsH (suC X a oe pn) ⟨i, a, cls, d⟩ (b₀ :: suite) us) :
    DS X (.Try body [.ExceptHandler (some (.Name C np)) (some n) (b₀ :: suite) pos'] [] [] pos) (sTry i t ub us) := fun W tk =>
  psMono (ps_try_as (i := i) (tb := fun W' => tS X.K W' ub) (ts := fun a cls d => tSH X.K ⟨i, a, cls, d⟩ us) (Wout := W) hs hf hN hi hln hc tk (fun W' pn xe tk' po => hb pn xe po W' tk') hsu) fun D σ H ⟨F0, B, F, ρ, r, G, E, e, p⟩ => by
    obtain ⟨r0, e1, e⟩ := bind_some e
    refine ⟨F0, B, F, ρ, r0, G, E, e1, ?_⟩
    cases r0 with
    | nx ρ' =>
      cases e
      exact p
    | bk ρ' =>
      cases e
      exact p
    | ct ρ' =>
      cases e
      exact p
    | rt d =>
      cases e
      exact p
    | xc ρ' x =>
      intro σ' F' H' dd v G' E' q h1 h2 h3 h4
      change (if t x.c = true ∧ i < ρ'.length then _ else none) = some r at e
      split at e
      case isFalse => cases e
      rename_i hh
      obtain ⟨r1, e2, e⟩ := bind_some e
      refine ⟨true, hT _ hh.1, fun _ a na => ?_, fun z => nomatch z⟩
      refine ⟨F0, B, F', ρ'.set i .un, x, r1, G', setUn E' i _, ⟨?_, ⟨rfl, dd, v, rfl, h1, h4⟩⟩, e2, ?_⟩
      · rw [List.getElem?_set_self (by rw [E'.len]; exact hh.2)]
      · cases r1 with
        | nx ρ2 =>
          cases e
          exact fun σ2 F2 H2 G2 E2 q2 hx => p _ F2 H2 G2 (setUn E2 i none) (q.trans q2)
        | rt d =>
          cases e
          exact fun v F2 H2 G2 r2 => p v F2 H2 G2 r2
        | bk ρ2 => cases e
        | ct ρ2 => cases e
        | xc ρ2 y => cases e
end DL

set_option Elab.async false
set_option linter.all false
set_option maxRecDepth 100000
set_option maxHeartbeats 4000000
/-! DLC: the head's facts about classes of exceptions -/
namespace DL
open PySem PySem.Spec PyProof.Rows L2
def clsInit : Stmt → Stmt
  | .ClassDef _ _ _ body _ _ _ _ _ _ _ => body.getD 0 (.Pass ⟨0, 0, 0, 0⟩)
  | s => s
def oexB (K : PySem.W.Frag) (C : Addr) : Bool := match K.lookup C with
  | some ⟨cl, _, .cls cd, sl⟩ => decide (cl = .type "type") && ((match cd.mro with
    | .ref C' :: bm => decide (C' = C) && PySem.HandSPX.refsVE bm
    | _ => false) && (cd.hasDict && (!cd.hasDel && (match sl.toList with
    | [_, _, _, _, some (.builtin n), _] => decide (n = "ValueError.__new__")
    | _ => false))))
  | _ => false
theorem oexB_ok {K : PySem.W.Frag} {C : Addr} (h : oexB K C = true) : ∃ nm q N bs bm sn sub ab col dd k0 k1 k2 k3 k5, K.lookup C = some (excClassObj nm q C N bs bm true sn sub ab col dd k0 k1 k2 k3 k5 "ValueError.__new__") ∧ PySem.HandSPX.refsVE bm = true := by
  unfold oexB at h
  split at h
  · rename_i cl dd cd sl ho
    obtain ⟨h1, h⟩ := Bool.and_eq_true_iff.mp h
    obtain ⟨h2, h⟩ := Bool.and_eq_true_iff.mp h
    obtain ⟨h3, h⟩ := Bool.and_eq_true_iff.mp h
    obtain ⟨h4, h5⟩ := Bool.and_eq_true_iff.mp h
    have e1 := of_decide_eq_true h1
    subst e1
    split at h2
    · rename_i C' bm hm
      obtain ⟨h6, h7⟩ := Bool.and_eq_true_iff.mp h2
      have e2 := of_decide_eq_true h6
      subst e2
      split at h5
      · rename_i k0 k1 k2 k3 n k5 hs
        have e3 := of_decide_eq_true h5
        subst e3
        have hsl : sl = #[k0, k1, k2, k3, some (.builtin "ValueError.__new__"), k5] := by
          obtain ⟨l⟩ := sl
          simp only at hs
          rw [hs]
        subst hsl
        obtain ⟨nm, bs, mro, ns, qn, hd, sn, sub, ab, col, del⟩ := cd
        dsimp only at hm h3 h4
        have e4 : del = false := by simpa using h4
        subst hm h3 e4
        exact ⟨nm, qn, ns, bs, bm, sn, sub, ab, col, dd, k0, k1, k2, k3, k5, ho, h7⟩
      · cases h5
    · cases h2
  · cases h
/-- all about a class with one field -/
def fXc (C f : Str) : Fct := fun K => oexB K (He.ga K C) && (He.eqO (PySem.W.findIn K (.ref (He.ga K C)) "__setattr__") (some (some (.builtin "object.__setattr__"))) && (decide (PySem.W.typeIn K (.ref (He.ga K C)) = some (.type "type")) && (PySem.W.keepIn K (.ref (He.ga K C)) && (xfB K (He.ga K C) &&
  (He.eqO (PySem.W.findIn K (.ref (He.ga K C)) f) (some none) && (He.eqO (PySem.W.findIn K (.ref (He.ga K C)) "__init__") (some (some (.ref (He.ma K (He.ga K C) "__init__")))) && decide (PySem.W.typeIn K (.ref (He.ma K (He.ga K C) "__init__")) = some (.type "function"))))))))
def fEx (C : Str) : Fct := fun K => xfB K (He.ga K C) && (He.eqO (PySem.W.findIn K (.ref (He.ga K C)) "__class__") (some (some (.builtin "object.__class__"))) && (He.eqO (PySem.W.specialIn K (.builtin "object.__class__") "__get__") (some (some (.builtin "getset_descriptor.__get__"))) && (decide (PySem.W.takesIn K (.builtin "object.__class__") = some true) && decide (PySem.W.mroIn K (He.ga K C) (.type "object") = some true))))
theorem fEx_ok {K : PySem.W.Frag} {C : Str} (h : fEx C K = true) : ExcC K (He.ga K C) := by
  obtain ⟨h1, h⟩ := Bool.and_eq_true_iff.mp h
  obtain ⟨h2, h⟩ := Bool.and_eq_true_iff.mp h
  obtain ⟨h3, h⟩ := Bool.and_eq_true_iff.mp h
  obtain ⟨h4, h5⟩ := Bool.and_eq_true_iff.mp h
  obtain ⟨x1, x2, x3, x4⟩ := xfB_ok h1
  exact ⟨x1, x2, x3, x4, He.eqO_ok h2, He.eqO_ok h3, of_decide_eq_true h4, of_decide_eq_true h5⟩
def fExm (c E : Str) : Fct := fun K => decide (PySem.W.exmOne K (.ref (He.ga K c)) (.ref (He.ga K E)) = some true)
/-- what a test names -/
inductive TN where
  | c (x : Str) | t (n : String)
def TN.u (K : PySem.W.Frag) : TN → Value
  | .c x => .ref (He.ga K x)
  | .t n => .type n
def TN.v (K : PySem.W.Frag) : TN → V
  | .c x => .ref (He.ga K x)
  | .t n => .ty n
def fKitA (c : Str) (ts : List Str) (b : Bool) : Fct := fun K => decide (PySem.W.kitAny K (.ref (He.ga K c)) (ts.map fun T => Value.ref (He.ga K T)) = some b)
def fKit1 (c : Str) (t : TN) (b : Bool) : Fct := fun K => decide (PySem.W.kitOne K (.ref (He.ga K c)) (t.u K) = some b)
theorem vals_refs {K : PySem.W.Frag} : ∀ {ts : List Str} {us : List Value}, Vals (ts.map fun T => V.ref (He.ga K T)) us → us = ts.map fun T => Value.ref (He.ga K T)
  | [], us, r => by
    cases r
    rfl
  | T :: ts, us, r => by
    cases r with
    | cons a b =>
      rw [vals_refs b]
      cases a
      rfl
theorem relV_tn {K : PySem.W.Frag} {t : TN} {u : Value} (r : RelV (t.v K) u) : u = t.u K := by
  cases t with
  | c x =>
    cases r
    rfl
  | t n =>
    cases r
    rfl
def TabA (K : PySem.W.Frag) (ts : List Str) (tab : List (Str × Bool)) : Prop := ∀ C b, tab.lookup C = some b → ExcC K (He.ga K C) ∧ ∀ us, Vals (ts.map fun T => V.ref (He.ga K T)) us → PySem.W.kitAny K (.ref (He.ga K C)) us = some b
def Tab1 (K : PySem.W.Frag) (t : TN) (tab : List (Str × Bool)) : Prop := ∀ C b, tab.lookup C = some b → ExcC K (He.ga K C) ∧ ∀ u, RelV (t.v K) u → PySem.W.kitOne K (.ref (He.ga K C)) u = some b
def TabE (K : PySem.W.Frag) (E : Str) (l : List Str) : Prop := ∀ c, decide (c ∈ l) = true → PySem.W.exmOne K (.ref (He.ga K c)) (.ref (He.ga K E)) = some true
section
variable {K : PySem.W.Frag} {ts : List Str} {t : TN} {tab : List (Str × Bool)} {c : Str} {b : Bool} {E : Str} {l : List Str}
theorem tabA_nil : TabA K ts [] := fun C b e => by cases e
theorem tabA_cons (h1 : fEx c K = true) (h2 : fKitA c ts b K = true) (h : TabA K ts tab) : TabA K ts ((c, b) :: tab) := fun C b' e => by
  rw [List.lookup_cons] at e
  cases q : (C == c) with
  | true =>
    rw [q] at e
    cases e
    have := eq_of_beq q
    subst this
    exact ⟨fEx_ok h1, fun us r => by rw [vals_refs r]; exact of_decide_eq_true h2⟩
  | false =>
    rw [q] at e
    exact h C b' e
theorem tab1_nil : Tab1 K t [] := fun C b e => by cases e
theorem tab1_cons (h1 : fEx c K = true) (h2 : fKit1 c t b K = true) (h : Tab1 K t tab) : Tab1 K t ((c, b) :: tab) := fun C b' e => by
  rw [List.lookup_cons] at e
  cases q : (C == c) with
  | true =>
    rw [q] at e
    cases e
    have := eq_of_beq q
    subst this
    exact ⟨fEx_ok h1, fun u r => by rw [relV_tn r]; exact of_decide_eq_true h2⟩
  | false =>
    rw [q] at e
    exact h C b' e
theorem tabE_nil : TabE K E [] := fun c h => by simp at h
theorem tabE_cons (h1 : fExm c E K = true) (h : TabE K E l) : TabE K E (c :: l) := fun c' e => by
  have e := of_decide_eq_true e
  rcases List.mem_cons.mp e with rfl | e
  · exact of_decide_eq_true h1
  · exact h c' (decide_eq_true e)
end
abbrev dini (C q : Str) (st : Stmt) : He.DefD := ⟨(C, some "__init__"), "__init__", q, defArgs st, defBody st, defScope st, [], []⟩
section
variable {fa : List Fct} {fn : List He.DefD} {K : PySem.W.Frag} {h : Heap} {mg : Str → Option Value}
theorem SaysX.cls (c : SaysX fa fn K) (X : K.In h) (G : h.Ns mainGlobals mg) (i : Nat) (x : Str) (e : fa[i]? = some (fGlo x) := by rfl) : mg x = some (.ref (He.ga K x)) := PySem.W.mg_of X G (He.eqO_ok (c.fact i e))
theorem SaysX.xcls {P : Program} {w : World} {base : Heap} (c : SaysX fa fn K) (X : K.In h) (G : h.Ns mainGlobals mg) (i : Nat) (C f q : Str) (j : Nat) (st : Stmt) {p1 p2 p3 p4 : Pos} (S : FnScope ["self", f] ["self", f] (defScope st)) (eb : defBody st = [.Assign [.Attribute (.Name "self" p1) f p2] (.Name f p3) p4])
    (hl1 : (defScope st).names.lookup ("self" : Str) = some .local) (hl2 : (defScope st).names.lookup f = some .local) (hd1 : (f == ("__debug__" : Str)) = false) (hd2 : (f == ("__classdict__" : Str)) = false)
    (hb : ∀ (kV doc pm : Value) (an : Option Addr) (cdv ct : Value) (us : List Value), us.length = (["self", f] : List Str).length → bindArgs (PySem.W.fnOf "__init__" q (defArgs st) (defBody st) (defScope st) .none kV doc pm an cdv ct) ⟨us, []⟩ = pure ((["self", f] : List Str).zip us))
    (e : fa[i]? = some (fXc C f) := by rfl) (e2 : fn[j]? = some (dini C q st) := by rfl) : XCls P w K mg base C f := by
  have c1 := c.fact i e
  obtain ⟨h1, c1⟩ := Bool.and_eq_true_iff.mp c1
  obtain ⟨h2, c1⟩ := Bool.and_eq_true_iff.mp c1
  obtain ⟨h3, c1⟩ := Bool.and_eq_true_iff.mp c1
  obtain ⟨h4, c1⟩ := Bool.and_eq_true_iff.mp c1
  obtain ⟨h5, c1⟩ := Bool.and_eq_true_iff.mp c1
  obtain ⟨h6, c1⟩ := Bool.and_eq_true_iff.mp c1
  obtain ⟨h7, h8⟩ := Bool.and_eq_true_iff.mp c1
  obtain ⟨⟨fd, F⟩, hg⟩ := c.def_ j e2
  have xf := xfB_ok h5
  have F' : FunD K "__init__" q (defArgs st) (defBody st) (defScope st) [] [] (He.ma K (He.ga K C) "__init__") fd := F
  exact ⟨PySem.W.mg_of X G (He.eqO_ok hg), ⟨oexB_ok h1, He.eqO_ok h2, xf.exC, of_decide_eq_true h3, h4⟩, xf, He.eqO_ok h6, _, fd, ["self", f], He.eqO_ok h7, of_decide_eq_true h8, init_ok (C := C) F' S eb hl1 hl2 hd1 hd2, F'.bindsN hb⟩
end
end DL

set_option Elab.async false
set_option linter.all false
set_option maxRecDepth 100000
set_option maxHeartbeats 4000000
/-! DLD: the head's facts over a written list of addresses -/
namespace DL
open PySem PySem.Spec PyProof.Rows L2
def obsL (as : List Addr) (fa : List Fct) (fn : List He.DefD) (g : Addr → Option Obj) : He.AlD := obsX fa fn (He.frG g as)
def hookL (as : List Addr) (fa : List Fct) (fn : List He.DefD) : PySem.W.Hook where
  α := He.AlD
  obs := fun s => obsL as fa fn s.heap.get?
  val := fun _ => He.valD fn
  says := fun _ h => ∃ K : PySem.W.Frag, K.In h ∧ SaysX fa fn K
  of := fun _ _ e => ⟨_, He.frG_in, e⟩
  keeps := fun _ _ _ ⟨K, hK, c⟩ k => ⟨K, PySem.W.Frag.In.keeps hK k, c⟩
theorem obsL_eq {as : List Addr} {fa : List Fct} {fn : List He.DefD} {g : Addr → Option Obj} {s : Shared} (h : ∀ a, g a = s.heap.get? a) : obsL as fa fn g = (hookL as fa fn).obs s := by
  have e : g = s.heap.get? := funext h
  rw [e] <;> rfl
end DL

set_option linter.all false
set_option maxRecDepth 100000
set_option maxHeartbeats 1000000
namespace DL
open PySem PySem.Spec PyProof.Rows L2
/-! ### bounds of ints, by bits -/
class Bd (n : outParam Nat) (i : Int) : Prop where
  lt : i.natAbs < 2 ^ n
theorem Bd.mono {n m : Nat} {i : Int} (h : i.natAbs < 2 ^ n) (l : n ≤ m) : i.natAbs < 2 ^ m := Nat.lt_of_lt_of_le h (Nat.pow_le_pow_right (by decide) l)
instance bd_mul {n m : Nat} {i j : Int} [a : Bd n i] [b : Bd m j] : Bd (n + m) (i * j) := ⟨wide_lt a.lt b.lt⟩
theorem pow_max (n m : Nat) : 2 ^ n + 2 ^ m ≤ 2 ^ (max n m + 1) := by
  have h1 : 2 ^ n ≤ 2 ^ max n m := Nat.pow_le_pow_right (by decide) (Nat.le_max_left _ _)
  have h2 : 2 ^ m ≤ 2 ^ max n m := Nat.pow_le_pow_right (by decide) (Nat.le_max_right _ _)
  rw [Nat.pow_succ]
  omega
instance bd_add {n m : Nat} {i j : Int} [a : Bd n i] [b : Bd m j] : Bd (max n m + 1) (i + j) := ⟨by
  have := a.lt
  have := b.lt
  have := pow_max n m
  omega⟩
instance bd_sub {n m : Nat} {i j : Int} [a : Bd n i] [b : Bd m j] : Bd (max n m + 1) (i - j) := ⟨by
  have := a.lt
  have := b.lt
  have := pow_max n m
  omega⟩
instance bd_neg {n : Nat} {i : Int} [a : Bd n i] : Bd n (-i) := ⟨by
  have := a.lt
  omega⟩
/-- any int, above all a written one -/
instance (priority := 10) bd_lit {i : Int} : Bd (i.natAbs.log2 + 1) i := ⟨Nat.lt_log2_self⟩
theorem mulW {n m : Nat} {i j : Int} (a : i.natAbs < 2 ^ n) (b : j.natAbs < 2 ^ m) (h : n + m + 2 ≤ 1000000) : CMulW i j :=
  wide_mul (a := n + 1) (b := m + 1) (Bd.mono a (Nat.le_succ _)) (Bd.mono b (Nat.le_succ _)) (Nat.succ_pos _) (Nat.succ_pos _) (by omega)
/-! ### the operators at known data -/
theorem gMul_b {n m : Nat} {i j : Int} [a : Bd n i] [b : Bd m j] (h : n + m + 2 ≤ 1000000) : gMul (.int i) (.int j) = some (.int (i * j)) := if_pos (mulW a.lt b.lt h)
theorem gAdd_i {i j : Int} : gAdd (.int i) (.int j) = some (.int (i + j)) := rfl
theorem gSub_i {i j : Int} : gSub (.int i) (.int j) = some (.int (i - j)) := rfl
theorem gNeg_i {i : Int} : gNeg (.int i) = some (.int (-i)) := rfl
theorem gLt_i {i j : Int} : gLt (.int i) (.int j) = some (.bool (decide (i < j))) := rfl
theorem gLe_i {i j : Int} : gLe (.int i) (.int j) = some (.bool (decide (i ≤ j))) := rfl
theorem gGt_i {i j : Int} : gGt (.int i) (.int j) = some (.bool (decide (j < i))) := rfl
theorem gGe_i {i j : Int} : gGe (.int i) (.int j) = some (.bool (decide (j ≤ i))) := rfl
theorem gEq_i {i j : Int} : gEq (.int i) (.int j) = some (.bool (decide (i = j))) := by
  show some (PyData.bool (i == j)) = _
  rw [Bool.beq_eq_decide_eq]
theorem gNe_i {i j : Int} : gNe (.int i) (.int j) = some (.bool (!decide (i = j))) := by
  show some (PyData.bool (!(i == j))) = _
  rw [Bool.beq_eq_decide_eq]
theorem gMod_p {i j : Int} (h : 0 < j) : gMod (.int i) (.int j) = some (.int (i % j)) := by
  show (if j ≠ 0 then some (PyData.int (i.fmod j)) else none) = _
  rw [if_pos (by omega), Int.fmod_eq_emod_of_nonneg _ (by omega)]
theorem gFdiv_p {i j : Int} (h : 0 < j) (h2 : j.natAbs.log2 < 9000) : gFdiv (.int i) (.int j) = some (.int (i / j)) := by
  show (if CDivA i j then some (PyData.int (i.fdiv j)) else none) = _
  rw [if_pos ⟨by omega, h2⟩, Int.fdiv_eq_ediv_of_nonneg _ (by omega)]
/-- a sequence: a tuple (true) or a list -/
def sq (k : Bool) (l : List PyData) : PyData := match k with
  | true => .tuple l
  | false => .list l
theorem gIx_sq {k : Bool} {l : List PyData} {i : Int} : gIx (sq k l) (.int i) = atI l i := by cases k <;> rfl
theorem sq_t {l : List PyData} : PyData.tuple l = sq true l := rfl
theorem sq_l {l : List PyData} : PyData.list l = sq false l := rfl
theorem gIx_t {l : List PyData} {i : Int} : gIx (.tuple l) (.int i) = atI l i := rfl
theorem gIx_l {l : List PyData} {i : Int} : gIx (.list l) (.int i) = atI l i := rfl
section
variable {α : Type} {a b c d e f g : α} {l : List α}
theorem atI_nat' {l : List α} {i : Nat} : atI l (i : Int) = l[i]? := by
  unfold atI ixN
  rw [if_pos (Int.natCast_nonneg i)]
  by_cases h : i < l.length
  · rw [if_pos (by omega)]
    rfl
  · rw [if_neg (by omega)]
    rw [List.getElem?_eq_none (by omega)]
    rfl
theorem at0 : atI (a :: l) 0 = some a := atI_nat' (i := 0)
theorem at1 : atI (a :: b :: l) 1 = some b := atI_nat' (i := 1)
theorem at2 : atI (a :: b :: c :: l) 2 = some c := atI_nat' (i := 2)
theorem at3 : atI (a :: b :: c :: d :: l) 3 = some d := atI_nat' (i := 3)
theorem at4 : atI (a :: b :: c :: d :: e :: l) 4 = some e := atI_nat' (i := 4)
theorem at6 : atI (a :: b :: c :: d :: e :: f :: g :: l) 6 = some g := atI_nat' (i := 6)
theorem at7 {h : α} : atI (a :: b :: c :: d :: e :: f :: g :: h :: l) 7 = some h := atI_nat' (i := 7)
theorem at8 {h i : α} : atI (a :: b :: c :: d :: e :: f :: g :: h :: i :: l) 8 = some i := atI_nat' (i := 8)
theorem at9 {h i j : α} : atI (a :: b :: c :: d :: e :: f :: g :: h :: i :: j :: l) 9 = some j := atI_nat' (i := 9)
theorem at10 {h i j k : α} : atI (a :: b :: c :: d :: e :: f :: g :: h :: i :: j :: k :: l) 10 = some k := atI_nat' (i := 10)
theorem at11 {h i j k m : α} : atI (a :: b :: c :: d :: e :: f :: g :: h :: i :: j :: k :: m :: l) 11 = some m := atI_nat' (i := 11)
theorem at12 {h i j k m n : α} : atI (a :: b :: c :: d :: e :: f :: g :: h :: i :: j :: k :: m :: n :: l) 12 = some n := atI_nat' (i := 12)
theorem at13 {h i j k m n o : α} : atI (a :: b :: c :: d :: e :: f :: g :: h :: i :: j :: k :: m :: n :: o :: l) 13 = some o := atI_nat' (i := 13)
theorem at14 {h i j k m n o p : α} : atI (a :: b :: c :: d :: e :: f :: g :: h :: i :: j :: k :: m :: n :: o :: p :: l) 14 = some p := atI_nat' (i := 14)
theorem at15 {h i j k m n o p q : α} : atI (a :: b :: c :: d :: e :: f :: g :: h :: i :: j :: k :: m :: n :: o :: p :: q :: l) 15 = some q := atI_nat' (i := 15)
theorem at5 : atI (a :: b :: c :: d :: e :: f :: l) 5 = some f := atI_nat' (i := 5)
end
end DL

set_option linter.all false
set_option maxRecDepth 100000
set_option maxHeartbeats 1000000
namespace DL
open PySem PySem.Spec PyProof.Rows L2
/-! ### sequences, rows and tables -/
section
variable {k j : Bool} {l m : List PyData}
theorem len_sq : mLen [sq k l] = some (.int l.length) := by cases k <;> rfl
theorem tup_sq : mTuple [sq k l] = some (sq true l) := by cases k <;> rfl
theorem lst_sq : mList [sq k l] = some l := by cases k <;> rfl
theorem seq_sq : seqOf (sq k l) = some l := by cases k <;> rfl
theorem isTup_sq : isT .tuple (sq k l) = some k := by cases k <;> rfl
theorem isLst_sq : isT .list (sq k l) = some (!k) := by cases k <;> rfl
end
structure V3 where
  x : Int
  y : Int
  z : Int
  deriving DecidableEq
theorem V3.ext' {u v : V3} (h1 : u.x = v.x) (h2 : u.y = v.y) (h3 : u.z = v.z) : u = v := by
  cases u
  cases v
  cases h1
  cases h2
  cases h3
  rfl
def rw3 (k : Bool) (v : V3) : PyData := sq k [.int v.x, .int v.y, .int v.z]
structure M3 where
  a : V3
  b : V3
  c : V3
  deriving DecidableEq
def tb (j k : Bool) (t : M3) : PyData := sq j [rw3 k t.a, rw3 k t.b, rw3 k t.c]
section
variable {k j k' j' : Bool} {u v w : V3} {s t : M3} {a b c : Int}
theorem row_t : PyData.tuple [.int a, .int b, .int c] = rw3 true ⟨a, b, c⟩ := rfl
theorem tab_t : PyData.tuple [rw3 k u, rw3 k v, rw3 k w] = tb true k ⟨u, v, w⟩ := rfl
theorem ix_r0 : gIx (rw3 k v) (.int 0) = some (.int v.x) := by cases k <;> rfl
theorem ix_r1 : gIx (rw3 k v) (.int 1) = some (.int v.y) := by cases k <;> rfl
theorem ix_r2 : gIx (rw3 k v) (.int 2) = some (.int v.z) := by cases k <;> rfl
theorem ix_t0 : gIx (tb j k t) (.int 0) = some (rw3 k t.a) := by cases j <;> rfl
theorem ix_t1 : gIx (tb j k t) (.int 1) = some (rw3 k t.b) := by cases j <;> rfl
theorem ix_t2 : gIx (tb j k t) (.int 2) = some (rw3 k t.c) := by cases j <;> rfl
theorem len_r : mLen [rw3 k v] = some (.int 3) := by cases k <;> rfl
theorem len_tb : mLen [tb j k t] = some (.int 3) := by cases j <;> rfl
theorem tup_r : mTuple [rw3 k v] = some (rw3 true v) := by cases k <;> rfl
theorem tup_tb : mTuple [tb j k t] = some (tb true k t) := by cases j <;> rfl
theorem lst_r : mList [rw3 k v] = some [.int v.x, .int v.y, .int v.z] := by cases k <;> rfl
theorem seq_r : seqOf (rw3 k v) = some [.int v.x, .int v.y, .int v.z] := by cases k <;> rfl
theorem seq_tb : seqOf (tb j k t) = some [rw3 k t.a, rw3 k t.b, rw3 k t.c] := by cases j <;> rfl
theorem isTup_r : isT .tuple (rw3 k v) = some k := by cases k <;> rfl
theorem isTup_tb : isT .tuple (tb j k t) = some j := by cases j <;> rfl
theorem eq_r : gEq (rw3 true u) (rw3 true v) = some (.bool (decide (u = v))) := by
  show some (PyData.bool (u.x == v.x && (u.y == v.y && (u.z == v.z && true)))) = _
  refine congrArg (fun b => some (PyData.bool b)) ?_
  rw [Bool.eq_iff_iff]
  simp only [Bool.and_eq_true, beq_iff_eq, decide_eq_true_eq, and_true]
  exact ⟨fun ⟨h1, h2, h3⟩ => V3.ext' h1 h2 h3, fun h => by subst h; exact ⟨rfl, rfl, rfl⟩⟩
theorem ne_r : gNe (rw3 true u) (rw3 true v) = some (.bool (!decide (u = v))) := by
  have h : gEq (rw3 true u) (rw3 true v) = some (.bool (decide (u = v))) := eq_r
  have h2 : some (PyData.bool (PyData.eqv (rw3 true u) (rw3 true v))) = some (.bool (decide (u = v))) := h
  have h3 : PyData.eqv (rw3 true u) (rw3 true v) = decide (u = v) := by
    injection h2 with h2
    injection h2
  show some (PyData.bool (!PyData.eqv (rw3 true u) (rw3 true v))) = _
  rw [h3]
theorem eqv_r : PyData.eqv (rw3 true u) (rw3 true v) = decide (u = v) := by
  have h : gEq (rw3 true u) (rw3 true v) = some (.bool (decide (u = v))) := eq_r
  have h2 : some (PyData.bool (PyData.eqv (rw3 true u) (rw3 true v))) = some (.bool (decide (u = v))) := h
  injection h2 with h2
  injection h2
theorem eqv_tb : PyData.eqv (tb true true s) (tb true true t) = decide (s = t) := by
  show (PyData.eqv (rw3 true s.a) (rw3 true t.a) && (PyData.eqv (rw3 true s.b) (rw3 true t.b) && (PyData.eqv (rw3 true s.c) (rw3 true t.c) && true))) = _
  rw [eqv_r, eqv_r, eqv_r, Bool.eq_iff_iff]
  simp only [Bool.and_eq_true, decide_eq_true_eq, and_true]
  cases s
  cases t
  simp
theorem eq_tb : gEq (tb true true s) (tb true true t) = some (.bool (decide (s = t))) := by
  show some (PyData.bool (PyData.eqv (tb true true s) (tb true true t))) = _
  rw [eqv_tb]
theorem ne_tb : gNe (tb true true s) (tb true true t) = some (.bool (!decide (s = t))) := by
  show some (PyData.bool (!PyData.eqv (tb true true s) (tb true true t))) = _
  rw [eqv_tb]
end
theorem p62 : (2 : Int) ^ 62 = 4611686018427387904 := by decide +kernel
theorem rg1_nat (n : Nat) (h : n < 4611686018427387904) : rg1 (.int n) = some (rng 0 n) := by
  unfold rg1
  simp only [p62]
  rw [cIf_pos ⟨by omega, by omega⟩, Int.toNat_natCast]
theorem rg1_3 : rg1 (.int 3) = some [.int 0, .int 1, .int 2] := rg1_nat 3 (by decide)
theorem rg2_lit (i j : Int) (h : -4611686018427387904 ≤ i) (h2 : i < 4611686018427387904) (h3 : -4611686018427387904 ≤ j) (h4 : j < 4611686018427387904) : rg2 (.int i) (.int j) = some (rng i (j - i).toNat) := by
  unfold rg2
  simp only [p62]
  rw [cIf_pos ⟨h, h2, h3, h4⟩]
theorem seq_l {l : List PyData} : seqOf (.list l) = some l := rfl
theorem seq_t {l : List PyData} : seqOf (.tuple l) = some l := rfl
theorem tup_l {l : List PyData} : mTuple [.list l] = some (.tuple l) := rfl
theorem tup_t {l : List PyData} : mTuple [.tuple l] = some (.tuple l) := rfl
theorem lst_l {l : List PyData} : mList [.list l] = some l := rfl
theorem lst_t {l : List PyData} : mList [.tuple l] = some l := rfl
theorem len_l {l : List PyData} : mLen [.list l] = some (.int l.length) := rfl
theorem len_t {l : List PyData} : mLen [.tuple l] = some (.int l.length) := rfl
theorem cut_pos {α : Type} {l : List α} {a b : Int} (ha : 0 ≤ a) (hb : 0 ≤ b) : cutD l (some a) (some b) = (l.drop a.toNat).take (b.toNat - a.toNat) := by
  obtain ⟨i, rfl⟩ : ∃ i : Nat, a = i := ⟨a.toNat, by omega⟩
  obtain ⟨j, rfl⟩ : ∃ i : Nat, b = i := ⟨b.toNat, by omega⟩
  unfold cutD
  rw [HT.sIx_nat, HT.sIx_nat, Int.toNat_natCast, Int.toNat_natCast]
  apply List.ext_getElem?
  intro k
  simp only [List.getElem?_take, List.getElem?_drop]
  by_cases h : k < j - i
  · by_cases h2 : i + k < l.length
    · rw [if_pos h, if_pos (by omega), show min i l.length = i by omega]
    · rw [if_pos h, List.getElem?_eq_none (by omega : l.length ≤ i + k)]
      by_cases h3 : k < min j l.length - min i l.length
      · omega
      · rw [if_neg h3]
  · rw [if_neg h, if_neg (by omega)]
theorem cut_from {α : Type} {l : List α} {a : Int} (ha : 0 ≤ a) : cutD l (some a) none = l.drop a.toNat := by
  obtain ⟨i, rfl⟩ : ∃ i : Nat, a = i := ⟨a.toNat, by omega⟩
  unfold cutD
  rw [HT.sIx_nat, HT.sIx_none, Int.toNat_natCast]
  apply List.ext_getElem?
  intro k
  simp only [List.getElem?_take, List.getElem?_drop]
  by_cases h2 : i + k < l.length
  · rw [if_pos (by omega), show min i l.length = i by omega]
  · rw [List.getElem?_eq_none (by omega : l.length ≤ i + k)]
    by_cases h3 : k < l.length - min i l.length
    · omega
    · rw [if_neg h3]
theorem cut_to {α : Type} {l : List α} {b : Int} (hb : 0 ≤ b) : cutD l none (some b) = l.take b.toNat := by
  obtain ⟨j, rfl⟩ : ∃ i : Nat, b = i := ⟨b.toNat, by omega⟩
  unfold cutD
  rw [HT.sIx_nat, HT.sIx_none, Int.toNat_natCast]
  apply List.ext_getElem?
  intro k
  simp only [List.getElem?_take, List.getElem?_drop]
  by_cases h : k < j
  · by_cases h2 : k < l.length
    · rw [if_pos h, if_pos (by omega), Nat.zero_add]
    · rw [if_pos h, List.getElem?_eq_none (by omega : l.length ≤ k)]
      rw [if_neg (by omega)]
  · rw [if_neg h, if_neg (by omega)]
theorem gSl_l {l : List PyData} {lo hi : Option Int} : gSl (.list l) lo hi = some (.list (cutD l lo hi)) := rfl
/-! ### the mathematics of rows and tables -/
namespace V3
def add (u v : V3) : V3 := ⟨u.x + v.x, u.y + v.y, u.z + v.z⟩
def sub (u v : V3) : V3 := ⟨u.x - v.x, u.y - v.y, u.z - v.z⟩
def smul (n : Int) (v : V3) : V3 := ⟨n * v.x, n * v.y, n * v.z⟩
def dot (u v : V3) : Int := u.x * v.x + u.y * v.y + u.z * v.z
def cross (u v : V3) : V3 := ⟨u.y * v.z - u.z * v.y, u.z * v.x - u.x * v.z, u.x * v.y - u.y * v.x⟩
end V3
namespace M3
def im (t : M3) (v : V3) : V3 := ⟨t.a.dot v, t.b.dot v, t.c.dot v⟩
def tr (t : M3) : M3 := ⟨⟨t.a.x, t.b.x, t.c.x⟩, ⟨t.a.y, t.b.y, t.c.y⟩, ⟨t.a.z, t.b.z, t.c.z⟩⟩
def mul (s t : M3) : M3 := ⟨⟨s.a.dot t.tr.a, s.a.dot t.tr.b, s.a.dot t.tr.c⟩, ⟨s.b.dot t.tr.a, s.b.dot t.tr.b, s.b.dot t.tr.c⟩, ⟨s.c.dot t.tr.a, s.c.dot t.tr.b, s.c.dot t.tr.c⟩⟩
def det (t : M3) : Int := t.a.dot (t.b.cross t.c)
def trace (t : M3) : Int := t.a.x + t.b.y + t.c.z
def adj (t : M3) : M3 := tr ⟨t.b.cross t.c, t.c.cross t.a, t.a.cross t.b⟩
def one : M3 := ⟨⟨1, 0, 0⟩, ⟨0, 1, 0⟩, ⟨0, 0, 1⟩⟩
end M3
/-! ### bounds of rows and tables -/
class BV (n : outParam Nat) (v : V3) : Prop where
  x : v.x.natAbs < 2 ^ n
  y : v.y.natAbs < 2 ^ n
  z : v.z.natAbs < 2 ^ n
class BM (n : outParam Nat) (t : M3) : Prop where
  a : BV n t.a
  b : BV n t.b
  c : BV n t.c
section
variable {n m : Nat} {u v : V3} {s t : M3} {i : Int}
instance bvx [h : BV n v] : Bd n v.x := ⟨h.x⟩
instance bvy [h : BV n v] : Bd n v.y := ⟨h.y⟩
instance bvz [h : BV n v] : Bd n v.z := ⟨h.z⟩
instance bma [h : BM n t] : BV n t.a := h.a
instance bmb [h : BM n t] : BV n t.b := h.b
instance bmc [h : BM n t] : BV n t.c := h.c
theorem BV.mono (h : BV n v) (l : n ≤ m) : BV m v := ⟨Bd.mono h.x l, Bd.mono h.y l, Bd.mono h.z l⟩
theorem BM.mono (h : BM n t) (l : n ≤ m) : BM m t := ⟨h.a.mono l, h.b.mono l, h.c.mono l⟩
theorem Bd.up (h : Bd n i) (l : n ≤ m) : Bd m i := ⟨Bd.mono h.lt l⟩
instance bv_add [a : BV n u] [b : BV m v] : BV (max n m + 1) (u.add v) := ⟨(inferInstance : Bd _ (u.x + v.x)).lt, (inferInstance : Bd _ (u.y + v.y)).lt, (inferInstance : Bd _ (u.z + v.z)).lt⟩
instance bv_sub [a : BV n u] [b : BV m v] : BV (max n m + 1) (u.sub v) := ⟨(inferInstance : Bd _ (u.x - v.x)).lt, (inferInstance : Bd _ (u.y - v.y)).lt, (inferInstance : Bd _ (u.z - v.z)).lt⟩
instance bv_smul [a : Bd n i] [b : BV m v] : BV (n + m) (v.smul i) := ⟨(inferInstance : Bd _ (i * v.x)).lt, (inferInstance : Bd _ (i * v.y)).lt, (inferInstance : Bd _ (i * v.z)).lt⟩
theorem maxs (a : Nat) : max (max a a + 1) a + 1 = a + 2 := by omega
theorem maxs1 (a : Nat) : max a a + 1 = a + 1 := by omega
instance bd_dot [a : BV n u] [b : BV m v] : Bd (n + m + 2) (u.dot v) := ⟨by
  have h : Bd _ (u.x * v.x + u.y * v.y + u.z * v.z) := inferInstance
  have h2 := h.lt
  rw [maxs] at h2
  exact h2⟩
instance bv_cross [a : BV n u] [b : BV m v] : BV (n + m + 1) (u.cross v) := ⟨by
  have h : Bd _ (u.y * v.z - u.z * v.y) := inferInstance
  have h2 := h.lt
  rw [maxs1] at h2
  exact h2, by
  have h : Bd _ (u.z * v.x - u.x * v.z) := inferInstance
  have h2 := h.lt
  rw [maxs1] at h2
  exact h2, by
  have h : Bd _ (u.x * v.y - u.y * v.x) := inferInstance
  have h2 := h.lt
  rw [maxs1] at h2
  exact h2⟩
instance bv_im [a : BM n t] [b : BV m v] : BV (n + m + 2) (t.im v) := ⟨(inferInstance : Bd _ (t.a.dot v)).lt, (inferInstance : Bd _ (t.b.dot v)).lt, (inferInstance : Bd _ (t.c.dot v)).lt⟩
instance bm_tr [a : BM n t] : BM n t.tr := ⟨⟨a.a.x, a.b.x, a.c.x⟩, ⟨a.a.y, a.b.y, a.c.y⟩, ⟨a.a.z, a.b.z, a.c.z⟩⟩
instance bm_mul [a : BM n s] [b : BM m t] : BM (n + m + 2) (s.mul t) :=
  ⟨⟨(inferInstance : Bd _ (s.a.dot t.tr.a)).lt, (inferInstance : Bd _ (s.a.dot t.tr.b)).lt, (inferInstance : Bd _ (s.a.dot t.tr.c)).lt⟩,
   ⟨(inferInstance : Bd _ (s.b.dot t.tr.a)).lt, (inferInstance : Bd _ (s.b.dot t.tr.b)).lt, (inferInstance : Bd _ (s.b.dot t.tr.c)).lt⟩,
   ⟨(inferInstance : Bd _ (s.c.dot t.tr.a)).lt, (inferInstance : Bd _ (s.c.dot t.tr.b)).lt, (inferInstance : Bd _ (s.c.dot t.tr.c)).lt⟩⟩
instance bd_det [a : BM n t] : Bd (n + (n + n + 1) + 2) t.det := (inferInstance : Bd _ (t.a.dot (t.b.cross t.c)))
instance bm_mk [a : BV n u] [b : BV n v] {w : V3} [c : BV n w] : BM n ⟨u, v, w⟩ := ⟨a, b, c⟩
instance bm_adj [a : BM n t] : BM (n + n + 1) t.adj := (inferInstance : BM _ (M3.tr ⟨t.b.cross t.c, t.c.cross t.a, t.a.cross t.b⟩))
end
theorem sSeq_eq {f g : ES} {ρ ρ' : Rho} (h : f ρ = some (.nx ρ')) : sSeq f g ρ = g ρ' := by
  unfold sSeq
  rw [h]
  rfl
theorem sSeq_rt {f g : ES} {ρ : Rho} {d : PyData} (h : f ρ = some (.rt d)) : sSeq f g ρ = some (.rt d) := by
  unfold sSeq
  rw [h]
  rfl
theorem run_rt {k : Nat} {u : ES} {ds : List PyData} {d : PyData} (h : u (ds.map SC.va ++ List.replicate k SC.un) = some (.rt d)) : runD k u ds = some d := by
  unfold runD
  rw [h]
  rfl
/-! ### forms: six numbers -/
structure F6 where
  a : Int
  b : Int
  c : Int
  p : Int
  q : Int
  r : Int
  deriving DecidableEq
def fm (k : Bool) (f : F6) : PyData := sq k [.int f.a, .int f.b, .int f.c, .int f.p, .int f.q, .int f.r]
theorem F6.ext' {f g : F6} (h1 : f.a = g.a) (h2 : f.b = g.b) (h3 : f.c = g.c) (h4 : f.p = g.p) (h5 : f.q = g.q) (h6 : f.r = g.r) : f = g := by
  cases f
  cases g
  cases h1
  cases h2
  cases h3
  cases h4
  cases h5
  cases h6
  rfl
section
variable {k j : Bool} {f g : F6} {a b c p q r : Int} {v : V3}
theorem fm_t : PyData.tuple [.int a, .int b, .int c, .int p, .int q, .int r] = fm true ⟨a, b, c, p, q, r⟩ := rfl
theorem ix_f0 : gIx (fm k f) (.int 0) = some (.int f.a) := by cases k <;> rfl
theorem ix_f1 : gIx (fm k f) (.int 1) = some (.int f.b) := by cases k <;> rfl
theorem ix_f2 : gIx (fm k f) (.int 2) = some (.int f.c) := by cases k <;> rfl
theorem ix_f3 : gIx (fm k f) (.int 3) = some (.int f.p) := by cases k <;> rfl
theorem ix_f4 : gIx (fm k f) (.int 4) = some (.int f.q) := by cases k <;> rfl
theorem ix_f5 : gIx (fm k f) (.int 5) = some (.int f.r) := by cases k <;> rfl
theorem len_f : mLen [fm k f] = some (.int 6) := by cases k <;> rfl
theorem tup_f : mTuple [fm k f] = some (fm true f) := by cases k <;> rfl
theorem lst_f : mList [fm k f] = some [.int f.a, .int f.b, .int f.c, .int f.p, .int f.q, .int f.r] := by cases k <;> rfl
theorem seq_f : seqOf (fm k f) = some [.int f.a, .int f.b, .int f.c, .int f.p, .int f.q, .int f.r] := by cases k <;> rfl
theorem isTup_f : isT .tuple (fm k f) = some k := by cases k <;> rfl
theorem eqv_f : PyData.eqv (fm true f) (fm true g) = decide (f = g) := by
  show (f.a == g.a && (f.b == g.b && (f.c == g.c && (f.p == g.p && (f.q == g.q && (f.r == g.r && true)))))) = _
  rw [Bool.eq_iff_iff]
  simp only [Bool.and_eq_true, beq_iff_eq, decide_eq_true_eq, and_true]
  exact ⟨fun ⟨h1, h2, h3, h4, h5, h6⟩ => F6.ext' h1 h2 h3 h4 h5 h6, fun h => by subst h; exact ⟨rfl, rfl, rfl, rfl, rfl, rfl⟩⟩
theorem eq_f : gEq (fm true f) (fm true g) = some (.bool (decide (f = g))) := by
  show some (PyData.bool (PyData.eqv (fm true f) (fm true g))) = _
  rw [eqv_f]
theorem ne_f : gNe (fm true f) (fm true g) = some (.bool (!decide (f = g))) := by
  show some (PyData.bool (!PyData.eqv (fm true f) (fm true g))) = _
  rw [eqv_f]
/-- unpacking -/
theorem un_f {h : List PyData → Rho → Option Rho} {ρ : Rho} : gTp 6 h (fm k f) ρ = h [.int f.a, .int f.b, .int f.c, .int f.p, .int f.q, .int f.r] ρ := by cases k <;> rfl
theorem un_r {h : List PyData → Rho → Option Rho} {ρ : Rho} : gTp 3 h (rw3 k v) ρ = h [.int v.x, .int v.y, .int v.z] ρ := by cases k <;> rfl
end
namespace F6
def gram (f : F6) : M3 := ⟨⟨f.a, f.r, f.q⟩, ⟨f.r, f.b, f.p⟩, ⟨f.q, f.p, f.c⟩⟩
def val (f : F6) (v : V3) : Int := f.a * v.x * v.x + f.b * v.y * v.y + f.c * v.z * v.z + 2 * (f.p * v.y * v.z + f.q * v.x * v.z + f.r * v.x * v.y)
def pair (f : F6) (u v : V3) : Int := (f.a * u.x + f.r * u.y + f.q * u.z) * v.x + (f.r * u.x + f.b * u.y + f.p * u.z) * v.y + (f.q * u.x + f.p * u.y + f.c * u.z) * v.z
end F6
class BF (n : outParam Nat) (f : F6) : Prop where
  a : f.a.natAbs < 2 ^ n
  b : f.b.natAbs < 2 ^ n
  c : f.c.natAbs < 2 ^ n
  p : f.p.natAbs < 2 ^ n
  q : f.q.natAbs < 2 ^ n
  r : f.r.natAbs < 2 ^ n
section
variable {n m : Nat} {f : F6}
instance bfa [h : BF n f] : Bd n f.a := ⟨h.a⟩
instance bfb [h : BF n f] : Bd n f.b := ⟨h.b⟩
instance bfc [h : BF n f] : Bd n f.c := ⟨h.c⟩
instance bfp [h : BF n f] : Bd n f.p := ⟨h.p⟩
instance bfq [h : BF n f] : Bd n f.q := ⟨h.q⟩
instance bfr [h : BF n f] : Bd n f.r := ⟨h.r⟩
instance bm_gram [h : BF n f] : BM n f.gram := ⟨⟨h.a, h.r, h.q⟩, ⟨h.r, h.b, h.p⟩, ⟨h.q, h.p, h.c⟩⟩
theorem BF.mono (h : BF n f) (l : n ≤ m) : BF m f := ⟨Bd.mono h.a l, Bd.mono h.b l, Bd.mono h.c l, Bd.mono h.p l, Bd.mono h.q l, Bd.mono h.r l⟩
end
end DL

set_option Elab.async false
set_option linter.all false
set_option maxRecDepth 100000
set_option maxHeartbeats 4000000
namespace W
open PySem PySem.Spec PyProof.Rows L2 DL
def top (i : Nat) : Stmt := PySem.Challenge.pw_fewfounders_k02_wholes_and_ratios.main.body.getD i (.Pass ⟨0, 0, 0, 0⟩)
section
variable {P : Program} {w : World} {K : PySem.W.Frag} {mg : Str → Option Value} {base : Heap}
abbrev s_root : Stmt := top 2
noncomputable def b_root : ES := (sRet (eAll mIsqrt (aCons (eVar 0) aNil)))
noncomputable def m_root : List PyData → Option PyData := runD 0 b_root
abbrev N_root : List Str := ["number"]
theorem ok_root (F : Fd K mg "root" s_root) (g_isqrt : mg "isqrt" = some (.builtin "math.isqrt")) : Def P w K mg base "root" 1 1 m_root := by
  have sc : FnScope N_root ["number"] (defScope s_root) := ⟨rfl, rfl, rfl, by decide +kernel, rfl, by decide +kernel, by decide +kernel⟩
  refine F.mk sc rfl rfl (fun _ _ _ _ _ _ us hl => match us, hl with | [_], _ => rfl) fun cdv A outer s H E hr => ?_
  exact (dss_one (ds_ret (dv_mod c_isqrt (by rfl) g_isqrt (da_cons (dv_var (pv 0)) da_nil))))
abbrev s_root_up : Stmt := top 3
noncomputable def b_root_up : ES := (sSeq (sSet 1 (eAll mIsqrt (aCons (eVar 0) aNil))) (sSeq (sIf (bVal (eBin gLt (eBin gMul (eVar 1) (eVar 1)) (eVar 0))) (sRet (eBin gAdd (eVar 1) (eC (.int 1)))) sNx) (sRet (eVar 1))))
noncomputable def m_root_up : List PyData → Option PyData := runD 1 b_root_up
abbrev N_root_up : List Str := ["number", "s"]
theorem ok_root_up (F : Fd K mg "root_up" s_root_up) (g_isqrt : mg "isqrt" = some (.builtin "math.isqrt")) : Def P w K mg base "root_up" 1 1 m_root_up := by
  have sc : FnScope N_root_up ["number"] (defScope s_root_up) := ⟨rfl, rfl, rfl, by decide +kernel, rfl, by decide +kernel, by decide +kernel⟩
  refine F.mk sc rfl rfl (fun _ _ _ _ _ _ us hl => match us, hl with | [_], _ => rfl) fun cdv A outer s H E hr => ?_
  exact (dss_cons (ds_set (i := 1) sc.nd rfl (by first | exact Or.inl rfl | exact Or.inr rfl) (dv_mod c_isqrt (by rfl) g_isqrt (da_cons (dv_var (pv 0)) da_nil))) (dss_cons (ds_if (dt_cmp o_lt (dv_bin o_mul (dv_var (pv 1)) (dv_var (pv 1))) (dv_var (pv 0))) (dss_one (ds_ret (dv_bin o_add (dv_var (pv 1)) dv_int))) dss_nil) (dss_one (ds_ret (dv_var (pv 1))))))
abbrev s_ceiling : Stmt := top 4
noncomputable def b_ceiling : ES := (sRet (eUn gNeg (eBin gFdiv (eUn gNeg (eVar 0)) (eVar 1))))
noncomputable def m_ceiling : List PyData → Option PyData := runD 0 b_ceiling
abbrev N_ceiling : List Str := ["top", "bottom"]
theorem ok_ceiling (F : Fd K mg "ceiling" s_ceiling) : Def P w K mg base "ceiling" 1 2 m_ceiling := by
  have sc : FnScope N_ceiling ["top", "bottom"] (defScope s_ceiling) := ⟨rfl, rfl, rfl, by decide +kernel, rfl, by decide +kernel, by decide +kernel⟩
  refine F.mk sc rfl rfl (fun _ _ _ _ _ _ us hl => match us, hl with | [_, _], _ => rfl) fun cdv A outer s H E hr => ?_
  exact (dss_one (ds_ret (dv_un u_neg (dv_bin o_fdiv (dv_un u_neg (dv_var (pv 0))) (dv_var (pv 1))))))
abbrev s_bezout : Stmt := top 5
noncomputable def b_bezout : ES := (sSeq (sPar3 2 3 4 (aCons (eVar 0) (aCons (eC (.int 1)) (aCons (eC (.int 0)) aNil)))) (sSeq (sPar3 5 6 7 (aCons (eVar 1) (aCons (eC (.int 0)) (aCons (eC (.int 1)) aNil)))) (sSeq (sWhile (bVal (eBin gNe (eVar 5) (eC (.int 0)))) (sSeq (sSet 8 (eBin gFdiv (eVar 2) (eVar 5))) (sSeq (sPar 2 5 (aCons (eVar 5) (aCons (eBin gSub (eVar 2) (eBin gMul (eVar 8) (eVar 5))) aNil))) (sSeq (sPar 3 6 (aCons (eVar 6) (aCons (eBin gSub (eVar 3) (eBin gMul (eVar 8) (eVar 6))) aNil))) (sPar 4 7 (aCons (eVar 7) (aCons (eBin gSub (eVar 4) (eBin gMul (eVar 8) (eVar 7))) aNil))))))) (sSeq (sIf (bVal (eBin gLt (eVar 2) (eC (.int 0)))) (sRet (eTup (aCons (eUn gNeg (eVar 2)) (aCons (eUn gNeg (eVar 3)) (aCons (eUn gNeg (eVar 4)) aNil))))) sNx) (sRet (eTup (aCons (eVar 2) (aCons (eVar 3) (aCons (eVar 4) aNil)))))))))
noncomputable def m_bezout : List PyData → Option PyData := runD 7 b_bezout
abbrev N_bezout : List Str := ["one", "two", "g", "s", "t", "rest", "u", "w", "k"]
theorem ok_bezout (F : Fd K mg "bezout" s_bezout) : Def P w K mg base "bezout" 1 2 m_bezout := by
  have sc : FnScope N_bezout ["one", "two"] (defScope s_bezout) := ⟨rfl, rfl, rfl, by decide +kernel, rfl, by decide +kernel, by decide +kernel⟩
  refine F.mk sc rfl rfl (fun _ _ _ _ _ _ us hl => match us, hl with | [_, _], _ => rfl) fun cdv A outer s H E hr => ?_
  exact (dss_cons (ds_par3 (i := 2) (j := 3) (l := 4) rfl sc.nd rfl rfl rfl (by decide) (by decide) (by decide) rfl rfl rfl (da_cons (dv_var (pv 0)) (da_cons dv_int (da_cons dv_int da_nil))) rfl) (dss_cons (ds_par3 (i := 5) (j := 6) (l := 7) rfl sc.nd rfl rfl rfl (by decide) (by decide) (by decide) rfl rfl rfl (da_cons (dv_var (pv 1)) (da_cons dv_int (da_cons dv_int da_nil))) rfl) (dss_cons (ds_while PassesOwn.never (dt_cmp (o_ne hr.units) (dv_var (pv 5)) dv_int) (dss_cons (ds_set (i := 8) sc.nd rfl (by first | exact Or.inl rfl | exact Or.inr rfl) (dv_bin o_fdiv (dv_var (pv 2)) (dv_var (pv 5)))) (dss_cons (ds_par (i := 2) (j := 5) rfl sc.nd rfl rfl (by decide) rfl rfl (da_cons (dv_var (pv 5)) (da_cons (dv_bin o_sub (dv_var (pv 2)) (dv_bin o_mul (dv_var (pv 8)) (dv_var (pv 5)))) da_nil)) rfl) (dss_cons (ds_par (i := 3) (j := 6) rfl sc.nd rfl rfl (by decide) rfl rfl (da_cons (dv_var (pv 6)) (da_cons (dv_bin o_sub (dv_var (pv 3)) (dv_bin o_mul (dv_var (pv 8)) (dv_var (pv 6)))) da_nil)) rfl) (dss_one (ds_par (i := 4) (j := 7) rfl sc.nd rfl rfl (by decide) rfl rfl (da_cons (dv_var (pv 7)) (da_cons (dv_bin o_sub (dv_var (pv 4)) (dv_bin o_mul (dv_var (pv 8)) (dv_var (pv 7)))) da_nil)) rfl)))))) (dss_cons (ds_if (dt_cmp o_lt (dv_var (pv 2)) dv_int) (dss_one (ds_ret (dv_tup (da_cons (dv_un u_neg (dv_var (pv 2))) (da_cons (dv_un u_neg (dv_var (pv 3))) (da_cons (dv_un u_neg (dv_var (pv 4))) da_nil)))))) dss_nil) (dss_one (ds_ret (dv_tup (da_cons (dv_var (pv 2)) (da_cons (dv_var (pv 3)) (da_cons (dv_var (pv 4)) da_nil))))))))))
abbrev s_prime_powers : Stmt := top 6
noncomputable def b_prime_powers : ES := (sSeq (sOwn 1 aNil) (sSeq (sSet 2 (eVar 0)) (sSeq (sSet 3 (eC (.int 2))) (sSeq (sWhile (bVal (eBin gLe (eBin gMul (eVar 3) (eVar 3)) (eVar 2))) (sSeq (sSet 4 (eC (.int 0))) (sSeq (sWhile (bVal (eBin gEq (eBin gMod (eVar 2) (eVar 3)) (eC (.int 0)))) (sSeq (sSet 2 (eBin gFdiv (eVar 2) (eVar 3))) (sSet 4 (eBin gAdd (eVar 4) (eC (.int 1)))))) (sSeq (sIf (bVal (eBin gGt (eVar 4) (eC (.int 0)))) (sApp 1 (eTup (aCons (eVar 3) (aCons (eVar 4) aNil)))) sNx) (sSet 3 (eBin gAdd (eVar 3) (eC (.int 1)))))))) (sSeq (sIf (bVal (eBin gGt (eVar 2) (eC (.int 1)))) (sApp 1 (eTup (aCons (eVar 2) (aCons (eC (.int 1)) aNil)))) sNx) (sFrz [1] (sRet (eAll mTuple (aCons (eVar 1) aNil)))))))))
noncomputable def m_prime_powers : List PyData → Option PyData := runD 4 b_prime_powers
abbrev N_prime_powers : List Str := ["number", "found", "rest", "prime", "exponent"]
theorem ok_prime_powers (F : Fd K mg "prime_powers" s_prime_powers) (z_tuple : mg "tuple" = none) : Def P w K mg base "prime_powers" 1 1 m_prime_powers := by
  have sc : FnScope N_prime_powers ["number"] (defScope s_prime_powers) := ⟨rfl, rfl, rfl, by decide +kernel, rfl, by decide +kernel, by decide +kernel⟩
  refine F.mk sc rfl rfl (fun _ _ _ _ _ _ us hl => match us, hl with | [_], _ => rfl) fun cdv A outer s H E hr => ?_
  exact (dss_cons (ds_own (i := 1) sc.nd rfl (by first | exact Or.inl rfl | exact Or.inr rfl) (df_lst da_nil)) (dss_cons (ds_set (i := 2) sc.nd rfl (by first | exact Or.inl rfl | exact Or.inr rfl) (dv_var (pv 0))) (dss_cons (ds_set (i := 3) sc.nd rfl (by first | exact Or.inl rfl | exact Or.inr rfl) dv_int) (dss_cons (ds_while PassesOwn.never (dt_cmp o_le (dv_bin o_mul (dv_var (pv 3)) (dv_var (pv 3))) (dv_var (pv 2))) (dss_cons (ds_set (i := 4) sc.nd rfl (by first | exact Or.inl rfl | exact Or.inr rfl) dv_int) (dss_cons (ds_while PassesOwn.never (dt_cmp (o_eq hr.units) (dv_bin o_mod (dv_var (pv 2)) (dv_var (pv 3))) dv_int) (dss_cons (ds_set (i := 2) sc.nd rfl (by first | exact Or.inl rfl | exact Or.inr rfl) (dv_bin o_fdiv (dv_var (pv 2)) (dv_var (pv 3)))) (dss_one (ds_set (i := 4) sc.nd rfl (by first | exact Or.inl rfl | exact Or.inr rfl) (dv_bin o_add (dv_var (pv 4)) dv_int))))) (dss_cons (ds_if (dt_cmp o_gt (dv_var (pv 4)) dv_int) (dss_one (ds_app (i := 1) (pv 1) (dv_tup (da_cons (dv_var (pv 3)) (da_cons (dv_var (pv 4)) da_nil))))) dss_nil) (dss_one (ds_set (i := 3) sc.nd rfl (by first | exact Or.inl rfl | exact Or.inr rfl) (dv_bin o_add (dv_var (pv 3)) dv_int))))))) (dss_cons (ds_if (dt_cmp o_gt (dv_var (pv 2)) dv_int) (dss_one (ds_app (i := 1) (pv 1) (dv_tup (da_cons (dv_var (pv 2)) (da_cons dv_int da_nil))))) dss_nil) (dss_one (ds_frz (S := [1]) (ds_ret (dv_ty c_tuple (by rfl) z_tuple (by decide +kernel) (da_cons (dv_var (pv 1)) da_nil))))))))))
abbrev s_valuation : Stmt := top 7
noncomputable def b_valuation : ES := (sSeq (sSet 2 (eC (.int 0))) (sSeq (sSet 3 (eVar 0)) (sSeq (sWhile (bVal (eBin gEq (eBin gMod (eVar 3) (eVar 1)) (eC (.int 0)))) (sSeq (sSet 3 (eBin gFdiv (eVar 3) (eVar 1))) (sSet 2 (eBin gAdd (eVar 2) (eC (.int 1)))))) (sRet (eVar 2)))))
noncomputable def m_valuation : List PyData → Option PyData := runD 2 b_valuation
abbrev N_valuation : List Str := ["number", "prime", "exponent", "rest"]
theorem ok_valuation (F : Fd K mg "valuation" s_valuation) : Def P w K mg base "valuation" 1 2 m_valuation := by
  have sc : FnScope N_valuation ["number", "prime"] (defScope s_valuation) := ⟨rfl, rfl, rfl, by decide +kernel, rfl, by decide +kernel, by decide +kernel⟩
  refine F.mk sc rfl rfl (fun _ _ _ _ _ _ us hl => match us, hl with | [_, _], _ => rfl) fun cdv A outer s H E hr => ?_
  exact (dss_cons (ds_set (i := 2) sc.nd rfl (by first | exact Or.inl rfl | exact Or.inr rfl) dv_int) (dss_cons (ds_set (i := 3) sc.nd rfl (by first | exact Or.inl rfl | exact Or.inr rfl) (dv_var (pv 0))) (dss_cons (ds_while PassesOwn.never (dt_cmp (o_eq hr.units) (dv_bin o_mod (dv_var (pv 3)) (dv_var (pv 1))) dv_int) (dss_cons (ds_set (i := 3) sc.nd rfl (by first | exact Or.inl rfl | exact Or.inr rfl) (dv_bin o_fdiv (dv_var (pv 3)) (dv_var (pv 1)))) (dss_one (ds_set (i := 2) sc.nd rfl (by first | exact Or.inl rfl | exact Or.inr rfl) (dv_bin o_add (dv_var (pv 2)) dv_int))))) (dss_one (ds_ret (dv_var (pv 2)))))))
abbrev s_ratio : Stmt := top 43
noncomputable def b_ratio : ES := (sSeq (sIf (bVal (eBin gEq (eVar 1) (eC (.int 0)))) (sRaise "ZeroBottom" "top" (eVar 0)) sNx) (sSeq (sSet 2 (eAll mGcd (aCons (eVar 0) (aCons (eVar 1) aNil)))) (sSeq (sIf (bVal (eBin gLt (eVar 1) (eC (.int 0)))) (sSet 2 (eUn gNeg (eVar 2))) sNx) (sRet (eTup (aCons (eBin gFdiv (eVar 0) (eVar 2)) (aCons (eBin gFdiv (eVar 1) (eVar 2)) aNil)))))))
noncomputable def x_ratio : List PyData → Option XR := runX 1 b_ratio
noncomputable def m_ratio : List PyData → Option PyData := fun ds => (x_ratio ds).bind vOf
abbrev N_ratio : List Str := ["top", "bottom", "many"]
theorem okx_ratio (F : Fd K mg "ratio" s_ratio) (g_gcd : mg "gcd" = some (.builtin "math.gcd")) (x_ZeroBottom : XCls P w K mg base "ZeroBottom" "top") : DefX P w K mg base "ratio" 3 2 x_ratio := by
  have sc : FnScope N_ratio ["top", "bottom"] (defScope s_ratio) := ⟨rfl, rfl, rfl, by decide +kernel, rfl, by decide +kernel, by decide +kernel⟩
  refine F.mkX sc rfl rfl (fun _ _ _ _ _ _ us hl => match us, hl with | [_, _], _ => rfl) fun cdv A outer s H E hr => ?_
  exact (dss_cons (ds_if (dt_cmp (o_eq hr.units) (dv_var (pv 1)) dv_int) (dss_one (ds_raise (k := 1) rfl x_ZeroBottom (hr.mono (by decide)) (dv_var (pv 0)) (by rfl))) dss_nil) (dss_cons (ds_set (i := 2) sc.nd rfl (by first | exact Or.inl rfl | exact Or.inr rfl) (dv_mod c_gcd (by rfl) g_gcd (da_cons (dv_var (pv 0)) (da_cons (dv_var (pv 1)) da_nil)))) (dss_cons (ds_if (dt_cmp o_lt (dv_var (pv 1)) dv_int) (dss_one (ds_set (i := 2) sc.nd rfl (by first | exact Or.inl rfl | exact Or.inr rfl) (dv_un u_neg (dv_var (pv 2))))) dss_nil) (dss_one (ds_ret (dv_tup (da_cons (dv_bin o_fdiv (dv_var (pv 0)) (dv_var (pv 2))) (da_cons (dv_bin o_fdiv (dv_var (pv 1)) (dv_var (pv 2))) da_nil))))))))
abbrev s_ratio_sum : Stmt := top 44
noncomputable def b_ratio_sum : ES := (sRet (eCall m_ratio (aCons (eBin gAdd (eBin gMul (eBin gIx (eVar 0) (eC (.int 0))) (eBin gIx (eVar 1) (eC (.int 1)))) (eBin gMul (eBin gIx (eVar 1) (eC (.int 0))) (eBin gIx (eVar 0) (eC (.int 1))))) (aCons (eBin gMul (eBin gIx (eVar 0) (eC (.int 1))) (eBin gIx (eVar 1) (eC (.int 1)))) aNil))))
noncomputable def m_ratio_sum : List PyData → Option PyData := runD 0 b_ratio_sum
abbrev N_ratio_sum : List Str := ["one", "two"]
theorem ok_ratio_sum (F : Fd K mg "ratio_sum" s_ratio_sum) (d_ratio : Def P w K mg base "ratio" 3 2 m_ratio) : Def P w K mg base "ratio_sum" 4 2 m_ratio_sum := by
  have sc : FnScope N_ratio_sum ["one", "two"] (defScope s_ratio_sum) := ⟨rfl, rfl, rfl, by decide +kernel, rfl, by decide +kernel, by decide +kernel⟩
  refine F.mk sc rfl rfl (fun _ _ _ _ _ _ us hl => match us, hl with | [_, _], _ => rfl) fun cdv A outer s H E hr => ?_
  exact (dss_one (ds_ret (dv_callD d_ratio hr (da_cons (dv_bin o_add (dv_bin o_mul (dv_ix ix_g (dv_var (pv 0)) dv_int) (dv_ix ix_g (dv_var (pv 1)) dv_int)) (dv_bin o_mul (dv_ix ix_g (dv_var (pv 1)) dv_int) (dv_ix ix_g (dv_var (pv 0)) dv_int))) (da_cons (dv_bin o_mul (dv_ix ix_g (dv_var (pv 0)) dv_int) (dv_ix ix_g (dv_var (pv 1)) dv_int)) da_nil)))))
abbrev s_ratio_product : Stmt := top 45
noncomputable def b_ratio_product : ES := (sRet (eCall m_ratio (aCons (eBin gMul (eBin gIx (eVar 0) (eC (.int 0))) (eBin gIx (eVar 1) (eC (.int 0)))) (aCons (eBin gMul (eBin gIx (eVar 0) (eC (.int 1))) (eBin gIx (eVar 1) (eC (.int 1)))) aNil))))
noncomputable def m_ratio_product : List PyData → Option PyData := runD 0 b_ratio_product
abbrev N_ratio_product : List Str := ["one", "two"]
theorem ok_ratio_product (F : Fd K mg "ratio_product" s_ratio_product) (d_ratio : Def P w K mg base "ratio" 3 2 m_ratio) : Def P w K mg base "ratio_product" 4 2 m_ratio_product := by
  have sc : FnScope N_ratio_product ["one", "two"] (defScope s_ratio_product) := ⟨rfl, rfl, rfl, by decide +kernel, rfl, by decide +kernel, by decide +kernel⟩
  refine F.mk sc rfl rfl (fun _ _ _ _ _ _ us hl => match us, hl with | [_, _], _ => rfl) fun cdv A outer s H E hr => ?_
  exact (dss_one (ds_ret (dv_callD d_ratio hr (da_cons (dv_bin o_mul (dv_ix ix_g (dv_var (pv 0)) dv_int) (dv_ix ix_g (dv_var (pv 1)) dv_int)) (da_cons (dv_bin o_mul (dv_ix ix_g (dv_var (pv 0)) dv_int) (dv_ix ix_g (dv_var (pv 1)) dv_int)) da_nil)))))
abbrev s_ratio_sign : Stmt := top 46
noncomputable def b_ratio_sign : ES := (sSeq (sIf (bVal (eBin gGt (eBin gIx (eVar 0) (eC (.int 0))) (eC (.int 0)))) (sRet (eC (.int 1))) sNx) (sSeq (sIf (bVal (eBin gLt (eBin gIx (eVar 0) (eC (.int 0))) (eC (.int 0)))) (sRet (eUn gNeg (eC (.int 1)))) sNx) (sRet (eC (.int 0)))))
noncomputable def m_ratio_sign : List PyData → Option PyData := runD 0 b_ratio_sign
abbrev N_ratio_sign : List Str := ["one"]
theorem ok_ratio_sign (F : Fd K mg "ratio_sign" s_ratio_sign) : Def P w K mg base "ratio_sign" 1 1 m_ratio_sign := by
  have sc : FnScope N_ratio_sign ["one"] (defScope s_ratio_sign) := ⟨rfl, rfl, rfl, by decide +kernel, rfl, by decide +kernel, by decide +kernel⟩
  refine F.mk sc rfl rfl (fun _ _ _ _ _ _ us hl => match us, hl with | [_], _ => rfl) fun cdv A outer s H E hr => ?_
  exact (dss_cons (ds_if (dt_cmp o_gt (dv_ix ix_g (dv_var (pv 0)) dv_int) dv_int) (dss_one (ds_ret dv_int)) dss_nil) (dss_cons (ds_if (dt_cmp o_lt (dv_ix ix_g (dv_var (pv 0)) dv_int) dv_int) (dss_one (ds_ret (dv_un u_neg dv_int))) dss_nil) (dss_one (ds_ret dv_int))))
abbrev s__law_whole : Stmt := top 48
noncomputable def b__law_whole : ES := (sRet (eAnd (eIs Ty.int (eVar 0)) (eUn gNot (eIs Ty.bool (eVar 0)))))
noncomputable def m__law_whole : List PyData → Option PyData := runD 0 b__law_whole
abbrev N__law_whole : List Str := ["told"]
theorem ok__law_whole (F : Fd K mg "_law_whole" s__law_whole) (z_isinstance : mg "isinstance" = none) (z_bool : mg "bool" = none) (z_int : mg "int" = none) : Def P w K mg base "_law_whole" 1 1 m__law_whole := by
  have sc : FnScope N__law_whole ["told"] (defScope s__law_whole) := ⟨rfl, rfl, rfl, by decide +kernel, rfl, by decide +kernel, by decide +kernel⟩
  refine F.mk sc rfl rfl (fun _ _ _ _ _ _ us hl => match us, hl with | [_], _ => rfl) fun cdv A outer s H E hr => ?_
  exact (dss_one (ds_ret (dv_and (dv_isi (T := Ty.int) (by rfl) z_isinstance rfl (by rfl) z_int (by decide +kernel) (dv_var (pv 0))) (dv_one (dv_not (dv_isi (T := Ty.bool) (by rfl) z_isinstance rfl (by rfl) z_bool (by decide +kernel) (dv_var (pv 0))))))))
abbrev s__law_is_row : Stmt := top 49
noncomputable def b__law_is_row : ES := (sSeq (sIf (bOr (bNot (bVal (eIs Ty.tuple (eVar 0)))) (bVal (eBin gNe (eAll mLen (aCons (eVar 0) aNil)) (eVar 1)))) (sRet (eC (.bool false))) sNx) (sSeq (sFor (iSeq (eVar 0)) (gNm 2) (sIf (bNot (bVal (eCall m__law_whole (aCons (eVar 2) aNil)))) (sRet (eC (.bool false))) sNx)) (sRet (eC (.bool true)))))
noncomputable def m__law_is_row : List PyData → Option PyData := runD 1 b__law_is_row
abbrev N__law_is_row : List Str := ["told", "many", "number"]
theorem ok__law_is_row (F : Fd K mg "_law_is_row" s__law_is_row) (d__law_whole : Def P w K mg base "_law_whole" 1 1 m__law_whole) (z_len : mg "len" = none) (z_isinstance : mg "isinstance" = none) (z_tuple : mg "tuple" = none) : Def P w K mg base "_law_is_row" 2 2 m__law_is_row := by
  have sc : FnScope N__law_is_row ["told", "many"] (defScope s__law_is_row) := ⟨rfl, rfl, rfl, by decide +kernel, rfl, by decide +kernel, by decide +kernel⟩
  refine F.mk sc rfl rfl (fun _ _ _ _ _ _ us hl => match us, hl with | [_, _], _ => rfl) fun cdv A outer s H E hr => ?_
  exact (dss_cons (ds_if (dt_w (dw_or (dt_not (dt_val (dv_isi (T := Ty.tuple) (by rfl) z_isinstance rfl (by rfl) z_tuple (by decide +kernel) (dv_var (pv 0))))) (dw_or1 (dt_cmp (o_ne hr.units) (dv_blt c_len (by rfl) z_len (by decide +kernel) (da_cons (dv_var (pv 0)) da_nil)) (dv_var (pv 1)))))) (dss_one (ds_ret dv_bl)) dss_nil) (dss_cons (ds_for PassesOwn.never rfl (di_seq (dv_var (pv 0))) (dg_name (pg_name (i := 2) sc.nd rfl (by first | exact Or.inl rfl | exact Or.inr rfl))) (dss_one (ds_if (dt_not (dt_val (dv_callD d__law_whole hr (da_cons (dv_var (pv 2)) da_nil)))) (dss_one (ds_ret dv_bl)) dss_nil))) (dss_one (ds_ret dv_bl))))
abbrev s__law_cell : Stmt := top 50
noncomputable def b__law_cell : ES := (sSeq (sIf (bVal (eBin gLt (eVar 1) (eAll mLen (aCons (eVar 0) aNil)))) (sRet (eBin gIx (eVar 0) (eVar 1))) sNx) (sSeq (sSet 2 (eC (.int 17))) (sSeq (sFor (iSeq (eVar 0)) (gNm 3) (sSet 2 (eBin gMod (eAll mInt (aCons (eBin gAdd (eBin gMul (eVar 2) (eC (.int 31))) (eBin gMod (eAll mInt (aCons (eVar 3) aNil)) (eC (.int 1000003)))) aNil)) (eC (.int 1000003))))) (sRet (eBin gMod (eAll mInt (aCons (eBin gMul (eBin gMul (eBin gAdd (eVar 2) (eC (.int 7))) (eBin gAdd (eVar 1) (eC (.int 3)))) (eC (.int 69621))) aNil)) (eC (.int 2147483647)))))))
noncomputable def m__law_cell : List PyData → Option PyData := runD 2 b__law_cell
abbrev N__law_cell : List Str := ["script", "k", "seed", "cell"]
theorem ok__law_cell (F : Fd K mg "_law_cell" s__law_cell) (z_len : mg "len" = none) (z_int : mg "int" = none) : Def P w K mg base "_law_cell" 1 2 m__law_cell := by
  have sc : FnScope N__law_cell ["script", "k"] (defScope s__law_cell) := ⟨rfl, rfl, rfl, by decide +kernel, rfl, by decide +kernel, by decide +kernel⟩
  refine F.mk sc rfl rfl (fun _ _ _ _ _ _ us hl => match us, hl with | [_, _], _ => rfl) fun cdv A outer s H E hr => ?_
  exact (dss_cons (ds_if (dt_cmp o_lt (dv_var (pv 1)) (dv_blt c_len (by rfl) z_len (by decide +kernel) (da_cons (dv_var (pv 0)) da_nil))) (dss_one (ds_ret (dv_ix ix_g (dv_var (pv 0)) (dv_var (pv 1))))) dss_nil) (dss_cons (ds_set (i := 2) sc.nd rfl (by first | exact Or.inl rfl | exact Or.inr rfl) dv_int) (dss_cons (ds_for PassesOwn.never rfl (di_seq (dv_var (pv 0))) (dg_name (pg_name (i := 3) sc.nd rfl (by first | exact Or.inl rfl | exact Or.inr rfl))) (dss_one (ds_set (i := 2) sc.nd rfl (by first | exact Or.inl rfl | exact Or.inr rfl) (dv_bin o_mod (dv_ty c_int (by rfl) z_int (by decide +kernel) (da_cons (dv_bin o_add (dv_bin o_mul (dv_var (pv 2)) dv_int) (dv_bin o_mod (dv_ty c_int (by rfl) z_int (by decide +kernel) (da_cons (dv_var (pv 3)) da_nil)) dv_int)) da_nil)) dv_int)))) (dss_one (ds_ret (dv_bin o_mod (dv_ty c_int (by rfl) z_int (by decide +kernel) (da_cons (dv_bin o_mul (dv_bin o_mul (dv_bin o_add (dv_var (pv 2)) dv_int) (dv_bin o_add (dv_var (pv 1)) dv_int)) dv_int) da_nil)) dv_int))))))
abbrev s__law_digits : Stmt := top 51
noncomputable def b__law_digits : ES := (sSeq (sOwn 2 aNil) (sSeq (sSet 3 (eAll mInt (aCons (eVar 0) aNil))) (sSeq (sIf (bVal (eBin gGe (eVar 3) (eBin gPow (eC (.int 10)) (eC (.int 18))))) (sSeq (sSet 3 (eBin gSub (eVar 3) (eBin gPow (eC (.int 10)) (eC (.int 18))))) (sSeq (sFor (iSeq (eVar 1)) (gNm 4) (sSeq (sApp 2 (eBin gMod (eAll mInt (aCons (eVar 3) aNil)) (eVar 4))) (sSet 3 (eBin gFdiv (eAll mInt (aCons (eVar 3) aNil)) (eVar 4))))) (sFrz [2] (sRet (eVar 2))))) sNx) (sSeq (sSet 5 (eBin gMod (eAll mInt (aCons (eVar 3) aNil)) (eC (.int 2147483629)))) (sSeq (sFor (iRg1 (eAll mLen (aCons (eVar 1) aNil))) (gNm 6) (sSeq (sSet 5 (eBin gMod (eAll mInt (aCons (eBin gAdd (eBin gAdd (eBin gMul (eVar 5) (eC (.int 48271))) (eBin gMul (eC (.int 974711)) (eVar 6))) (eC (.int 12345))) aNil)) (eC (.int 2147483647)))) (sSeq (sSet 7 (eBin gMod (eAll mInt (aCons (eBin gMul (eVar 5) (eBin gAdd (eBin gFdiv (eVar 5) (eC (.int 65537))) (eC (.int 3)))) aNil)) (eC (.int 2147483629)))) (sApp 2 (eBin gMod (eBin gFdiv (eVar 7) (eC (.int 19))) (eBin gIx (eVar 1) (eVar 6))))))) (sFrz [2] (sRet (eVar 2))))))))
noncomputable def m__law_digits : List PyData → Option PyData := runD 6 b__law_digits
abbrev N__law_digits : List Str := ["cell", "limits", "row", "rest", "limit", "seed", "k", "twice"]
theorem ok__law_digits (F : Fd K mg "_law_digits" s__law_digits) (z_int : mg "int" = none) (z_range : mg "range" = none) (z_len : mg "len" = none) : Def P w K mg base "_law_digits" 1 2 m__law_digits := by
  have sc : FnScope N__law_digits ["cell", "limits"] (defScope s__law_digits) := ⟨rfl, rfl, rfl, by decide +kernel, rfl, by decide +kernel, by decide +kernel⟩
  refine F.mk sc rfl rfl (fun _ _ _ _ _ _ us hl => match us, hl with | [_, _], _ => rfl) fun cdv A outer s H E hr => ?_
  exact (dss_cons (ds_own (i := 2) sc.nd rfl (by first | exact Or.inl rfl | exact Or.inr rfl) (df_lst da_nil)) (dss_cons (ds_set (i := 3) sc.nd rfl (by first | exact Or.inl rfl | exact Or.inr rfl) (dv_ty c_int (by rfl) z_int (by decide +kernel) (da_cons (dv_var (pv 0)) da_nil))) (dss_cons (ds_if (dt_cmp o_ge (dv_var (pv 3)) (dv_bin o_pow dv_int dv_int)) (dss_cons (ds_set (i := 3) sc.nd rfl (by first | exact Or.inl rfl | exact Or.inr rfl) (dv_bin o_sub (dv_var (pv 3)) (dv_bin o_pow dv_int dv_int))) (dss_cons (ds_for PassesOwn.never rfl (di_seq (dv_var (pv 1))) (dg_name (pg_name (i := 4) sc.nd rfl (by first | exact Or.inl rfl | exact Or.inr rfl))) (dss_cons (ds_app (i := 2) (pv 2) (dv_bin o_mod (dv_ty c_int (by rfl) z_int (by decide +kernel) (da_cons (dv_var (pv 3)) da_nil)) (dv_var (pv 4)))) (dss_one (ds_set (i := 3) sc.nd rfl (by first | exact Or.inl rfl | exact Or.inr rfl) (dv_bin o_fdiv (dv_ty c_int (by rfl) z_int (by decide +kernel) (da_cons (dv_var (pv 3)) da_nil)) (dv_var (pv 4))))))) (dss_one (ds_frz (S := [2]) (ds_ret (dv_var (pv 2))))))) dss_nil) (dss_cons (ds_set (i := 5) sc.nd rfl (by first | exact Or.inl rfl | exact Or.inr rfl) (dv_bin o_mod (dv_ty c_int (by rfl) z_int (by decide +kernel) (da_cons (dv_var (pv 3)) da_nil)) dv_int)) (dss_cons (ds_for PassesOwn.never rfl (di_rg1 (by rfl) z_range (dv_blt c_len (by rfl) z_len (by decide +kernel) (da_cons (dv_var (pv 1)) da_nil))) (dg_name (pg_name (i := 6) sc.nd rfl (by first | exact Or.inl rfl | exact Or.inr rfl))) (dss_cons (ds_set (i := 5) sc.nd rfl (by first | exact Or.inl rfl | exact Or.inr rfl) (dv_bin o_mod (dv_ty c_int (by rfl) z_int (by decide +kernel) (da_cons (dv_bin o_add (dv_bin o_add (dv_bin o_mul (dv_var (pv 5)) dv_int) (dv_bin o_mul dv_int (dv_var (pv 6)))) dv_int) da_nil)) dv_int)) (dss_cons (ds_set (i := 7) sc.nd rfl (by first | exact Or.inl rfl | exact Or.inr rfl) (dv_bin o_mod (dv_ty c_int (by rfl) z_int (by decide +kernel) (da_cons (dv_bin o_mul (dv_var (pv 5)) (dv_bin o_add (dv_bin o_fdiv (dv_var (pv 5)) dv_int) dv_int)) da_nil)) dv_int)) (dss_one (ds_app (i := 2) (pv 2) (dv_bin o_mod (dv_bin o_fdiv (dv_var (pv 7)) dv_int) (dv_ix ix_g (dv_var (pv 1)) (dv_var (pv 6))))))))) (dss_one (ds_frz (S := [2]) (ds_ret (dv_var (pv 2))))))))))
abbrev s__law_number : Stmt := top 52
noncomputable def b__law_number : ES := (sSeq (sSet 1 (eCall m__law_digits (aCons (eVar 0) (aCons (eOfF (aCons (eC (.int 8)) (aCons (eC (.int 2)) (aCons (eC (.int 100000)) (aCons (eC (.int 100000)) (aCons (eC (.int 100000)) (aCons (eC (.int 100000)) (aCons (eC (.int 100000)) (aCons (eC (.int 100000)) aNil))))))))) aNil)))) (sSeq (sSet 2 (eBin gMod (eAll mInt (aCons (eBin gIx (eVar 1) (eC (.int 2))) aNil)) (eBin gIx (eOfF (aCons (eC (.int 1)) (aCons (eC (.int 4)) (aCons (eC (.int 4)) (aCons (eC (.int 31)) (aCons (eC (.int 31)) (aCons (eC (.int 100000)) (aCons (eC (.int 100000)) (aCons (eC (.int 100000)) aNil))))))))) (eBin gIx (eVar 1) (eC (.int 0)))))) (sSeq (sIf (bVal (eBin gEq (eBin gIx (eVar 1) (eC (.int 0))) (eC (.int 6)))) (sSet 2 (eBin gAdd (eBin gMul (eBin gIx (eVar 1) (eC (.int 2))) (eC (.int 100000))) (eBin gIx (eVar 1) (eC (.int 3))))) sNx) (sSeq (sIf (bVal (eBin gEq (eBin gIx (eVar 1) (eC (.int 0))) (eC (.int 7)))) (sFor (iSeq (eSl (eVar 1) (oSome (eC (.int 3))) oNone)) (gNm 3) (sSet 2 (eBin gAdd (eBin gMul (eVar 2) (eC (.int 100000))) (eVar 3)))) sNx) (sRet (eBin gMul (eVar 2) (eBin gSub (eC (.int 1)) (eBin gMul (eC (.int 2)) (eBin gIx (eVar 1) (eC (.int 1)))))))))))
noncomputable def m__law_number : List PyData → Option PyData := runD 3 b__law_number
abbrev N__law_number : List Str := ["cell", "row", "number", "digit"]
theorem ok__law_number (F : Fd K mg "_law_number" s__law_number) (d__law_digits : Def P w K mg base "_law_digits" 1 2 m__law_digits) (z_int : mg "int" = none) : Def P w K mg base "_law_number" 2 1 m__law_number := by
  have sc : FnScope N__law_number ["cell"] (defScope s__law_number) := ⟨rfl, rfl, rfl, by decide +kernel, rfl, by decide +kernel, by decide +kernel⟩
  refine F.mk sc rfl rfl (fun _ _ _ _ _ _ us hl => match us, hl with | [_], _ => rfl) fun cdv A outer s H E hr => ?_
  exact (dss_cons (ds_set (i := 1) sc.nd rfl (by first | exact Or.inl rfl | exact Or.inr rfl) (dv_callD d__law_digits hr (da_cons (dv_var (pv 0)) (da_cons (dv_ofF (df_lst (da_cons dv_int (da_cons dv_int (da_cons dv_int (da_cons dv_int (da_cons dv_int (da_cons dv_int (da_cons dv_int (da_cons dv_int da_nil)))))))))) da_nil)))) (dss_cons (ds_set (i := 2) sc.nd rfl (by first | exact Or.inl rfl | exact Or.inr rfl) (dv_bin o_mod (dv_ty c_int (by rfl) z_int (by decide +kernel) (da_cons (dv_ix ix_g (dv_var (pv 1)) dv_int) da_nil)) (dv_ix ix_g (dv_ofF (df_lst (da_cons dv_int (da_cons dv_int (da_cons dv_int (da_cons dv_int (da_cons dv_int (da_cons dv_int (da_cons dv_int (da_cons dv_int da_nil)))))))))) (dv_ix ix_g (dv_var (pv 1)) dv_int)))) (dss_cons (ds_if (dt_cmp (o_eq hr.units) (dv_ix ix_g (dv_var (pv 1)) dv_int) dv_int) (dss_one (ds_set (i := 2) sc.nd rfl (by first | exact Or.inl rfl | exact Or.inr rfl) (dv_bin o_add (dv_bin o_mul (dv_ix ix_g (dv_var (pv 1)) dv_int) dv_int) (dv_ix ix_g (dv_var (pv 1)) dv_int)))) dss_nil) (dss_cons (ds_if (dt_cmp (o_eq hr.units) (dv_ix ix_g (dv_var (pv 1)) dv_int) dv_int) (dss_one (ds_for PassesOwn.never rfl (di_seq (dv_sl (dv_var (pv 1)) (do_some dv_int) do_none)) (dg_name (pg_name (i := 3) sc.nd rfl (by first | exact Or.inl rfl | exact Or.inr rfl))) (dss_one (ds_set (i := 2) sc.nd rfl (by first | exact Or.inl rfl | exact Or.inr rfl) (dv_bin o_add (dv_bin o_mul (dv_var (pv 2)) dv_int) (dv_var (pv 3))))))) dss_nil) (dss_one (ds_ret (dv_bin o_mul (dv_var (pv 2)) (dv_bin o_sub dv_int (dv_bin o_mul dv_int (dv_ix ix_g (dv_var (pv 1)) dv_int))))))))))
abbrev s__law_gcd : Stmt := top 53
noncomputable def b__law_gcd : ES := (sSeq (sSet 0 (eAll mAbs (aCons (eVar 0) aNil))) (sSeq (sSet 1 (eAll mAbs (aCons (eVar 1) aNil))) (sSeq (sFor (iRg1 (eC (.int 100000))) (gNm 2) (sSeq (sIf (bVal (eBin gEq (eVar 1) (eC (.int 0)))) (sRet (eVar 0)) sNx) (sSeq (sSet 3 (eBin gMod (eAll mInt (aCons (eVar 0) aNil)) (eVar 1))) (sSeq (sSet 0 (eVar 1)) (sSet 1 (eVar 3)))))) (sRet (eVar 0)))))
noncomputable def m__law_gcd : List PyData → Option PyData := runD 2 b__law_gcd
abbrev N__law_gcd : List Str := ["one", "two", "k", "rest"]
theorem ok__law_gcd (F : Fd K mg "_law_gcd" s__law_gcd) (z_abs : mg "abs" = none) (z_range : mg "range" = none) (z_int : mg "int" = none) : Def P w K mg base "_law_gcd" 1 2 m__law_gcd := by
  have sc : FnScope N__law_gcd ["one", "two"] (defScope s__law_gcd) := ⟨rfl, rfl, rfl, by decide +kernel, rfl, by decide +kernel, by decide +kernel⟩
  refine F.mk sc rfl rfl (fun _ _ _ _ _ _ us hl => match us, hl with | [_, _], _ => rfl) fun cdv A outer s H E hr => ?_
  exact (dss_cons (ds_set (i := 0) sc.nd rfl (by first | exact Or.inl rfl | exact Or.inr rfl) (dv_blt c_abs (by rfl) z_abs (by decide +kernel) (da_cons (dv_var (pv 0)) da_nil))) (dss_cons (ds_set (i := 1) sc.nd rfl (by first | exact Or.inl rfl | exact Or.inr rfl) (dv_blt c_abs (by rfl) z_abs (by decide +kernel) (da_cons (dv_var (pv 1)) da_nil))) (dss_cons (ds_for PassesOwn.never rfl (di_rg1 (by rfl) z_range dv_int) (dg_name (pg_name (i := 2) sc.nd rfl (by first | exact Or.inl rfl | exact Or.inr rfl))) (dss_cons (ds_if (dt_cmp (o_eq hr.units) (dv_var (pv 1)) dv_int) (dss_one (ds_ret (dv_var (pv 0)))) dss_nil) (dss_cons (ds_set (i := 3) sc.nd rfl (by first | exact Or.inl rfl | exact Or.inr rfl) (dv_bin o_mod (dv_ty c_int (by rfl) z_int (by decide +kernel) (da_cons (dv_var (pv 0)) da_nil)) (dv_var (pv 1)))) (dss_cons (ds_set (i := 0) sc.nd rfl (by first | exact Or.inl rfl | exact Or.inr rfl) (dv_var (pv 1))) (dss_one (ds_set (i := 1) sc.nd rfl (by first | exact Or.inl rfl | exact Or.inr rfl) (dv_var (pv 3)))))))) (dss_one (ds_ret (dv_var (pv 0)))))))
abbrev s__law_handed : Stmt := top 54
noncomputable def b__law_handed : ES := (sSeq (sIf (bVal (eBin gEq (eVar 1) (eC (.int 0)))) (sRet (eAll mTuple (aCons (eVar 0) aNil))) sNx) (sRet (eOfF (fComp (iSeq (eVar 0)) (gNm 2) bYes (eVar 2) [2]))))
noncomputable def m__law_handed : List PyData → Option PyData := runD 1 b__law_handed
abbrev N__law_handed : List Str := ["row", "wish", "number"]
theorem ok__law_handed (F : Fd K mg "_law_handed" s__law_handed) (z_tuple : mg "tuple" = none) : Def P w K mg base "_law_handed" 1 2 m__law_handed := by
  have sc : FnScope N__law_handed ["row", "wish"] (defScope s__law_handed) := ⟨rfl, rfl, rfl, by decide +kernel, rfl, by decide +kernel, by decide +kernel⟩
  refine F.mk sc rfl rfl (fun _ _ _ _ _ _ us hl => match us, hl with | [_, _], _ => rfl) fun cdv A outer s H E hr => ?_
  exact (dss_cons (ds_if (dt_cmp (o_eq hr.units) (dv_var (pv 1)) dv_int) (dss_one (ds_ret (dv_ty c_tuple (by rfl) z_tuple (by decide +kernel) (da_cons (dv_var (pv 0)) da_nil)))) dss_nil) (dss_one (ds_ret (dv_ofF (df_comp (own := [("number", 2)]) rfl sc.nd (di_seq (dv_var (pv 0))) (blkOk_by (N := N__law_handed) (sc := defScope s__law_handed) (by decide +kernel)) (fun _ _ _ _ _ => (dg_name (pg_name (i := 2) sc.nd rfl (by first | exact Or.inl rfl | exact Or.inr rfl)))) (fun _ _ _ _ _ => dx_nil) (fun _ _ _ _ _ => (dv_var (pv 2))))))))
abbrev s__law_roots_right : Stmt := top 55
noncomputable def b__law_roots_right : ES := (sSeq (sSet 1 (eCall m_root (aCons (eVar 0) aNil))) (sSeq (sSet 2 (eCall m_root_up (aCons (eVar 0) aNil))) (sSeq (sIf (bOr (bNot (bVal (eCall m__law_whole (aCons (eVar 1) aNil)))) (bOr (bNot (bVal (eCall m__law_whole (aCons (eVar 2) aNil)))) (bOr (bVal (eBin gLt (eVar 1) (eC (.int 0)))) (bVal (eBin gLt (eVar 2) (eC (.int 0))))))) (sRet (eC (.bool false))) sNx) (sSeq (sIf (bOr (bVal (eBin gGt (eBin gMul (eVar 1) (eVar 1)) (eVar 0))) (bVal (eBin gLe (eBin gMul (eBin gAdd (eVar 1) (eC (.int 1))) (eBin gAdd (eVar 1) (eC (.int 1)))) (eVar 0)))) (sRet (eC (.bool false))) sNx) (sRet (eAnd (eBin gGe (eBin gMul (eVar 2) (eVar 2)) (eVar 0)) (eOr (eBin gEq (eVar 2) (eC (.int 0))) (eBin gLt (eBin gMul (eBin gSub (eVar 2) (eC (.int 1))) (eBin gSub (eVar 2) (eC (.int 1)))) (eVar 0)))))))))
noncomputable def m__law_roots_right : List PyData → Option PyData := runD 2 b__law_roots_right
abbrev N__law_roots_right : List Str := ["number", "low", "high"]
theorem ok__law_roots_right (F : Fd K mg "_law_roots_right" s__law_roots_right) (d_root : Def P w K mg base "root" 1 1 m_root) (d_root_up : Def P w K mg base "root_up" 1 1 m_root_up) (d__law_whole : Def P w K mg base "_law_whole" 1 1 m__law_whole) : Def P w K mg base "_law_roots_right" 2 1 m__law_roots_right := by
  have sc : FnScope N__law_roots_right ["number"] (defScope s__law_roots_right) := ⟨rfl, rfl, rfl, by decide +kernel, rfl, by decide +kernel, by decide +kernel⟩
  refine F.mk sc rfl rfl (fun _ _ _ _ _ _ us hl => match us, hl with | [_], _ => rfl) fun cdv A outer s H E hr => ?_
  exact (dss_cons (ds_set (i := 1) sc.nd rfl (by first | exact Or.inl rfl | exact Or.inr rfl) (dv_callD d_root hr (da_cons (dv_var (pv 0)) da_nil))) (dss_cons (ds_set (i := 2) sc.nd rfl (by first | exact Or.inl rfl | exact Or.inr rfl) (dv_callD d_root_up hr (da_cons (dv_var (pv 0)) da_nil))) (dss_cons (ds_if (dt_w (dw_or (dt_not (dt_val (dv_callD d__law_whole hr (da_cons (dv_var (pv 1)) da_nil)))) (dw_or (dt_not (dt_val (dv_callD d__law_whole hr (da_cons (dv_var (pv 2)) da_nil)))) (dw_or (dt_cmp o_lt (dv_var (pv 1)) dv_int) (dw_or1 (dt_cmp o_lt (dv_var (pv 2)) dv_int)))))) (dss_one (ds_ret dv_bl)) dss_nil) (dss_cons (ds_if (dt_w (dw_or (dt_cmp o_gt (dv_bin o_mul (dv_var (pv 1)) (dv_var (pv 1))) (dv_var (pv 0))) (dw_or1 (dt_cmp o_le (dv_bin o_mul (dv_bin o_add (dv_var (pv 1)) dv_int) (dv_bin o_add (dv_var (pv 1)) dv_int)) (dv_var (pv 0)))))) (dss_one (ds_ret dv_bl)) dss_nil) (dss_one (ds_ret (dv_and (dv_cmp o_ge (dv_bin o_mul (dv_var (pv 2)) (dv_var (pv 2))) (dv_var (pv 0))) (dv_one (dv_or (dv_cmp (o_eq hr.units) (dv_var (pv 2)) dv_int) (dv_one (dv_cmp o_lt (dv_bin o_mul (dv_bin o_sub (dv_var (pv 2)) dv_int) (dv_bin o_sub (dv_var (pv 2)) dv_int)) (dv_var (pv 0)))))))))))))
abbrev s__law_ceiling_right : Stmt := top 56
noncomputable def b__law_ceiling_right : ES := (sSeq (sSet 2 (eCall m_ceiling (aCons (eVar 0) (aCons (eVar 1) aNil)))) (sRet (eAnd (eCall m__law_whole (aCons (eVar 2) aNil)) (eAnd (eBin gGe (eBin gMul (eVar 2) (eVar 1)) (eVar 0)) (eBin gLt (eBin gMul (eBin gSub (eVar 2) (eC (.int 1))) (eVar 1)) (eVar 0))))))
noncomputable def m__law_ceiling_right : List PyData → Option PyData := runD 1 b__law_ceiling_right
abbrev N__law_ceiling_right : List Str := ["top", "bottom", "told"]
theorem ok__law_ceiling_right (F : Fd K mg "_law_ceiling_right" s__law_ceiling_right) (d_ceiling : Def P w K mg base "ceiling" 1 2 m_ceiling) (d__law_whole : Def P w K mg base "_law_whole" 1 1 m__law_whole) : Def P w K mg base "_law_ceiling_right" 2 2 m__law_ceiling_right := by
  have sc : FnScope N__law_ceiling_right ["top", "bottom"] (defScope s__law_ceiling_right) := ⟨rfl, rfl, rfl, by decide +kernel, rfl, by decide +kernel, by decide +kernel⟩
  refine F.mk sc rfl rfl (fun _ _ _ _ _ _ us hl => match us, hl with | [_, _], _ => rfl) fun cdv A outer s H E hr => ?_
  exact (dss_cons (ds_set (i := 2) sc.nd rfl (by first | exact Or.inl rfl | exact Or.inr rfl) (dv_callD d_ceiling hr (da_cons (dv_var (pv 0)) (da_cons (dv_var (pv 1)) da_nil)))) (dss_one (ds_ret (dv_and (dv_callD d__law_whole hr (da_cons (dv_var (pv 2)) da_nil)) (dv_and (dv_cmp o_ge (dv_bin o_mul (dv_var (pv 2)) (dv_var (pv 1))) (dv_var (pv 0))) (dv_one (dv_cmp o_lt (dv_bin o_mul (dv_bin o_sub (dv_var (pv 2)) dv_int) (dv_var (pv 1))) (dv_var (pv 0)))))))))
abbrev s__law_bezout_right : Stmt := top 57
noncomputable def b__law_bezout_right : ES := (sSeq (sSet 2 (eCall m_bezout (aCons (eVar 0) (aCons (eVar 1) aNil)))) (sSeq (sIf (bOr (bNot (bVal (eCall m__law_is_row (aCons (eVar 2) (aCons (eC (.int 3)) aNil))))) (bVal (eBin gNe (eBin gIx (eVar 2) (eC (.int 0))) (eCall m__law_gcd (aCons (eVar 0) (aCons (eVar 1) aNil)))))) (sRet (eC (.bool false))) sNx) (sSeq (sSet 3 (eCall m_bezout (aCons (eVar 0) (aCons (eVar 1) aNil)))) (sRet (eAnd (eBin gEq (eBin gAdd (eBin gMul (eBin gIx (eVar 2) (eC (.int 1))) (eVar 0)) (eBin gMul (eBin gIx (eVar 2) (eC (.int 2))) (eVar 1))) (eBin gIx (eVar 2) (eC (.int 0)))) (eAnd (eCall m__law_is_row (aCons (eVar 3) (aCons (eC (.int 3)) aNil))) (eBin gEq (eVar 3) (eVar 2))))))))
noncomputable def m__law_bezout_right : List PyData → Option PyData := runD 2 b__law_bezout_right
abbrev N__law_bezout_right : List Str := ["one", "two", "told", "again"]
theorem ok__law_bezout_right (F : Fd K mg "_law_bezout_right" s__law_bezout_right) (d_bezout : Def P w K mg base "bezout" 1 2 m_bezout) (d__law_gcd : Def P w K mg base "_law_gcd" 1 2 m__law_gcd) (d__law_is_row : Def P w K mg base "_law_is_row" 2 2 m__law_is_row) : Def P w K mg base "_law_bezout_right" 3 2 m__law_bezout_right := by
  have sc : FnScope N__law_bezout_right ["one", "two"] (defScope s__law_bezout_right) := ⟨rfl, rfl, rfl, by decide +kernel, rfl, by decide +kernel, by decide +kernel⟩
  refine F.mk sc rfl rfl (fun _ _ _ _ _ _ us hl => match us, hl with | [_, _], _ => rfl) fun cdv A outer s H E hr => ?_
  exact (dss_cons (ds_set (i := 2) sc.nd rfl (by first | exact Or.inl rfl | exact Or.inr rfl) (dv_callD d_bezout hr (da_cons (dv_var (pv 0)) (da_cons (dv_var (pv 1)) da_nil)))) (dss_cons (ds_if (dt_w (dw_or (dt_not (dt_val (dv_callD d__law_is_row hr (da_cons (dv_var (pv 2)) (da_cons dv_int da_nil))))) (dw_or1 (dt_cmp (o_ne hr.units) (dv_ix ix_g (dv_var (pv 2)) dv_int) (dv_callD d__law_gcd hr (da_cons (dv_var (pv 0)) (da_cons (dv_var (pv 1)) da_nil))))))) (dss_one (ds_ret dv_bl)) dss_nil) (dss_cons (ds_set (i := 3) sc.nd rfl (by first | exact Or.inl rfl | exact Or.inr rfl) (dv_callD d_bezout hr (da_cons (dv_var (pv 0)) (da_cons (dv_var (pv 1)) da_nil)))) (dss_one (ds_ret (dv_and (dv_cmp (o_eq hr.units) (dv_bin o_add (dv_bin o_mul (dv_ix ix_g (dv_var (pv 2)) dv_int) (dv_var (pv 0))) (dv_bin o_mul (dv_ix ix_g (dv_var (pv 2)) dv_int) (dv_var (pv 1)))) (dv_ix ix_g (dv_var (pv 2)) dv_int)) (dv_and (dv_callD d__law_is_row hr (da_cons (dv_var (pv 3)) (da_cons dv_int da_nil))) (dv_one (dv_cmp (o_eq hr.units) (dv_var (pv 3)) (dv_var (pv 2)))))))))))
abbrev s__law_prime : Stmt := top 58
noncomputable def b__law_prime : ES := (sSeq (sFor (iRg2 (eC (.int 2)) (eC (.int 31624))) (gNm 1) (sSeq (sIf (bVal (eBin gGt (eBin gMul (eVar 1) (eVar 1)) (eVar 0))) (sRet (eC (.bool true))) sNx) (sIf (bVal (eBin gEq (eBin gMod (eAll mInt (aCons (eVar 0) aNil)) (eVar 1)) (eC (.int 0)))) (sRet (eC (.bool false))) sNx))) (sRet (eC (.bool false))))
noncomputable def m__law_prime : List PyData → Option PyData := runD 1 b__law_prime
abbrev N__law_prime : List Str := ["number", "k"]
theorem ok__law_prime (F : Fd K mg "_law_prime" s__law_prime) (z_range : mg "range" = none) (z_int : mg "int" = none) : Def P w K mg base "_law_prime" 1 1 m__law_prime := by
  have sc : FnScope N__law_prime ["number"] (defScope s__law_prime) := ⟨rfl, rfl, rfl, by decide +kernel, rfl, by decide +kernel, by decide +kernel⟩
  refine F.mk sc rfl rfl (fun _ _ _ _ _ _ us hl => match us, hl with | [_], _ => rfl) fun cdv A outer s H E hr => ?_
  exact (dss_cons (ds_for PassesOwn.never rfl (di_rg2 (by rfl) z_range dv_int dv_int) (dg_name (pg_name (i := 1) sc.nd rfl (by first | exact Or.inl rfl | exact Or.inr rfl))) (dss_cons (ds_if (dt_cmp o_gt (dv_bin o_mul (dv_var (pv 1)) (dv_var (pv 1))) (dv_var (pv 0))) (dss_one (ds_ret dv_bl)) dss_nil) (dss_one (ds_if (dt_cmp (o_eq hr.units) (dv_bin o_mod (dv_ty c_int (by rfl) z_int (by decide +kernel) (da_cons (dv_var (pv 0)) da_nil)) (dv_var (pv 1))) dv_int) (dss_one (ds_ret dv_bl)) dss_nil)))) (dss_one (ds_ret dv_bl)))
abbrev s__law_powers_right : Stmt := top 59
noncomputable def b__law_powers_right : ES := (sSeq (sSet 1 (eCall m_prime_powers (aCons (eVar 0) aNil))) (sSeq (sIf (bOr (bNot (bVal (eIs Ty.tuple (eVar 1)))) (bVal (eBin gGt (eAll mLen (aCons (eVar 1) aNil)) (eC (.int 9))))) (sRet (eC (.bool false))) sNx) (sSeq (sSet 2 (eC (.int 1))) (sSeq (sSet 3 (eC (.int 1))) (sSeq (sFor (iSeq (eVar 1)) (gNm 4) (sSeq (sIf (bOr (bNot (bVal (eCall m__law_is_row (aCons (eVar 4) (aCons (eC (.int 2)) aNil))))) (bOr (bVal (eBin gLe (eBin gIx (eVar 4) (eC (.int 0))) (eVar 2))) (bOr (bVal (eBin gGt (eBin gIx (eVar 4) (eC (.int 0))) (eVar 0))) (bOr (bVal (eBin gLt (eBin gIx (eVar 4) (eC (.int 1))) (eC (.int 1)))) (bVal (eBin gGt (eBin gIx (eVar 4) (eC (.int 1))) (eC (.int 29)))))))) (sRet (eC (.bool false))) sNx) (sSeq (sFor (iRg1 (eBin gIx (eVar 4) (eC (.int 1)))) (gNm 5) (sSet 3 (eBin gMul (eVar 3) (eBin gIx (eVar 4) (eC (.int 0)))))) (sSeq (sIf (bOr (bVal (eBin gGt (eVar 3) (eVar 0))) (bNot (bVal (eCall m__law_prime (aCons (eBin gIx (eVar 4) (eC (.int 0))) aNil))))) (sRet (eC (.bool false))) sNx) (sSeq (sSet 6 (eCall m_valuation (aCons (eUn gNeg (eVar 0)) (aCons (eBin gIx (eVar 4) (eC (.int 0))) aNil)))) (sSeq (sIf (bOr (bNot (bVal (eCall m__law_whole (aCons (eVar 6) aNil)))) (bVal (eBin gNe (eVar 6) (eBin gIx (eVar 4) (eC (.int 1)))))) (sRet (eC (.bool false))) sNx) (sSet 2 (eBin gIx (eVar 4) (eC (.int 0)))))))))) (sRet (eBin gEq (eVar 3) (eVar 0))))))))
noncomputable def m__law_powers_right : List PyData → Option PyData := runD 6 b__law_powers_right
abbrev N__law_powers_right : List Str := ["number", "told", "last", "whole", "pair", "k", "often"]
theorem ok__law_powers_right (F : Fd K mg "_law_powers_right" s__law_powers_right) (d_prime_powers : Def P w K mg base "prime_powers" 1 1 m_prime_powers) (d__law_is_row : Def P w K mg base "_law_is_row" 2 2 m__law_is_row) (d__law_prime : Def P w K mg base "_law_prime" 1 1 m__law_prime) (d_valuation : Def P w K mg base "valuation" 1 2 m_valuation) (d__law_whole : Def P w K mg base "_law_whole" 1 1 m__law_whole) (z_len : mg "len" = none) (z_isinstance : mg "isinstance" = none) (z_tuple : mg "tuple" = none) (z_range : mg "range" = none) : Def P w K mg base "_law_powers_right" 3 1 m__law_powers_right := by
  have sc : FnScope N__law_powers_right ["number"] (defScope s__law_powers_right) := ⟨rfl, rfl, rfl, by decide +kernel, rfl, by decide +kernel, by decide +kernel⟩
  refine F.mk sc rfl rfl (fun _ _ _ _ _ _ us hl => match us, hl with | [_], _ => rfl) fun cdv A outer s H E hr => ?_
  exact (dss_cons (ds_set (i := 1) sc.nd rfl (by first | exact Or.inl rfl | exact Or.inr rfl) (dv_callD d_prime_powers hr (da_cons (dv_var (pv 0)) da_nil))) (dss_cons (ds_if (dt_w (dw_or (dt_not (dt_val (dv_isi (T := Ty.tuple) (by rfl) z_isinstance rfl (by rfl) z_tuple (by decide +kernel) (dv_var (pv 1))))) (dw_or1 (dt_cmp o_gt (dv_blt c_len (by rfl) z_len (by decide +kernel) (da_cons (dv_var (pv 1)) da_nil)) dv_int)))) (dss_one (ds_ret dv_bl)) dss_nil) (dss_cons (ds_set (i := 2) sc.nd rfl (by first | exact Or.inl rfl | exact Or.inr rfl) dv_int) (dss_cons (ds_set (i := 3) sc.nd rfl (by first | exact Or.inl rfl | exact Or.inr rfl) dv_int) (dss_cons (ds_for PassesOwn.never rfl (di_seq (dv_var (pv 1))) (dg_name (pg_name (i := 4) sc.nd rfl (by first | exact Or.inl rfl | exact Or.inr rfl))) (dss_cons (ds_if (dt_w (dw_or (dt_not (dt_val (dv_callD d__law_is_row hr (da_cons (dv_var (pv 4)) (da_cons dv_int da_nil))))) (dw_or (dt_cmp o_le (dv_ix ix_g (dv_var (pv 4)) dv_int) (dv_var (pv 2))) (dw_or (dt_cmp o_gt (dv_ix ix_g (dv_var (pv 4)) dv_int) (dv_var (pv 0))) (dw_or (dt_cmp o_lt (dv_ix ix_g (dv_var (pv 4)) dv_int) dv_int) (dw_or1 (dt_cmp o_gt (dv_ix ix_g (dv_var (pv 4)) dv_int) dv_int))))))) (dss_one (ds_ret dv_bl)) dss_nil) (dss_cons (ds_for PassesOwn.never rfl (di_rg1 (by rfl) z_range (dv_ix ix_g (dv_var (pv 4)) dv_int)) (dg_name (pg_name (i := 5) sc.nd rfl (by first | exact Or.inl rfl | exact Or.inr rfl))) (dss_one (ds_set (i := 3) sc.nd rfl (by first | exact Or.inl rfl | exact Or.inr rfl) (dv_bin o_mul (dv_var (pv 3)) (dv_ix ix_g (dv_var (pv 4)) dv_int))))) (dss_cons (ds_if (dt_w (dw_or (dt_cmp o_gt (dv_var (pv 3)) (dv_var (pv 0))) (dw_or1 (dt_not (dt_val (dv_callD d__law_prime hr (da_cons (dv_ix ix_g (dv_var (pv 4)) dv_int) da_nil))))))) (dss_one (ds_ret dv_bl)) dss_nil) (dss_cons (ds_set (i := 6) sc.nd rfl (by first | exact Or.inl rfl | exact Or.inr rfl) (dv_callD d_valuation hr (da_cons (dv_un u_neg (dv_var (pv 0))) (da_cons (dv_ix ix_g (dv_var (pv 4)) dv_int) da_nil)))) (dss_cons (ds_if (dt_w (dw_or (dt_not (dt_val (dv_callD d__law_whole hr (da_cons (dv_var (pv 6)) da_nil)))) (dw_or1 (dt_cmp (o_ne hr.units) (dv_var (pv 6)) (dv_ix ix_g (dv_var (pv 4)) dv_int))))) (dss_one (ds_ret dv_bl)) dss_nil) (dss_one (ds_set (i := 2) sc.nd rfl (by first | exact Or.inl rfl | exact Or.inr rfl) (dv_ix ix_g (dv_var (pv 4)) dv_int))))))))) (dss_one (ds_ret (dv_cmp (o_eq hr.units) (dv_var (pv 3)) (dv_var (pv 0))))))))))
abbrev s__law_number_for_powers : Stmt := top 60
noncomputable def b__law_number_for_powers : ES := (sSeq (sSet 1 (eCall m__law_digits (aCons (eVar 0) (aCons (eOfF (aCons (eC (.int 8)) (aCons (eC (.int 30)) (aCons (eC (.int 1000)) (aCons (eC (.int 7)) (aCons (eC (.int 97)) (aCons (eC (.int 97)) (aCons (eC (.int 97)) (aCons (eC (.int 97)) (aCons (eC (.int 97)) (aCons (eC (.int 97)) (aCons (eC (.int 30)) (aCons (eC (.int 31622)) (aCons (eC (.int 31623)) (aCons (eC (.int 31623)) (aCons (eC (.int 100)) aNil)))))))))))))))) aNil)))) (sSeq (sIf (bVal (eBin gEq (eBin gIx (eVar 1) (eC (.int 0))) (eC (.int 0)))) (sRet (eBin gAdd (eC (.int 1)) (eBin gIx (eVar 1) (eC (.int 1))))) sNx) (sSeq (sIf (bVal (eBin gEq (eBin gIx (eVar 1) (eC (.int 0))) (eC (.int 1)))) (sRet (eBin gAdd (eC (.int 1)) (eBin gIx (eVar 1) (eC (.int 2))))) sNx) (sSeq (sIf (bVal (eBin gEq (eBin gIx (eVar 1) (eC (.int 0))) (eC (.int 5)))) (sRet (eBin gMul (eBin gAdd (eC (.int 1)) (eBin gIx (eVar 1) (eC (.int 11)))) (eBin gAdd (eC (.int 1)) (eBin gIx (eVar 1) (eC (.int 11)))))) sNx) (sSeq (sIf (bVal (eBin gEq (eBin gIx (eVar 1) (eC (.int 0))) (eC (.int 6)))) (sRet (eBin gSub (eBin gPow (eC (.int 10)) (eC (.int 9))) (eBin gIx (eVar 1) (eC (.int 14))))) sNx) (sSeq (sIf (bVal (eBin gEq (eBin gIx (eVar 1) (eC (.int 0))) (eC (.int 7)))) (sRet (eBin gAdd (eC (.int 1)) (eBin gMod (eAll mInt (aCons (eBin gAdd (eBin gMul (eBin gIx (eVar 1) (eC (.int 12))) (eC (.int 31623))) (eBin gIx (eVar 1) (eC (.int 13)))) aNil)) (eBin gPow (eC (.int 10)) (eC (.int 9)))))) sNx) (sSeq (sSetF 2 (fComp (iSeq (eSl (eVar 1) (oSome (eC (.int 4))) (oSome (eBin gAdd (eC (.int 4)) (eBin gIx (eVar 1) (eC (.int 3))))))) (gNm 5) bYes (eBin gAdd (eC (.int 1)) (eVar 5)) [5])) (sSeq (sIf (bVal (eBin gEq (eBin gIx (eVar 1) (eC (.int 0))) (eC (.int 4)))) (sSetF 2 (fComp (iRg1 (eBin gIx (eVar 1) (eC (.int 10)))) (gNm 6) bYes (eBin gAdd (eC (.int 2)) (eBin gMod (eAll mInt (aCons (eBin gIx (eVar 1) (eC (.int 4))) aNil)) (eC (.int 9)))) [6])) sNx) (sSeq (sSet 3 (eC (.int 1))) (sSeq (sFor (iSeq (eVar 2)) (gNm 4) (sIf (bVal (eBin gLe (eBin gMul (eVar 3) (eVar 4)) (eBin gPow (eC (.int 10)) (eC (.int 9))))) (sSet 3 (eBin gMul (eVar 3) (eVar 4))) sNx)) (sRet (eVar 3))))))))))))
noncomputable def m__law_number_for_powers : List PyData → Option PyData := runD 6 b__law_number_for_powers
abbrev N__law_number_for_powers : List Str := ["cell", "row", "factors", "number", "factor", "digit", "k"]
theorem ok__law_number_for_powers (F : Fd K mg "_law_number_for_powers" s__law_number_for_powers) (d__law_digits : Def P w K mg base "_law_digits" 1 2 m__law_digits) (z_int : mg "int" = none) (z_range : mg "range" = none) : Def P w K mg base "_law_number_for_powers" 2 1 m__law_number_for_powers := by
  have sc : FnScope N__law_number_for_powers ["cell"] (defScope s__law_number_for_powers) := ⟨rfl, rfl, rfl, by decide +kernel, rfl, by decide +kernel, by decide +kernel⟩
  refine F.mk sc rfl rfl (fun _ _ _ _ _ _ us hl => match us, hl with | [_], _ => rfl) fun cdv A outer s H E hr => ?_
  exact (dss_cons (ds_set (i := 1) sc.nd rfl (by first | exact Or.inl rfl | exact Or.inr rfl) (dv_callD d__law_digits hr (da_cons (dv_var (pv 0)) (da_cons (dv_ofF (df_lst (da_cons dv_int (da_cons dv_int (da_cons dv_int (da_cons dv_int (da_cons dv_int (da_cons dv_int (da_cons dv_int (da_cons dv_int (da_cons dv_int (da_cons dv_int (da_cons dv_int (da_cons dv_int (da_cons dv_int (da_cons dv_int (da_cons dv_int da_nil))))))))))))))))) da_nil)))) (dss_cons (ds_if (dt_cmp (o_eq hr.units) (dv_ix ix_g (dv_var (pv 1)) dv_int) dv_int) (dss_one (ds_ret (dv_bin o_add dv_int (dv_ix ix_g (dv_var (pv 1)) dv_int)))) dss_nil) (dss_cons (ds_if (dt_cmp (o_eq hr.units) (dv_ix ix_g (dv_var (pv 1)) dv_int) dv_int) (dss_one (ds_ret (dv_bin o_add dv_int (dv_ix ix_g (dv_var (pv 1)) dv_int)))) dss_nil) (dss_cons (ds_if (dt_cmp (o_eq hr.units) (dv_ix ix_g (dv_var (pv 1)) dv_int) dv_int) (dss_one (ds_ret (dv_bin o_mul (dv_bin o_add dv_int (dv_ix ix_g (dv_var (pv 1)) dv_int)) (dv_bin o_add dv_int (dv_ix ix_g (dv_var (pv 1)) dv_int))))) dss_nil) (dss_cons (ds_if (dt_cmp (o_eq hr.units) (dv_ix ix_g (dv_var (pv 1)) dv_int) dv_int) (dss_one (ds_ret (dv_bin o_sub (dv_bin o_pow dv_int dv_int) (dv_ix ix_g (dv_var (pv 1)) dv_int)))) dss_nil) (dss_cons (ds_if (dt_cmp (o_eq hr.units) (dv_ix ix_g (dv_var (pv 1)) dv_int) dv_int) (dss_one (ds_ret (dv_bin o_add dv_int (dv_bin o_mod (dv_ty c_int (by rfl) z_int (by decide +kernel) (da_cons (dv_bin o_add (dv_bin o_mul (dv_ix ix_g (dv_var (pv 1)) dv_int) dv_int) (dv_ix ix_g (dv_var (pv 1)) dv_int)) da_nil)) (dv_bin o_pow dv_int dv_int))))) dss_nil) (dss_cons (ds_lcV (i := 2) (own := [("digit", 5)]) rfl sc.nd rfl rfl (sw_true rfl rfl rfl (by decide +kernel)) (di_seq (dv_sl (dv_var (pv 1)) (do_some dv_int) (do_some (dv_bin o_add dv_int (dv_ix ix_g (dv_var (pv 1)) dv_int))))) (blkOk_by (N := N__law_number_for_powers) (sc := defScope s__law_number_for_powers) (by decide +kernel)) (fun _ _ _ _ _ => (dg_name (pg_name (i := 5) sc.nd rfl (by first | exact Or.inl rfl | exact Or.inr rfl)))) (fun _ _ _ _ _ => dx_nil) (fun _ _ _ _ _ => (dv_bin o_add dv_int (dv_var (pv 5))))) (dss_cons (ds_if (dt_cmp (o_eq hr.units) (dv_ix ix_g (dv_var (pv 1)) dv_int) dv_int) (dss_one (ds_lcV (i := 2) (own := [("k", 6)]) rfl sc.nd rfl rfl (sw_true rfl rfl rfl (by decide +kernel)) (di_rg1 (by rfl) z_range (dv_ix ix_g (dv_var (pv 1)) dv_int)) (blkOk_by (N := N__law_number_for_powers) (sc := defScope s__law_number_for_powers) (by decide +kernel)) (fun _ _ _ _ _ => (dg_name (pg_name (i := 6) sc.nd rfl (by first | exact Or.inl rfl | exact Or.inr rfl)))) (fun _ _ _ _ _ => dx_nil) (fun _ _ _ _ _ => (dv_bin o_add dv_int (dv_bin o_mod (dv_ty c_int (by rfl) z_int (by decide +kernel) (da_cons (dv_ix ix_g (dv_var (pv 1)) dv_int) da_nil)) dv_int))))) dss_nil) (dss_cons (ds_set (i := 3) sc.nd rfl (by first | exact Or.inl rfl | exact Or.inr rfl) dv_int) (dss_cons (ds_for PassesOwn.never rfl (di_seq (dv_var (pv 2))) (dg_name (pg_name (i := 4) sc.nd rfl (by first | exact Or.inl rfl | exact Or.inr rfl))) (dss_one (ds_if (dt_cmp o_le (dv_bin o_mul (dv_var (pv 3)) (dv_var (pv 4))) (dv_bin o_pow dv_int dv_int)) (dss_one (ds_set (i := 3) sc.nd rfl (by first | exact Or.inl rfl | exact Or.inr rfl) (dv_bin o_mul (dv_var (pv 3)) (dv_var (pv 4))))) dss_nil))) (dss_one (ds_ret (dv_var (pv 3))))))))))))))
abbrev s__law_least_prime : Stmt := top 61
noncomputable def b__law_least_prime : ES := (sSeq (sFor (iRg2 (eC (.int 2)) (eC (.int 1001))) (gNm 1) (sIf (bVal (eBin gEq (eBin gMod (eAll mInt (aCons (eVar 0) aNil)) (eVar 1)) (eC (.int 0)))) (sRet (eVar 1)) sNx)) (sRet (eVar 0)))
noncomputable def m__law_least_prime : List PyData → Option PyData := runD 1 b__law_least_prime
abbrev N__law_least_prime : List Str := ["number", "k"]
theorem ok__law_least_prime (F : Fd K mg "_law_least_prime" s__law_least_prime) (z_range : mg "range" = none) (z_int : mg "int" = none) : Def P w K mg base "_law_least_prime" 1 1 m__law_least_prime := by
  have sc : FnScope N__law_least_prime ["number"] (defScope s__law_least_prime) := ⟨rfl, rfl, rfl, by decide +kernel, rfl, by decide +kernel, by decide +kernel⟩
  refine F.mk sc rfl rfl (fun _ _ _ _ _ _ us hl => match us, hl with | [_], _ => rfl) fun cdv A outer s H E hr => ?_
  exact (dss_cons (ds_for PassesOwn.never rfl (di_rg2 (by rfl) z_range dv_int dv_int) (dg_name (pg_name (i := 1) sc.nd rfl (by first | exact Or.inl rfl | exact Or.inr rfl))) (dss_one (ds_if (dt_cmp (o_eq hr.units) (dv_bin o_mod (dv_ty c_int (by rfl) z_int (by decide +kernel) (da_cons (dv_var (pv 0)) da_nil)) (dv_var (pv 1))) dv_int) (dss_one (ds_ret (dv_var (pv 1)))) dss_nil))) (dss_one (ds_ret (dv_var (pv 0)))))
abbrev s__law_valuation_right : Stmt := top 62
noncomputable def b__law_valuation_right : ES := (sSeq (sSet 2 (eCall m__law_digits (aCons (eVar 0) (aCons (eOfF (aCons (eC (.int 3)) (aCons (eC (.int 10)) (aCons (eC (.int 1000)) (aCons (eC (.int 999999)) (aCons (eC (.int 41)) (aCons (eC (.int 8)) (aCons (eC (.int 201)) aNil)))))))) aNil)))) (sSeq (sSet 3 (eCall m__law_least_prime (aCons (eBin gAdd (eC (.int 2)) (eBin gIx (eVar 2) (eBin gAdd (eC (.int 1)) (eBin gIx (eVar 2) (eC (.int 0)))))) aNil))) (sSeq (sSet 4 (eVar 1)) (sSeq (sIf (bVal (eBin gEq (eVar 1) (eC (.int 0)))) (sSet 4 (eC (.int 1))) sNx) (sSeq (sSet 5 (eBin gIx (eVar 2) (eC (.int 4)))) (sSeq (sIf (bVal (eBin gEq (eBin gIx (eVar 2) (eC (.int 5))) (eC (.int 0)))) (sSet 5 (eBin gIx (eVar 2) (eC (.int 6)))) sNx) (sSeq (sFor (iRg1 (eVar 5)) (gNm 6) (sSet 4 (eBin gMul (eVar 4) (eVar 3)))) (sSeq (sSet 7 (eC (.int 0))) (sSeq (sSet 8 (eVar 4)) (sSeq (sFor (iRg1 (eC (.int 1000))) (gNm 6) (sSeq (sIf (bVal (eBin gNe (eBin gMod (eAll mInt (aCons (eVar 8) aNil)) (eVar 3)) (eC (.int 0)))) sBk sNx) (sSeq (sSet 8 (eBin gFdiv (eVar 8) (eVar 3))) (sSet 7 (eBin gAdd (eVar 7) (eC (.int 1))))))) (sSeq (sSet 9 (eCall m_valuation (aCons (eVar 4) (aCons (eVar 3) aNil)))) (sRet (eAnd (eCall m__law_whole (aCons (eVar 9) aNil)) (eBin gEq (eVar 9) (eVar 7)))))))))))))))
noncomputable def m__law_valuation_right : List PyData → Option PyData := runD 8 b__law_valuation_right
abbrev N__law_valuation_right : List Str := ["cell", "cofactor", "row", "prime", "number", "many", "k", "due", "rest", "told"]
theorem ok__law_valuation_right (F : Fd K mg "_law_valuation_right" s__law_valuation_right) (d__law_digits : Def P w K mg base "_law_digits" 1 2 m__law_digits) (d__law_least_prime : Def P w K mg base "_law_least_prime" 1 1 m__law_least_prime) (d_valuation : Def P w K mg base "valuation" 1 2 m_valuation) (d__law_whole : Def P w K mg base "_law_whole" 1 1 m__law_whole) (z_range : mg "range" = none) (z_int : mg "int" = none) : Def P w K mg base "_law_valuation_right" 2 2 m__law_valuation_right := by
  have sc : FnScope N__law_valuation_right ["cell", "cofactor"] (defScope s__law_valuation_right) := ⟨rfl, rfl, rfl, by decide +kernel, rfl, by decide +kernel, by decide +kernel⟩
  refine F.mk sc rfl rfl (fun _ _ _ _ _ _ us hl => match us, hl with | [_, _], _ => rfl) fun cdv A outer s H E hr => ?_
  exact (dss_cons (ds_set (i := 2) sc.nd rfl (by first | exact Or.inl rfl | exact Or.inr rfl) (dv_callD d__law_digits hr (da_cons (dv_var (pv 0)) (da_cons (dv_ofF (df_lst (da_cons dv_int (da_cons dv_int (da_cons dv_int (da_cons dv_int (da_cons dv_int (da_cons dv_int (da_cons dv_int da_nil))))))))) da_nil)))) (dss_cons (ds_set (i := 3) sc.nd rfl (by first | exact Or.inl rfl | exact Or.inr rfl) (dv_callD d__law_least_prime hr (da_cons (dv_bin o_add dv_int (dv_ix ix_g (dv_var (pv 2)) (dv_bin o_add dv_int (dv_ix ix_g (dv_var (pv 2)) dv_int)))) da_nil))) (dss_cons (ds_set (i := 4) sc.nd rfl (by first | exact Or.inl rfl | exact Or.inr rfl) (dv_var (pv 1))) (dss_cons (ds_if (dt_cmp (o_eq hr.units) (dv_var (pv 1)) dv_int) (dss_one (ds_set (i := 4) sc.nd rfl (by first | exact Or.inl rfl | exact Or.inr rfl) dv_int)) dss_nil) (dss_cons (ds_set (i := 5) sc.nd rfl (by first | exact Or.inl rfl | exact Or.inr rfl) (dv_ix ix_g (dv_var (pv 2)) dv_int)) (dss_cons (ds_if (dt_cmp (o_eq hr.units) (dv_ix ix_g (dv_var (pv 2)) dv_int) dv_int) (dss_one (ds_set (i := 5) sc.nd rfl (by first | exact Or.inl rfl | exact Or.inr rfl) (dv_ix ix_g (dv_var (pv 2)) dv_int))) dss_nil) (dss_cons (ds_for PassesOwn.never rfl (di_rg1 (by rfl) z_range (dv_var (pv 5))) (dg_name (pg_name (i := 6) sc.nd rfl (by first | exact Or.inl rfl | exact Or.inr rfl))) (dss_one (ds_set (i := 4) sc.nd rfl (by first | exact Or.inl rfl | exact Or.inr rfl) (dv_bin o_mul (dv_var (pv 4)) (dv_var (pv 3)))))) (dss_cons (ds_set (i := 7) sc.nd rfl (by first | exact Or.inl rfl | exact Or.inr rfl) dv_int) (dss_cons (ds_set (i := 8) sc.nd rfl (by first | exact Or.inl rfl | exact Or.inr rfl) (dv_var (pv 4))) (dss_cons (ds_for PassesOwn.never rfl (di_rg1 (by rfl) z_range dv_int) (dg_name (pg_name (i := 6) sc.nd rfl (by first | exact Or.inl rfl | exact Or.inr rfl))) (dss_cons (ds_if (dt_cmp (o_ne hr.units) (dv_bin o_mod (dv_ty c_int (by rfl) z_int (by decide +kernel) (da_cons (dv_var (pv 8)) da_nil)) (dv_var (pv 3))) dv_int) (dss_one ds_break) dss_nil) (dss_cons (ds_set (i := 8) sc.nd rfl (by first | exact Or.inl rfl | exact Or.inr rfl) (dv_bin o_fdiv (dv_var (pv 8)) (dv_var (pv 3)))) (dss_one (ds_set (i := 7) sc.nd rfl (by first | exact Or.inl rfl | exact Or.inr rfl) (dv_bin o_add (dv_var (pv 7)) dv_int)))))) (dss_cons (ds_set (i := 9) sc.nd rfl (by first | exact Or.inl rfl | exact Or.inr rfl) (dv_callD d_valuation hr (da_cons (dv_var (pv 4)) (da_cons (dv_var (pv 3)) da_nil)))) (dss_one (ds_ret (dv_and (dv_callD d__law_whole hr (da_cons (dv_var (pv 9)) da_nil)) (dv_one (dv_cmp (o_eq hr.units) (dv_var (pv 9)) (dv_var (pv 7))))))))))))))))))
abbrev s__law_lowest : Stmt := top 63
noncomputable def b__law_lowest : ES := (sRet (eAnd (eCall m__law_is_row (aCons (eVar 0) (aCons (eC (.int 2)) aNil))) (eAnd (eBin gGe (eBin gIx (eVar 0) (eC (.int 1))) (eC (.int 1))) (eBin gEq (eCall m__law_gcd (aCons (eBin gIx (eVar 0) (eC (.int 0))) (aCons (eBin gIx (eVar 0) (eC (.int 1))) aNil))) (eC (.int 1))))))
noncomputable def m__law_lowest : List PyData → Option PyData := runD 0 b__law_lowest
abbrev N__law_lowest : List Str := ["told"]
theorem ok__law_lowest (F : Fd K mg "_law_lowest" s__law_lowest) (d__law_gcd : Def P w K mg base "_law_gcd" 1 2 m__law_gcd) (d__law_is_row : Def P w K mg base "_law_is_row" 2 2 m__law_is_row) : Def P w K mg base "_law_lowest" 3 1 m__law_lowest := by
  have sc : FnScope N__law_lowest ["told"] (defScope s__law_lowest) := ⟨rfl, rfl, rfl, by decide +kernel, rfl, by decide +kernel, by decide +kernel⟩
  refine F.mk sc rfl rfl (fun _ _ _ _ _ _ us hl => match us, hl with | [_], _ => rfl) fun cdv A outer s H E hr => ?_
  exact (dss_one (ds_ret (dv_and (dv_callD d__law_is_row hr (da_cons (dv_var (pv 0)) (da_cons dv_int da_nil))) (dv_and (dv_cmp o_ge (dv_ix ix_g (dv_var (pv 0)) dv_int) dv_int) (dv_one (dv_cmp (o_eq hr.units) (dv_callD d__law_gcd hr (da_cons (dv_ix ix_g (dv_var (pv 0)) dv_int) (da_cons (dv_ix ix_g (dv_var (pv 0)) dv_int) da_nil))) dv_int))))))
abbrev s__law_reduced : Stmt := top 64
noncomputable def b__law_reduced : ES := (sSeq (sSet 2 (eCall m__law_gcd (aCons (eVar 0) (aCons (eVar 1) aNil)))) (sSeq (sIf (bVal (eBin gLt (eVar 1) (eC (.int 0)))) (sSet 2 (eUn gNeg (eVar 2))) sNx) (sRet (eTup (aCons (eBin gFdiv (eVar 0) (eVar 2)) (aCons (eBin gFdiv (eVar 1) (eVar 2)) aNil))))))
noncomputable def m__law_reduced : List PyData → Option PyData := runD 1 b__law_reduced
abbrev N__law_reduced : List Str := ["top", "bottom", "many"]
theorem ok__law_reduced (F : Fd K mg "_law_reduced" s__law_reduced) (d__law_gcd : Def P w K mg base "_law_gcd" 1 2 m__law_gcd) : Def P w K mg base "_law_reduced" 2 2 m__law_reduced := by
  have sc : FnScope N__law_reduced ["top", "bottom"] (defScope s__law_reduced) := ⟨rfl, rfl, rfl, by decide +kernel, rfl, by decide +kernel, by decide +kernel⟩
  refine F.mk sc rfl rfl (fun _ _ _ _ _ _ us hl => match us, hl with | [_, _], _ => rfl) fun cdv A outer s H E hr => ?_
  exact (dss_cons (ds_set (i := 2) sc.nd rfl (by first | exact Or.inl rfl | exact Or.inr rfl) (dv_callD d__law_gcd hr (da_cons (dv_var (pv 0)) (da_cons (dv_var (pv 1)) da_nil)))) (dss_cons (ds_if (dt_cmp o_lt (dv_var (pv 1)) dv_int) (dss_one (ds_set (i := 2) sc.nd rfl (by first | exact Or.inl rfl | exact Or.inr rfl) (dv_un u_neg (dv_var (pv 2))))) dss_nil) (dss_one (ds_ret (dv_tup (da_cons (dv_bin o_fdiv (dv_var (pv 0)) (dv_var (pv 2))) (da_cons (dv_bin o_fdiv (dv_var (pv 1)) (dv_var (pv 2))) da_nil)))))))
abbrev s__law_ratio : Stmt := top 65
noncomputable def b__law_ratio : ES := (sSeq (sTry 2 (fun c => decide (c ∈ (["ZeroBottom"] : List Str))) (sRetX (xLst1 (eC (.bool true)) (xCall x_ratio (aCons (eVar 0) (aCons (eVar 1) aNil))))) (sSeqH (sSetH 3 (eIsC fun c => List.lookup c ([("ZeroBottom", false)] : List (Str × Bool)))) (sIfH (bAndH (bValH (eIsC fun c => List.lookup c ([("ZeroBottom", true)] : List (Str × Bool)))) (bAndH (bValH (eIsC fun c => List.lookup c ([("ZeroBottom", true)] : List (Str × Bool)))) (bNotH (bValH (fun _ => (eVar 3)))))) (sRetH (eLstH (aConsH (fun _ => (eC (.bool false))) (aConsH (eFld "ZeroBottom" "top") aNilH)))) sNxH))) (sRet (eOfF (aCons (eC (.bool false)) (aCons (eC .none) aNil)))))
noncomputable def m__law_ratio : List PyData → Option PyData := runD 2 b__law_ratio
abbrev N__law_ratio : List Str := ["top", "bottom", "e", "named"]
theorem ok__law_ratio (F : Fd K mg "_law_ratio" s__law_ratio) (dx_ratio : DefX P w K mg base "ratio" 3 2 x_ratio) (z_isinstance : mg "isinstance" = none) (z_ValueError : mg "ValueError" = none) (q_NothingToRedo : mg "NothingToRedo" = some (.ref (He.ga K "NothingToRedo"))) (q_NothingToUndo : mg "NothingToUndo" = some (.ref (He.ga K "NothingToUndo"))) (q_BadQuestion : mg "BadQuestion" = some (.ref (He.ga K "BadQuestion"))) (q_BadPart : mg "BadPart" = some (.ref (He.ga K "BadPart"))) (q_BadModulus : mg "BadModulus" = some (.ref (He.ga K "BadModulus"))) (q_BadWorth : mg "BadWorth" = some (.ref (He.ga K "BadWorth"))) (q_BadText : mg "BadText" = some (.ref (He.ga K "BadText"))) (q_NoCycle : mg "NoCycle" = some (.ref (He.ga K "NoCycle"))) (q_NotPell : mg "NotPell" = some (.ref (He.ga K "NotPell"))) (q_NotIdle : mg "NotIdle" = some (.ref (He.ga K "NotIdle"))) (q_BadStep : mg "BadStep" = some (.ref (He.ga K "BadStep"))) (q_EndlessChamber : mg "EndlessChamber" = some (.ref (He.ga K "EndlessChamber"))) (q_MovesRest : mg "MovesRest" = some (.ref (He.ga K "MovesRest"))) (q_TooManyRests : mg "TooManyRests" = some (.ref (He.ga K "TooManyRests"))) (q_BadClaim : mg "BadClaim" = some (.ref (He.ga K "BadClaim"))) (q_NoRest : mg "NoRest" = some (.ref (He.ga K "NoRest"))) (q_NotHome : mg "NotHome" = some (.ref (He.ga K "NotHome"))) (q_NotKeeper : mg "NotKeeper" = some (.ref (He.ga K "NotKeeper"))) (q_BadWord : mg "BadWord" = some (.ref (He.ga K "BadWord"))) (q_OffSide : mg "OffSide" = some (.ref (He.ga K "OffSide"))) (q_NotInLand : mg "NotInLand" = some (.ref (He.ga K "NotInLand"))) (q_BadRay : mg "BadRay" = some (.ref (He.ga K "BadRay"))) (q_BadStart : mg "BadStart" = some (.ref (He.ga K "BadStart"))) (q_TooDeep : mg "TooDeep" = some (.ref (He.ga K "TooDeep"))) (q_NoMirror : mg "NoMirror" = some (.ref (He.ga K "NoMirror"))) (q_NotNull : mg "NotNull" = some (.ref (He.ga K "NotNull"))) (q_NotPositive : mg "NotPositive" = some (.ref (He.ga K "NotPositive"))) (q_NotNegative : mg "NotNegative" = some (.ref (He.ga K "NotNegative"))) (q_NotOneMinus : mg "NotOneMinus" = some (.ref (He.ga K "NotOneMinus"))) (q_BadForm : mg "BadForm" = some (.ref (He.ga K "BadForm"))) (q_NoInverse : mg "NoInverse" = some (.ref (He.ga K "NoInverse"))) (q_ZeroBottom : mg "ZeroBottom" = some (.ref (He.ga K "ZeroBottom"))) (q_FewError : mg "FewError" = some (.ref (He.ga K "FewError"))) (x_ZeroBottom : XCls P w K mg base "ZeroBottom" "top") (t__law_ratio_0 : TabA K ["NoInverse", "BadForm", "NotOneMinus", "NotNegative", "NotPositive", "NotNull", "NoMirror", "TooDeep", "BadStart", "BadRay", "NotInLand", "OffSide", "BadWord", "NotKeeper", "NotHome", "NoRest", "BadClaim", "TooManyRests", "MovesRest", "EndlessChamber", "BadStep", "NotIdle", "NotPell", "NoCycle", "BadText", "BadWorth", "BadModulus", "BadPart", "BadQuestion", "NothingToUndo", "NothingToRedo"] ([("ZeroBottom", false)] : List (Str × Bool))) (t__law_ratio_1 : Tab1 K (.t "ValueError") ([("ZeroBottom", true)] : List (Str × Bool))) (t__law_ratio_2 : Tab1 K (.c "ZeroBottom") ([("ZeroBottom", true)] : List (Str × Bool))) (e__law_ratio_0 : TabE K "FewError" ["ZeroBottom"]) : Def P w K mg base "_law_ratio" 4 2 m__law_ratio := by
  have sc : FnScope N__law_ratio ["top", "bottom"] (defScope s__law_ratio) := ⟨rfl, rfl, rfl, by decide +kernel, rfl, by decide +kernel, by decide +kernel⟩
  refine F.mk sc rfl rfl (fun _ _ _ _ _ _ us hl => match us, hl with | [_, _], _ => rfl) fun cdv A outer s H E hr => ?_
  exact (dss_cons (ds_try (i := 2) (fun c => decide (c ∈ (["ZeroBottom"] : List Str))) rfl rfl sc.nd rfl rfl ⟨by rfl, by decide, .inl q_FewError⟩ e__law_ratio_0 (fun pn xe po => (dss_one (ds_retX (dvx_lst1 dv_bl (dvx_call dx_ratio hr (da_cons (dv_var (pv 0)) (da_cons (dv_var (pv 1)) da_nil))))))) (fun a oe cls d pn hz hf => (dssh_cons (dsh_set (j := 3) sc.nd rfl (by first | exact Or.inl rfl | exact Or.inr rfl) (show (3 : Nat) ≠ 2 by decide) (dvh_isT (t := fun c => List.lookup c ([("ZeroBottom", false)] : List (Str × Bool))) (by rfl) z_isinstance (pn_cons (pe_cls (by rfl) q_NoInverse) (pn_cons (pe_cls (by rfl) q_BadForm) (pn_cons (pe_cls (by rfl) q_NotOneMinus) (pn_cons (pe_cls (by rfl) q_NotNegative) (pn_cons (pe_cls (by rfl) q_NotPositive) (pn_cons (pe_cls (by rfl) q_NotNull) (pn_cons (pe_cls (by rfl) q_NoMirror) (pn_cons (pe_cls (by rfl) q_TooDeep) (pn_cons (pe_cls (by rfl) q_BadStart) (pn_cons (pe_cls (by rfl) q_BadRay) (pn_cons (pe_cls (by rfl) q_NotInLand) (pn_cons (pe_cls (by rfl) q_OffSide) (pn_cons (pe_cls (by rfl) q_BadWord) (pn_cons (pe_cls (by rfl) q_NotKeeper) (pn_cons (pe_cls (by rfl) q_NotHome) (pn_cons (pe_cls (by rfl) q_NoRest) (pn_cons (pe_cls (by rfl) q_BadClaim) (pn_cons (pe_cls (by rfl) q_TooManyRests) (pn_cons (pe_cls (by rfl) q_MovesRest) (pn_cons (pe_cls (by rfl) q_EndlessChamber) (pn_cons (pe_cls (by rfl) q_BadStep) (pn_cons (pe_cls (by rfl) q_NotIdle) (pn_cons (pe_cls (by rfl) q_NotPell) (pn_cons (pe_cls (by rfl) q_NoCycle) (pn_cons (pe_cls (by rfl) q_BadText) (pn_cons (pe_cls (by rfl) q_BadWorth) (pn_cons (pe_cls (by rfl) q_BadModulus) (pn_cons (pe_cls (by rfl) q_BadPart) (pn_cons (pe_cls (by rfl) q_BadQuestion) (pn_cons (pe_cls (by rfl) q_NothingToUndo) (pn_cons (pe_cls (by rfl) q_NothingToRedo) pn_nil))))))))))))))))))))))))))))))) t__law_ratio_0 hz hf (pv 2) (hl := by show 31 ≤ sizeLine; decide))) (dssh_one (dsh_if (dth_w (dwh_and (dth_val (dvh_is1 (t := fun c => List.lookup c ([("ZeroBottom", true)] : List (Str × Bool))) (by rfl) z_isinstance (pe_cls (by rfl) q_ZeroBottom) t__law_ratio_2 hz hf (pv 2))) (dwh_and (dth_val (dvh_is1 (t := fun c => List.lookup c ([("ZeroBottom", true)] : List (Str × Bool))) (by rfl) z_isinstance (pe_bltn (v := .ty "ValueError") (by rfl) z_ValueError (by decide +kernel) rfl (by decide) (by decide)) t__law_ratio_1 hz hf (pv 2))) (dwh_and1 (dth_not (dth_val (dvh_of (dv_var (pv 3))))))))) (dssh_one (dsh_ret (dvh_lst (dah_cons (dvh_of dv_bl) (dah_cons (dvh_fld x_ZeroBottom hz hf (pv 2)) dah_nil))))) dssh_nil))))) (dss_one (ds_ret (dv_ofF (df_lst (da_cons dv_bl (da_cons dv_non da_nil)))))))
abbrev s__law_ratio_right : Stmt := top 66
noncomputable def b__law_ratio_right : ES := (sSeq (sSet 2 (eCall m__law_ratio (aCons (eVar 0) (aCons (eVar 1) aNil)))) (sSeq (sSet 3 (eCall m__law_ratio (aCons (eVar 0) (aCons (eC (.int 0)) aNil)))) (sSeq (sIf (bOr (bVal (eBin gIsB (eBin gIx (eVar 3) (eC (.int 0))) (eC (.bool true)))) (bOr (bNot (bVal (eCall m__law_whole (aCons (eBin gIx (eVar 3) (eC (.int 1))) aNil)))) (bVal (eBin gNe (eBin gIx (eVar 3) (eC (.int 1))) (eVar 0))))) (sRet (eC (.bool false))) sNx) (sSeq (sSet 4 (eBin gIx (eVar 2) (eC (.int 1)))) (sRet (eAnd (eBin gIsB (eBin gIx (eVar 2) (eC (.int 0))) (eC (.bool true))) (eAnd (eCall m__law_lowest (aCons (eVar 4) aNil)) (eBin gEq (eBin gMul (eBin gIx (eVar 4) (eC (.int 0))) (eVar 1)) (eBin gMul (eVar 0) (eBin gIx (eVar 4) (eC (.int 1))))))))))))
noncomputable def m__law_ratio_right : List PyData → Option PyData := runD 3 b__law_ratio_right
abbrev N__law_ratio_right : List Str := ["top", "bottom", "answer", "refused", "told"]
theorem ok__law_ratio_right (F : Fd K mg "_law_ratio_right" s__law_ratio_right) (d__law_ratio : Def P w K mg base "_law_ratio" 4 2 m__law_ratio) (d__law_whole : Def P w K mg base "_law_whole" 1 1 m__law_whole) (d__law_lowest : Def P w K mg base "_law_lowest" 3 1 m__law_lowest) : Def P w K mg base "_law_ratio_right" 5 2 m__law_ratio_right := by
  have sc : FnScope N__law_ratio_right ["top", "bottom"] (defScope s__law_ratio_right) := ⟨rfl, rfl, rfl, by decide +kernel, rfl, by decide +kernel, by decide +kernel⟩
  refine F.mk sc rfl rfl (fun _ _ _ _ _ _ us hl => match us, hl with | [_, _], _ => rfl) fun cdv A outer s H E hr => ?_
  exact (dss_cons (ds_set (i := 2) sc.nd rfl (by first | exact Or.inl rfl | exact Or.inr rfl) (dv_callD d__law_ratio hr (da_cons (dv_var (pv 0)) (da_cons (dv_var (pv 1)) da_nil)))) (dss_cons (ds_set (i := 3) sc.nd rfl (by first | exact Or.inl rfl | exact Or.inr rfl) (dv_callD d__law_ratio hr (da_cons (dv_var (pv 0)) (da_cons dv_int da_nil)))) (dss_cons (ds_if (dt_w (dw_or (dt_cmp o_isB (dv_ix ix_g (dv_var (pv 3)) dv_int) dv_bl) (dw_or (dt_not (dt_val (dv_callD d__law_whole hr (da_cons (dv_ix ix_g (dv_var (pv 3)) dv_int) da_nil)))) (dw_or1 (dt_cmp (o_ne hr.units) (dv_ix ix_g (dv_var (pv 3)) dv_int) (dv_var (pv 0))))))) (dss_one (ds_ret dv_bl)) dss_nil) (dss_cons (ds_set (i := 4) sc.nd rfl (by first | exact Or.inl rfl | exact Or.inr rfl) (dv_ix ix_g (dv_var (pv 2)) dv_int)) (dss_one (ds_ret (dv_and (dv_cmp o_isB (dv_ix ix_g (dv_var (pv 2)) dv_int) dv_bl) (dv_and (dv_callD d__law_lowest hr (da_cons (dv_var (pv 4)) da_nil)) (dv_one (dv_cmp (o_eq hr.units) (dv_bin o_mul (dv_ix ix_g (dv_var (pv 4)) dv_int) (dv_var (pv 1))) (dv_bin o_mul (dv_var (pv 0)) (dv_ix ix_g (dv_var (pv 4)) dv_int))))))))))))
abbrev s__law_sums_right : Stmt := top 67
noncomputable def b__law_sums_right : ES := (sSeq (sSet 3 (eCall m__law_handed (aCons (eVar 0) (aCons (eVar 2) aNil)))) (sSeq (sSet 4 (eCall m__law_handed (aCons (eVar 1) (aCons (eBin gSub (eC (.int 1)) (eVar 2)) aNil)))) (sSeq (sSet 5 (eCall m_ratio_sum (aCons (eVar 3) (aCons (eVar 4) aNil)))) (sSeq (sIf (bOr (bNot (bVal (eCall m__law_lowest (aCons (eVar 5) aNil)))) (bVal (eBin gNe (eBin gMul (eBin gIx (eVar 5) (eC (.int 0))) (eBin gMul (eBin gIx (eVar 0) (eC (.int 1))) (eBin gIx (eVar 1) (eC (.int 1))))) (eBin gMul (eBin gAdd (eBin gMul (eBin gIx (eVar 0) (eC (.int 0))) (eBin gIx (eVar 1) (eC (.int 1)))) (eBin gMul (eBin gIx (eVar 1) (eC (.int 0))) (eBin gIx (eVar 0) (eC (.int 1))))) (eBin gIx (eVar 5) (eC (.int 1))))))) (sRet (eC (.bool false))) sNx) (sSeq (sSet 5 (eCall m_ratio_product (aCons (eVar 3) (aCons (eVar 4) aNil)))) (sSeq (sIf (bOr (bNot (bVal (eCall m__law_lowest (aCons (eVar 5) aNil)))) (bVal (eBin gNe (eBin gMul (eBin gIx (eVar 5) (eC (.int 0))) (eBin gMul (eBin gIx (eVar 0) (eC (.int 1))) (eBin gIx (eVar 1) (eC (.int 1))))) (eBin gMul (eBin gMul (eBin gIx (eVar 0) (eC (.int 0))) (eBin gIx (eVar 1) (eC (.int 0)))) (eBin gIx (eVar 5) (eC (.int 1))))))) (sRet (eC (.bool false))) sNx) (sSeq (sFor (iSeq (eOfF (aCons (eVar 0) (aCons (eVar 1) aNil)))) (gNm 6) (sSeq (sSet 5 (eCall m_ratio_sign (aCons (eCall m__law_handed (aCons (eVar 6) (aCons (eVar 2) aNil))) aNil))) (sIf (bOr (bNot (bVal (eCall m__law_whole (aCons (eVar 5) aNil)))) (bVal (eBin gNe (eVar 5) (eBin gSub (eAll mInt (aCons (eBin gGt (eBin gIx (eVar 6) (eC (.int 0))) (eC (.int 0))) aNil)) (eAll mInt (aCons (eBin gLt (eBin gIx (eVar 6) (eC (.int 0))) (eC (.int 0))) aNil)))))) (sRet (eC (.bool false))) sNx))) (sRet (eAnd (eBin gEq (eAll mTuple (aCons (eVar 3) aNil)) (eVar 0)) (eBin gEq (eAll mTuple (aCons (eVar 4) aNil)) (eVar 1)))))))))))
noncomputable def m__law_sums_right : List PyData → Option PyData := runD 4 b__law_sums_right
abbrev N__law_sums_right : List Str := ["one", "two", "wish", "first", "second", "told", "pair"]
theorem ok__law_sums_right (F : Fd K mg "_law_sums_right" s__law_sums_right) (d__law_handed : Def P w K mg base "_law_handed" 1 2 m__law_handed) (d_ratio_sum : Def P w K mg base "ratio_sum" 4 2 m_ratio_sum) (d__law_lowest : Def P w K mg base "_law_lowest" 3 1 m__law_lowest) (d_ratio_product : Def P w K mg base "ratio_product" 4 2 m_ratio_product) (d_ratio_sign : Def P w K mg base "ratio_sign" 1 1 m_ratio_sign) (d__law_whole : Def P w K mg base "_law_whole" 1 1 m__law_whole) (z_int : mg "int" = none) (z_tuple : mg "tuple" = none) : Def P w K mg base "_law_sums_right" 5 3 m__law_sums_right := by
  have sc : FnScope N__law_sums_right ["one", "two", "wish"] (defScope s__law_sums_right) := ⟨rfl, rfl, rfl, by decide +kernel, rfl, by decide +kernel, by decide +kernel⟩
  refine F.mk sc rfl rfl (fun _ _ _ _ _ _ us hl => match us, hl with | [_, _, _], _ => rfl) fun cdv A outer s H E hr => ?_
  exact (dss_cons (ds_set (i := 3) sc.nd rfl (by first | exact Or.inl rfl | exact Or.inr rfl) (dv_callD d__law_handed hr (da_cons (dv_var (pv 0)) (da_cons (dv_var (pv 2)) da_nil)))) (dss_cons (ds_set (i := 4) sc.nd rfl (by first | exact Or.inl rfl | exact Or.inr rfl) (dv_callD d__law_handed hr (da_cons (dv_var (pv 1)) (da_cons (dv_bin o_sub dv_int (dv_var (pv 2))) da_nil)))) (dss_cons (ds_set (i := 5) sc.nd rfl (by first | exact Or.inl rfl | exact Or.inr rfl) (dv_callD d_ratio_sum hr (da_cons (dv_var (pv 3)) (da_cons (dv_var (pv 4)) da_nil)))) (dss_cons (ds_if (dt_w (dw_or (dt_not (dt_val (dv_callD d__law_lowest hr (da_cons (dv_var (pv 5)) da_nil)))) (dw_or1 (dt_cmp (o_ne hr.units) (dv_bin o_mul (dv_ix ix_g (dv_var (pv 5)) dv_int) (dv_bin o_mul (dv_ix ix_g (dv_var (pv 0)) dv_int) (dv_ix ix_g (dv_var (pv 1)) dv_int))) (dv_bin o_mul (dv_bin o_add (dv_bin o_mul (dv_ix ix_g (dv_var (pv 0)) dv_int) (dv_ix ix_g (dv_var (pv 1)) dv_int)) (dv_bin o_mul (dv_ix ix_g (dv_var (pv 1)) dv_int) (dv_ix ix_g (dv_var (pv 0)) dv_int))) (dv_ix ix_g (dv_var (pv 5)) dv_int)))))) (dss_one (ds_ret dv_bl)) dss_nil) (dss_cons (ds_set (i := 5) sc.nd rfl (by first | exact Or.inl rfl | exact Or.inr rfl) (dv_callD d_ratio_product hr (da_cons (dv_var (pv 3)) (da_cons (dv_var (pv 4)) da_nil)))) (dss_cons (ds_if (dt_w (dw_or (dt_not (dt_val (dv_callD d__law_lowest hr (da_cons (dv_var (pv 5)) da_nil)))) (dw_or1 (dt_cmp (o_ne hr.units) (dv_bin o_mul (dv_ix ix_g (dv_var (pv 5)) dv_int) (dv_bin o_mul (dv_ix ix_g (dv_var (pv 0)) dv_int) (dv_ix ix_g (dv_var (pv 1)) dv_int))) (dv_bin o_mul (dv_bin o_mul (dv_ix ix_g (dv_var (pv 0)) dv_int) (dv_ix ix_g (dv_var (pv 1)) dv_int)) (dv_ix ix_g (dv_var (pv 5)) dv_int)))))) (dss_one (ds_ret dv_bl)) dss_nil) (dss_cons (ds_for PassesOwn.never rfl (di_seq (dv_ofF (df_lst (da_cons (dv_var (pv 0)) (da_cons (dv_var (pv 1)) da_nil))))) (dg_name (pg_name (i := 6) sc.nd rfl (by first | exact Or.inl rfl | exact Or.inr rfl))) (dss_cons (ds_set (i := 5) sc.nd rfl (by first | exact Or.inl rfl | exact Or.inr rfl) (dv_callD d_ratio_sign hr (da_cons (dv_callD d__law_handed hr (da_cons (dv_var (pv 6)) (da_cons (dv_var (pv 2)) da_nil))) da_nil))) (dss_one (ds_if (dt_w (dw_or (dt_not (dt_val (dv_callD d__law_whole hr (da_cons (dv_var (pv 5)) da_nil)))) (dw_or1 (dt_cmp (o_ne hr.units) (dv_var (pv 5)) (dv_bin o_sub (dv_ty c_int (by rfl) z_int (by decide +kernel) (da_cons (dv_cmp o_gt (dv_ix ix_g (dv_var (pv 6)) dv_int) dv_int) da_nil)) (dv_ty c_int (by rfl) z_int (by decide +kernel) (da_cons (dv_cmp o_lt (dv_ix ix_g (dv_var (pv 6)) dv_int) dv_int) da_nil))))))) (dss_one (ds_ret dv_bl)) dss_nil)))) (dss_one (ds_ret (dv_and (dv_cmp (o_eq hr.units) (dv_ty c_tuple (by rfl) z_tuple (by decide +kernel) (da_cons (dv_var (pv 3)) da_nil)) (dv_var (pv 0))) (dv_one (dv_cmp (o_eq hr.units) (dv_ty c_tuple (by rfl) z_tuple (by decide +kernel) (da_cons (dv_var (pv 4)) da_nil)) (dv_var (pv 1))))))))))))))
abbrev s_law : Stmt := top 68
noncomputable def b_law : ES := (sSeq (sSet 1 (eCall m__law_digits (aCons (eCall m__law_cell (aCons (eVar 0) (aCons (eC (.int 0)) aNil))) (aCons (eOfF (aCons (eC (.int 7)) (aCons (eC (.int 4)) (aCons (eC (.int 9)) (aCons (eC (.int 7)) (aCons (eC (.int 2)) aNil)))))) aNil)))) (sSeq (sSet 2 (eOfF (fComp (iRg2 (eC (.int 1)) (eC (.int 14))) (gNm 13) bYes (eCall m__law_number (aCons (eCall m__law_cell (aCons (eVar 0) (aCons (eVar 13) aNil))) aNil)) [13]))) (sSeq (sSet 3 (eAll mAbs (aCons (eBin gIx (eVar 2) (eC (.int 0))) aNil))) (sSeq (sSet 4 (eBin gAdd (eBin gMul (eVar 3) (eVar 3)) (eBin gIx (eOfF (aCons (eUn gNeg (eC (.int 1))) (aCons (eC (.int 0)) (aCons (eC (.int 1)) (aCons (eBin gMul (eC (.int 2)) (eVar 3)) (aCons (eBin gAdd (eBin gMul (eC (.int 2)) (eVar 3)) (eC (.int 1))) (aCons (eVar 3) (aCons (eBin gSub (eVar 3) (eBin gMul (eVar 3) (eVar 3))) aNil)))))))) (eBin gIx (eVar 1) (eC (.int 0)))))) (sSeq (sIf (bNot (bVal (eCall m__law_roots_right (aCons (eAll mMax2 (aCons (eC (.int 0)) (aCons (eVar 4) aNil))) aNil)))) (sRet (eC (.bool false))) sNx) (sSeq (sSet 5 (eBin gAdd (eC (.int 1)) (eAll mAbs (aCons (eBin gIx (eVar 2) (eC (.int 1))) aNil)))) (sSeq (sSet 6 (eBin gIx (eOfF (aCons (eBin gSub (eBin gMul (eVar 5) (eBin gIx (eVar 2) (eC (.int 2)))) (eC (.int 1))) (aCons (eBin gMul (eVar 5) (eBin gIx (eVar 2) (eC (.int 2)))) (aCons (eBin gAdd (eBin gMul (eVar 5) (eBin gIx (eVar 2) (eC (.int 2)))) (eC (.int 1))) (aCons (eBin gIx (eVar 2) (eC (.int 2))) aNil))))) (eBin gIx (eVar 1) (eC (.int 1))))) (sSeq (sIf (bNot (bVal (eCall m__law_ceiling_right (aCons (eVar 6) (aCons (eVar 5) aNil))))) (sRet (eC (.bool false))) sNx) (sSeq (sSet 7 (eBin gMul (eBin gIx (eVar 2) (eC (.int 3))) (eBin gIx (eVar 2) (eC (.int 5))))) (sSeq (sSet 8 (eBin gIx (eOfF (aCons (eBin gMul (eBin gIx (eVar 2) (eC (.int 4))) (eBin gIx (eVar 2) (eC (.int 5)))) (aCons (eBin gIx (eVar 2) (eC (.int 4))) (aCons (eVar 7) (aCons (eUn gNeg (eVar 7)) (aCons (eBin gMul (eVar 7) (eBin gIx (eVar 2) (eC (.int 4)))) (aCons (eC (.int 0)) (aCons (eBin gIx (eVar 2) (eC (.int 4))) (aCons (eC (.int 0)) (aCons (eBin gIx (eVar 2) (eC (.int 5))) aNil)))))))))) (eBin gIx (eVar 1) (eC (.int 2))))) (sSeq (sIf (bOr (bVal (eBin gEq (eBin gIx (eVar 1) (eC (.int 2))) (eC (.int 6)))) (bVal (eBin gEq (eBin gIx (eVar 1) (eC (.int 2))) (eC (.int 7))))) (sSet 7 (eC (.int 0))) sNx) (sSeq (sIf (bOr (bNot (bVal (eCall m__law_bezout_right (aCons (eVar 7) (aCons (eVar 8) aNil))))) (bNot (bVal (eCall m__law_powers_right (aCons (eCall m__law_number_for_powers (aCons (eCall m__law_cell (aCons (eVar 0) (aCons (eC (.int 14)) aNil))) aNil)) aNil))))) (sRet (eC (.bool false))) sNx) (sSeq (sIf (bNot (bVal (eCall m__law_valuation_right (aCons (eCall m__law_cell (aCons (eVar 0) (aCons (eC (.int 15)) aNil))) (aCons (eBin gIx (eVar 2) (eC (.int 6))) aNil))))) (sRet (eC (.bool false))) sNx) (sSeq (sSet 9 (eBin gIx (eVar 2) (eC (.int 7)))) (sSeq (sIf (bVal (eBin gEq (eVar 9) (eC (.int 0)))) (sSet 9 (eC (.int 1))) sNx) (sSeq (sSetF 10 (fComp (iSeq (eOfF (aCons (eC (.int 9)) (aCons (eC (.int 11)) aNil)))) (gNm 13) bYes (eBin gAdd (eBin gMul (eVar 9) (eBin gIx (eVar 2) (eVar 13))) (eAll mInt (aCons (eBin gEq (eBin gMul (eVar 9) (eBin gIx (eVar 2) (eVar 13))) (eC (.int 0))) aNil))) [13])) (sSeq (sIf (bNot (bVal (eCall m__law_ratio_right (aCons (eBin gMul (eVar 9) (eBin gIx (eVar 2) (eC (.int 8)))) (aCons (eBin gIx (eVar 10) (eC (.int 0))) aNil))))) (sRet (eC (.bool false))) sNx) (sSeq (sSet 11 (eCall m__law_reduced (aCons (eBin gIx (eVar 2) (eC (.int 8))) (aCons (eBin gIx (eVar 10) (eC (.int 0))) aNil)))) (sSeq (sSet 12 (eCall m__law_reduced (aCons (eBin gIx (eVar 2) (eC (.int 10))) (aCons (eBin gIx (eVar 10) (eC (.int 1))) aNil)))) (sSeq (sIf (bVal (eBin gEq (eBin gIx (eVar 1) (eC (.int 3))) (eC (.int 2)))) (sSet 12 (eCall m__law_reduced (aCons (eBin gIx (eVar 2) (eC (.int 10))) (aCons (eBin gMul (eBin gIx (eVar 11) (eC (.int 1))) (eBin gAdd (eC (.int 1)) (eAll mAbs (aCons (eBin gIx (eVar 2) (eC (.int 12))) aNil)))) aNil)))) sNx) (sSeq (sIf (bAnd (bVal (eBin gEq (eBin gIx (eVar 1) (eC (.int 3))) (eC (.int 3)))) (bVal (eBin gNe (eBin gIx (eVar 11) (eC (.int 0))) (eC (.int 0))))) (sSet 12 (eCall m__law_reduced (aCons (eBin gIx (eVar 11) (eC (.int 1))) (aCons (eBin gIx (eVar 11) (eC (.int 0))) aNil)))) sNx) (sSeq (sIf (bVal (eBin gGt (eBin gIx (eVar 1) (eC (.int 3))) (eC (.int 3)))) (sSet 12 (eBin gIx (eOfF (aCons (eTup (aCons (eUn gNeg (eBin gIx (eVar 11) (eC (.int 0)))) (aCons (eBin gIx (eVar 11) (eC (.int 1))) aNil))) (aCons (eVar 11) (aCons (eTup (aCons (eC (.int 0)) (aCons (eC (.int 1)) aNil))) aNil)))) (eBin gSub (eBin gIx (eVar 1) (eC (.int 3))) (eC (.int 4))))) sNx) (sRet (eCall m__law_sums_right (aCons (eVar 11) (aCons (eVar 12) (aCons (eBin gIx (eVar 1) (eC (.int 4))) aNil)))))))))))))))))))))))))))
noncomputable def m_law : List PyData → Option PyData := runD 13 b_law
abbrev N_law : List Str := ["script", "shape", "numbers", "base", "number", "bottom", "top", "one", "two", "common", "bottoms", "first", "second", "k"]
theorem ok_law (F : Fd K mg "law" s_law) (d__law_cell : Def P w K mg base "_law_cell" 1 2 m__law_cell) (d__law_digits : Def P w K mg base "_law_digits" 1 2 m__law_digits) (d__law_number : Def P w K mg base "_law_number" 2 1 m__law_number) (d__law_roots_right : Def P w K mg base "_law_roots_right" 2 1 m__law_roots_right) (d__law_ceiling_right : Def P w K mg base "_law_ceiling_right" 2 2 m__law_ceiling_right) (d__law_number_for_powers : Def P w K mg base "_law_number_for_powers" 2 1 m__law_number_for_powers) (d__law_powers_right : Def P w K mg base "_law_powers_right" 3 1 m__law_powers_right) (d__law_bezout_right : Def P w K mg base "_law_bezout_right" 3 2 m__law_bezout_right) (d__law_valuation_right : Def P w K mg base "_law_valuation_right" 2 2 m__law_valuation_right) (d__law_ratio_right : Def P w K mg base "_law_ratio_right" 5 2 m__law_ratio_right) (d__law_reduced : Def P w K mg base "_law_reduced" 2 2 m__law_reduced) (d__law_sums_right : Def P w K mg base "_law_sums_right" 5 3 m__law_sums_right) (z_range : mg "range" = none) (z_abs : mg "abs" = none) (z_max : mg "max" = none) (z_int : mg "int" = none) : Def P w K mg base "law" 6 1 m_law := by
  have sc : FnScope N_law ["script"] (defScope s_law) := ⟨rfl, rfl, rfl, by decide +kernel, rfl, by decide +kernel, by decide +kernel⟩
  refine F.mk sc rfl rfl (fun _ _ _ _ _ _ us hl => match us, hl with | [_], _ => rfl) fun cdv A outer s H E hr => ?_
  exact (dss_cons (ds_set (i := 1) sc.nd rfl (by first | exact Or.inl rfl | exact Or.inr rfl) (dv_callD d__law_digits hr (da_cons (dv_callD d__law_cell hr (da_cons (dv_var (pv 0)) (da_cons dv_int da_nil))) (da_cons (dv_ofF (df_lst (da_cons dv_int (da_cons dv_int (da_cons dv_int (da_cons dv_int (da_cons dv_int da_nil))))))) da_nil)))) (dss_cons (ds_set (i := 2) sc.nd rfl (by first | exact Or.inl rfl | exact Or.inr rfl) (dv_ofF (df_comp (own := [("k", 13)]) rfl sc.nd (di_rg2 (by rfl) z_range dv_int dv_int) (blkOk_by (N := N_law) (sc := defScope s_law) (by decide +kernel)) (fun _ _ _ _ _ => (dg_name (pg_name (i := 13) sc.nd rfl (by first | exact Or.inl rfl | exact Or.inr rfl)))) (fun _ _ _ _ _ => dx_nil) (fun _ _ _ _ _ => (dv_callD d__law_number hr (da_cons (dv_callD d__law_cell hr (da_cons (dv_var (pv 0)) (da_cons (dv_var (pv 13)) da_nil))) da_nil)))))) (dss_cons (ds_set (i := 3) sc.nd rfl (by first | exact Or.inl rfl | exact Or.inr rfl) (dv_blt c_abs (by rfl) z_abs (by decide +kernel) (da_cons (dv_ix ix_g (dv_var (pv 2)) dv_int) da_nil))) (dss_cons (ds_set (i := 4) sc.nd rfl (by first | exact Or.inl rfl | exact Or.inr rfl) (dv_bin o_add (dv_bin o_mul (dv_var (pv 3)) (dv_var (pv 3))) (dv_ix ix_g (dv_ofF (df_lst (da_cons (dv_un u_neg dv_int) (da_cons dv_int (da_cons dv_int (da_cons (dv_bin o_mul dv_int (dv_var (pv 3))) (da_cons (dv_bin o_add (dv_bin o_mul dv_int (dv_var (pv 3))) dv_int) (da_cons (dv_var (pv 3)) (da_cons (dv_bin o_sub (dv_var (pv 3)) (dv_bin o_mul (dv_var (pv 3)) (dv_var (pv 3)))) da_nil))))))))) (dv_ix ix_g (dv_var (pv 1)) dv_int)))) (dss_cons (ds_if (dt_not (dt_val (dv_callD d__law_roots_right hr (da_cons (dv_blt (c_max2 rfl) (by rfl) z_max (by decide +kernel) (da_cons dv_int (da_cons (dv_var (pv 4)) da_nil))) da_nil)))) (dss_one (ds_ret dv_bl)) dss_nil) (dss_cons (ds_set (i := 5) sc.nd rfl (by first | exact Or.inl rfl | exact Or.inr rfl) (dv_bin o_add dv_int (dv_blt c_abs (by rfl) z_abs (by decide +kernel) (da_cons (dv_ix ix_g (dv_var (pv 2)) dv_int) da_nil)))) (dss_cons (ds_set (i := 6) sc.nd rfl (by first | exact Or.inl rfl | exact Or.inr rfl) (dv_ix ix_g (dv_ofF (df_lst (da_cons (dv_bin o_sub (dv_bin o_mul (dv_var (pv 5)) (dv_ix ix_g (dv_var (pv 2)) dv_int)) dv_int) (da_cons (dv_bin o_mul (dv_var (pv 5)) (dv_ix ix_g (dv_var (pv 2)) dv_int)) (da_cons (dv_bin o_add (dv_bin o_mul (dv_var (pv 5)) (dv_ix ix_g (dv_var (pv 2)) dv_int)) dv_int) (da_cons (dv_ix ix_g (dv_var (pv 2)) dv_int) da_nil)))))) (dv_ix ix_g (dv_var (pv 1)) dv_int))) (dss_cons (ds_if (dt_not (dt_val (dv_callD d__law_ceiling_right hr (da_cons (dv_var (pv 6)) (da_cons (dv_var (pv 5)) da_nil))))) (dss_one (ds_ret dv_bl)) dss_nil) (dss_cons (ds_set (i := 7) sc.nd rfl (by first | exact Or.inl rfl | exact Or.inr rfl) (dv_bin o_mul (dv_ix ix_g (dv_var (pv 2)) dv_int) (dv_ix ix_g (dv_var (pv 2)) dv_int))) (dss_cons (ds_set (i := 8) sc.nd rfl (by first | exact Or.inl rfl | exact Or.inr rfl) (dv_ix ix_g (dv_ofF (df_lst (da_cons (dv_bin o_mul (dv_ix ix_g (dv_var (pv 2)) dv_int) (dv_ix ix_g (dv_var (pv 2)) dv_int)) (da_cons (dv_ix ix_g (dv_var (pv 2)) dv_int) (da_cons (dv_var (pv 7)) (da_cons (dv_un u_neg (dv_var (pv 7))) (da_cons (dv_bin o_mul (dv_var (pv 7)) (dv_ix ix_g (dv_var (pv 2)) dv_int)) (da_cons dv_int (da_cons (dv_ix ix_g (dv_var (pv 2)) dv_int) (da_cons dv_int (da_cons (dv_ix ix_g (dv_var (pv 2)) dv_int) da_nil))))))))))) (dv_ix ix_g (dv_var (pv 1)) dv_int))) (dss_cons (ds_if (dt_w (dw_or (dt_cmp (o_eq hr.units) (dv_ix ix_g (dv_var (pv 1)) dv_int) dv_int) (dw_or1 (dt_cmp (o_eq hr.units) (dv_ix ix_g (dv_var (pv 1)) dv_int) dv_int)))) (dss_one (ds_set (i := 7) sc.nd rfl (by first | exact Or.inl rfl | exact Or.inr rfl) dv_int)) dss_nil) (dss_cons (ds_if (dt_w (dw_or (dt_not (dt_val (dv_callD d__law_bezout_right hr (da_cons (dv_var (pv 7)) (da_cons (dv_var (pv 8)) da_nil))))) (dw_or1 (dt_not (dt_val (dv_callD d__law_powers_right hr (da_cons (dv_callD d__law_number_for_powers hr (da_cons (dv_callD d__law_cell hr (da_cons (dv_var (pv 0)) (da_cons dv_int da_nil))) da_nil)) da_nil))))))) (dss_one (ds_ret dv_bl)) dss_nil) (dss_cons (ds_if (dt_not (dt_val (dv_callD d__law_valuation_right hr (da_cons (dv_callD d__law_cell hr (da_cons (dv_var (pv 0)) (da_cons dv_int da_nil))) (da_cons (dv_ix ix_g (dv_var (pv 2)) dv_int) da_nil))))) (dss_one (ds_ret dv_bl)) dss_nil) (dss_cons (ds_set (i := 9) sc.nd rfl (by first | exact Or.inl rfl | exact Or.inr rfl) (dv_ix ix_g (dv_var (pv 2)) dv_int)) (dss_cons (ds_if (dt_cmp (o_eq hr.units) (dv_var (pv 9)) dv_int) (dss_one (ds_set (i := 9) sc.nd rfl (by first | exact Or.inl rfl | exact Or.inr rfl) dv_int)) dss_nil) (dss_cons (ds_lcV (i := 10) (own := [("k", 13)]) rfl sc.nd rfl rfl (sw_true rfl rfl rfl (by decide +kernel)) (di_seq (dv_ofF (df_lst (da_cons dv_int (da_cons dv_int da_nil))))) (blkOk_by (N := N_law) (sc := defScope s_law) (by decide +kernel)) (fun _ _ _ _ _ => (dg_name (pg_name (i := 13) sc.nd rfl (by first | exact Or.inl rfl | exact Or.inr rfl)))) (fun _ _ _ _ _ => dx_nil) (fun _ _ _ _ _ => (dv_bin o_add (dv_bin o_mul (dv_var (pv 9)) (dv_ix ix_g (dv_var (pv 2)) (dv_var (pv 13)))) (dv_ty c_int (by rfl) z_int (by decide +kernel) (da_cons (dv_cmp (o_eq hr.units) (dv_bin o_mul (dv_var (pv 9)) (dv_ix ix_g (dv_var (pv 2)) (dv_var (pv 13)))) dv_int) da_nil))))) (dss_cons (ds_if (dt_not (dt_val (dv_callD d__law_ratio_right hr (da_cons (dv_bin o_mul (dv_var (pv 9)) (dv_ix ix_g (dv_var (pv 2)) dv_int)) (da_cons (dv_ix ix_g (dv_var (pv 10)) dv_int) da_nil))))) (dss_one (ds_ret dv_bl)) dss_nil) (dss_cons (ds_set (i := 11) sc.nd rfl (by first | exact Or.inl rfl | exact Or.inr rfl) (dv_callD d__law_reduced hr (da_cons (dv_ix ix_g (dv_var (pv 2)) dv_int) (da_cons (dv_ix ix_g (dv_var (pv 10)) dv_int) da_nil)))) (dss_cons (ds_set (i := 12) sc.nd rfl (by first | exact Or.inl rfl | exact Or.inr rfl) (dv_callD d__law_reduced hr (da_cons (dv_ix ix_g (dv_var (pv 2)) dv_int) (da_cons (dv_ix ix_g (dv_var (pv 10)) dv_int) da_nil)))) (dss_cons (ds_if (dt_cmp (o_eq hr.units) (dv_ix ix_g (dv_var (pv 1)) dv_int) dv_int) (dss_one (ds_set (i := 12) sc.nd rfl (by first | exact Or.inl rfl | exact Or.inr rfl) (dv_callD d__law_reduced hr (da_cons (dv_ix ix_g (dv_var (pv 2)) dv_int) (da_cons (dv_bin o_mul (dv_ix ix_g (dv_var (pv 11)) dv_int) (dv_bin o_add dv_int (dv_blt c_abs (by rfl) z_abs (by decide +kernel) (da_cons (dv_ix ix_g (dv_var (pv 2)) dv_int) da_nil)))) da_nil))))) dss_nil) (dss_cons (ds_if (dt_w (dw_and (dt_cmp (o_eq hr.units) (dv_ix ix_g (dv_var (pv 1)) dv_int) dv_int) (dw_and1 (dt_cmp (o_ne hr.units) (dv_ix ix_g (dv_var (pv 11)) dv_int) dv_int)))) (dss_one (ds_set (i := 12) sc.nd rfl (by first | exact Or.inl rfl | exact Or.inr rfl) (dv_callD d__law_reduced hr (da_cons (dv_ix ix_g (dv_var (pv 11)) dv_int) (da_cons (dv_ix ix_g (dv_var (pv 11)) dv_int) da_nil))))) dss_nil) (dss_cons (ds_if (dt_cmp o_gt (dv_ix ix_g (dv_var (pv 1)) dv_int) dv_int) (dss_one (ds_set (i := 12) sc.nd rfl (by first | exact Or.inl rfl | exact Or.inr rfl) (dv_ix ix_g (dv_ofF (df_lst (da_cons (dv_tup (da_cons (dv_un u_neg (dv_ix ix_g (dv_var (pv 11)) dv_int)) (da_cons (dv_ix ix_g (dv_var (pv 11)) dv_int) da_nil))) (da_cons (dv_var (pv 11)) (da_cons (dv_tup (da_cons dv_int (da_cons dv_int da_nil))) da_nil))))) (dv_bin o_sub (dv_ix ix_g (dv_var (pv 1)) dv_int) dv_int)))) dss_nil) (dss_one (ds_ret (dv_callD d__law_sums_right hr (da_cons (dv_var (pv 11)) (da_cons (dv_var (pv 12)) (da_cons (dv_ix ix_g (dv_var (pv 1)) dv_int) da_nil))))))))))))))))))))))))))))
theorem fn_law {fa : Addr} {fd : FuncData} (F0 : FnP K "law" s_law fa fd) (d__law_cell : Def P w K mg base "_law_cell" 1 2 m__law_cell) (d__law_digits : Def P w K mg base "_law_digits" 1 2 m__law_digits) (d__law_number : Def P w K mg base "_law_number" 2 1 m__law_number) (d__law_roots_right : Def P w K mg base "_law_roots_right" 2 1 m__law_roots_right) (d__law_ceiling_right : Def P w K mg base "_law_ceiling_right" 2 2 m__law_ceiling_right) (d__law_number_for_powers : Def P w K mg base "_law_number_for_powers" 2 1 m__law_number_for_powers) (d__law_powers_right : Def P w K mg base "_law_powers_right" 3 1 m__law_powers_right) (d__law_bezout_right : Def P w K mg base "_law_bezout_right" 3 2 m__law_bezout_right) (d__law_valuation_right : Def P w K mg base "_law_valuation_right" 2 2 m__law_valuation_right) (d__law_ratio_right : Def P w K mg base "_law_ratio_right" 5 2 m__law_ratio_right) (d__law_reduced : Def P w K mg base "_law_reduced" 2 2 m__law_reduced) (d__law_sums_right : Def P w K mg base "_law_sums_right" 5 3 m__law_sums_right) (z_range : mg "range" = none) (z_abs : mg "abs" = none) (z_max : mg "max" = none) (z_int : mg "int" = none) : FnOk P w K mg base CX0 6 fa fd ["script"] (spD K 1 m_law) := by
  have sc : FnScope N_law ["script"] (defScope s_law) := ⟨rfl, rfl, rfl, by decide +kernel, rfl, by decide +kernel, by decide +kernel⟩
  refine fnOk F0 sc rfl rfl fun cdv A outer s H E hr => ?_
  exact (dss_cons (ds_set (i := 1) sc.nd rfl (by first | exact Or.inl rfl | exact Or.inr rfl) (dv_callD d__law_digits hr (da_cons (dv_callD d__law_cell hr (da_cons (dv_var (pv 0)) (da_cons dv_int da_nil))) (da_cons (dv_ofF (df_lst (da_cons dv_int (da_cons dv_int (da_cons dv_int (da_cons dv_int (da_cons dv_int da_nil))))))) da_nil)))) (dss_cons (ds_set (i := 2) sc.nd rfl (by first | exact Or.inl rfl | exact Or.inr rfl) (dv_ofF (df_comp (own := [("k", 13)]) rfl sc.nd (di_rg2 (by rfl) z_range dv_int dv_int) (blkOk_by (N := N_law) (sc := defScope s_law) (by decide +kernel)) (fun _ _ _ _ _ => (dg_name (pg_name (i := 13) sc.nd rfl (by first | exact Or.inl rfl | exact Or.inr rfl)))) (fun _ _ _ _ _ => dx_nil) (fun _ _ _ _ _ => (dv_callD d__law_number hr (da_cons (dv_callD d__law_cell hr (da_cons (dv_var (pv 0)) (da_cons (dv_var (pv 13)) da_nil))) da_nil)))))) (dss_cons (ds_set (i := 3) sc.nd rfl (by first | exact Or.inl rfl | exact Or.inr rfl) (dv_blt c_abs (by rfl) z_abs (by decide +kernel) (da_cons (dv_ix ix_g (dv_var (pv 2)) dv_int) da_nil))) (dss_cons (ds_set (i := 4) sc.nd rfl (by first | exact Or.inl rfl | exact Or.inr rfl) (dv_bin o_add (dv_bin o_mul (dv_var (pv 3)) (dv_var (pv 3))) (dv_ix ix_g (dv_ofF (df_lst (da_cons (dv_un u_neg dv_int) (da_cons dv_int (da_cons dv_int (da_cons (dv_bin o_mul dv_int (dv_var (pv 3))) (da_cons (dv_bin o_add (dv_bin o_mul dv_int (dv_var (pv 3))) dv_int) (da_cons (dv_var (pv 3)) (da_cons (dv_bin o_sub (dv_var (pv 3)) (dv_bin o_mul (dv_var (pv 3)) (dv_var (pv 3)))) da_nil))))))))) (dv_ix ix_g (dv_var (pv 1)) dv_int)))) (dss_cons (ds_if (dt_not (dt_val (dv_callD d__law_roots_right hr (da_cons (dv_blt (c_max2 rfl) (by rfl) z_max (by decide +kernel) (da_cons dv_int (da_cons (dv_var (pv 4)) da_nil))) da_nil)))) (dss_one (ds_ret dv_bl)) dss_nil) (dss_cons (ds_set (i := 5) sc.nd rfl (by first | exact Or.inl rfl | exact Or.inr rfl) (dv_bin o_add dv_int (dv_blt c_abs (by rfl) z_abs (by decide +kernel) (da_cons (dv_ix ix_g (dv_var (pv 2)) dv_int) da_nil)))) (dss_cons (ds_set (i := 6) sc.nd rfl (by first | exact Or.inl rfl | exact Or.inr rfl) (dv_ix ix_g (dv_ofF (df_lst (da_cons (dv_bin o_sub (dv_bin o_mul (dv_var (pv 5)) (dv_ix ix_g (dv_var (pv 2)) dv_int)) dv_int) (da_cons (dv_bin o_mul (dv_var (pv 5)) (dv_ix ix_g (dv_var (pv 2)) dv_int)) (da_cons (dv_bin o_add (dv_bin o_mul (dv_var (pv 5)) (dv_ix ix_g (dv_var (pv 2)) dv_int)) dv_int) (da_cons (dv_ix ix_g (dv_var (pv 2)) dv_int) da_nil)))))) (dv_ix ix_g (dv_var (pv 1)) dv_int))) (dss_cons (ds_if (dt_not (dt_val (dv_callD d__law_ceiling_right hr (da_cons (dv_var (pv 6)) (da_cons (dv_var (pv 5)) da_nil))))) (dss_one (ds_ret dv_bl)) dss_nil) (dss_cons (ds_set (i := 7) sc.nd rfl (by first | exact Or.inl rfl | exact Or.inr rfl) (dv_bin o_mul (dv_ix ix_g (dv_var (pv 2)) dv_int) (dv_ix ix_g (dv_var (pv 2)) dv_int))) (dss_cons (ds_set (i := 8) sc.nd rfl (by first | exact Or.inl rfl | exact Or.inr rfl) (dv_ix ix_g (dv_ofF (df_lst (da_cons (dv_bin o_mul (dv_ix ix_g (dv_var (pv 2)) dv_int) (dv_ix ix_g (dv_var (pv 2)) dv_int)) (da_cons (dv_ix ix_g (dv_var (pv 2)) dv_int) (da_cons (dv_var (pv 7)) (da_cons (dv_un u_neg (dv_var (pv 7))) (da_cons (dv_bin o_mul (dv_var (pv 7)) (dv_ix ix_g (dv_var (pv 2)) dv_int)) (da_cons dv_int (da_cons (dv_ix ix_g (dv_var (pv 2)) dv_int) (da_cons dv_int (da_cons (dv_ix ix_g (dv_var (pv 2)) dv_int) da_nil))))))))))) (dv_ix ix_g (dv_var (pv 1)) dv_int))) (dss_cons (ds_if (dt_w (dw_or (dt_cmp (o_eq hr.units) (dv_ix ix_g (dv_var (pv 1)) dv_int) dv_int) (dw_or1 (dt_cmp (o_eq hr.units) (dv_ix ix_g (dv_var (pv 1)) dv_int) dv_int)))) (dss_one (ds_set (i := 7) sc.nd rfl (by first | exact Or.inl rfl | exact Or.inr rfl) dv_int)) dss_nil) (dss_cons (ds_if (dt_w (dw_or (dt_not (dt_val (dv_callD d__law_bezout_right hr (da_cons (dv_var (pv 7)) (da_cons (dv_var (pv 8)) da_nil))))) (dw_or1 (dt_not (dt_val (dv_callD d__law_powers_right hr (da_cons (dv_callD d__law_number_for_powers hr (da_cons (dv_callD d__law_cell hr (da_cons (dv_var (pv 0)) (da_cons dv_int da_nil))) da_nil)) da_nil))))))) (dss_one (ds_ret dv_bl)) dss_nil) (dss_cons (ds_if (dt_not (dt_val (dv_callD d__law_valuation_right hr (da_cons (dv_callD d__law_cell hr (da_cons (dv_var (pv 0)) (da_cons dv_int da_nil))) (da_cons (dv_ix ix_g (dv_var (pv 2)) dv_int) da_nil))))) (dss_one (ds_ret dv_bl)) dss_nil) (dss_cons (ds_set (i := 9) sc.nd rfl (by first | exact Or.inl rfl | exact Or.inr rfl) (dv_ix ix_g (dv_var (pv 2)) dv_int)) (dss_cons (ds_if (dt_cmp (o_eq hr.units) (dv_var (pv 9)) dv_int) (dss_one (ds_set (i := 9) sc.nd rfl (by first | exact Or.inl rfl | exact Or.inr rfl) dv_int)) dss_nil) (dss_cons (ds_lcV (i := 10) (own := [("k", 13)]) rfl sc.nd rfl rfl (sw_true rfl rfl rfl (by decide +kernel)) (di_seq (dv_ofF (df_lst (da_cons dv_int (da_cons dv_int da_nil))))) (blkOk_by (N := N_law) (sc := defScope s_law) (by decide +kernel)) (fun _ _ _ _ _ => (dg_name (pg_name (i := 13) sc.nd rfl (by first | exact Or.inl rfl | exact Or.inr rfl)))) (fun _ _ _ _ _ => dx_nil) (fun _ _ _ _ _ => (dv_bin o_add (dv_bin o_mul (dv_var (pv 9)) (dv_ix ix_g (dv_var (pv 2)) (dv_var (pv 13)))) (dv_ty c_int (by rfl) z_int (by decide +kernel) (da_cons (dv_cmp (o_eq hr.units) (dv_bin o_mul (dv_var (pv 9)) (dv_ix ix_g (dv_var (pv 2)) (dv_var (pv 13)))) dv_int) da_nil))))) (dss_cons (ds_if (dt_not (dt_val (dv_callD d__law_ratio_right hr (da_cons (dv_bin o_mul (dv_var (pv 9)) (dv_ix ix_g (dv_var (pv 2)) dv_int)) (da_cons (dv_ix ix_g (dv_var (pv 10)) dv_int) da_nil))))) (dss_one (ds_ret dv_bl)) dss_nil) (dss_cons (ds_set (i := 11) sc.nd rfl (by first | exact Or.inl rfl | exact Or.inr rfl) (dv_callD d__law_reduced hr (da_cons (dv_ix ix_g (dv_var (pv 2)) dv_int) (da_cons (dv_ix ix_g (dv_var (pv 10)) dv_int) da_nil)))) (dss_cons (ds_set (i := 12) sc.nd rfl (by first | exact Or.inl rfl | exact Or.inr rfl) (dv_callD d__law_reduced hr (da_cons (dv_ix ix_g (dv_var (pv 2)) dv_int) (da_cons (dv_ix ix_g (dv_var (pv 10)) dv_int) da_nil)))) (dss_cons (ds_if (dt_cmp (o_eq hr.units) (dv_ix ix_g (dv_var (pv 1)) dv_int) dv_int) (dss_one (ds_set (i := 12) sc.nd rfl (by first | exact Or.inl rfl | exact Or.inr rfl) (dv_callD d__law_reduced hr (da_cons (dv_ix ix_g (dv_var (pv 2)) dv_int) (da_cons (dv_bin o_mul (dv_ix ix_g (dv_var (pv 11)) dv_int) (dv_bin o_add dv_int (dv_blt c_abs (by rfl) z_abs (by decide +kernel) (da_cons (dv_ix ix_g (dv_var (pv 2)) dv_int) da_nil)))) da_nil))))) dss_nil) (dss_cons (ds_if (dt_w (dw_and (dt_cmp (o_eq hr.units) (dv_ix ix_g (dv_var (pv 1)) dv_int) dv_int) (dw_and1 (dt_cmp (o_ne hr.units) (dv_ix ix_g (dv_var (pv 11)) dv_int) dv_int)))) (dss_one (ds_set (i := 12) sc.nd rfl (by first | exact Or.inl rfl | exact Or.inr rfl) (dv_callD d__law_reduced hr (da_cons (dv_ix ix_g (dv_var (pv 11)) dv_int) (da_cons (dv_ix ix_g (dv_var (pv 11)) dv_int) da_nil))))) dss_nil) (dss_cons (ds_if (dt_cmp o_gt (dv_ix ix_g (dv_var (pv 1)) dv_int) dv_int) (dss_one (ds_set (i := 12) sc.nd rfl (by first | exact Or.inl rfl | exact Or.inr rfl) (dv_ix ix_g (dv_ofF (df_lst (da_cons (dv_tup (da_cons (dv_un u_neg (dv_ix ix_g (dv_var (pv 11)) dv_int)) (da_cons (dv_ix ix_g (dv_var (pv 11)) dv_int) da_nil))) (da_cons (dv_var (pv 11)) (da_cons (dv_tup (da_cons dv_int (da_cons dv_int da_nil))) da_nil))))) (dv_bin o_sub (dv_ix ix_g (dv_var (pv 1)) dv_int) dv_int)))) dss_nil) (dss_one (ds_ret (dv_callD d__law_sums_right hr (da_cons (dv_var (pv 11)) (da_cons (dv_var (pv 12)) (da_cons (dv_ix ix_g (dv_var (pv 1)) dv_int) da_nil))))))))))))))))))))))))))))
end
end W

set_option linter.all false
set_option maxRecDepth 100000
set_option maxHeartbeats 2000000
namespace DL
open PySem
theorem rng_zero (lo : Int) : rng lo 0 = [] := rfl
theorem rng_succ (lo : Int) (n : Nat) : rng lo (n + 1) = .int lo :: rng (lo + 1) n := by
  unfold rng
  rw [List.range_succ_eq_map, List.map_cons, List.map_map]
  congr 1
  · simp
  · apply List.map_congr_left
    intro i _
    simp only [Function.comp]
    congr 1
    omega
/-- digits below their limits -/
def inD : List Int → List Int → Prop
  | [], [] => True
  | d :: ds, l :: ls => 0 ≤ d ∧ d < l ∧ inD ds ls
  | _, _ => False
theorem inD_len : ∀ {ds ls : List Int}, inD ds ls → ds.length = ls.length
  | [], [], _ => rfl
  | _ :: _, _ :: _, h => congrArg (· + 1) (inD_len h.2.2)
  | [], _ :: _, h => h.elim
  | _ :: _, [], h => h.elim
theorem inD_cons {ds ls : List Int} {l : Int} (h : inD ds (l :: ls)) : ∃ d r, ds = d :: r ∧ 0 ≤ d ∧ d < l ∧ inD r ls := by
  cases ds with
  | nil => exact h.elim
  | cons d r => exact ⟨d, r, rfl, h⟩
theorem inD_nil {ds : List Int} (h : inD ds []) : ds = [] := by
  cases ds with
  | nil => rfl
  | cons d r => exact h.elim
end DL
namespace DL
open PySem L2
/-! ### the greatest common divisor by steps -/
theorem half_mod {y r : Nat} {m : Nat} (hr : 0 < r) (h1 : r < y) (h : y < 2 * m) : y % r < m := by
  by_cases c : 2 * r ≤ y
  · have := Nat.mod_lt y hr
    omega
  · rw [Nat.mod_eq_sub_mod (by omega), Nat.mod_eq_of_lt (by omega)]
    omega
theorem abs_nat (a : Int) : (if a < 0 then -a else a) = (a.natAbs : Int) := by split <;> omega
theorem gcd_lt {x y n : Nat} (hx : x < n) (hy : y < n) : x.gcd y < n := by
  by_cases h : x = 0
  · subst h
    rw [Nat.gcd_zero_left]
    exact hy
  · exact Nat.lt_of_le_of_lt (Nat.gcd_le_left y (by omega)) hx
theorem emod_nat (x y : Nat) : (x : Int) % (y : Int) = ((x % y : Nat) : Int) := rfl
def V3.cont (v : V3) : Int := (((v.x.natAbs.gcd v.y.natAbs).gcd v.z.natAbs : Nat) : Int)
def V3.prim (v : V3) : V3 := if v.cont = 0 then ⟨0, 0, 0⟩ else ⟨v.x / v.cont, v.y / v.cont, v.z / v.cont⟩
theorem V3.cont_zero {v : V3} (h : v.cont = 0) : v = ⟨0, 0, 0⟩ := by
  unfold V3.cont at h
  have h1 : (v.x.natAbs.gcd v.y.natAbs).gcd v.z.natAbs = 0 := by omega
  obtain ⟨h2, h3⟩ := Nat.gcd_eq_zero_iff.mp h1
  obtain ⟨h4, h5⟩ := Nat.gcd_eq_zero_iff.mp h2
  exact V3.ext' (by show v.x = 0; omega) (by show v.y = 0; omega) (by show v.z = 0; omega)
theorem V3.cont_lt {n : Nat} {v : V3} (h : BV n v) : (v.x.natAbs.gcd v.y.natAbs).gcd v.z.natAbs < 2 ^ n := gcd_lt (gcd_lt h.x h.y) h.z
theorem V3.cont_pos {v : V3} (h : ¬ v.cont = 0) : 0 < v.cont := by
  unfold V3.cont at h ⊢
  omega
theorem log_lt {n : Nat} {i : Int} (h : i.natAbs < 2 ^ n) (l : n < 8999) : i.natAbs.log2 < 9000 := by
  have h2 : i.natAbs < 2 ^ (n + 1) := Nat.lt_of_lt_of_le h (Nat.pow_le_pow_right (by decide) (Nat.le_succ _))
  exact Nat.lt_of_lt_of_le (PySem.Flt.log2_lt_of (Nat.succ_pos _) h2) (by omega)
theorem ix30 : ixN 3 0 = some 0 := by decide
theorem ix31 : ixN 3 1 = some 1 := by decide
theorem ix32 : ixN 3 2 = some 2 := by decide
end DL
namespace W
open PySem DL L2
section
variable {n m o : Nat} {j k l : Bool} {u v w : V3} {s t : M3} {i : Int}

theorem w_whole : m__law_whole [.int i] = some (.bool true) := rfl

theorem is_row_go {K N c : SC} : ∀ l : List Int, ∃ c', forL (gNm 2) (sIf (bNot (bVal (eCall m__law_whole (aCons (eVar 2) aNil)))) (sRet (eC (.bool false))) sNx) (l.map PyData.int) [K, N, c] = some (.nx [K, N, c'])
  | [] => ⟨c, rfl⟩
  | x :: l => by
    obtain ⟨c', e⟩ := is_row_go (K := K) (N := N) (c := .va (.int x)) l
    refine ⟨c', ?_⟩
    simp only [List.map_cons, forL, runD, List.map_cons, List.map_nil, List.replicate_zero, List.replicate_succ, List.cons_append, List.nil_append, List.append_nil, sRet, sRetN, sNx, sSeq, sSet, sSetF, sOwn, sTo, gsCons, gsNil, sPar, sPar3, eChain, sExp, sApp, sPut, sIf, sFrz, frz, frz1, List.foldl_cons, List.foldl_nil, eBin, eUn, eVar, eC, eAnd, eOr, eIf, eLend, flat, eIxO, eOfF, eTup, eAll, fAll, eCall, eIs, eSl, fSl, oNone, oSome, aNil, aCons, bVal, bAnd, bOr, bNot, bYes, blOf, gNot, iSeq, iRg1, iRg2, seq_l, seq_t, tup_l, tup_t, lst_l, lst_t, len_l, len_t, gIx_l, gIx_t, gNm, wipeR, List.getElem?_cons_zero, List.getElem?_cons_succ, List.set_cons_zero, List.set_cons_succ, Option.bind_some, Option.bind_none, Option.map_some, Option.map_none, if_true, if_false, decide_true, decide_false, Bool.not_true, Bool.not_false, Bool.false_eq_true, reduceIte, gAdd_i, gSub_i, gNeg_i, gLt_i, gLe_i, gGt_i, gGe_i, gEq_i, gNe_i, gMul_b, gMod_p, gFdiv_p, Nat.reduceAdd, Nat.reduceMul, Nat.reduceLeDiff, at0, at1, at2, at3, at4, at5, at6, at7, at8, at9, at10, at11, at12, at13, at14, at15, gSl_l, cut_pos, cut_from, cut_to, Int.reduceToNat, List.drop_succ_cons, List.drop_zero, List.take_succ_cons, List.take_zero, List.take_nil, Nat.reduceSub, Int.reduceAdd, Int.reduceSub, Int.reduceMul, Int.reduceMod, Int.reduceDiv, Int.reduceNeg, List.length_cons, List.length_nil, Nat.zero_add, fComp, compL, rg1_3, mInt, mAbs, mGcd, mMax2, mMin2, mMax3, mMin3, mIsqrt, isT, w_whole]
    exact e
/-- a tuple of so many whole numbers -/
theorem w_is_row_g {l : List Int} {n : Nat} (h : l.length = n) : m__law_is_row [.tuple (l.map .int), .int n] = some (.bool true) := by
  obtain ⟨c', e⟩ := is_row_go (K := .va (.tuple (l.map .int))) (N := .va (.int n)) (c := .un) l
  simp only [m__law_is_row, b__law_is_row, runD, List.map_cons, List.map_nil, List.replicate_zero, List.replicate_succ, List.cons_append, List.nil_append, List.append_nil, sRet, sRetN, sNx, sSeq, sSet, sSetF, sOwn, sTo, gsCons, gsNil, sPar, sPar3, eChain, sExp, sApp, sPut, sIf, sFrz, frz, frz1, List.foldl_cons, List.foldl_nil, eBin, eUn, eVar, eC, eAnd, eOr, eIf, eLend, flat, eIxO, eOfF, eTup, eAll, fAll, eCall, eIs, eSl, fSl, oNone, oSome, aNil, aCons, bVal, bAnd, bOr, bNot, bYes, blOf, gNot, iSeq, iRg1, iRg2, seq_l, seq_t, tup_l, tup_t, lst_l, lst_t, len_l, len_t, gIx_l, gIx_t, gNm, wipeR, List.getElem?_cons_zero, List.getElem?_cons_succ, List.set_cons_zero, List.set_cons_succ, Option.bind_some, Option.bind_none, Option.map_some, Option.map_none, if_true, if_false, decide_true, decide_false, Bool.not_true, Bool.not_false, Bool.false_eq_true, reduceIte, gAdd_i, gSub_i, gNeg_i, gLt_i, gLe_i, gGt_i, gGe_i, gEq_i, gNe_i, gMul_b, gMod_p, gFdiv_p, Nat.reduceAdd, Nat.reduceMul, Nat.reduceLeDiff, at0, at1, at2, at3, at4, at5, at6, at7, at8, at9, at10, at11, at12, at13, at14, at15, gSl_l, cut_pos, cut_from, cut_to, Int.reduceToNat, List.drop_succ_cons, List.drop_zero, List.take_succ_cons, List.take_zero, List.take_nil, Nat.reduceSub, Int.reduceAdd, Int.reduceSub, Int.reduceMul, Int.reduceMod, Int.reduceDiv, Int.reduceNeg, List.length_cons, List.length_nil, Nat.zero_add, fComp, compL, rg1_3, mInt, mAbs, mGcd, mMax2, mMin2, mMax3, mMin3, mIsqrt, isT, List.length_map, h, sFor, e]
theorem w_is_row : m__law_is_row [rw3 k v, .int 3] = some (.bool k) := by
  simp only [m__law_is_row, b__law_is_row, runD, List.map_cons, List.map_nil, List.replicate_zero, List.replicate_succ, List.cons_append, List.nil_append, List.append_nil, sRet, sRetN, sNx, sSeq, sSet, sSetF, sOwn, sTo, gsCons, gsNil, sPar, sPar3, eChain, sExp, sApp, sPut, sIf, sFrz, frz, frz1, List.foldl_cons, List.foldl_nil, eBin, eUn, eVar, eC, eAnd, eOr, eIf, eLend, flat, eIxO, eOfF, eTup, eAll, fAll, eCall, eIs, eSl, fSl, oNone, oSome, aNil, aCons, bVal, bAnd, bOr, bNot, bYes, blOf, gNot, iSeq, iRg1, iRg2, seq_l, seq_t, tup_l, tup_t, lst_l, lst_t, len_l, len_t, gIx_l, gIx_t, gNm, wipeR, List.getElem?_cons_zero, List.getElem?_cons_succ, List.set_cons_zero, List.set_cons_succ, Option.bind_some, Option.bind_none, Option.map_some, Option.map_none, if_true, if_false, decide_true, decide_false, Bool.not_true, Bool.not_false, Bool.false_eq_true, reduceIte, gAdd_i, gSub_i, gNeg_i, gLt_i, gLe_i, gGt_i, gGe_i, gEq_i, gNe_i, gMul_b, gMod_p, gFdiv_p, Nat.reduceAdd, Nat.reduceMul, Nat.reduceLeDiff, at0, at1, at2, at3, at4, at5, at6, at7, at8, at9, at10, at11, at12, at13, at14, at15, gSl_l, cut_pos, cut_from, cut_to, Int.reduceToNat, List.drop_succ_cons, List.drop_zero, List.take_succ_cons, List.take_zero, List.take_nil, Nat.reduceSub, Int.reduceAdd, Int.reduceSub, Int.reduceMul, Int.reduceMod, Int.reduceDiv, Int.reduceNeg, List.length_cons, List.length_nil, Nat.zero_add, fComp, compL, rg1_3, mInt, mAbs, mGcd, mMax2, mMin2, mMax3, mMin3, mIsqrt, isT, isTup_r, len_r]
  cases k
  · rfl
  · rfl

theorem w_handed : m__law_handed [rw3 k v, .int i] = some (rw3 (decide (i = 0)) v) := by
  simp only [m__law_handed, b__law_handed, runD, List.map_cons, List.map_nil, List.replicate_zero, List.replicate_succ, List.cons_append, List.nil_append, List.append_nil, sRet, sRetN, sNx, sSeq, sSet, sSetF, sOwn, sTo, gsCons, gsNil, sPar, sPar3, eChain, sExp, sApp, sPut, sIf, sFrz, frz, frz1, List.foldl_cons, List.foldl_nil, eBin, eUn, eVar, eC, eAnd, eOr, eIf, eLend, flat, eIxO, eOfF, eTup, eAll, fAll, eCall, eIs, eSl, fSl, oNone, oSome, aNil, aCons, bVal, bAnd, bOr, bNot, bYes, blOf, gNot, iSeq, iRg1, iRg2, seq_l, seq_t, tup_l, tup_t, lst_l, lst_t, len_l, len_t, gIx_l, gIx_t, gNm, wipeR, List.getElem?_cons_zero, List.getElem?_cons_succ, List.set_cons_zero, List.set_cons_succ, Option.bind_some, Option.bind_none, Option.map_some, Option.map_none, if_true, if_false, decide_true, decide_false, Bool.not_true, Bool.not_false, Bool.false_eq_true, reduceIte, gAdd_i, gSub_i, gNeg_i, gLt_i, gLe_i, gGt_i, gGe_i, gEq_i, gNe_i, gMul_b, gMod_p, gFdiv_p, Nat.reduceAdd, Nat.reduceMul, Nat.reduceLeDiff, at0, at1, at2, at3, at4, at5, at6, at7, at8, at9, at10, at11, at12, at13, at14, at15, gSl_l, cut_pos, cut_from, cut_to, Int.reduceToNat, List.drop_succ_cons, List.drop_zero, List.take_succ_cons, List.take_zero, List.take_nil, Nat.reduceSub, Int.reduceAdd, Int.reduceSub, Int.reduceMul, Int.reduceMod, Int.reduceDiv, Int.reduceNeg, List.length_cons, List.length_nil, Nat.zero_add, fComp, compL, rg1_3, mInt, mAbs, mGcd, mMax2, mMin2, mMax3, mMin3, mIsqrt, isT, tup_r, seq_r]
  by_cases h : i = 0
  · simp only [h, runD, List.map_cons, List.map_nil, List.replicate_zero, List.replicate_succ, List.cons_append, List.nil_append, List.append_nil, sRet, sRetN, sNx, sSeq, sSet, sSetF, sOwn, sTo, gsCons, gsNil, sPar, sPar3, eChain, sExp, sApp, sPut, sIf, sFrz, frz, frz1, List.foldl_cons, List.foldl_nil, eBin, eUn, eVar, eC, eAnd, eOr, eIf, eLend, flat, eIxO, eOfF, eTup, eAll, fAll, eCall, eIs, eSl, fSl, oNone, oSome, aNil, aCons, bVal, bAnd, bOr, bNot, bYes, blOf, gNot, iSeq, iRg1, iRg2, seq_l, seq_t, tup_l, tup_t, lst_l, lst_t, len_l, len_t, gIx_l, gIx_t, gNm, wipeR, List.getElem?_cons_zero, List.getElem?_cons_succ, List.set_cons_zero, List.set_cons_succ, Option.bind_some, Option.bind_none, Option.map_some, Option.map_none, if_true, if_false, decide_true, decide_false, Bool.not_true, Bool.not_false, Bool.false_eq_true, reduceIte, gAdd_i, gSub_i, gNeg_i, gLt_i, gLe_i, gGt_i, gGe_i, gEq_i, gNe_i, gMul_b, gMod_p, gFdiv_p, Nat.reduceAdd, Nat.reduceMul, Nat.reduceLeDiff, at0, at1, at2, at3, at4, at5, at6, at7, at8, at9, at10, at11, at12, at13, at14, at15, gSl_l, cut_pos, cut_from, cut_to, Int.reduceToNat, List.drop_succ_cons, List.drop_zero, List.take_succ_cons, List.take_zero, List.take_nil, Nat.reduceSub, Int.reduceAdd, Int.reduceSub, Int.reduceMul, Int.reduceMod, Int.reduceDiv, Int.reduceNeg, List.length_cons, List.length_nil, Nat.zero_add, fComp, compL, rg1_3, mInt, mAbs, mGcd, mMax2, mMin2, mMax3, mMin3, mIsqrt, isT, decide_true, tup_r]
  · simp only [h, runD, List.map_cons, List.map_nil, List.replicate_zero, List.replicate_succ, List.cons_append, List.nil_append, List.append_nil, sRet, sRetN, sNx, sSeq, sSet, sSetF, sOwn, sTo, gsCons, gsNil, sPar, sPar3, eChain, sExp, sApp, sPut, sIf, sFrz, frz, frz1, List.foldl_cons, List.foldl_nil, eBin, eUn, eVar, eC, eAnd, eOr, eIf, eLend, flat, eIxO, eOfF, eTup, eAll, fAll, eCall, eIs, eSl, fSl, oNone, oSome, aNil, aCons, bVal, bAnd, bOr, bNot, bYes, blOf, gNot, iSeq, iRg1, iRg2, seq_l, seq_t, tup_l, tup_t, lst_l, lst_t, len_l, len_t, gIx_l, gIx_t, gNm, wipeR, List.getElem?_cons_zero, List.getElem?_cons_succ, List.set_cons_zero, List.set_cons_succ, Option.bind_some, Option.bind_none, Option.map_some, Option.map_none, if_true, if_false, decide_true, decide_false, Bool.not_true, Bool.not_false, Bool.false_eq_true, reduceIte, gAdd_i, gSub_i, gNeg_i, gLt_i, gLe_i, gGt_i, gGe_i, gEq_i, gNe_i, gMul_b, gMod_p, gFdiv_p, Nat.reduceAdd, Nat.reduceMul, Nat.reduceLeDiff, at0, at1, at2, at3, at4, at5, at6, at7, at8, at9, at10, at11, at12, at13, at14, at15, gSl_l, cut_pos, cut_from, cut_to, Int.reduceToNat, List.drop_succ_cons, List.drop_zero, List.take_succ_cons, List.take_zero, List.take_nil, Nat.reduceSub, Int.reduceAdd, Int.reduceSub, Int.reduceMul, Int.reduceMod, Int.reduceDiv, Int.reduceNeg, List.length_cons, List.length_nil, Nat.zero_add, fComp, compL, rg1_3, mInt, mAbs, mGcd, mMax2, mMin2, mMax3, mMin3, mIsqrt, isT, decide_false, seq_r]
    rfl
theorem comp_id {g : Rho} (h0 : ∀ d, ∃ ρ1, gNm 2 d g = some ρ1 ∧ ρ1[2]? = some (.va d)) : ∀ ds : List PyData, compL (gNm 2) bYes (eVar 2) g ds = some ds
  | [] => rfl
  | d :: ds => by
    obtain ⟨ρ1, h1, h2⟩ := h0 d
    simp only [compL, h1, Option.bind_some, bYes, if_true, eVar, h2, comp_id h0 ds]
theorem w_handed_g {l : List PyData} (hl : l.length ≤ 1000000) : m__law_handed [sq k l, .int i] = some (sq (decide (i = 0)) l) := by
  have e := comp_id (g := [.va (sq k l), .va (.int i), .un]) (fun d => ⟨_, rfl, rfl⟩) l
  simp only [m__law_handed, b__law_handed, runD, List.map_cons, List.map_nil, List.replicate_zero, List.replicate_succ, List.cons_append, List.nil_append, List.append_nil, sRet, sRetN, sNx, sSeq, sSet, sSetF, sOwn, sTo, gsCons, gsNil, sPar, sPar3, eChain, sExp, sApp, sPut, sIf, sFrz, frz, frz1, List.foldl_cons, List.foldl_nil, eBin, eUn, eVar, eC, eAnd, eOr, eIf, eLend, flat, eIxO, eOfF, eTup, eAll, fAll, eCall, eIs, eSl, fSl, oNone, oSome, aNil, aCons, bVal, bAnd, bOr, bNot, bYes, blOf, gNot, iSeq, iRg1, iRg2, seq_l, seq_t, tup_l, tup_t, lst_l, lst_t, len_l, len_t, gIx_l, gIx_t, gNm, wipeR, List.getElem?_cons_zero, List.getElem?_cons_succ, List.set_cons_zero, List.set_cons_succ, Option.bind_some, Option.bind_none, Option.map_some, Option.map_none, if_true, if_false, decide_true, decide_false, Bool.not_true, Bool.not_false, Bool.false_eq_true, reduceIte, gAdd_i, gSub_i, gNeg_i, gLt_i, gLe_i, gGt_i, gGe_i, gEq_i, gNe_i, gMul_b, gMod_p, gFdiv_p, Nat.reduceAdd, Nat.reduceMul, Nat.reduceLeDiff, at0, at1, at2, at3, at4, at5, at6, at7, at8, at9, at10, at11, at12, at13, at14, at15, gSl_l, cut_pos, cut_from, cut_to, Int.reduceToNat, List.drop_succ_cons, List.drop_zero, List.take_succ_cons, List.take_zero, List.take_nil, Nat.reduceSub, Int.reduceAdd, Int.reduceSub, Int.reduceMul, Int.reduceMod, Int.reduceDiv, Int.reduceNeg, List.length_cons, List.length_nil, Nat.zero_add, fComp, compL, rg1_3, mInt, mAbs, mGcd, mMax2, mMin2, mMax3, mMin3, mIsqrt, isT, tup_sq, seq_sq, show l.length ≤ 16000000 by omega]
  by_cases h : i = 0
  · simp only [h, runD, List.map_cons, List.map_nil, List.replicate_zero, List.replicate_succ, List.cons_append, List.nil_append, List.append_nil, sRet, sRetN, sNx, sSeq, sSet, sSetF, sOwn, sTo, gsCons, gsNil, sPar, sPar3, eChain, sExp, sApp, sPut, sIf, sFrz, frz, frz1, List.foldl_cons, List.foldl_nil, eBin, eUn, eVar, eC, eAnd, eOr, eIf, eLend, flat, eIxO, eOfF, eTup, eAll, fAll, eCall, eIs, eSl, fSl, oNone, oSome, aNil, aCons, bVal, bAnd, bOr, bNot, bYes, blOf, gNot, iSeq, iRg1, iRg2, seq_l, seq_t, tup_l, tup_t, lst_l, lst_t, len_l, len_t, gIx_l, gIx_t, gNm, wipeR, List.getElem?_cons_zero, List.getElem?_cons_succ, List.set_cons_zero, List.set_cons_succ, Option.bind_some, Option.bind_none, Option.map_some, Option.map_none, if_true, if_false, decide_true, decide_false, Bool.not_true, Bool.not_false, Bool.false_eq_true, reduceIte, gAdd_i, gSub_i, gNeg_i, gLt_i, gLe_i, gGt_i, gGe_i, gEq_i, gNe_i, gMul_b, gMod_p, gFdiv_p, Nat.reduceAdd, Nat.reduceMul, Nat.reduceLeDiff, at0, at1, at2, at3, at4, at5, at6, at7, at8, at9, at10, at11, at12, at13, at14, at15, gSl_l, cut_pos, cut_from, cut_to, Int.reduceToNat, List.drop_succ_cons, List.drop_zero, List.take_succ_cons, List.take_zero, List.take_nil, Nat.reduceSub, Int.reduceAdd, Int.reduceSub, Int.reduceMul, Int.reduceMod, Int.reduceDiv, Int.reduceNeg, List.length_cons, List.length_nil, Nat.zero_add, fComp, compL, rg1_3, mInt, mAbs, mGcd, mMax2, mMin2, mMax3, mMin3, mIsqrt, isT, tup_sq]
  · simp only [h, runD, List.map_cons, List.map_nil, List.replicate_zero, List.replicate_succ, List.cons_append, List.nil_append, List.append_nil, sRet, sRetN, sNx, sSeq, sSet, sSetF, sOwn, sTo, gsCons, gsNil, sPar, sPar3, eChain, sExp, sApp, sPut, sIf, sFrz, frz, frz1, List.foldl_cons, List.foldl_nil, eBin, eUn, eVar, eC, eAnd, eOr, eIf, eLend, flat, eIxO, eOfF, eTup, eAll, fAll, eCall, eIs, eSl, fSl, oNone, oSome, aNil, aCons, bVal, bAnd, bOr, bNot, bYes, blOf, gNot, iSeq, iRg1, iRg2, seq_l, seq_t, tup_l, tup_t, lst_l, lst_t, len_l, len_t, gIx_l, gIx_t, gNm, wipeR, List.getElem?_cons_zero, List.getElem?_cons_succ, List.set_cons_zero, List.set_cons_succ, Option.bind_some, Option.bind_none, Option.map_some, Option.map_none, if_true, if_false, decide_true, decide_false, Bool.not_true, Bool.not_false, Bool.false_eq_true, reduceIte, gAdd_i, gSub_i, gNeg_i, gLt_i, gLe_i, gGt_i, gGe_i, gEq_i, gNe_i, gMul_b, gMod_p, gFdiv_p, Nat.reduceAdd, Nat.reduceMul, Nat.reduceLeDiff, at0, at1, at2, at3, at4, at5, at6, at7, at8, at9, at10, at11, at12, at13, at14, at15, gSl_l, cut_pos, cut_from, cut_to, Int.reduceToNat, List.drop_succ_cons, List.drop_zero, List.take_succ_cons, List.take_zero, List.take_nil, Nat.reduceSub, Int.reduceAdd, Int.reduceSub, Int.reduceMul, Int.reduceMod, Int.reduceDiv, Int.reduceNeg, List.length_cons, List.length_nil, Nat.zero_add, fComp, compL, rg1_3, mInt, mAbs, mGcd, mMax2, mMin2, mMax3, mMin3, mIsqrt, isT, seq_sq, e, show l.length ≤ 16000000 by omega]
    rfl

end

theorem w_cell_go (K : PyData) : ∀ (ns : List Int) (s : Int) (sc : PyData) (c : SC), 0 ≤ s → s < 1000003 → ∃ s' c', 0 ≤ s' ∧ s' < 1000003 ∧
    forL (gNm 3) (sSet 2 (eBin gMod (eAll mInt (aCons (eBin gAdd (eBin gMul (eVar 2) (eC (.int 31))) (eBin gMod (eAll mInt (aCons (eVar 3) aNil)) (eC (.int 1000003)))) aNil)) (eC (.int 1000003)))) (ns.map PyData.int) [.va sc, .va K, .va (.int s), c] = some (.nx [.va sc, .va K, .va (.int s'), c'])
  | [], s, sc, c, h1, h2 => ⟨s, c, h1, h2, rfl⟩
  | n :: ns, s, sc, c, h1, h2 => by
    haveI : Bd 20 s := ⟨by omega⟩
    obtain ⟨s', c', q1, q2, q3⟩ := w_cell_go K ns ((s * 31 + n % 1000003) % 1000003) sc (.va (.int n)) (by omega) (by omega)
    refine ⟨s', c', q1, q2, ?_⟩
    rw [List.map_cons]
    simp (config := {decide := true}) only [forL, runD, List.map_cons, List.map_nil, List.replicate_zero, List.replicate_succ, List.cons_append, List.nil_append, List.append_nil, sRet, sRetN, sNx, sSeq, sSet, sSetF, sOwn, sTo, gsCons, gsNil, sPar, sPar3, eChain, sExp, sApp, sPut, sIf, sFrz, frz, frz1, List.foldl_cons, List.foldl_nil, eBin, eUn, eVar, eC, eAnd, eOr, eIf, eLend, flat, eIxO, eOfF, eTup, eAll, fAll, eCall, eIs, eSl, fSl, oNone, oSome, aNil, aCons, bVal, bAnd, bOr, bNot, bYes, blOf, gNot, iSeq, iRg1, iRg2, seq_l, seq_t, tup_l, tup_t, lst_l, lst_t, len_l, len_t, gIx_l, gIx_t, gNm, wipeR, List.getElem?_cons_zero, List.getElem?_cons_succ, List.set_cons_zero, List.set_cons_succ, Option.bind_some, Option.bind_none, Option.map_some, Option.map_none, if_true, if_false, decide_true, decide_false, Bool.not_true, Bool.not_false, Bool.false_eq_true, reduceIte, gAdd_i, gSub_i, gNeg_i, gLt_i, gLe_i, gGt_i, gGe_i, gEq_i, gNe_i, gMul_b, gMod_p, gFdiv_p, Nat.reduceAdd, Nat.reduceMul, Nat.reduceLeDiff, at0, at1, at2, at3, at4, at5, at6, at7, at8, at9, at10, at11, at12, at13, at14, at15, gSl_l, cut_pos, cut_from, cut_to, Int.reduceToNat, List.drop_succ_cons, List.drop_zero, List.take_succ_cons, List.take_zero, List.take_nil, Nat.reduceSub, Int.reduceAdd, Int.reduceSub, Int.reduceMul, Int.reduceMod, Int.reduceDiv, Int.reduceNeg, List.length_cons, List.length_nil, Nat.zero_add, fComp, compL, rg1_3, mInt, mAbs, mGcd, mMax2, mMin2, mMax3, mMin3, mIsqrt, isT]
    exact q3
theorem w_cell (ns : List Int) (k : Int) (hk : 0 ≤ k) (hk2 : k < 1000) : ∃ c, m__law_cell [.list (ns.map .int), .int k] = some (.int c) := by
  by_cases h : k < ns.length
  · obtain ⟨i, rfl⟩ : ∃ i : Nat, k = i := ⟨k.toNat, by omega⟩
    have hi : i < ns.length := by omega
    have e : atI (ns.map PyData.int) (i : Int) = some (.int ns[i]) := by
      rw [atI_nat', List.getElem?_map, List.getElem?_eq_getElem hi]
      rfl
    refine ⟨ns[i], ?_⟩
    simp only [m__law_cell, b__law_cell, runD, List.map_cons, List.map_nil, List.replicate_zero, List.replicate_succ, List.cons_append, List.nil_append, List.append_nil, sRet, sRetN, sNx, sSeq, sSet, sSetF, sOwn, sTo, gsCons, gsNil, sPar, sPar3, eChain, sExp, sApp, sPut, sIf, sFrz, frz, frz1, List.foldl_cons, List.foldl_nil, eBin, eUn, eVar, eC, eAnd, eOr, eIf, eLend, flat, eIxO, eOfF, eTup, eAll, fAll, eCall, eIs, eSl, fSl, oNone, oSome, aNil, aCons, bVal, bAnd, bOr, bNot, bYes, blOf, gNot, iSeq, iRg1, iRg2, seq_l, seq_t, tup_l, tup_t, lst_l, lst_t, len_l, len_t, gIx_l, gIx_t, gNm, wipeR, List.getElem?_cons_zero, List.getElem?_cons_succ, List.set_cons_zero, List.set_cons_succ, Option.bind_some, Option.bind_none, Option.map_some, Option.map_none, if_true, if_false, decide_true, decide_false, Bool.not_true, Bool.not_false, Bool.false_eq_true, reduceIte, gAdd_i, gSub_i, gNeg_i, gLt_i, gLe_i, gGt_i, gGe_i, gEq_i, gNe_i, gMul_b, gMod_p, gFdiv_p, Nat.reduceAdd, Nat.reduceMul, Nat.reduceLeDiff, at0, at1, at2, at3, at4, at5, at6, at7, at8, at9, at10, at11, at12, at13, at14, at15, gSl_l, cut_pos, cut_from, cut_to, Int.reduceToNat, List.drop_succ_cons, List.drop_zero, List.take_succ_cons, List.take_zero, List.take_nil, Nat.reduceSub, Int.reduceAdd, Int.reduceSub, Int.reduceMul, Int.reduceMod, Int.reduceDiv, Int.reduceNeg, List.length_cons, List.length_nil, Nat.zero_add, fComp, compL, rg1_3, mInt, mAbs, mGcd, mMax2, mMin2, mMax3, mMin3, mIsqrt, isT, List.length_map, h, decide_true, e]
  · obtain ⟨s, c, h1, h2, h3⟩ := w_cell_go (.int k) ns 17 (.list (ns.map .int)) .un (by decide) (by decide)
    haveI : Bd 21 (s + 7) := ⟨by omega⟩
    haveI : Bd 11 (k + 3) := ⟨by omega⟩
    refine ⟨(s + 7) * (k + 3) * 69621 % 2147483647, ?_⟩
    simp (config := {decide := true}) only [m__law_cell, b__law_cell, runD, List.map_cons, List.map_nil, List.replicate_zero, List.replicate_succ, List.cons_append, List.nil_append, List.append_nil, sRet, sRetN, sNx, sSeq, sSet, sSetF, sOwn, sTo, gsCons, gsNil, sPar, sPar3, eChain, sExp, sApp, sPut, sIf, sFrz, frz, frz1, List.foldl_cons, List.foldl_nil, eBin, eUn, eVar, eC, eAnd, eOr, eIf, eLend, flat, eIxO, eOfF, eTup, eAll, fAll, eCall, eIs, eSl, fSl, oNone, oSome, aNil, aCons, bVal, bAnd, bOr, bNot, bYes, blOf, gNot, iSeq, iRg1, iRg2, seq_l, seq_t, tup_l, tup_t, lst_l, lst_t, len_l, len_t, gIx_l, gIx_t, gNm, wipeR, List.getElem?_cons_zero, List.getElem?_cons_succ, List.set_cons_zero, List.set_cons_succ, Option.bind_some, Option.bind_none, Option.map_some, Option.map_none, if_true, if_false, decide_true, decide_false, Bool.not_true, Bool.not_false, Bool.false_eq_true, reduceIte, gAdd_i, gSub_i, gNeg_i, gLt_i, gLe_i, gGt_i, gGe_i, gEq_i, gNe_i, gMul_b, gMod_p, gFdiv_p, Nat.reduceAdd, Nat.reduceMul, Nat.reduceLeDiff, at0, at1, at2, at3, at4, at5, at6, at7, at8, at9, at10, at11, at12, at13, at14, at15, gSl_l, cut_pos, cut_from, cut_to, Int.reduceToNat, List.drop_succ_cons, List.drop_zero, List.take_succ_cons, List.take_zero, List.take_nil, Nat.reduceSub, Int.reduceAdd, Int.reduceSub, Int.reduceMul, Int.reduceMod, Int.reduceDiv, Int.reduceNeg, List.length_cons, List.length_nil, Nat.zero_add, fComp, compL, rg1_3, mInt, mAbs, mGcd, mMax2, mMin2, mMax3, mMin3, mIsqrt, isT, List.length_map, h, decide_false, sFor, h3]

theorem gPow_18 : gPow (.int 10) (.int 18) = some (.int 1000000000000000000) := by
  show (if CPow 10 18 then some (PyData.int (10 ^ (18 : Int).toNat)) else none) = _
  rw [if_pos (by decide +kernel)]
  rfl
/-! digits -/
noncomputable abbrev bodyA : ES := sSeq (sApp 2 (eBin gMod (eAll mInt (aCons (eVar 3) aNil)) (eVar 4))) (sSet 3 (eBin gFdiv (eAll mInt (aCons (eVar 3) aNil)) (eVar 4)))
noncomputable abbrev bodyB : ES := sSeq (sSet 5 (eBin gMod (eAll mInt (aCons (eBin gAdd (eBin gAdd (eBin gMul (eVar 5) (eC (.int 48271))) (eBin gMul (eC (.int 974711)) (eVar 6))) (eC (.int 12345))) aNil)) (eC (.int 2147483647)))) (sSeq (sSet 7 (eBin gMod (eAll mInt (aCons (eBin gMul (eVar 5) (eBin gAdd (eBin gFdiv (eVar 5) (eC (.int 65537))) (eC (.int 3)))) aNil)) (eC (.int 2147483629)))) (sApp 2 (eBin gMod (eBin gFdiv (eVar 7) (eC (.int 19))) (eBin gIx (eVar 1) (eVar 6)))))
theorem log_small {l : Int} (h : 0 < l) (h2 : l < 18446744073709551616) : l.natAbs.log2 < 9000 := by
  have : l.natAbs < 2 ^ 64 := by omega
  exact Nat.lt_of_lt_of_le (PySem.Flt.log2_lt_of (by decide) this) (by decide)
theorem digA (c ls : PyData) (x y z : SC) : ∀ (L : List Int) (acc : List PyData) (r : Int) (w : SC), (∀ l ∈ L, 0 < l ∧ l < 18446744073709551616) → acc.length + L.length ≤ 10000 → ∃ (ds : List Int) (r' : Int) (w' : SC), inD ds L ∧
    forL (gNm 4) bodyA (L.map PyData.int) [.va c, .va ls, .ow acc, .va (.int r), w, x, y, z] = some (.nx [.va c, .va ls, .ow (acc ++ ds.map PyData.int), .va (.int r'), w', x, y, z])
  | [], acc, r, w, _, _ => ⟨[], r, w, trivial, by simp only [List.map_nil, List.append_nil, forL]⟩
  | l :: L, acc, r, w, hL, hl => by
    obtain ⟨p1, p2⟩ := hL l List.mem_cons_self
    rw [List.length_cons] at hl
    obtain ⟨ds, r', w', q1, q2⟩ := digA c ls x y z L (acc ++ [.int (r % l)]) (r / l) (.va (.int l)) (fun k hk => hL k (List.mem_cons_of_mem _ hk)) (by rw [List.length_append]; simp; omega)
    refine ⟨r % l :: ds, r', w', ⟨Int.emod_nonneg _ (by omega), Int.emod_lt_of_pos _ p1, q1⟩, ?_⟩
    rw [List.map_cons]
    simp (config := {decide := true}) only [forL, runD, List.map_cons, List.map_nil, List.replicate_zero, List.replicate_succ, List.cons_append, List.nil_append, List.append_nil, sRet, sRetN, sNx, sSeq, sSet, sSetF, sOwn, sTo, gsCons, gsNil, sPar, sPar3, eChain, sExp, sApp, sPut, sIf, sFrz, frz, frz1, List.foldl_cons, List.foldl_nil, eBin, eUn, eVar, eC, eAnd, eOr, eIf, eLend, flat, eIxO, eOfF, eTup, eAll, fAll, eCall, eIs, eSl, fSl, oNone, oSome, aNil, aCons, bVal, bAnd, bOr, bNot, bYes, blOf, gNot, iSeq, iRg1, iRg2, seq_l, seq_t, tup_l, tup_t, lst_l, lst_t, len_l, len_t, gIx_l, gIx_t, gNm, wipeR, List.getElem?_cons_zero, List.getElem?_cons_succ, List.set_cons_zero, List.set_cons_succ, Option.bind_some, Option.bind_none, Option.map_some, Option.map_none, if_true, if_false, decide_true, decide_false, Bool.not_true, Bool.not_false, Bool.false_eq_true, reduceIte, gAdd_i, gSub_i, gNeg_i, gLt_i, gLe_i, gGt_i, gGe_i, gEq_i, gNe_i, gMul_b, gMod_p, gFdiv_p, Nat.reduceAdd, Nat.reduceMul, Nat.reduceLeDiff, at0, at1, at2, at3, at4, at5, at6, at7, at8, at9, at10, at11, at12, at13, at14, at15, gSl_l, cut_pos, cut_from, cut_to, Int.reduceToNat, List.drop_succ_cons, List.drop_zero, List.take_succ_cons, List.take_zero, List.take_nil, Nat.reduceSub, Int.reduceAdd, Int.reduceSub, Int.reduceMul, Int.reduceMod, Int.reduceDiv, Int.reduceNeg, List.length_cons, List.length_nil, Nat.zero_add, fComp, compL, rg1_3, mInt, mAbs, mGcd, mMax2, mMin2, mMax3, mMin3, mIsqrt, isT, bodyA, p1, log_small p1 p2, show acc.length < 16000000 by omega]
    rw [q2, List.append_assoc]
    rfl
theorem bd31 {x : Int} : Bd 31 (x % 2147483647) := ⟨by omega⟩
theorem digB (c : PyData) (L : List Int) (hL : ∀ l ∈ L, 0 < l ∧ l < 18446744073709551616) (hl : L.length ≤ 1000) (r w : SC) : ∀ (m i : Nat) (acc : List PyData) (s : Int) (k t : SC), i + m = L.length → acc.length = i → 0 ≤ s → s < 2147483647 → ∃ (ds : List Int) (s' k' t' : SC), inD ds (L.drop i) ∧
    forL (gNm 6) bodyB (rng i m) [.va c, .va (.list (L.map PyData.int)), .ow acc, r, w, .va (.int s), k, t] = some (.nx [.va c, .va (.list (L.map PyData.int)), .ow (acc ++ ds.map PyData.int), r, w, s', k', t'])
  | 0, i, acc, s, k, t, h1, h2, h3, h4 => ⟨[], _, _, _, by rw [List.drop_eq_nil_of_le (by omega)]; trivial, by rw [rng_zero]; simp only [List.map_nil, List.append_nil, forL]; rfl⟩
  | m + 1, i, acc, s, k, t, h1, h2, h3, h4 => by
    have hi : i < L.length := by omega
    obtain ⟨p1, p2⟩ := hL L[i] (List.getElem_mem hi)
    generalize es : (s * 48271 + 974711 * (i : Int) + 12345) % 2147483647 = s1
    have b1 : 0 ≤ s1 ∧ s1 < 2147483647 := by omega
    obtain ⟨ds, s', k', t', q1, q2⟩ := digB c L hL hl r w m (i + 1) (acc ++ [.int (s1 * (s1 / 65537 + 3) % 2147483629 / 19 % L[i])]) s1 (.va (.int i)) (.va (.int (s1 * (s1 / 65537 + 3) % 2147483629))) (by omega) (by simp [h2]) b1.1 b1.2
    refine ⟨s1 * (s1 / 65537 + 3) % 2147483629 / 19 % L[i] :: ds, s', k', t', ?_, ?_⟩
    · rw [List.drop_eq_getElem_cons hi]
      exact ⟨Int.emod_nonneg _ (by omega), Int.emod_lt_of_pos _ p1, q1⟩
    · haveI : Bd 31 s := ⟨by omega⟩
      haveI : Bd 10 (i : Int) := ⟨by omega⟩
      haveI : Bd 31 s1 := ⟨by omega⟩
      haveI : Bd 31 (s1 / 65537 + 3) := ⟨by omega⟩
      have e : atI (L.map PyData.int) (i : Int) = some (.int L[i]) := by
        rw [atI_nat', List.getElem?_map, List.getElem?_eq_getElem hi]
        rfl
      rw [rng_succ]
      simp (config := {decide := true}) only [forL, runD, List.map_cons, List.map_nil, List.replicate_zero, List.replicate_succ, List.cons_append, List.nil_append, List.append_nil, sRet, sRetN, sNx, sSeq, sSet, sSetF, sOwn, sTo, gsCons, gsNil, sPar, sPar3, eChain, sExp, sApp, sPut, sIf, sFrz, frz, frz1, List.foldl_cons, List.foldl_nil, eBin, eUn, eVar, eC, eAnd, eOr, eIf, eLend, flat, eIxO, eOfF, eTup, eAll, fAll, eCall, eIs, eSl, fSl, oNone, oSome, aNil, aCons, bVal, bAnd, bOr, bNot, bYes, blOf, gNot, iSeq, iRg1, iRg2, seq_l, seq_t, tup_l, tup_t, lst_l, lst_t, len_l, len_t, gIx_l, gIx_t, gNm, wipeR, List.getElem?_cons_zero, List.getElem?_cons_succ, List.set_cons_zero, List.set_cons_succ, Option.bind_some, Option.bind_none, Option.map_some, Option.map_none, if_true, if_false, decide_true, decide_false, Bool.not_true, Bool.not_false, Bool.false_eq_true, reduceIte, gAdd_i, gSub_i, gNeg_i, gLt_i, gLe_i, gGt_i, gGe_i, gEq_i, gNe_i, gMul_b, gMod_p, gFdiv_p, Nat.reduceAdd, Nat.reduceMul, Nat.reduceLeDiff, at0, at1, at2, at3, at4, at5, at6, at7, at8, at9, at10, at11, at12, at13, at14, at15, gSl_l, cut_pos, cut_from, cut_to, Int.reduceToNat, List.drop_succ_cons, List.drop_zero, List.take_succ_cons, List.take_zero, List.take_nil, Nat.reduceSub, Int.reduceAdd, Int.reduceSub, Int.reduceMul, Int.reduceMod, Int.reduceDiv, Int.reduceNeg, List.length_cons, List.length_nil, Nat.zero_add, fComp, compL, rg1_3, mInt, mAbs, mGcd, mMax2, mMin2, mMax3, mMin3, mIsqrt, isT, bodyB, es, e, p1, log_small p1 p2, show acc.length < 16000000 by omega]
      rw [show (i : Int) + 1 = ((i + 1 : Nat) : Int) by omega, q2, List.append_assoc]
      rfl
theorem w_digits (c : Int) (L : List Int) (hL : ∀ l ∈ L, 0 < l ∧ l < 18446744073709551616) (hl : L.length ≤ 1000) : ∃ ds, inD ds L ∧ m__law_digits [.int c, .list (L.map .int)] = some (.list (ds.map .int)) := by
  by_cases h : 1000000000000000000 ≤ c
  · obtain ⟨ds, r', w', q1, q2⟩ := digA (.int c) (.list (L.map .int)) .un .un .un L [] (c - 1000000000000000000) .un hL (by simp; omega)
    refine ⟨ds, q1, ?_⟩
    simp (config := {decide := true}) only [m__law_digits, b__law_digits, runD, List.map_cons, List.map_nil, List.replicate_zero, List.replicate_succ, List.cons_append, List.nil_append, List.append_nil, sRet, sRetN, sNx, sSeq, sSet, sSetF, sOwn, sTo, gsCons, gsNil, sPar, sPar3, eChain, sExp, sApp, sPut, sIf, sFrz, frz, frz1, List.foldl_cons, List.foldl_nil, eBin, eUn, eVar, eC, eAnd, eOr, eIf, eLend, flat, eIxO, eOfF, eTup, eAll, fAll, eCall, eIs, eSl, fSl, oNone, oSome, aNil, aCons, bVal, bAnd, bOr, bNot, bYes, blOf, gNot, iSeq, iRg1, iRg2, seq_l, seq_t, tup_l, tup_t, lst_l, lst_t, len_l, len_t, gIx_l, gIx_t, gNm, wipeR, List.getElem?_cons_zero, List.getElem?_cons_succ, List.set_cons_zero, List.set_cons_succ, Option.bind_some, Option.bind_none, Option.map_some, Option.map_none, if_true, if_false, decide_true, decide_false, Bool.not_true, Bool.not_false, Bool.false_eq_true, reduceIte, gAdd_i, gSub_i, gNeg_i, gLt_i, gLe_i, gGt_i, gGe_i, gEq_i, gNe_i, gMul_b, gMod_p, gFdiv_p, Nat.reduceAdd, Nat.reduceMul, Nat.reduceLeDiff, at0, at1, at2, at3, at4, at5, at6, at7, at8, at9, at10, at11, at12, at13, at14, at15, gSl_l, cut_pos, cut_from, cut_to, Int.reduceToNat, List.drop_succ_cons, List.drop_zero, List.take_succ_cons, List.take_zero, List.take_nil, Nat.reduceSub, Int.reduceAdd, Int.reduceSub, Int.reduceMul, Int.reduceMod, Int.reduceDiv, Int.reduceNeg, List.length_cons, List.length_nil, Nat.zero_add, fComp, compL, rg1_3, mInt, mAbs, mGcd, mMax2, mMin2, mMax3, mMin3, mIsqrt, isT, gPow_18, h, sFor, q2]
  · obtain ⟨ds, s', k', t', q1, q2⟩ := digB (.int c) L hL hl (.va (.int c)) .un L.length 0 [] (c % 2147483629) .un .un (by omega) rfl (by omega) (by omega)
    refine ⟨ds, q1, ?_⟩
    change forL (gNm 6) bodyB (rng 0 L.length) _ = _ at q2
    have e : rg1 (.int ((L.map PyData.int).length : Nat)) = some (rng 0 L.length) := by
      rw [List.length_map]
      exact rg1_nat _ (by omega)
    simp (config := {decide := true}) only [m__law_digits, b__law_digits, runD, List.map_cons, List.map_nil, List.replicate_zero, List.replicate_succ, List.cons_append, List.nil_append, List.append_nil, sRet, sRetN, sNx, sSeq, sSet, sSetF, sOwn, sTo, gsCons, gsNil, sPar, sPar3, eChain, sExp, sApp, sPut, sIf, sFrz, frz, frz1, List.foldl_cons, List.foldl_nil, eBin, eUn, eVar, eC, eAnd, eOr, eIf, eLend, flat, eIxO, eOfF, eTup, eAll, fAll, eCall, eIs, eSl, fSl, oNone, oSome, aNil, aCons, bVal, bAnd, bOr, bNot, bYes, blOf, gNot, iSeq, iRg1, iRg2, seq_l, seq_t, tup_l, tup_t, lst_l, lst_t, len_l, len_t, gIx_l, gIx_t, gNm, wipeR, List.getElem?_cons_zero, List.getElem?_cons_succ, List.set_cons_zero, List.set_cons_succ, Option.bind_some, Option.bind_none, Option.map_some, Option.map_none, if_true, if_false, decide_true, decide_false, Bool.not_true, Bool.not_false, Bool.false_eq_true, reduceIte, gAdd_i, gSub_i, gNeg_i, gLt_i, gLe_i, gGt_i, gGe_i, gEq_i, gNe_i, gMul_b, gMod_p, gFdiv_p, Nat.reduceAdd, Nat.reduceMul, Nat.reduceLeDiff, at0, at1, at2, at3, at4, at5, at6, at7, at8, at9, at10, at11, at12, at13, at14, at15, gSl_l, cut_pos, cut_from, cut_to, Int.reduceToNat, List.drop_succ_cons, List.drop_zero, List.take_succ_cons, List.take_zero, List.take_nil, Nat.reduceSub, Int.reduceAdd, Int.reduceSub, Int.reduceMul, Int.reduceMod, Int.reduceDiv, Int.reduceNeg, List.length_cons, List.length_nil, Nat.zero_add, fComp, compL, rg1_3, mInt, mAbs, mGcd, mMax2, mMin2, mMax3, mMin3, mIsqrt, isT, gPow_18, h, sFor, e, q2]

/-! a number -/
theorem six {d : Int} (h : 0 ≤ d) (h2 : d < 8) : d = 0 ∨ d = 1 ∨ d = 2 ∨ d = 3 ∨ d = 4 ∨ d = 5 ∨ d = 6 ∨ d = 7 := by omega
theorem w_number (c : Int) : ∃ n, Bd 103 n ∧ m__law_number [.int c] = some (.int n) := by
  obtain ⟨ds, q1, q2⟩ := w_digits c [8, 2, 100000, 100000, 100000, 100000, 100000, 100000] (by decide) (by decide)
  obtain ⟨d0, r, rfl, a0, b0, q1⟩ := inD_cons q1
  obtain ⟨d1, r, rfl, a1, b1, q1⟩ := inD_cons q1
  obtain ⟨d2, r, rfl, a2, b2, q1⟩ := inD_cons q1
  obtain ⟨d3, r, rfl, a3, b3, q1⟩ := inD_cons q1
  obtain ⟨d4, r, rfl, a4, b4, q1⟩ := inD_cons q1
  obtain ⟨d5, r, rfl, a5, b5, q1⟩ := inD_cons q1
  obtain ⟨d6, r, rfl, a6, b6, q1⟩ := inD_cons q1
  obtain ⟨d7, r, rfl, a7, b7, q1⟩ := inD_cons q1
  obtain rfl := inD_nil q1
  simp only [List.map_cons, List.map_nil] at q2
  haveI : Bd 1 d1 := ⟨by omega⟩
  haveI : Bd 17 d2 := ⟨by omega⟩
  haveI : Bd 17 d3 := ⟨by omega⟩
  haveI : Bd 17 d4 := ⟨by omega⟩
  haveI : Bd 17 d5 := ⟨by omega⟩
  haveI : Bd 17 d6 := ⟨by omega⟩
  haveI : Bd 17 d7 := ⟨by omega⟩
  have fin : ∀ x : Int, Bd 101 x → ∃ n, Bd 103 n ∧ x * (1 - 2 * d1) = n := fun x h => ⟨_, ⟨by
    have h1 : (x * (1 - 2 * d1)).natAbs < 2 ^ (101 + 1) := wide_lt h.lt (show (1 - 2 * d1).natAbs < 2 ^ 1 by omega)
    exact Nat.lt_of_lt_of_le h1 (by decide)⟩, rfl⟩
  haveI big : Bd 101 (((((d3 * 100000 + d4) * 100000 + d5) * 100000 + d6) * 100000 + d7)) := ⟨by omega⟩
  have key : ∃ x, Bd 101 x ∧ m__law_number [.int c] = some (.int (x * (1 - 2 * d1))) := by
    rcases six a0 b0 with rfl | rfl | rfl | rfl | rfl | rfl | rfl | rfl
    · haveI : Bd 101 (d2 % 1) := ⟨by omega⟩
      exact ⟨_, this, by simp (config := {decide := true}) only [m__law_number, b__law_number, runD, List.map_cons, List.map_nil, List.replicate_zero, List.replicate_succ, List.cons_append, List.nil_append, List.append_nil, sRet, sRetN, sNx, sSeq, sSet, sSetF, sOwn, sTo, gsCons, gsNil, sPar, sPar3, eChain, sExp, sApp, sPut, sIf, sFrz, frz, frz1, List.foldl_cons, List.foldl_nil, eBin, eUn, eVar, eC, eAnd, eOr, eIf, eLend, flat, eIxO, eOfF, eTup, eAll, fAll, eCall, eIs, eSl, fSl, oNone, oSome, aNil, aCons, bVal, bAnd, bOr, bNot, bYes, blOf, gNot, iSeq, iRg1, iRg2, seq_l, seq_t, tup_l, tup_t, lst_l, lst_t, len_l, len_t, gIx_l, gIx_t, gNm, wipeR, List.getElem?_cons_zero, List.getElem?_cons_succ, List.set_cons_zero, List.set_cons_succ, Option.bind_some, Option.bind_none, Option.map_some, Option.map_none, if_true, if_false, decide_true, decide_false, Bool.not_true, Bool.not_false, Bool.false_eq_true, reduceIte, gAdd_i, gSub_i, gNeg_i, gLt_i, gLe_i, gGt_i, gGe_i, gEq_i, gNe_i, gMul_b, gMod_p, gFdiv_p, Nat.reduceAdd, Nat.reduceMul, Nat.reduceLeDiff, at0, at1, at2, at3, at4, at5, at6, at7, at8, at9, at10, at11, at12, at13, at14, at15, gSl_l, cut_pos, cut_from, cut_to, Int.reduceToNat, List.drop_succ_cons, List.drop_zero, List.take_succ_cons, List.take_zero, List.take_nil, Nat.reduceSub, Int.reduceAdd, Int.reduceSub, Int.reduceMul, Int.reduceMod, Int.reduceDiv, Int.reduceNeg, List.length_cons, List.length_nil, Nat.zero_add, fComp, compL, rg1_3, mInt, mAbs, mGcd, mMax2, mMin2, mMax3, mMin3, mIsqrt, isT, q2]⟩
    · haveI : Bd 101 (d2 % 4) := ⟨by omega⟩
      exact ⟨_, this, by simp (config := {decide := true}) only [m__law_number, b__law_number, runD, List.map_cons, List.map_nil, List.replicate_zero, List.replicate_succ, List.cons_append, List.nil_append, List.append_nil, sRet, sRetN, sNx, sSeq, sSet, sSetF, sOwn, sTo, gsCons, gsNil, sPar, sPar3, eChain, sExp, sApp, sPut, sIf, sFrz, frz, frz1, List.foldl_cons, List.foldl_nil, eBin, eUn, eVar, eC, eAnd, eOr, eIf, eLend, flat, eIxO, eOfF, eTup, eAll, fAll, eCall, eIs, eSl, fSl, oNone, oSome, aNil, aCons, bVal, bAnd, bOr, bNot, bYes, blOf, gNot, iSeq, iRg1, iRg2, seq_l, seq_t, tup_l, tup_t, lst_l, lst_t, len_l, len_t, gIx_l, gIx_t, gNm, wipeR, List.getElem?_cons_zero, List.getElem?_cons_succ, List.set_cons_zero, List.set_cons_succ, Option.bind_some, Option.bind_none, Option.map_some, Option.map_none, if_true, if_false, decide_true, decide_false, Bool.not_true, Bool.not_false, Bool.false_eq_true, reduceIte, gAdd_i, gSub_i, gNeg_i, gLt_i, gLe_i, gGt_i, gGe_i, gEq_i, gNe_i, gMul_b, gMod_p, gFdiv_p, Nat.reduceAdd, Nat.reduceMul, Nat.reduceLeDiff, at0, at1, at2, at3, at4, at5, at6, at7, at8, at9, at10, at11, at12, at13, at14, at15, gSl_l, cut_pos, cut_from, cut_to, Int.reduceToNat, List.drop_succ_cons, List.drop_zero, List.take_succ_cons, List.take_zero, List.take_nil, Nat.reduceSub, Int.reduceAdd, Int.reduceSub, Int.reduceMul, Int.reduceMod, Int.reduceDiv, Int.reduceNeg, List.length_cons, List.length_nil, Nat.zero_add, fComp, compL, rg1_3, mInt, mAbs, mGcd, mMax2, mMin2, mMax3, mMin3, mIsqrt, isT, q2]⟩
    · haveI : Bd 101 (d2 % 4) := ⟨by omega⟩
      exact ⟨_, this, by simp (config := {decide := true}) only [m__law_number, b__law_number, runD, List.map_cons, List.map_nil, List.replicate_zero, List.replicate_succ, List.cons_append, List.nil_append, List.append_nil, sRet, sRetN, sNx, sSeq, sSet, sSetF, sOwn, sTo, gsCons, gsNil, sPar, sPar3, eChain, sExp, sApp, sPut, sIf, sFrz, frz, frz1, List.foldl_cons, List.foldl_nil, eBin, eUn, eVar, eC, eAnd, eOr, eIf, eLend, flat, eIxO, eOfF, eTup, eAll, fAll, eCall, eIs, eSl, fSl, oNone, oSome, aNil, aCons, bVal, bAnd, bOr, bNot, bYes, blOf, gNot, iSeq, iRg1, iRg2, seq_l, seq_t, tup_l, tup_t, lst_l, lst_t, len_l, len_t, gIx_l, gIx_t, gNm, wipeR, List.getElem?_cons_zero, List.getElem?_cons_succ, List.set_cons_zero, List.set_cons_succ, Option.bind_some, Option.bind_none, Option.map_some, Option.map_none, if_true, if_false, decide_true, decide_false, Bool.not_true, Bool.not_false, Bool.false_eq_true, reduceIte, gAdd_i, gSub_i, gNeg_i, gLt_i, gLe_i, gGt_i, gGe_i, gEq_i, gNe_i, gMul_b, gMod_p, gFdiv_p, Nat.reduceAdd, Nat.reduceMul, Nat.reduceLeDiff, at0, at1, at2, at3, at4, at5, at6, at7, at8, at9, at10, at11, at12, at13, at14, at15, gSl_l, cut_pos, cut_from, cut_to, Int.reduceToNat, List.drop_succ_cons, List.drop_zero, List.take_succ_cons, List.take_zero, List.take_nil, Nat.reduceSub, Int.reduceAdd, Int.reduceSub, Int.reduceMul, Int.reduceMod, Int.reduceDiv, Int.reduceNeg, List.length_cons, List.length_nil, Nat.zero_add, fComp, compL, rg1_3, mInt, mAbs, mGcd, mMax2, mMin2, mMax3, mMin3, mIsqrt, isT, q2]⟩
    · haveI : Bd 101 (d2 % 31) := ⟨by omega⟩
      exact ⟨_, this, by simp (config := {decide := true}) only [m__law_number, b__law_number, runD, List.map_cons, List.map_nil, List.replicate_zero, List.replicate_succ, List.cons_append, List.nil_append, List.append_nil, sRet, sRetN, sNx, sSeq, sSet, sSetF, sOwn, sTo, gsCons, gsNil, sPar, sPar3, eChain, sExp, sApp, sPut, sIf, sFrz, frz, frz1, List.foldl_cons, List.foldl_nil, eBin, eUn, eVar, eC, eAnd, eOr, eIf, eLend, flat, eIxO, eOfF, eTup, eAll, fAll, eCall, eIs, eSl, fSl, oNone, oSome, aNil, aCons, bVal, bAnd, bOr, bNot, bYes, blOf, gNot, iSeq, iRg1, iRg2, seq_l, seq_t, tup_l, tup_t, lst_l, lst_t, len_l, len_t, gIx_l, gIx_t, gNm, wipeR, List.getElem?_cons_zero, List.getElem?_cons_succ, List.set_cons_zero, List.set_cons_succ, Option.bind_some, Option.bind_none, Option.map_some, Option.map_none, if_true, if_false, decide_true, decide_false, Bool.not_true, Bool.not_false, Bool.false_eq_true, reduceIte, gAdd_i, gSub_i, gNeg_i, gLt_i, gLe_i, gGt_i, gGe_i, gEq_i, gNe_i, gMul_b, gMod_p, gFdiv_p, Nat.reduceAdd, Nat.reduceMul, Nat.reduceLeDiff, at0, at1, at2, at3, at4, at5, at6, at7, at8, at9, at10, at11, at12, at13, at14, at15, gSl_l, cut_pos, cut_from, cut_to, Int.reduceToNat, List.drop_succ_cons, List.drop_zero, List.take_succ_cons, List.take_zero, List.take_nil, Nat.reduceSub, Int.reduceAdd, Int.reduceSub, Int.reduceMul, Int.reduceMod, Int.reduceDiv, Int.reduceNeg, List.length_cons, List.length_nil, Nat.zero_add, fComp, compL, rg1_3, mInt, mAbs, mGcd, mMax2, mMin2, mMax3, mMin3, mIsqrt, isT, q2]⟩
    · haveI : Bd 101 (d2 % 31) := ⟨by omega⟩
      exact ⟨_, this, by simp (config := {decide := true}) only [m__law_number, b__law_number, runD, List.map_cons, List.map_nil, List.replicate_zero, List.replicate_succ, List.cons_append, List.nil_append, List.append_nil, sRet, sRetN, sNx, sSeq, sSet, sSetF, sOwn, sTo, gsCons, gsNil, sPar, sPar3, eChain, sExp, sApp, sPut, sIf, sFrz, frz, frz1, List.foldl_cons, List.foldl_nil, eBin, eUn, eVar, eC, eAnd, eOr, eIf, eLend, flat, eIxO, eOfF, eTup, eAll, fAll, eCall, eIs, eSl, fSl, oNone, oSome, aNil, aCons, bVal, bAnd, bOr, bNot, bYes, blOf, gNot, iSeq, iRg1, iRg2, seq_l, seq_t, tup_l, tup_t, lst_l, lst_t, len_l, len_t, gIx_l, gIx_t, gNm, wipeR, List.getElem?_cons_zero, List.getElem?_cons_succ, List.set_cons_zero, List.set_cons_succ, Option.bind_some, Option.bind_none, Option.map_some, Option.map_none, if_true, if_false, decide_true, decide_false, Bool.not_true, Bool.not_false, Bool.false_eq_true, reduceIte, gAdd_i, gSub_i, gNeg_i, gLt_i, gLe_i, gGt_i, gGe_i, gEq_i, gNe_i, gMul_b, gMod_p, gFdiv_p, Nat.reduceAdd, Nat.reduceMul, Nat.reduceLeDiff, at0, at1, at2, at3, at4, at5, at6, at7, at8, at9, at10, at11, at12, at13, at14, at15, gSl_l, cut_pos, cut_from, cut_to, Int.reduceToNat, List.drop_succ_cons, List.drop_zero, List.take_succ_cons, List.take_zero, List.take_nil, Nat.reduceSub, Int.reduceAdd, Int.reduceSub, Int.reduceMul, Int.reduceMod, Int.reduceDiv, Int.reduceNeg, List.length_cons, List.length_nil, Nat.zero_add, fComp, compL, rg1_3, mInt, mAbs, mGcd, mMax2, mMin2, mMax3, mMin3, mIsqrt, isT, q2]⟩
    · haveI : Bd 101 (d2 % 100000) := ⟨by omega⟩
      exact ⟨_, this, by simp (config := {decide := true}) only [m__law_number, b__law_number, runD, List.map_cons, List.map_nil, List.replicate_zero, List.replicate_succ, List.cons_append, List.nil_append, List.append_nil, sRet, sRetN, sNx, sSeq, sSet, sSetF, sOwn, sTo, gsCons, gsNil, sPar, sPar3, eChain, sExp, sApp, sPut, sIf, sFrz, frz, frz1, List.foldl_cons, List.foldl_nil, eBin, eUn, eVar, eC, eAnd, eOr, eIf, eLend, flat, eIxO, eOfF, eTup, eAll, fAll, eCall, eIs, eSl, fSl, oNone, oSome, aNil, aCons, bVal, bAnd, bOr, bNot, bYes, blOf, gNot, iSeq, iRg1, iRg2, seq_l, seq_t, tup_l, tup_t, lst_l, lst_t, len_l, len_t, gIx_l, gIx_t, gNm, wipeR, List.getElem?_cons_zero, List.getElem?_cons_succ, List.set_cons_zero, List.set_cons_succ, Option.bind_some, Option.bind_none, Option.map_some, Option.map_none, if_true, if_false, decide_true, decide_false, Bool.not_true, Bool.not_false, Bool.false_eq_true, reduceIte, gAdd_i, gSub_i, gNeg_i, gLt_i, gLe_i, gGt_i, gGe_i, gEq_i, gNe_i, gMul_b, gMod_p, gFdiv_p, Nat.reduceAdd, Nat.reduceMul, Nat.reduceLeDiff, at0, at1, at2, at3, at4, at5, at6, at7, at8, at9, at10, at11, at12, at13, at14, at15, gSl_l, cut_pos, cut_from, cut_to, Int.reduceToNat, List.drop_succ_cons, List.drop_zero, List.take_succ_cons, List.take_zero, List.take_nil, Nat.reduceSub, Int.reduceAdd, Int.reduceSub, Int.reduceMul, Int.reduceMod, Int.reduceDiv, Int.reduceNeg, List.length_cons, List.length_nil, Nat.zero_add, fComp, compL, rg1_3, mInt, mAbs, mGcd, mMax2, mMin2, mMax3, mMin3, mIsqrt, isT, q2]⟩
    · haveI : Bd 101 (d2 * 100000 + d3) := ⟨by omega⟩
      exact ⟨_, this, by simp (config := {decide := true}) only [m__law_number, b__law_number, runD, List.map_cons, List.map_nil, List.replicate_zero, List.replicate_succ, List.cons_append, List.nil_append, List.append_nil, sRet, sRetN, sNx, sSeq, sSet, sSetF, sOwn, sTo, gsCons, gsNil, sPar, sPar3, eChain, sExp, sApp, sPut, sIf, sFrz, frz, frz1, List.foldl_cons, List.foldl_nil, eBin, eUn, eVar, eC, eAnd, eOr, eIf, eLend, flat, eIxO, eOfF, eTup, eAll, fAll, eCall, eIs, eSl, fSl, oNone, oSome, aNil, aCons, bVal, bAnd, bOr, bNot, bYes, blOf, gNot, iSeq, iRg1, iRg2, seq_l, seq_t, tup_l, tup_t, lst_l, lst_t, len_l, len_t, gIx_l, gIx_t, gNm, wipeR, List.getElem?_cons_zero, List.getElem?_cons_succ, List.set_cons_zero, List.set_cons_succ, Option.bind_some, Option.bind_none, Option.map_some, Option.map_none, if_true, if_false, decide_true, decide_false, Bool.not_true, Bool.not_false, Bool.false_eq_true, reduceIte, gAdd_i, gSub_i, gNeg_i, gLt_i, gLe_i, gGt_i, gGe_i, gEq_i, gNe_i, gMul_b, gMod_p, gFdiv_p, Nat.reduceAdd, Nat.reduceMul, Nat.reduceLeDiff, at0, at1, at2, at3, at4, at5, at6, at7, at8, at9, at10, at11, at12, at13, at14, at15, gSl_l, cut_pos, cut_from, cut_to, Int.reduceToNat, List.drop_succ_cons, List.drop_zero, List.take_succ_cons, List.take_zero, List.take_nil, Nat.reduceSub, Int.reduceAdd, Int.reduceSub, Int.reduceMul, Int.reduceMod, Int.reduceDiv, Int.reduceNeg, List.length_cons, List.length_nil, Nat.zero_add, fComp, compL, rg1_3, mInt, mAbs, mGcd, mMax2, mMin2, mMax3, mMin3, mIsqrt, isT, q2]⟩
    · have hx : Bd 101 (((((d2 % 100000 * 100000 + d3) * 100000 + d4) * 100000 + d5) * 100000 + d6) * 100000 + d7) := ⟨by omega⟩
      haveI : Bd 101 (((((d2 % 100000 * 100000 + d3) * 100000 + d4) * 100000 + d5) * 100000 + d6)) := ⟨by omega⟩
      haveI : Bd 101 (((((d2 % 100000 * 100000 + d3) * 100000 + d4) * 100000 + d5))) := ⟨by omega⟩
      haveI : Bd 101 (((((d2 % 100000 * 100000 + d3) * 100000 + d4)))) := ⟨by omega⟩
      haveI : Bd 101 (((((d2 % 100000 * 100000 + d3))))) := ⟨by omega⟩
      haveI : Bd 101 (d2 % 100000) := ⟨by omega⟩
      exact ⟨_, hx, by simp (config := {decide := true}) only [m__law_number, b__law_number, runD, List.map_cons, List.map_nil, List.replicate_zero, List.replicate_succ, List.cons_append, List.nil_append, List.append_nil, sRet, sRetN, sNx, sSeq, sSet, sSetF, sOwn, sTo, gsCons, gsNil, sPar, sPar3, eChain, sExp, sApp, sPut, sIf, sFrz, frz, frz1, List.foldl_cons, List.foldl_nil, eBin, eUn, eVar, eC, eAnd, eOr, eIf, eLend, flat, eIxO, eOfF, eTup, eAll, fAll, eCall, eIs, eSl, fSl, oNone, oSome, aNil, aCons, bVal, bAnd, bOr, bNot, bYes, blOf, gNot, iSeq, iRg1, iRg2, seq_l, seq_t, tup_l, tup_t, lst_l, lst_t, len_l, len_t, gIx_l, gIx_t, gNm, wipeR, List.getElem?_cons_zero, List.getElem?_cons_succ, List.set_cons_zero, List.set_cons_succ, Option.bind_some, Option.bind_none, Option.map_some, Option.map_none, if_true, if_false, decide_true, decide_false, Bool.not_true, Bool.not_false, Bool.false_eq_true, reduceIte, gAdd_i, gSub_i, gNeg_i, gLt_i, gLe_i, gGt_i, gGe_i, gEq_i, gNe_i, gMul_b, gMod_p, gFdiv_p, Nat.reduceAdd, Nat.reduceMul, Nat.reduceLeDiff, at0, at1, at2, at3, at4, at5, at6, at7, at8, at9, at10, at11, at12, at13, at14, at15, gSl_l, cut_pos, cut_from, cut_to, Int.reduceToNat, List.drop_succ_cons, List.drop_zero, List.take_succ_cons, List.take_zero, List.take_nil, Nat.reduceSub, Int.reduceAdd, Int.reduceSub, Int.reduceMul, Int.reduceMod, Int.reduceDiv, Int.reduceNeg, List.length_cons, List.length_nil, Nat.zero_add, fComp, compL, rg1_3, mInt, mAbs, mGcd, mMax2, mMin2, mMax3, mMin3, mIsqrt, isT, q2, sFor, forL]⟩
  obtain ⟨x, hx, e⟩ := key
  obtain ⟨n, hn, rfl⟩ := fin x hx
  exact ⟨_, hn, e⟩

noncomputable abbrev gcdB : ES := sSeq (sIf (bVal (eBin gEq (eVar 1) (eC (.int 0)))) (sRet (eVar 0)) sNx) (sSeq (sSet 3 (eBin gMod (eAll mInt (aCons (eVar 0) aNil)) (eVar 1))) (sSeq (sSet 0 (eVar 1)) (sSet 1 (eVar 3))))
theorem gcd_step {x y : Nat} {k r : SC} (h : y ≠ 0) : gcdB [.va (.int x), .va (.int y), k, r] = some (.nx [.va (.int y), .va (.int ((x % y : Nat) : Int)), k, .va (.int ((x % y : Nat) : Int))]) := by
  simp only [gcdB, runD, List.map_cons, List.map_nil, List.replicate_zero, List.replicate_succ, List.cons_append, List.nil_append, List.append_nil, sRet, sRetN, sNx, sSeq, sSet, sSetF, sOwn, sTo, gsCons, gsNil, sPar, sPar3, eChain, sExp, sApp, sPut, sIf, sFrz, frz, frz1, List.foldl_cons, List.foldl_nil, eBin, eUn, eVar, eC, eAnd, eOr, eIf, eLend, flat, eIxO, eOfF, eTup, eAll, fAll, eCall, eIs, eSl, fSl, oNone, oSome, aNil, aCons, bVal, bAnd, bOr, bNot, bYes, blOf, gNot, iSeq, iRg1, iRg2, seq_l, seq_t, tup_l, tup_t, lst_l, lst_t, len_l, len_t, gIx_l, gIx_t, gNm, wipeR, List.getElem?_cons_zero, List.getElem?_cons_succ, List.set_cons_zero, List.set_cons_succ, Option.bind_some, Option.bind_none, Option.map_some, Option.map_none, if_true, if_false, decide_true, decide_false, Bool.not_true, Bool.not_false, Bool.false_eq_true, reduceIte, gAdd_i, gSub_i, gNeg_i, gLt_i, gLe_i, gGt_i, gGe_i, gEq_i, gNe_i, gMul_b, gMod_p, gFdiv_p, Nat.reduceAdd, Nat.reduceMul, Nat.reduceLeDiff, at0, at1, at2, at3, at4, at5, at6, at7, at8, at9, at10, at11, at12, at13, at14, at15, gSl_l, cut_pos, cut_from, cut_to, Int.reduceToNat, List.drop_succ_cons, List.drop_zero, List.take_succ_cons, List.take_zero, List.take_nil, Nat.reduceSub, Int.reduceAdd, Int.reduceSub, Int.reduceMul, Int.reduceMod, Int.reduceDiv, Int.reduceNeg, List.length_cons, List.length_nil, Nat.zero_add, fComp, compL, rg1_3, mInt, mAbs, mGcd, mMax2, mMin2, mMax3, mMin3, mIsqrt, isT, show ¬ (y : Int) = 0 by omega, gMod_p (show (0 : Int) < y by omega), emod_nat]
theorem gcd_end {x : Nat} {k r : SC} : gcdB [.va (.int x), .va (.int ((0 : Nat) : Int)), k, r] = some (.rt (.int x)) := by
  simp only [gcdB, runD, List.map_cons, List.map_nil, List.replicate_zero, List.replicate_succ, List.cons_append, List.nil_append, List.append_nil, sRet, sRetN, sNx, sSeq, sSet, sSetF, sOwn, sTo, gsCons, gsNil, sPar, sPar3, eChain, sExp, sApp, sPut, sIf, sFrz, frz, frz1, List.foldl_cons, List.foldl_nil, eBin, eUn, eVar, eC, eAnd, eOr, eIf, eLend, flat, eIxO, eOfF, eTup, eAll, fAll, eCall, eIs, eSl, fSl, oNone, oSome, aNil, aCons, bVal, bAnd, bOr, bNot, bYes, blOf, gNot, iSeq, iRg1, iRg2, seq_l, seq_t, tup_l, tup_t, lst_l, lst_t, len_l, len_t, gIx_l, gIx_t, gNm, wipeR, List.getElem?_cons_zero, List.getElem?_cons_succ, List.set_cons_zero, List.set_cons_succ, Option.bind_some, Option.bind_none, Option.map_some, Option.map_none, if_true, if_false, decide_true, decide_false, Bool.not_true, Bool.not_false, Bool.false_eq_true, reduceIte, gAdd_i, gSub_i, gNeg_i, gLt_i, gLe_i, gGt_i, gGe_i, gEq_i, gNe_i, gMul_b, gMod_p, gFdiv_p, Nat.reduceAdd, Nat.reduceMul, Nat.reduceLeDiff, at0, at1, at2, at3, at4, at5, at6, at7, at8, at9, at10, at11, at12, at13, at14, at15, gSl_l, cut_pos, cut_from, cut_to, Int.reduceToNat, List.drop_succ_cons, List.drop_zero, List.take_succ_cons, List.take_zero, List.take_nil, Nat.reduceSub, Int.reduceAdd, Int.reduceSub, Int.reduceMul, Int.reduceMod, Int.reduceDiv, Int.reduceNeg, List.length_cons, List.length_nil, Nat.zero_add, fComp, compL, rg1_3, mInt, mAbs, mGcd, mMax2, mMin2, mMax3, mMin3, mIsqrt, isT, show ((0 : Nat) : Int) = 0 from rfl]
theorem gcd_go : ∀ (n x y : Nat) (ds : List PyData) (k r : SC), y < 2 ^ n → 2 * n + 1 ≤ ds.length → forL (gNm 2) gcdB ds [.va (.int x), .va (.int y), k, r] = some (.rt (.int ((x.gcd y : Nat) : Int)))
  | 0, x, y, ds, k, r, h, hl => by
    cases ds with
    | nil => simp at hl
    | cons d ds =>
      have h0 : y = 0 := by omega
      subst h0
      simp only [forL, gNm, Option.bind_some, List.set_cons_succ, List.set_cons_zero, gcd_end, Nat.gcd_zero_right]
  | n + 1, x, y, ds, k, r, h, hl => by
    cases ds with
    | nil => simp at hl
    | cons d ds =>
      by_cases h0 : y = 0
      · subst h0
        simp only [forL, gNm, Option.bind_some, List.set_cons_succ, List.set_cons_zero, gcd_end, Nat.gcd_zero_right]
      · cases ds with
        | nil =>
          simp at hl
        | cons e ds =>
          simp only [List.length_cons] at hl
          simp only [forL, gNm, Option.bind_some, List.set_cons_succ, List.set_cons_zero, gcd_step h0]
          by_cases h1 : x % y = 0
          · rw [h1]
            simp only [gcd_end]
            rw [Nat.gcd_comm, Nat.gcd_rec, h1, Nat.gcd_zero_left]
            rfl
          · simp only [gcd_step h1, Option.bind_some]
            rw [gcd_go n (x % y) (y % (x % y)) ds _ _ (half_mod (by omega) (Nat.mod_lt _ (by omega)) (by rw [Nat.pow_succ] at h; omega)) (by omega)]
            rw [Nat.gcd_comm (x % y), ← Nat.gcd_rec, ← Nat.gcd_rec, Nat.gcd_comm]
theorem rg1_big : ∃ ds : List PyData, rg1 (.int 100000) = some ds ∧ ds.length = 100000 := ⟨_, rg1_nat 100000 (by decide), rng_len _ _⟩
theorem w_gcd {n : Nat} {a b : Int} (h : b.natAbs < 2 ^ n) (hn : n ≤ 40000) : m__law_gcd [.int a, .int b] = some (.int ((a.natAbs.gcd b.natAbs : Nat) : Int)) := by
  obtain ⟨ds, h1, h2⟩ := rg1_big
  have e := gcd_go n a.natAbs b.natAbs ds .un .un h (by omega)
  simp only [m__law_gcd, b__law_gcd, runD, List.map_cons, List.map_nil, List.replicate_zero, List.replicate_succ, List.cons_append, List.nil_append, List.append_nil, sRet, sRetN, sNx, sSeq, sSet, sSetF, sOwn, sTo, gsCons, gsNil, sPar, sPar3, eChain, sExp, sApp, sPut, sIf, sFrz, frz, frz1, List.foldl_cons, List.foldl_nil, eBin, eUn, eVar, eC, eAnd, eOr, eIf, eLend, flat, eIxO, eOfF, eTup, eAll, fAll, eCall, eIs, eSl, fSl, oNone, oSome, aNil, aCons, bVal, bAnd, bOr, bNot, bYes, blOf, gNot, iSeq, iRg1, iRg2, seq_l, seq_t, tup_l, tup_t, lst_l, lst_t, len_l, len_t, gIx_l, gIx_t, gNm, wipeR, List.getElem?_cons_zero, List.getElem?_cons_succ, List.set_cons_zero, List.set_cons_succ, Option.bind_some, Option.bind_none, Option.map_some, Option.map_none, if_true, if_false, decide_true, decide_false, Bool.not_true, Bool.not_false, Bool.false_eq_true, reduceIte, gAdd_i, gSub_i, gNeg_i, gLt_i, gLe_i, gGt_i, gGe_i, gEq_i, gNe_i, gMul_b, gMod_p, gFdiv_p, Nat.reduceAdd, Nat.reduceMul, Nat.reduceLeDiff, at0, at1, at2, at3, at4, at5, at6, at7, at8, at9, at10, at11, at12, at13, at14, at15, gSl_l, cut_pos, cut_from, cut_to, Int.reduceToNat, List.drop_succ_cons, List.drop_zero, List.take_succ_cons, List.take_zero, List.take_nil, Nat.reduceSub, Int.reduceAdd, Int.reduceSub, Int.reduceMul, Int.reduceMod, Int.reduceDiv, Int.reduceNeg, List.length_cons, List.length_nil, Nat.zero_add, fComp, compL, rg1_3, mInt, mAbs, mGcd, mMax2, mMin2, mMax3, mMin3, mIsqrt, isT, abs_nat, sFor, h1, e]

section
variable {n m : Nat} {j k l : Bool} {u v w : V3} {s t : M3} {i : Int}

end
/-- n ints below 2 ^ 103 -/
def Nums (n : Nat) (l : List Int) : Prop := l.length = n ∧ ∀ x ∈ l, x.natAbs < 2 ^ 103
theorem Nums.cons {n : Nat} {l : List Int} (h : Nums (n + 1) l) : ∃ x r, l = x :: r ∧ Bd 103 x ∧ Nums n r := by
  cases l with
  | nil => cases h.1
  | cons x r => exact ⟨x, r, rfl, ⟨h.2 x List.mem_cons_self⟩, Nat.succ.inj h.1, fun y hy => h.2 y (List.mem_cons_of_mem _ hy)⟩
theorem Nums.nil {l : List Int} (h : Nums 0 l) : l = [] := List.length_eq_zero_iff.mp h.1
end W

set_option linter.all false
set_option maxRecDepth 100000
set_option maxHeartbeats 2000000
/-! binary forms: values, bases, reduced triples -/
namespace DL
structure V2 where
  x : Int
  y : Int
  deriving DecidableEq
theorem V2.ext' {u v : V2} (h1 : u.x = v.x) (h2 : u.y = v.y) : u = v := by
  cases u
  cases v
  cases h1
  cases h2
  rfl
/-- the product of two vectors under a triple -/
def V3.at2 (t : V3) (u v : V2) : Int := t.x * u.x * v.x + t.y * (u.x * v.y + u.y * v.x) + t.z * u.y * v.y
def V3.led (t : V3) (u v : V2) : V3 := ⟨t.at2 u u, t.at2 u v, t.at2 v v⟩
def V3.D (t : V3) : Int := t.x * t.z - t.y * t.y
def det2 (u v : V2) : Int := u.x * v.y - u.y * v.x
/-- definite -/
structure Dfn (t : V3) : Prop where
  x : 0 < t.x
  d : 0 < t.D
structure Redd (t : V3) : Prop where
  x : 0 < t.x
  y : 0 ≤ t.y
  h : 2 * t.y ≤ t.x
  z : t.x ≤ t.z
def unim (u v : V2) : Prop := det2 u v = 1 ∨ det2 u v = -1
theorem led_D (t : V3) (u v : V2) : (t.led u v).D = t.D * (det2 u v * det2 u v) := by
  unfold V3.led V3.D V3.at2 det2
  grind
theorem val_x (t : V3) (u : V2) : t.x * t.at2 u u = (t.x * u.x + t.y * u.y) * (t.x * u.x + t.y * u.y) + t.D * (u.y * u.y) := by
  unfold V3.D V3.at2
  grind
theorem val_z (t : V3) (u : V2) : t.z * t.at2 u u = (t.y * u.x + t.z * u.y) * (t.y * u.x + t.z * u.y) + t.D * (u.x * u.x) := by
  unfold V3.D V3.at2
  grind
theorem sq_nn (a : Int) : 0 ≤ a * a := by
  rcases Int.le_total 0 a with h | h
  · exact Int.mul_nonneg h h
  · exact Int.mul_nonneg_of_nonpos_of_nonpos h h
theorem sq_pos {a : Int} (h : a ≠ 0) : 0 < a * a := by
  rcases Int.lt_or_gt_of_ne h with h | h
  · exact Int.mul_pos_of_neg_of_neg h h
  · exact Int.mul_pos h h
theorem Dfn.z {t : V3} (h : Dfn t) : 0 < t.z := by
  have h1 := h.d
  unfold V3.D at h1
  have h2 := sq_nn t.y
  have h3 : 0 < t.x * t.z := by omega
  rcases Int.lt_or_le 0 t.z with c | c
  · exact c
  · have := Int.mul_nonneg (Int.le_of_lt h.x) (show 0 ≤ -t.z by omega)
    rw [Int.mul_neg] at this
    omega
theorem val_pos {t : V3} (h : Dfn t) {u : V2} (n : u.x ≠ 0 ∨ u.y ≠ 0) : 0 < t.at2 u u := by
  have h1 := val_x t u
  have p : 0 < t.x * t.at2 u u := by
    rw [h1]
    have s1 := sq_nn (t.x * u.x + t.y * u.y)
    by_cases c : u.y = 0
    · rw [c]
      have c2 : u.x ≠ 0 := by
        rcases n with n | n
        · exact n
        · exact absurd c n
      have s2 : t.x * u.x + t.y * 0 ≠ 0 := by
        rw [Int.mul_zero, Int.add_zero]
        exact Int.mul_ne_zero (by have := h.x; omega) c2
      have := sq_pos s2
      rw [Int.mul_zero, Int.mul_zero] at *
      omega
    · have := Int.mul_pos h.d (sq_pos c)
      omega
  rcases Int.lt_or_le 0 (t.at2 u u) with c | c
  · exact c
  · have := Int.mul_nonneg (Int.le_of_lt h.x) (show 0 ≤ -t.at2 u u by omega)
    rw [Int.mul_neg] at this
    omega
theorem unim_sq {u v : V2} (h : unim u v) : det2 u v * det2 u v = 1 := by
  rcases h with h | h <;> rw [h] <;> decide
theorem unim_x {u v : V2} (h : unim u v) : u.x ≠ 0 ∨ u.y ≠ 0 := by
  by_cases a : u.x = 0
  · by_cases b : u.y = 0
    · unfold unim det2 at h
      rw [a, b] at h
      simp at h
    · exact .inr b
  · exact .inl a
theorem unim_y {u v : V2} (h : unim u v) : v.x ≠ 0 ∨ v.y ≠ 0 := by
  by_cases a : v.x = 0
  · by_cases b : v.y = 0
    · unfold unim det2 at h
      rw [a, b] at h
      simp at h
    · exact .inr b
  · exact .inl a
theorem led_dfn {t : V3} (h : Dfn t) {u v : V2} (n : unim u v) : Dfn (t.led u v) := by
  refine ⟨val_pos h (unim_x n), ?_⟩
  rw [led_D, unim_sq n, Int.mul_one]
  exact h.d
/-- bounds: all of a definite triple and of a vector from the outer values -/
theorem sq_lt {a : Int} {n : Nat} (h : a * a < 2 ^ n * 2 ^ n) : a.natAbs < 2 ^ n := by
  rcases Nat.lt_or_ge a.natAbs (2 ^ n) with c | c
  · exact c
  · have h1 : 2 ^ n * 2 ^ n ≤ a.natAbs * a.natAbs := Nat.mul_le_mul c c
    have h2 : ((a.natAbs * a.natAbs : Nat) : Int) = a * a := Int.natAbs_mul_self
    have h3 : ((2 ^ n * 2 ^ n : Nat) : Int) = 2 ^ n * 2 ^ n := by push_cast; rfl
    omega
theorem mul_lt' {a b m : Int} (ha : 0 ≤ a) (hb : 0 ≤ b) (h1 : a < m) (h2 : b < m) : a * b < m * m := by
  have h3 : a * b ≤ a * m := Int.mul_le_mul_of_nonneg_left (Int.le_of_lt h2) ha
  have h4 : a * m < m * m := Int.mul_lt_mul_of_pos_right h1 (by omega)
  omega
theorem Dfn.y_lt {t : V3} (h : Dfn t) {n : Nat} (hx : t.x < 2 ^ n) (hz : t.z < 2 ^ n) : t.y.natAbs < 2 ^ n := by
  refine sq_lt ?_
  have h1 := h.d
  unfold V3.D at h1
  have h2 := mul_lt' (Int.le_of_lt h.x) (Int.le_of_lt h.z) hx hz
  omega
theorem Dfn.bv {t : V3} (h : Dfn t) {n : Nat} (hx : t.x < 2 ^ n) (hz : t.z < 2 ^ n) : BV n t := by
  have e : ((2 ^ n : Nat) : Int) = 2 ^ n := by push_cast; rfl
  refine ⟨?_, h.y_lt hx hz, ?_⟩
  · have := h.x
    omega
  · have := h.z
    omega
theorem vec_lt {t : V3} (h : Dfn t) {u : V2} {n : Nat} (hx : t.x < 2 ^ n) (hz : t.z < 2 ^ n) (hv : t.at2 u u < 2 ^ n) (h0 : 0 ≤ t.at2 u u) : u.x.natAbs < 2 ^ n ∧ u.y.natAbs < 2 ^ n := by
  have hd : 1 ≤ t.D := h.d
  constructor
  · refine sq_lt ?_
    have h1 := val_z t u
    have h2 := mul_lt' (Int.le_of_lt h.z) h0 hz hv
    have h3 := sq_nn (t.y * u.x + t.z * u.y)
    have h4 : u.x * u.x ≤ t.D * (u.x * u.x) := by
      have := Int.mul_le_mul_of_nonneg_right hd (sq_nn u.x)
      omega
    omega
  · refine sq_lt ?_
    have h1 := val_x t u
    have h2 := mul_lt' (Int.le_of_lt h.x) h0 hx hv
    have h3 := sq_nn (t.x * u.x + t.y * u.y)
    have h4 : u.y * u.y ≤ t.D * (u.y * u.y) := by
      have := Int.mul_le_mul_of_nonneg_right hd (sq_nn u.y)
      omega
    omega
/-- a vector by a basis -/
def V2.cmb (s t : Int) (u v : V2) : V2 := ⟨s * u.x + t * v.x, s * u.y + t * v.y⟩
theorem cmb_of {u v : V2} (h : unim u v) (w : V2) : w = V2.cmb (det2 u v * det2 w v) (det2 u v * det2 u w) u v := by
  have e := unim_sq h
  refine V2.ext' ?_ ?_
  · show w.x = det2 u v * det2 w v * u.x + det2 u v * det2 u w * v.x
    have : det2 u v * det2 w v * u.x + det2 u v * det2 u w * v.x = (det2 u v * det2 u v) * w.x := by unfold det2; grind
    rw [this, e, Int.one_mul]
  · show w.y = det2 u v * det2 w v * u.y + det2 u v * det2 u w * v.y
    have : det2 u v * det2 w v * u.y + det2 u v * det2 u w * v.y = (det2 u v * det2 u v) * w.y := by unfold det2; grind
    rw [this, e, Int.one_mul]
theorem at_cmb (T : V3) (s t s' t' : Int) (u v : V2) : T.at2 (V2.cmb s t u v) (V2.cmb s' t' u v) = (T.led u v).at2 ⟨s, t⟩ ⟨s', t'⟩ := by
  unfold V3.at2 V2.cmb V3.led V3.at2
  grind
/-- the least values of a reduced triple -/
theorem Redd.dfn {t : V3} (h : Redd t) : Dfn t := by
  refine ⟨h.x, ?_⟩
  unfold V3.D
  have h1 : t.x * t.x ≤ t.x * t.z := Int.mul_le_mul_of_nonneg_left h.z (Int.le_of_lt h.x)
  have h2 : t.y * t.y ≤ t.y * t.x := Int.mul_le_mul_of_nonneg_left (by have := h.h; have := h.y; omega) h.y
  have h3 : 2 * t.y * t.x ≤ t.x * t.x := Int.mul_le_mul_of_nonneg_right h.h (Int.le_of_lt h.x)
  have h4 := sq_pos (a := t.x) (by have := h.x; omega)
  have h5 : 2 * t.y * t.x = 2 * (t.y * t.x) := by grind
  omega
theorem key_st (S T : Int) (hS : 0 ≤ S) (hT : 1 ≤ T) : 1 ≤ S * S - S * T + T * T := by
  have h : 4 * (S * S - S * T + T * T) = (2 * S - T) * (2 * S - T) + 3 * (T * T) := by grind
  have h1 := sq_nn (2 * S - T)
  have h2 := sq_pos (a := T) (by omega)
  omega
theorem abs_mul_self' (a : Int) : ((a.natAbs : Int)) * a.natAbs = a * a := by
  rcases Int.natAbs_eq a with h | h
  · rw [← h]
  · have e : (a.natAbs : Int) = -a := by omega
    rw [e]
    grind
theorem Redd.least {t : V3} (h : Redd t) (i j : Int) (hj : j ≠ 0) : t.z ≤ t.at2 ⟨i, j⟩ ⟨i, j⟩ := by
  have hx := h.x
  have hy := h.y
  have hh := h.h
  have hz := h.z
  have hv : t.at2 ⟨i, j⟩ ⟨i, j⟩ = t.x * (i * i) + 2 * t.y * (i * j) + t.z * (j * j) := by
    unfold V3.at2
    grind
  rw [hv]
  have a1 := abs_mul_self' i
  have a2 := abs_mul_self' j
  have a3 : -((i.natAbs : Int) * j.natAbs) ≤ i * j := by
    have := Int.natAbs_mul i j
    have : ((i * j).natAbs : Int) = (i.natAbs : Int) * j.natAbs := by rw [this]; push_cast; rfl
    omega
  have a4 : 0 ≤ (i.natAbs : Int) * j.natAbs := Int.mul_nonneg (by omega) (by omega)
  have k := key_st i.natAbs j.natAbs (by omega) (by omega)
  generalize (i.natAbs : Int) * j.natAbs = P at a3 a4 k
  rw [a1, a2] at k
  have b1 : 2 * t.y * (i * j) ≥ -(t.x * P) := by
    have c1 : 2 * t.y * -P ≤ 2 * t.y * (i * j) := Int.mul_le_mul_of_nonneg_left a3 (by omega)
    have c2 : 2 * t.y * P ≤ t.x * P := Int.mul_le_mul_of_nonneg_right hh a4
    rw [Int.mul_neg] at c1
    omega
  have b2 : t.x * (j * j - 1) ≤ t.z * (j * j - 1) := Int.mul_le_mul_of_nonneg_right hz (by have := sq_pos hj; omega)
  have b3 : t.x * 1 ≤ t.x * (i * i - P + j * j) := Int.mul_le_mul_of_nonneg_left k (by omega)
  have e1 : t.x * (j * j - 1) = t.x * (j * j) - t.x := by grind
  have e2 : t.z * (j * j - 1) = t.z * (j * j) - t.z := by grind
  have e3 : t.x * (i * i - P + j * j) = t.x * (i * i) - t.x * P + t.x * (j * j) := by grind
  omega
theorem Redd.least1 {t : V3} (h : Redd t) (i j : Int) (n : i ≠ 0 ∨ j ≠ 0) : t.x ≤ t.at2 ⟨i, j⟩ ⟨i, j⟩ := by
  by_cases c : j = 0
  · subst c
    have hi : i ≠ 0 := by
      rcases n with n | n
      · exact n
      · exact absurd rfl n
    have hv : t.at2 ⟨i, 0⟩ ⟨i, 0⟩ = t.x * (i * i) := by
      unfold V3.at2
      grind
    rw [hv]
    have h1 : 1 ≤ i * i := sq_pos hi
    have h2 : t.x * 1 ≤ t.x * (i * i) := Int.mul_le_mul_of_nonneg_left h1 (Int.le_of_lt h.x)
    omega
  · have := h.least i j c
    have := h.z
    omega
/-- led by u, v: what is told of a triple T -/
structure Told (T t : V3) (u v : V2) : Prop where
  r : Redd t
  n : unim u v
  e : t = T.led u v
theorem Told.val {T t : V3} {u v : V2} (h : Told T t u v) (w : V2) : T.at2 w w = t.at2 ⟨det2 u v * det2 w v, det2 u v * det2 u w⟩ ⟨det2 u v * det2 w v, det2 u v * det2 u w⟩ := by
  have e := cmb_of h.n w
  have e2 := at_cmb T (det2 u v * det2 w v) (det2 u v * det2 u w) (det2 u v * det2 w v) (det2 u v * det2 u w) u v
  rw [← e, ← h.e] at e2
  exact e2
theorem unim_ne {u v : V2} (h : unim u v) : det2 u v ≠ 0 := by
  rcases h with h | h <;> rw [h] <;> decide
theorem Told.ge_z {T t : V3} {u v : V2} (h : Told T t u v) {w : V2} (n : det2 u w ≠ 0) : t.z ≤ T.at2 w w := by
  rw [h.val w]
  exact h.r.least _ _ (Int.mul_ne_zero (unim_ne h.n) n)
theorem Told.ge_x {T t : V3} {u v : V2} (h : Told T t u v) {w : V2} (n : w.x ≠ 0 ∨ w.y ≠ 0) : t.x ≤ T.at2 w w := by
  rw [h.val w]
  refine h.r.least1 _ _ ?_
  by_cases c : det2 u v * det2 u w = 0
  · by_cases c2 : det2 u v * det2 w v = 0
    · exfalso
      have e := cmb_of h.n w
      rw [c, c2] at e
      unfold V2.cmb at e
      simp only [Int.zero_mul, Int.add_zero] at e
      rw [e] at n
      simp at n
    · exact .inl c2
  · exact .inr c
/-- two reduced triples of one -/
theorem told_le {T t t' : V3} {u v u' v' : V2} (h : Told T t u v) (h' : Told T t' u' v') : t.x ≤ t'.x ∧ t.z ≤ t'.z := by
  have e1 : t'.x = T.at2 u' u' := by rw [h'.e]; rfl
  have e2 : t'.z = T.at2 v' v' := by rw [h'.e]; rfl
  refine ⟨by rw [e1]; exact h.ge_x (unim_x h'.n), ?_⟩
  by_cases c : det2 u v' = 0
  · by_cases c2 : det2 u u' = 0
    · exfalso
      have hu := unim_x h.n
      have hn := h'.n
      have hd := unim_ne hn
      have k1 : u.x * det2 u' v' = u'.x * det2 u v' - v'.x * det2 u u' := by unfold det2; grind
      have k2 : u.y * det2 u' v' = u'.y * det2 u v' - v'.y * det2 u u' := by unfold det2; grind
      rw [c, c2, Int.mul_zero, Int.mul_zero, Int.sub_zero] at k1 k2
      rcases hu with hu | hu
      · exact Int.mul_ne_zero hu hd k1
      · exact Int.mul_ne_zero hu hd k2
    · have := h.ge_z c2
      rw [← e1] at this
      have := h'.r.z
      omega
  · rw [e2]
    exact h.ge_z c
theorem told_eq {T t t' : V3} {u v u' v' : V2} (h : Told T t u v) (h' : Told T t' u' v') : t = t' := by
  obtain ⟨a1, a2⟩ := told_le h h'
  obtain ⟨b1, b2⟩ := told_le h' h
  have hx : t.x = t'.x := by omega
  have hz : t.z = t'.z := by omega
  have d1 : t.D = T.D := by rw [h.e, led_D, unim_sq h.n, Int.mul_one]
  have d2 : t'.D = T.D := by rw [h'.e, led_D, unim_sq h'.n, Int.mul_one]
  have d3 : t.y * t.y = t'.y * t'.y := by
    unfold V3.D at d1 d2
    rw [← hx, ← hz] at d2
    omega
  refine V3.ext' hx ?_ hz
  have y1 := h.r.y
  have y2 := h'.r.y
  rcases Int.lt_trichotomy t.y t'.y with c | c | c
  · have : t.y * t.y < t'.y * t'.y := by
      have p1 : t.y * t.y ≤ t.y * t'.y := Int.mul_le_mul_of_nonneg_left (Int.le_of_lt c) y1
      have p2 : t.y * t'.y < t'.y * t'.y := Int.mul_lt_mul_of_pos_right c (by omega)
      omega
    omega
  · exact c
  · have : t'.y * t'.y < t.y * t.y := by
      have p1 : t'.y * t'.y ≤ t'.y * t.y := Int.mul_le_mul_of_nonneg_left (Int.le_of_lt c) y2
      have p2 : t'.y * t.y < t.y * t.y := Int.mul_lt_mul_of_pos_right c (by omega)
      omega
    omega
/-- led twice -/
theorem led_led (T : V3) (u v : V2) (p q : V2) : (T.led u v).led p q = T.led (V2.cmb p.x p.y u v) (V2.cmb q.x q.y u v) := by
  unfold V3.led
  rw [at_cmb, at_cmb, at_cmb]
  rfl
theorem det_cmb (u v p q : V2) : det2 (V2.cmb p.x p.y u v) (V2.cmb q.x q.y u v) = det2 p q * det2 u v := by
  unfold det2 V2.cmb
  grind
theorem unim_cmb {u v p q : V2} (h : unim u v) (h' : unim p q) : unim (V2.cmb p.x p.y u v) (V2.cmb q.x q.y u v) := by
  unfold unim
  rw [det_cmb]
  rcases h with h | h <;> rcases h' with h' | h' <;> rw [h, h'] <;> decide
theorem told_led {T t : V3} {u v p q : V2} (hu : unim u v) (h : Told (T.led u v) t p q) : Told T t (V2.cmb p.x p.y u v) (V2.cmb q.x q.y u v) :=
  ⟨h.r, unim_cmb hu h.n, by rw [h.e, led_led]⟩
theorem told_self {t : V3} (h : Redd t) : Told t t ⟨1, 0⟩ ⟨0, 1⟩ := by
  refine ⟨h, .inl (by decide), ?_⟩
  unfold V3.led V3.at2
  refine V3.ext' ?_ ?_ ?_ <;> simp
/-- the numbers of the pair are not great -/
theorem Told.small {T t : V3} {u v : V2} (hT : Dfn T) (h : Told T t u v) {n : Nat} (hx : T.x < 2 ^ (2 * n)) (hz : T.z < 2 ^ (2 * n)) (w : V2) (hw : T.at2 w w ≤ t.z) (h0 : 0 ≤ T.at2 w w) : w.x.natAbs < 2 ^ (n + 1) ∧ w.y.natAbs < 2 ^ (n + 1) := by
  have d1 : t.D = T.D := by rw [h.e, led_D, unim_sq h.n, Int.mul_one]
  have hr := h.r
  have h1 : 3 * t.z ≤ 4 * t.D := by
    unfold V3.D
    have p1 : 2 * t.y * t.y ≤ t.x * t.y := Int.mul_le_mul_of_nonneg_right hr.h hr.y
    have p2 : t.x * (2 * t.y) ≤ t.x * t.x := Int.mul_le_mul_of_nonneg_left hr.h (Int.le_of_lt hr.x)
    have p3 : t.x * t.x ≤ t.x * t.z := Int.mul_le_mul_of_nonneg_left hr.z (Int.le_of_lt hr.x)
    have p4 : 1 * t.z ≤ t.x * t.z := Int.mul_le_mul_of_nonneg_right (show 1 ≤ t.x from hr.x) (by have := hr.x; have := hr.z; omega)
    have e1 : 2 * t.y * t.y = 2 * (t.y * t.y) := by grind
    have e2 : t.x * (2 * t.y) = 2 * (t.x * t.y) := by grind
    omega
  rw [d1] at h1
  have hD := hT.d
  have e4 : ((2 : Int) ^ (n + 1)) * 2 ^ (n + 1) = 4 * 2 ^ (2 * n) := by
    have : (2 : Int) ^ (2 * n) = 2 ^ n * 2 ^ n := by rw [← Int.pow_add]; congr 1; omega
    rw [this, Int.pow_succ]
    grind
  have fin : ∀ (c s : Int), 0 < c → c < 2 ^ (2 * n) → T.D * (s * s) ≤ c * T.at2 w w → s.natAbs < 2 ^ (n + 1) := by
    intro c s c0 c1 c2
    refine sq_lt ?_
    rw [e4]
    have q1 : c * T.at2 w w ≤ c * t.z := Int.mul_le_mul_of_nonneg_left hw (Int.le_of_lt c0)
    have q2 : c * (3 * t.z) ≤ c * (4 * T.D) := Int.mul_le_mul_of_nonneg_left h1 (Int.le_of_lt c0)
    have q3 : T.D * (3 * (s * s)) ≤ T.D * (4 * c) := by
      have r1 : T.D * (3 * (s * s)) = 3 * (T.D * (s * s)) := by grind
      have r2 : T.D * (4 * c) = c * (4 * T.D) := by grind
      have r3 : c * (3 * t.z) = 3 * (c * t.z) := by grind
      omega
    have q4 : 3 * (s * s) ≤ 4 * c := Int.le_of_mul_le_mul_left q3 hD
    have := sq_nn s
    omega
  constructor
  · refine fin T.z w.x hT.z hz ?_
    have := val_z T w
    have := sq_nn (T.y * w.x + T.z * w.y)
    omega
  · refine fin T.x w.y hT.x hx ?_
    have := val_x T w
    have := sq_nn (T.x * w.x + T.y * w.y)
    omega
theorem Redd.z_le {t : V3} (hr : Redd t) : 3 * t.z ≤ 4 * t.D := by
  unfold V3.D
  have p1 : 2 * t.y * t.y ≤ t.x * t.y := Int.mul_le_mul_of_nonneg_right hr.h hr.y
  have p2 : t.x * (2 * t.y) ≤ t.x * t.x := Int.mul_le_mul_of_nonneg_left hr.h (Int.le_of_lt hr.x)
  have p3 : t.x * t.x ≤ t.x * t.z := Int.mul_le_mul_of_nonneg_left hr.z (Int.le_of_lt hr.x)
  have p4 : 1 * t.z ≤ t.x * t.z := Int.mul_le_mul_of_nonneg_right (show 1 ≤ t.x from hr.x) (by have := hr.x; have := hr.z; omega)
  have e1 : 2 * t.y * t.y = 2 * (t.y * t.y) := by grind
  have e2 : t.x * (2 * t.y) = 2 * (t.x * t.y) := by grind
  omega
theorem pw (n : Nat) : ((2 ^ n : Nat) : Int) = 2 ^ n := by push_cast; rfl
theorem Told.bv {T t : V3} {u v : V2} (hT : Dfn T) (h : Told T t u v) {n : Nat} (hx : T.x < 2 ^ n) (hz : T.z < 2 ^ n) : BV (n + n + 1) t := by
  have d1 : t.D = T.D := by rw [h.e, led_D, unim_sq h.n, Int.mul_one]
  have h1 := h.r.z_le
  have h2 := mul_lt' (Int.le_of_lt hT.x) (Int.le_of_lt hT.z) hx hz
  have h3 : T.D ≤ T.x * T.z := by
    have := sq_nn T.y
    unfold V3.D
    omega
  rw [d1] at h1
  have e : (2 : Int) ^ (n + n + 1) = 2 ^ n * 2 ^ n * 2 := by rw [Int.pow_succ, Int.pow_add]
  have h5 := Int.mul_pos hT.x hT.z
  have h4 : t.z < 2 ^ (n + n + 1) := by rw [e]; omega
  have e2 := pw (n + n + 1)
  have hr := h.r
  have := hr.x
  have := hr.y
  have := hr.h
  have := hr.z
  exact ⟨by omega, by omega, by omega⟩
end DL

set_option linter.all false
set_option maxRecDepth 100000
set_option maxHeartbeats 4000000
/-! pairs as data; loops -/
namespace DL
open PySem
def r2 (k : Bool) (v : V2) : PyData := sq k [.int v.x, .int v.y]
section
variable {k j : Bool} {u v w z : V2} {a b : Int} {t s : V3}
theorem row2_t : PyData.tuple [.int a, .int b] = r2 true ⟨a, b⟩ := rfl
theorem row2_l : PyData.list [.int a, .int b] = r2 false ⟨a, b⟩ := rfl
theorem ix_p0 : gIx (r2 k v) (.int 0) = some (.int v.x) := by cases k <;> rfl
theorem ix_p1 : gIx (r2 k v) (.int 1) = some (.int v.y) := by cases k <;> rfl
theorem len_p : mLen [r2 k v] = some (.int 2) := by cases k <;> rfl
theorem tup_p : mTuple [r2 k v] = some (r2 true v) := by cases k <;> rfl
theorem seq_p : seqOf (r2 k v) = some [.int v.x, .int v.y] := by cases k <;> rfl
theorem isTup_p : isT .tuple (r2 k v) = some k := by cases k <;> rfl
theorem un2 {h : List PyData → Rho → Option Rho} {ρ : Rho} {x y : PyData} : gTp 2 h (.tuple [x, y]) ρ = h [x, y] ρ := rfl
theorem eqv_p : PyData.eqv (r2 true u) (r2 true v) = decide (u = v) := by
  show (u.x == v.x && (u.y == v.y && true)) = _
  rw [Bool.eq_iff_iff]
  simp only [Bool.and_eq_true, beq_iff_eq, decide_eq_true_eq, and_true]
  exact ⟨fun ⟨h1, h2⟩ => V2.ext' h1 h2, fun h => by subst h; exact ⟨rfl, rfl⟩⟩
theorem eq_p : gEq (r2 true u) (r2 true v) = some (.bool (decide (u = v))) := by
  show some (PyData.bool (PyData.eqv (r2 true u) (r2 true v))) = _
  rw [eqv_p]
theorem ix_l0 {x y : PyData} : gIx (sq k [x, y]) (.int 0) = some x := by cases k <;> rfl
theorem ix_l1 {x y : PyData} : gIx (sq k [x, y]) (.int 1) = some y := by cases k <;> rfl
end
class BW (n : outParam Nat) (v : V2) : Prop where
  x : v.x.natAbs < 2 ^ n
  y : v.y.natAbs < 2 ^ n
section
variable {n m : Nat} {v : V2}
instance bwx [h : BW n v] : Bd n v.x := ⟨h.x⟩
instance bwy [h : BW n v] : Bd n v.y := ⟨h.y⟩
theorem BW.mono (h : BW n v) (l : n ≤ m) : BW m v := ⟨Bd.mono h.x l, Bd.mono h.y l⟩
end
theorem whileF_nx {c : EB} {f : ES} {n : Nat} {ρ ρ' : Rho} (h1 : c ρ = some true) (h2 : f ρ = some (.nx ρ')) : whileF c f (n + 1) ρ = whileF c f n ρ' := by
  rw [whileF, h1, Option.bind_some, if_pos rfl, h2]
  rfl
theorem whileF_end {c : EB} {f : ES} {n : Nat} {ρ : Rho} (h1 : c ρ = some false) : whileF c f (n + 1) ρ = some (.nx ρ) := by
  rw [whileF, h1]
  rfl
/-- a loop whose body goes on each time -/
theorem forL_nx {g : EG} {f : ES} (P : Rho → Prop) : ∀ (ds : List PyData) (ρ : Rho), P ρ → (∀ d ∈ ds, ∀ ρ, P ρ → ∃ ρ1 ρ2, g d ρ = some ρ1 ∧ f ρ1 = some (.nx ρ2) ∧ P ρ2) → ∃ ρ', P ρ' ∧ forL g f ds ρ = some (.nx ρ')
  | [], ρ, h, _ => ⟨ρ, h, rfl⟩
  | d :: ds, ρ, h, hb => by
    obtain ⟨ρ1, ρ2, e1, e2, p⟩ := hb d List.mem_cons_self ρ h
    obtain ⟨ρ', q1, q2⟩ := forL_nx P ds ρ2 p fun d hd => hb d (List.mem_cons_of_mem _ hd)
    refine ⟨ρ', q1, ?_⟩
    rw [forL, e1]
    show (f ρ1).bind _ = _
    rw [e2]
    exact q2
theorem mem_rng {lo : Int} {n : Nat} {d : PyData} (h : d ∈ rng lo n) : ∃ i : Int, d = .int i ∧ lo ≤ i ∧ i < lo + n := by
  unfold rng at h
  obtain ⟨i, h1, rfl⟩ := List.mem_map.mp h
  have := List.mem_range.mp h1
  exact ⟨_, rfl, by omega, by omega⟩
theorem gFdiv_n {i j : Int} (h : j ≠ 0) (h2 : j.natAbs.log2 < 9000) : gFdiv (.int i) (.int j) = some (.int (i.fdiv j)) := if_pos ⟨h, h2⟩
theorem gMod_n {i j : Int} (h : j ≠ 0) : gMod (.int i) (.int j) = some (.int (i.fmod j)) := if_pos h
end DL

set_option linter.all false
set_option maxRecDepth 100000
set_option maxHeartbeats 2000000
/-! numbers: prime powers, how often a number divides, fractions -/
namespace DL
/-! ### how often p divides -/
theorem val_step (p : Nat) (hp : 2 ≤ p) : ∀ (n : Nat) (r : Int), r.natAbs ≤ n → r ≠ 0 → ∃ (e : Nat) (m : Int), r = (p : Int) ^ e * m ∧ ¬ (p : Int) ∣ m ∧ m ≠ 0
  | 0, r, h, h0 => absurd (by omega) h0
  | n + 1, r, h, h0 => by
    by_cases c : (p : Int) ∣ r
    · obtain ⟨q, hq⟩ := c
      have q0 : q ≠ 0 := fun z => h0 (by rw [hq, z, Int.mul_zero])
      have hl : q.natAbs ≤ n := by
        have e : r.natAbs = p * q.natAbs := by rw [hq, Int.natAbs_mul]; rfl
        have : 2 * q.natAbs ≤ p * q.natAbs := Nat.mul_le_mul_right _ hp
        omega
      obtain ⟨e, m, h1, h2, h3⟩ := val_step p hp n q hl q0
      exact ⟨e + 1, m, by rw [hq, h1, Int.pow_succ]; grind, h2, h3⟩
    · exact ⟨0, r, by simp, c, h0⟩
theorem val_uniq {p : Nat} (hp : 2 ≤ p) {m m' : Int} (h : ¬ (p : Int) ∣ m) (h' : ¬ (p : Int) ∣ m') : ∀ {e e' : Nat}, (p : Int) ^ e * m = (p : Int) ^ e' * m' → e = e'
  | 0, 0, _ => rfl
  | 0, e' + 1, q => by
    rw [Int.pow_zero, Int.one_mul, Int.pow_succ] at q
    exact absurd ⟨(p : Int) ^ e' * m', by rw [q]; grind⟩ h
  | e + 1, 0, q => by
    rw [Int.pow_zero, Int.one_mul, Int.pow_succ] at q
    exact absurd ⟨(p : Int) ^ e * m, by rw [← q]; grind⟩ h'
  | e + 1, e' + 1, q => by
    have q2 : (p : Int) * ((p : Int) ^ e * m) = (p : Int) * ((p : Int) ^ e' * m') := by
      rw [Int.pow_succ, Int.pow_succ] at q
      grind
    have q3 := Int.eq_of_mul_eq_mul_left (by omega) q2
    rw [val_uniq hp h h' q3]
/-! ### no divisor -/
def NoDiv (p : Nat) : Prop := 2 ≤ p ∧ ∀ d, 2 ≤ d → d < p → ¬ d ∣ p
theorem NoDiv.cop {p q : Nat} (h : NoDiv p) (h1 : 1 ≤ q) (h2 : q < p) : Nat.Coprime p q := by
  have g1 : p.gcd q ∣ p := Nat.gcd_dvd_left p q
  have g2 : p.gcd q ≤ q := Nat.gcd_le_right p (by omega)
  have g0 : 0 < p.gcd q := Nat.gcd_pos_of_pos_right p (by omega)
  rcases Nat.lt_or_ge (p.gcd q) 2 with c | c
  · show p.gcd q = 1
    omega
  · exact absurd g1 (h.2 _ c (by omega))
def PP : List (Nat × Nat) → Nat
  | [] => 1
  | (p, e) :: l => p ^ e * PP l
theorem PP_app : ∀ (l m : List (Nat × Nat)), PP (l ++ m) = PP l * PP m
  | [], m => by simp [PP]
  | (p, e) :: l, m => by
    show p ^ e * PP (l ++ m) = p ^ e * PP l * PP m
    rw [PP_app l m, Nat.mul_assoc]
theorem cop_PP {p : Nat} (h : NoDiv p) : ∀ {l : List (Nat × Nat)}, (∀ q ∈ l, 2 ≤ q.1 ∧ q.1 < p) → Nat.Coprime p (PP l)
  | [], _ => Nat.coprime_one_right p
  | (q, e) :: l, hl => by
    obtain ⟨h1, h2⟩ := hl (q, e) List.mem_cons_self
    exact Nat.Coprime.mul_right (Nat.Coprime.pow_right e (h.cop (by omega) h2)) (cop_PP h fun x hx => hl x (List.mem_cons_of_mem _ hx))
/-- each entry: a prime, how often it divides N -/
structure Ent (N : Nat) (q : Nat × Nat) : Prop where
  p : NoDiv q.1
  e : 1 ≤ q.2
  v : ∃ m : Nat, N = q.1 ^ q.2 * m ∧ ¬ q.1 ∣ m
inductive Asc : Nat → List (Nat × Nat) → Prop where
  | nil {b : Nat} : Asc b []
  | cons {b p e : Nat} {l : List (Nat × Nat)} : b < p → Asc p l → Asc b ((p, e) :: l)
theorem Asc.snoc : ∀ {l : List (Nat × Nat)} {b p e : Nat}, Asc b l → b < p → (∀ q ∈ l, q.1 < p) → Asc b (l ++ [(p, e)])
  | [], b, p, e, _, hb, _ => .cons hb .nil
  | (q, f) :: l, b, p, e, h, hb, hl => by
    cases h with
    | cons h1 h2 => exact .cons h1 (h2.snoc (hl (q, f) List.mem_cons_self) fun x hx => hl x (List.mem_cons_of_mem _ hx))
theorem Asc.gt : ∀ {l : List (Nat × Nat)} {b : Nat}, Asc b l → ∀ q ∈ l, b < q.1
  | [], b, _, q, hq => by simp at hq
  | (p, e) :: l, b, h, q, hq => by
    cases h with
    | cons h1 h2 =>
      rcases List.mem_cons.mp hq with rfl | hq
      · exact h1
      · have := h2.gt q hq
        omega
/-- what stands at the head of the outer loop -/
structure Fac (N : Nat) (l : List (Nat × Nat)) (r p : Nat) : Prop where
  n : N = PP l * r
  r0 : 0 < r
  p2 : 2 ≤ p
  lt : ∀ q ∈ l, q.1 < p
  asc : Asc 1 l
  ent : ∀ q ∈ l, Ent N q
  nd : ∀ d, 2 ≤ d → d < p → ¬ d ∣ r
theorem Fac.next0 {N r p : Nat} {l : List (Nat × Nat)} (h : Fac N l r p) (hd : ¬ p ∣ r) : Fac N l r (p + 1) :=
  ⟨h.n, h.r0, by have := h.p2; omega, fun q hq => by have := h.lt q hq; omega, h.asc, h.ent, fun d h1 h2 => by
    by_cases c : d = p
    · rw [c]
      exact hd
    · exact h.nd d h1 (by omega)⟩
theorem Fac.next {N r p e m : Nat} {l : List (Nat × Nat)} (h : Fac N l r p) (he : 1 ≤ e) (hr : r = p ^ e * m) (hm : ¬ p ∣ m) : Fac N (l ++ [(p, e)]) m (p + 1) := by
  have hp := h.p2
  have pr : NoDiv p := ⟨hp, fun d h1 h2 hd => h.nd d h1 h2 (by
    rw [hr]
    obtain ⟨k, rfl⟩ : ∃ k, e = k + 1 := ⟨e - 1, by omega⟩
    exact Nat.dvd_trans hd (Nat.dvd_trans ⟨p ^ k, by rw [Nat.pow_succ, Nat.mul_comm]⟩ (Nat.dvd_mul_right _ _)))⟩
  have hm0 : 0 < m := Nat.pos_of_ne_zero fun z => hm (by rw [z]; exact Nat.dvd_zero _)
  have hg := h.asc.gt
  refine ⟨?_, hm0, by omega, ?_, ?_, ?_, ?_⟩
  · rw [PP_app, h.n, hr]
    show PP l * (p ^ e * m) = PP l * (p ^ e * 1) * m
    rw [Nat.mul_one, Nat.mul_assoc]
  · intro q hq
    rcases List.mem_append.mp hq with hq | hq
    · have := h.lt q hq
      omega
    · obtain rfl : q = (p, e) := by simpa using hq
      show p < p + 1
      omega
  · exact h.asc.snoc (by omega) h.lt
  · intro q hq
    rcases List.mem_append.mp hq with hq | hq
    · exact h.ent q hq
    · obtain rfl : q = (p, e) := by simpa using hq
      refine ⟨pr, he, PP l * m, ?_, fun hd => hm ?_⟩
      · rw [h.n, hr]
        show PP l * (p ^ e * m) = p ^ e * (PP l * m)
        rw [Nat.mul_left_comm]
      · exact (cop_PP pr fun q hq => ⟨hg q hq, h.lt q hq⟩).dvd_of_dvd_mul_left hd
  · intro d h1 h2 hd
    by_cases c : d = p
    · rw [c] at hd
      exact hm hd
    · exact h.nd d h1 (by omega) (by rw [hr]; exact Nat.dvd_trans hd (Nat.dvd_mul_left _ _))
/-- the list at the end -/
structure Facs (N : Nat) (l : List (Nat × Nat)) : Prop where
  n : N = PP l
  asc : Asc 1 l
  ent : ∀ q ∈ l, Ent N q
theorem Fac.end1 {N p : Nat} {l : List (Nat × Nat)} (h : Fac N l 1 p) : Facs N l := ⟨by rw [h.n, Nat.mul_one], h.asc, h.ent⟩
theorem Fac.end2 {N r p : Nat} {l : List (Nat × Nat)} (h : Fac N l r p) (h1 : 1 < r) (h2 : r < p * p) : Facs N (l ++ [(r, 1)]) := by
  have hp := h.p2
  have hrp : p ≤ r := by
    rcases Nat.lt_or_ge r p with c | c
    · exact absurd (Nat.dvd_refl r) (h.nd r h1 c)
    · exact c
  have pr : NoDiv r := ⟨h1, fun d d1 d2 hd => by
    obtain ⟨c, hc⟩ := hd
    rcases Nat.lt_or_ge d p with z | z
    · exact h.nd d d1 z ⟨c, hc⟩
    · have c1 : c < p := by
        rcases Nat.lt_or_ge c p with y | y
        · exact y
        · have := Nat.mul_le_mul z y
          omega
      have c2 : 2 ≤ c := by
        rcases Nat.lt_or_ge c 2 with y | y
        · have : c = 0 ∨ c = 1 := by omega
          rcases this with rfl | rfl
          · omega
          · omega
        · exact y
      exact h.nd c c2 c1 ⟨d, by rw [hc, Nat.mul_comm]⟩⟩
  have hg := h.asc.gt
  have hlt : ∀ q ∈ l, q.1 < r := fun q hq => Nat.lt_of_lt_of_le (h.lt q hq) hrp
  refine ⟨?_, h.asc.snoc h1 hlt, ?_⟩
  · rw [PP_app, h.n]
    show PP l * r = PP l * (r ^ 1 * 1)
    rw [Nat.pow_one, Nat.mul_one]
  · intro q hq
    rcases List.mem_append.mp hq with hq | hq
    · exact h.ent q hq
    · obtain rfl : q = (r, 1) := by simpa using hq
      refine ⟨pr, Nat.le_refl _, PP l, ?_, fun hd => ?_⟩
      · rw [h.n]
        show PP l * r = r ^ 1 * PP l
        rw [Nat.pow_one, Nat.mul_comm]
      · have c := cop_PP pr fun q hq => ⟨hg q hq, hlt q hq⟩
        have := Nat.Coprime.eq_one_of_dvd c hd
        omega
theorem Fac.start {N : Nat} (h : 0 < N) : Fac N [] N 2 := ⟨by simp [PP], h, Nat.le_refl _, fun q hq => by simp at hq, .nil, fun q hq => by simp at hq, fun d h1 h2 => by omega⟩
theorem PP_pos : ∀ {l : List (Nat × Nat)}, (∀ q ∈ l, NoDiv q.1 ∧ 1 ≤ q.2) → 1 ≤ PP l
  | [], _ => Nat.le_refl _
  | (p, e) :: l, hl => by
    have h1 := (hl (p, e) List.mem_cons_self).1.1
    have h2 := PP_pos (l := l) fun x hx => hl x (List.mem_cons_of_mem _ hx)
    exact Nat.mul_pos (Nat.pow_pos (by omega)) h2
/-! ### at most nine of them -/
theorem ge_of {p b : Nat} (h : NoDiv p) (hb : b < p) {c : Nat} (hc : ∀ x, b < x → x < c → ∃ d, 2 ≤ d ∧ d < x ∧ d ∣ x) : c ≤ p := by
  rcases Nat.lt_or_ge p c with z | z
  · obtain ⟨d, h1, h2, h3⟩ := hc p hb z
    exact absurd h3 (h.2 d h1 h2)
  · exact z
theorem few {N : Nat} {l : List (Nat × Nat)} (h : Facs N l) (hN : N ≤ 1000000000) (hN0 : 0 < N) : l.length ≤ 9 := by
  have key : ∀ (cs : List Nat) (b : Nat) (l : List (Nat × Nat)), Asc b l → (∀ q ∈ l, NoDiv q.1 ∧ 1 ≤ q.2) → cs.length ≤ l.length → (∀ c ∈ cs.head?, ∀ p, NoDiv p → b < p → c ≤ p) →
      (∀ i c d, cs[i]? = some c → cs[i + 1]? = some d → ∀ p, NoDiv p → c < p → d ≤ p) → cs.foldr (· * ·) 1 ≤ PP l := by
    intro cs
    induction cs with
    | nil =>
      intro b l _ hl _ _ _
      exact PP_pos hl
    | cons c cs ih =>
      intro b l ha hl hlen hh hn
      cases l with
      | nil => simp at hlen
      | cons q l =>
        obtain ⟨p, e⟩ := q
        cases ha with
        | cons h1 h2 =>
          obtain ⟨k1, k2⟩ := hl (p, e) List.mem_cons_self
          have cp : c ≤ p := hh c (by simp) p k1 h1
          have hcs := ih p l h2 (fun x hx => hl x (List.mem_cons_of_mem _ hx)) (by simpa using hlen) (fun d hd r hr hpr => by
            cases cs with
            | nil => simp at hd
            | cons d' cs =>
              simp at hd
              subst hd
              exact hn 0 c d' rfl rfl r hr (by omega)) (fun i c' d' e1 e2 => hn (i + 1) c' d' (by simpa using e1) (by simpa using e2))
          have cpe : c ≤ p ^ e := by
            obtain ⟨k, rfl⟩ : ∃ k, e = k + 1 := ⟨e - 1, by have k2' : 1 ≤ e := k2; omega⟩
            have : 0 < p ^ k := Nat.pow_pos (by have := k1.1; omega)
            rw [Nat.pow_succ]
            have := Nat.le_mul_of_pos_left p this
            omega
          exact Nat.mul_le_mul cpe hcs
  rcases Nat.lt_or_ge l.length 10 with c | c
  · omega
  · have dv : ∀ x d, 2 ≤ d → d < x → d ∣ x → ∃ d, 2 ≤ d ∧ d < x ∧ d ∣ x := fun x d h1 h2 h3 => ⟨d, h1, h2, h3⟩
    have := key [2, 3, 5, 7, 11, 13, 17, 19, 23, 29] 1 l h.asc (fun q hq => ⟨(h.ent q hq).p, (h.ent q hq).e⟩) c (fun c hc p hp hb => by
      simp at hc
      subst hc
      exact hb) (by
      intro i c d e1 e2 p hp hcp
      have hi : i < 9 := by
        rcases Nat.lt_or_ge i 9 with z | z
        · exact z
        · rw [List.getElem?_eq_none (by simp; omega)] at e2
          cases e2
      have hcase : i = 0 ∨ i = 1 ∨ i = 2 ∨ i = 3 ∨ i = 4 ∨ i = 5 ∨ i = 6 ∨ i = 7 ∨ i = 8 := by omega
      rcases hcase with rfl | rfl | rfl | rfl | rfl | rfl | rfl | rfl | rfl <;> simp at e1 e2 <;> subst e1 <;> subst e2 <;> refine ge_of hp hcp fun x x1 x2 => ?_
      · omega
      · exact dv x 2 (by omega) (by omega) (by omega)
      · exact dv x 2 (by omega) (by omega) (by omega)
      · have : x = 8 ∨ x = 9 ∨ x = 10 := by omega
        rcases this with rfl | rfl | rfl
        · exact dv 8 2 (by omega) (by omega) (by omega)
        · exact dv 9 3 (by omega) (by omega) (by omega)
        · exact dv 10 2 (by omega) (by omega) (by omega)
      · exact dv x 2 (by omega) (by omega) (by omega)
      · have : x = 14 ∨ x = 15 ∨ x = 16 := by omega
        rcases this with rfl | rfl | rfl
        · exact dv 14 2 (by omega) (by omega) (by omega)
        · exact dv 15 3 (by omega) (by omega) (by omega)
        · exact dv 16 2 (by omega) (by omega) (by omega)
      · exact dv x 2 (by omega) (by omega) (by omega)
      · have : x = 20 ∨ x = 21 ∨ x = 22 := by omega
        rcases this with rfl | rfl | rfl
        · exact dv 20 2 (by omega) (by omega) (by omega)
        · exact dv 21 3 (by omega) (by omega) (by omega)
        · exact dv 22 2 (by omega) (by omega) (by omega)
      · have : x = 24 ∨ x = 25 ∨ x = 26 ∨ x = 27 ∨ x = 28 := by omega
        rcases this with rfl | rfl | rfl | rfl | rfl
        · exact dv 24 2 (by omega) (by omega) (by omega)
        · exact dv 25 5 (by omega) (by omega) (by omega)
        · exact dv 26 2 (by omega) (by omega) (by omega)
        · exact dv 27 3 (by omega) (by omega) (by omega)
        · exact dv 28 2 (by omega) (by omega) (by omega))
    rw [← h.n] at this
    have e : [2, 3, 5, 7, 11, 13, 17, 19, 23, 29].foldr (· * ·) 1 = 6469693230 := by decide
    omega
end DL

set_option linter.all false
set_option maxRecDepth 100000
set_option maxHeartbeats 4000000
set_option exponentiation.threshold 10000
namespace W
open PySem DL L2
/-! ### roots, ceilings -/
theorem w_roots {n : Int} (h : 0 ≤ n) (hb : n.natAbs < 2 ^ 300) : m__law_roots_right [.int n] = some (.bool true) := by
  have hl : n.toNat.log2 < 13400 := by
    have e : n.toNat = n.natAbs := by omega
    rw [e]
    exact Nat.lt_of_lt_of_le (PySem.Flt.log2_lt_of (by decide) hb) (by decide)
  obtain ⟨s1, s2⟩ := PySem.Float64.isqrt_spec n.toNat
  have hi : mIsqrt [.int n] = some (.int ((Float64.isqrt n.toNat : Nat) : Int)) := if_pos ⟨h, hl⟩
  have hs : Float64.isqrt n.toNat < 2 ^ 300 := by
    have : Float64.isqrt n.toNat ≤ Float64.isqrt n.toNat * Float64.isqrt n.toNat := Nat.le_mul_self _
    omega
  generalize Float64.isqrt n.toNat = r at hi s1 s2 hs
  have i1 : ¬ n < (r : Int) * r := by
    have : ((r * r : Nat) : Int) = (r : Int) * r := by push_cast; rfl
    omega
  have i2 : ¬ ((r : Int) + 1) * (r + 1) ≤ n := by
    have : (((r + 1) * (r + 1) : Nat) : Int) = ((r : Int) + 1) * (r + 1) := by push_cast; rfl
    omega
  haveI : Bd 300 (r : Int) := ⟨by rw [Int.natAbs_natCast]; exact hs⟩
  have root : m_root [.int n] = some (.int r) := by simp only [m_root, b_root, runD, List.map_cons, List.map_nil, List.replicate_zero, List.replicate_succ, List.cons_append, List.nil_append, List.append_nil, sRet, sRetN, sNx, sSeq, sSet, sSetF, sOwn, sTo, gsCons, gsNil, sPar, sPar3, eChain, sExp, sApp, sPut, sIf, sFrz, frz, frz1, List.foldl_cons, List.foldl_nil, eBin, eUn, eVar, eC, eAnd, eOr, eIf, eLend, flat, eIxO, eOfF, eTup, eAll, fAll, eCall, eIs, eSl, fSl, oNone, oSome, aNil, aCons, bVal, bAnd, bOr, bNot, bYes, blOf, gNot, iSeq, iRg1, iRg2, seq_l, seq_t, tup_l, tup_t, lst_l, lst_t, len_l, len_t, gIx_l, gIx_t, gNm, wipeR, List.getElem?_cons_zero, List.getElem?_cons_succ, List.set_cons_zero, List.set_cons_succ, Option.bind_some, Option.bind_none, Option.map_some, Option.map_none, if_true, if_false, decide_true, decide_false, Bool.not_true, Bool.not_false, Bool.false_eq_true, reduceIte, gAdd_i, gSub_i, gNeg_i, gLt_i, gLe_i, gGt_i, gGe_i, gEq_i, gNe_i, gMul_b, gMod_p, gFdiv_p, Nat.reduceAdd, Nat.reduceMul, Nat.reduceLeDiff, at0, at1, at2, at3, at4, at5, at6, at7, at8, at9, at10, at11, at12, at13, at14, at15, gSl_l, cut_pos, cut_from, cut_to, Int.reduceToNat, List.drop_succ_cons, List.drop_zero, List.take_succ_cons, List.take_zero, List.take_nil, Nat.reduceSub, Int.reduceAdd, Int.reduceSub, Int.reduceMul, Int.reduceMod, Int.reduceDiv, Int.reduceNeg, List.length_cons, List.length_nil, Nat.zero_add, fComp, compL, rg1_3, mInt, mAbs, mMax2, mMin2, mMax3, mMin3, hi]
  have r0 : ¬ (r : Int) < 0 := by omega
  have up : ∃ u : Int, m_root_up [.int n] = some (.int u) ∧ 0 ≤ u ∧ u.natAbs < 2 ^ 301 ∧ n ≤ u * u ∧ (u = 0 ∨ (u - 1) * (u - 1) < n) := by
    by_cases c : (r : Int) * r < n
    · refine ⟨(r : Int) + 1, ?_, by omega, by omega, by omega, .inr ?_⟩
      · simp (config := {decide := true}) only [m_root_up, b_root_up, runD, List.map_cons, List.map_nil, List.replicate_zero, List.replicate_succ, List.cons_append, List.nil_append, List.append_nil, sRet, sRetN, sNx, sSeq, sSet, sSetF, sOwn, sTo, gsCons, gsNil, sPar, sPar3, eChain, sExp, sApp, sPut, sIf, sFrz, frz, frz1, List.foldl_cons, List.foldl_nil, eBin, eUn, eVar, eC, eAnd, eOr, eIf, eLend, flat, eIxO, eOfF, eTup, eAll, fAll, eCall, eIs, eSl, fSl, oNone, oSome, aNil, aCons, bVal, bAnd, bOr, bNot, bYes, blOf, gNot, iSeq, iRg1, iRg2, seq_l, seq_t, tup_l, tup_t, lst_l, lst_t, len_l, len_t, gIx_l, gIx_t, gNm, wipeR, List.getElem?_cons_zero, List.getElem?_cons_succ, List.set_cons_zero, List.set_cons_succ, Option.bind_some, Option.bind_none, Option.map_some, Option.map_none, if_true, if_false, decide_true, decide_false, Bool.not_true, Bool.not_false, Bool.false_eq_true, reduceIte, gAdd_i, gSub_i, gNeg_i, gLt_i, gLe_i, gGt_i, gGe_i, gEq_i, gNe_i, gMul_b, gMod_p, gFdiv_p, Nat.reduceAdd, Nat.reduceMul, Nat.reduceLeDiff, at0, at1, at2, at3, at4, at5, at6, at7, at8, at9, at10, at11, at12, at13, at14, at15, gSl_l, cut_pos, cut_from, cut_to, Int.reduceToNat, List.drop_succ_cons, List.drop_zero, List.take_succ_cons, List.take_zero, List.take_nil, Nat.reduceSub, Int.reduceAdd, Int.reduceSub, Int.reduceMul, Int.reduceMod, Int.reduceDiv, Int.reduceNeg, List.length_cons, List.length_nil, Nat.zero_add, fComp, compL, rg1_3, mInt, mAbs, mMax2, mMin2, mMax3, mMin3, hi, c]
      · rw [show (r : Int) + 1 - 1 = r by omega]
        exact c
    · refine ⟨r, ?_, by omega, by omega, by omega, ?_⟩
      · simp (config := {decide := true}) only [m_root_up, b_root_up, runD, List.map_cons, List.map_nil, List.replicate_zero, List.replicate_succ, List.cons_append, List.nil_append, List.append_nil, sRet, sRetN, sNx, sSeq, sSet, sSetF, sOwn, sTo, gsCons, gsNil, sPar, sPar3, eChain, sExp, sApp, sPut, sIf, sFrz, frz, frz1, List.foldl_cons, List.foldl_nil, eBin, eUn, eVar, eC, eAnd, eOr, eIf, eLend, flat, eIxO, eOfF, eTup, eAll, fAll, eCall, eIs, eSl, fSl, oNone, oSome, aNil, aCons, bVal, bAnd, bOr, bNot, bYes, blOf, gNot, iSeq, iRg1, iRg2, seq_l, seq_t, tup_l, tup_t, lst_l, lst_t, len_l, len_t, gIx_l, gIx_t, gNm, wipeR, List.getElem?_cons_zero, List.getElem?_cons_succ, List.set_cons_zero, List.set_cons_succ, Option.bind_some, Option.bind_none, Option.map_some, Option.map_none, if_true, if_false, decide_true, decide_false, Bool.not_true, Bool.not_false, Bool.false_eq_true, reduceIte, gAdd_i, gSub_i, gNeg_i, gLt_i, gLe_i, gGt_i, gGe_i, gEq_i, gNe_i, gMul_b, gMod_p, gFdiv_p, Nat.reduceAdd, Nat.reduceMul, Nat.reduceLeDiff, at0, at1, at2, at3, at4, at5, at6, at7, at8, at9, at10, at11, at12, at13, at14, at15, gSl_l, cut_pos, cut_from, cut_to, Int.reduceToNat, List.drop_succ_cons, List.drop_zero, List.take_succ_cons, List.take_zero, List.take_nil, Nat.reduceSub, Int.reduceAdd, Int.reduceSub, Int.reduceMul, Int.reduceMod, Int.reduceDiv, Int.reduceNeg, List.length_cons, List.length_nil, Nat.zero_add, fComp, compL, rg1_3, mInt, mAbs, mMax2, mMin2, mMax3, mMin3, hi, c]
      · by_cases z : (r : Int) = 0
        · exact .inl z
        · refine .inr ?_
          have : ((r : Int) - 1) * (r - 1) = (r : Int) * r - r - r + 1 := by grind
          omega
  obtain ⟨u, eu, u0, ub, u1, u2⟩ := up
  haveI : Bd 301 u := ⟨ub⟩
  have u3 : ¬ u < 0 := by omega
  rcases u2 with rfl | u2
  · have u4 : n ≤ 0 := by omega
    simp (config := {decide := true}) only [m__law_roots_right, b__law_roots_right, runD, List.map_cons, List.map_nil, List.replicate_zero, List.replicate_succ, List.cons_append, List.nil_append, List.append_nil, sRet, sRetN, sNx, sSeq, sSet, sSetF, sOwn, sTo, gsCons, gsNil, sPar, sPar3, eChain, sExp, sApp, sPut, sIf, sFrz, frz, frz1, List.foldl_cons, List.foldl_nil, eBin, eUn, eVar, eC, eAnd, eOr, eIf, eLend, flat, eIxO, eOfF, eTup, eAll, fAll, eCall, eIs, eSl, fSl, oNone, oSome, aNil, aCons, bVal, bAnd, bOr, bNot, bYes, blOf, gNot, iSeq, iRg1, iRg2, seq_l, seq_t, tup_l, tup_t, lst_l, lst_t, len_l, len_t, gIx_l, gIx_t, gNm, wipeR, List.getElem?_cons_zero, List.getElem?_cons_succ, List.set_cons_zero, List.set_cons_succ, Option.bind_some, Option.bind_none, Option.map_some, Option.map_none, if_true, if_false, decide_true, decide_false, Bool.not_true, Bool.not_false, Bool.false_eq_true, reduceIte, gAdd_i, gSub_i, gNeg_i, gLt_i, gLe_i, gGt_i, gGe_i, gEq_i, gNe_i, gMul_b, gMod_p, gFdiv_p, Nat.reduceAdd, Nat.reduceMul, Nat.reduceLeDiff, at0, at1, at2, at3, at4, at5, at6, at7, at8, at9, at10, at11, at12, at13, at14, at15, gSl_l, cut_pos, cut_from, cut_to, Int.reduceToNat, List.drop_succ_cons, List.drop_zero, List.take_succ_cons, List.take_zero, List.take_nil, Nat.reduceSub, Int.reduceAdd, Int.reduceSub, Int.reduceMul, Int.reduceMod, Int.reduceDiv, Int.reduceNeg, List.length_cons, List.length_nil, Nat.zero_add, fComp, compL, rg1_3, mInt, mAbs, mMax2, mMin2, mMax3, mMin3, root, eu, w_whole, r0, i1, i2, u4]
  · by_cases z : u = 0
    · subst z
      have u4 : n ≤ 0 := by omega
      simp (config := {decide := true}) only [m__law_roots_right, b__law_roots_right, runD, List.map_cons, List.map_nil, List.replicate_zero, List.replicate_succ, List.cons_append, List.nil_append, List.append_nil, sRet, sRetN, sNx, sSeq, sSet, sSetF, sOwn, sTo, gsCons, gsNil, sPar, sPar3, eChain, sExp, sApp, sPut, sIf, sFrz, frz, frz1, List.foldl_cons, List.foldl_nil, eBin, eUn, eVar, eC, eAnd, eOr, eIf, eLend, flat, eIxO, eOfF, eTup, eAll, fAll, eCall, eIs, eSl, fSl, oNone, oSome, aNil, aCons, bVal, bAnd, bOr, bNot, bYes, blOf, gNot, iSeq, iRg1, iRg2, seq_l, seq_t, tup_l, tup_t, lst_l, lst_t, len_l, len_t, gIx_l, gIx_t, gNm, wipeR, List.getElem?_cons_zero, List.getElem?_cons_succ, List.set_cons_zero, List.set_cons_succ, Option.bind_some, Option.bind_none, Option.map_some, Option.map_none, if_true, if_false, decide_true, decide_false, Bool.not_true, Bool.not_false, Bool.false_eq_true, reduceIte, gAdd_i, gSub_i, gNeg_i, gLt_i, gLe_i, gGt_i, gGe_i, gEq_i, gNe_i, gMul_b, gMod_p, gFdiv_p, Nat.reduceAdd, Nat.reduceMul, Nat.reduceLeDiff, at0, at1, at2, at3, at4, at5, at6, at7, at8, at9, at10, at11, at12, at13, at14, at15, gSl_l, cut_pos, cut_from, cut_to, Int.reduceToNat, List.drop_succ_cons, List.drop_zero, List.take_succ_cons, List.take_zero, List.take_nil, Nat.reduceSub, Int.reduceAdd, Int.reduceSub, Int.reduceMul, Int.reduceMod, Int.reduceDiv, Int.reduceNeg, List.length_cons, List.length_nil, Nat.zero_add, fComp, compL, rg1_3, mInt, mAbs, mMax2, mMin2, mMax3, mMin3, root, eu, w_whole, r0, i1, i2, u4]
    · simp (config := {decide := true}) only [m__law_roots_right, b__law_roots_right, runD, List.map_cons, List.map_nil, List.replicate_zero, List.replicate_succ, List.cons_append, List.nil_append, List.append_nil, sRet, sRetN, sNx, sSeq, sSet, sSetF, sOwn, sTo, gsCons, gsNil, sPar, sPar3, eChain, sExp, sApp, sPut, sIf, sFrz, frz, frz1, List.foldl_cons, List.foldl_nil, eBin, eUn, eVar, eC, eAnd, eOr, eIf, eLend, flat, eIxO, eOfF, eTup, eAll, fAll, eCall, eIs, eSl, fSl, oNone, oSome, aNil, aCons, bVal, bAnd, bOr, bNot, bYes, blOf, gNot, iSeq, iRg1, iRg2, seq_l, seq_t, tup_l, tup_t, lst_l, lst_t, len_l, len_t, gIx_l, gIx_t, gNm, wipeR, List.getElem?_cons_zero, List.getElem?_cons_succ, List.set_cons_zero, List.set_cons_succ, Option.bind_some, Option.bind_none, Option.map_some, Option.map_none, if_true, if_false, decide_true, decide_false, Bool.not_true, Bool.not_false, Bool.false_eq_true, reduceIte, gAdd_i, gSub_i, gNeg_i, gLt_i, gLe_i, gGt_i, gGe_i, gEq_i, gNe_i, gMul_b, gMod_p, gFdiv_p, Nat.reduceAdd, Nat.reduceMul, Nat.reduceLeDiff, at0, at1, at2, at3, at4, at5, at6, at7, at8, at9, at10, at11, at12, at13, at14, at15, gSl_l, cut_pos, cut_from, cut_to, Int.reduceToNat, List.drop_succ_cons, List.drop_zero, List.take_succ_cons, List.take_zero, List.take_nil, Nat.reduceSub, Int.reduceAdd, Int.reduceSub, Int.reduceMul, Int.reduceMod, Int.reduceDiv, Int.reduceNeg, List.length_cons, List.length_nil, Nat.zero_add, fComp, compL, rg1_3, mInt, mAbs, mMax2, mMin2, mMax3, mMin3, root, eu, w_whole, r0, u3, i1, i2, u1, z, u2]
theorem w_ceil {a b : Int} (h : 0 < b) (ha : a.natAbs < 2 ^ 400) (hb : b.natAbs < 2 ^ 400) : m__law_ceiling_right [.int a, .int b] = some (.bool true) := by
  have l2 : b.natAbs.log2 < 9000 := log_lt hb (by decide)
  haveI : Bd 400 a := ⟨ha⟩
  haveI : Bd 400 b := ⟨hb⟩
  have hd := Int.emod_add_mul_ediv (-a) b
  have m1 := Int.emod_nonneg (-a) (show b ≠ 0 by omega)
  have m2 := Int.emod_lt_of_pos (-a) h
  have hq : (-a / b).natAbs < 2 ^ 400 := by
    refine Nat.lt_of_le_of_lt (Int.natAbs_ediv_le_natAbs _ _) ?_
    rw [Int.natAbs_neg]
    exact ha
  generalize eq : -a / b = q at hd hq
  haveI : Bd 400 q := ⟨hq⟩
  have c1 : a ≤ -q * b := by
    have : -q * b = -(b * q) := by grind
    omega
  have c2 : (-q - 1) * b < a := by
    have : (-q - 1) * b = -(b * q) - b := by grind
    omega
  simp (config := {decide := true}) only [m__law_ceiling_right, b__law_ceiling_right, m_ceiling, b_ceiling, runD, List.map_cons, List.map_nil, List.replicate_zero, List.replicate_succ, List.cons_append, List.nil_append, List.append_nil, sRet, sRetN, sNx, sSeq, sSet, sSetF, sOwn, sTo, gsCons, gsNil, sPar, sPar3, eChain, sExp, sApp, sPut, sIf, sFrz, frz, frz1, List.foldl_cons, List.foldl_nil, eBin, eUn, eVar, eC, eAnd, eOr, eIf, eLend, flat, eIxO, eOfF, eTup, eAll, fAll, eCall, eIs, eSl, fSl, oNone, oSome, aNil, aCons, bVal, bAnd, bOr, bNot, bYes, blOf, gNot, iSeq, iRg1, iRg2, seq_l, seq_t, tup_l, tup_t, lst_l, lst_t, len_l, len_t, gIx_l, gIx_t, gNm, wipeR, List.getElem?_cons_zero, List.getElem?_cons_succ, List.set_cons_zero, List.set_cons_succ, Option.bind_some, Option.bind_none, Option.map_some, Option.map_none, if_true, if_false, decide_true, decide_false, Bool.not_true, Bool.not_false, Bool.false_eq_true, reduceIte, gAdd_i, gSub_i, gNeg_i, gLt_i, gLe_i, gGt_i, gGe_i, gEq_i, gNe_i, gMul_b, gMod_p, gFdiv_p, Nat.reduceAdd, Nat.reduceMul, Nat.reduceLeDiff, at0, at1, at2, at3, at4, at5, at6, at7, at8, at9, at10, at11, at12, at13, at14, at15, gSl_l, cut_pos, cut_from, cut_to, Int.reduceToNat, List.drop_succ_cons, List.drop_zero, List.take_succ_cons, List.take_zero, List.take_nil, Nat.reduceSub, Int.reduceAdd, Int.reduceSub, Int.reduceMul, Int.reduceMod, Int.reduceDiv, Int.reduceNeg, List.length_cons, List.length_nil, Nat.zero_add, fComp, compL, rg1_3, mInt, mAbs, mGcd, mMax2, mMin2, mMax3, mMin3, mIsqrt, isT, gFdiv_p h l2, eq, w_whole, c1, c2]
/-! ### bezout -/
noncomputable abbrev bezC : EB := bVal (eBin gNe (eVar 5) (eC (.int 0)))
noncomputable abbrev bezB : ES := (sSeq (sSet 8 (eBin gFdiv (eVar 2) (eVar 5))) (sSeq (sPar 2 5 (aCons (eVar 5) (aCons (eBin gSub (eVar 2) (eBin gMul (eVar 8) (eVar 5))) aNil))) (sSeq (sPar 3 6 (aCons (eVar 6) (aCons (eBin gSub (eVar 3) (eBin gMul (eVar 8) (eVar 6))) aNil))) (sPar 4 7 (aCons (eVar 7) (aCons (eBin gSub (eVar 4) (eBin gMul (eVar 8) (eVar 7))) aNil))))))
theorem fd_nat (G R : Nat) : (G : Int).fdiv R = ((G / R : Nat) : Int) := by
  rw [Int.fdiv_eq_ediv_of_nonneg _ (Int.natCast_nonneg _)]
  rfl
theorem fd_rem (G R : Nat) : (G : Int) - ((G / R : Nat) : Int) * (R : Int) = ((G % R : Nat) : Int) := by
  have h := Nat.div_add_mod G R
  have h2 : ((R * (G / R) + G % R : Nat) : Int) = (G : Int) := by rw [h]
  push_cast at h2 ⊢
  have : (R : Int) * ((G : Int) / R) = (G : Int) / R * R := by grind
  omega
theorem fd_abs {g r : Int} (h : r ≠ 0) (sg : (0 ≤ g ∧ 0 ≤ r) ∨ (g ≤ 0 ∧ r ≤ 0)) : g.natAbs = (g.fdiv r).natAbs * r.natAbs + (g - g.fdiv r * r).natAbs ∧ (g - g.fdiv r * r).natAbs < r.natAbs ∧ ((0 ≤ r ∧ 0 ≤ g - g.fdiv r * r) ∨ (r ≤ 0 ∧ g - g.fdiv r * r ≤ 0)) := by
  rcases sg with ⟨h1, h2⟩ | ⟨h1, h2⟩
  · obtain ⟨G, rfl⟩ : ∃ G : Nat, g = G := ⟨g.toNat, by omega⟩
    obtain ⟨R, rfl⟩ : ∃ R : Nat, r = R := ⟨r.toNat, by omega⟩
    rw [fd_nat, fd_rem]
    simp only [Int.natAbs_natCast]
    refine ⟨?_, Nat.mod_lt _ (by omega), .inl ⟨by omega, by omega⟩⟩
    rw [Nat.mul_comm]
    exact (Nat.div_add_mod G R).symm
  · obtain ⟨G, rfl⟩ : ∃ G : Nat, g = -(G : Int) := ⟨(-g).toNat, by omega⟩
    obtain ⟨R, rfl⟩ : ∃ R : Nat, r = -(R : Int) := ⟨(-r).toNat, by omega⟩
    rw [Int.neg_fdiv_neg, fd_nat]
    have e : -(G : Int) - ((G / R : Nat) : Int) * -(R : Int) = -((G % R : Nat) : Int) := by
      have := fd_rem G R
      rw [Int.mul_neg]
      omega
    rw [e]
    simp only [Int.natAbs_natCast, Int.natAbs_neg]
    refine ⟨?_, Nat.mod_lt _ (by omega), .inr ⟨by omega, by omega⟩⟩
    rw [Nat.mul_comm]
    exact (Nat.div_add_mod G R).symm
theorem fd_bd {g r : Int} (h : r ≠ 0) {n : Nat} (hg : g.natAbs < 2 ^ n) : (g.fdiv r).natAbs < 2 ^ (n + 1) := by
  have p := Nat.two_pow_pos n
  rw [Nat.pow_succ]
  rcases Int.lt_or_lt_of_ne h with c | c
  · have e := Int.neg_fdiv_neg g r
    rw [Int.fdiv_eq_ediv_of_nonneg _ (by omega)] at e
    rw [← e]
    have := Int.natAbs_ediv_le_natAbs (-g) (-r)
    rw [Int.natAbs_neg] at this
    omega
  · rw [Int.fdiv_eq_ediv_of_nonneg _ (by omega)]
    have := Int.natAbs_ediv_le_natAbs g r
    omega
theorem bez_body {o1 o2 k : SC} {g s t r u w : Int} (hr : r ≠ 0) (hg : Bd 500 g) (hrb : Bd 500 r) (hu : Bd 500 u) (hw : Bd 500 w) :
    bezB [o1, o2, .va (.int g), .va (.int s), .va (.int t), .va (.int r), .va (.int u), .va (.int w), k] = some (.nx [o1, o2, .va (.int r), .va (.int u), .va (.int w), .va (.int (g - g.fdiv r * r)), .va (.int (s - g.fdiv r * u)), .va (.int (t - g.fdiv r * w)), .va (.int (g.fdiv r))]) := by
  have l2 : r.natAbs.log2 < 9000 := log_lt hrb.lt (by decide)
  haveI : Bd 501 (g.fdiv r) := ⟨fd_bd hr hg.lt⟩
  have e := @gFdiv_n g r hr l2
  generalize g.fdiv r = q at *
  simp (config := {decide := true}) only [bezB, runD, List.map_cons, List.map_nil, List.replicate_zero, List.replicate_succ, List.cons_append, List.nil_append, List.append_nil, sRet, sRetN, sNx, sSeq, sSet, sSetF, sOwn, sTo, gsCons, gsNil, sPar, sPar3, eChain, sExp, sApp, sPut, sIf, sFrz, frz, frz1, List.foldl_cons, List.foldl_nil, eBin, eUn, eVar, eC, eAnd, eOr, eIf, eLend, flat, eIxO, eOfF, eTup, eAll, fAll, eCall, eIs, eSl, fSl, oNone, oSome, aNil, aCons, bVal, bAnd, bOr, bNot, bYes, blOf, gNot, iSeq, iRg1, iRg2, seq_l, seq_t, tup_l, tup_t, lst_l, lst_t, len_l, len_t, gIx_l, gIx_t, gNm, wipeR, List.getElem?_cons_zero, List.getElem?_cons_succ, List.set_cons_zero, List.set_cons_succ, Option.bind_some, Option.bind_none, Option.map_some, Option.map_none, if_true, if_false, decide_true, decide_false, Bool.not_true, Bool.not_false, Bool.false_eq_true, reduceIte, gAdd_i, gSub_i, gNeg_i, gLt_i, gLe_i, gGt_i, gGe_i, gEq_i, gNe_i, gMul_b, gMod_p, gFdiv_p, Nat.reduceAdd, Nat.reduceMul, Nat.reduceLeDiff, at0, at1, at2, at3, at4, at5, at6, at7, at8, at9, at10, at11, at12, at13, at14, at15, gSl_l, cut_pos, cut_from, cut_to, Int.reduceToNat, List.drop_succ_cons, List.drop_zero, List.take_succ_cons, List.take_zero, List.take_nil, Nat.reduceSub, Int.reduceAdd, Int.reduceSub, Int.reduceMul, Int.reduceMod, Int.reduceDiv, Int.reduceNeg, List.length_cons, List.length_nil, Nat.zero_add, fComp, compL, rg1_3, mInt, mAbs, mGcd, mMax2, mMin2, mMax3, mMin3, mIsqrt, isT, e]
structure BZ (o1 o2 : Int) (J : Nat) (g s t r u w : Int) : Prop where
  e1 : s * o1 + t * o2 = g
  e2 : u * o1 + w * o2 = r
  gc : Int.gcd g r = Int.gcd o1 o2
  sg : (0 ≤ g ∧ 0 ≤ r) ∨ (g ≤ 0 ∧ r ≤ 0)
  bs : s.natAbs ≤ J
  bt : t.natAbs ≤ J
  bu : u.natAbs ≤ J
  bw : w.natAbs ≤ J
  m1 : u.natAbs * g.natAbs + s.natAbs * r.natAbs ≤ J
  m2 : w.natAbs * g.natAbs + t.natAbs * r.natAbs ≤ J
  bg : g.natAbs < 2 ^ 500
  br : r.natAbs < 2 ^ 500
theorem bz_aux {S U K R M G U' J : Nat} (hg : G = K * R + M) (h : U * G + S * R ≤ J) (hu : U' ≤ S + K * U) : U' * R + U * M ≤ J := by
  have h1 : U' * R ≤ (S + K * U) * R := Nat.mul_le_mul_right _ hu
  have h2 : (S + K * U) * R + U * M = U * G + S * R := by rw [hg]; grind
  omega
theorem BZ.step {o1 o2 : Int} {J : Nat} {g s t r u w : Int} (b : BZ o1 o2 J g s t r u w) (hr : r ≠ 0) : BZ o1 o2 J r u w (g - g.fdiv r * r) (s - g.fdiv r * u) (t - g.fdiv r * w) := by
  obtain ⟨f1, f2, f3⟩ := fd_abs hr b.sg
  have hR : 1 ≤ r.natAbs := by omega
  have au : (s - g.fdiv r * u).natAbs ≤ s.natAbs + (g.fdiv r).natAbs * u.natAbs := by
    have := Int.natAbs_sub_le s (g.fdiv r * u)
    rw [Int.natAbs_mul] at this
    exact this
  have aw : (t - g.fdiv r * w).natAbs ≤ t.natAbs + (g.fdiv r).natAbs * w.natAbs := by
    have := Int.natAbs_sub_le t (g.fdiv r * w)
    rw [Int.natAbs_mul] at this
    exact this
  have n1 := bz_aux f1 b.m1 au
  have n2 := bz_aux f1 b.m2 aw
  refine ⟨b.e2, ?_, ?_, f3, b.bu, b.bw, ?_, ?_, n1, n2, b.br, by have := b.br; omega⟩
  · have h1 := b.e1
    have h2 := b.e2
    have : (s - g.fdiv r * u) * o1 + (t - g.fdiv r * w) * o2 = (s * o1 + t * o2) - g.fdiv r * (u * o1 + w * o2) := by grind
    rw [this, h1, h2]
  · rw [Int.gcd_sub_mul_right_right, Int.gcd_comm]
    exact b.gc
  · have := Nat.mul_le_mul_left (s - g.fdiv r * u).natAbs hR
    omega
  · have := Nat.mul_le_mul_left (t - g.fdiv r * w).natAbs hR
    omega
theorem bez_go {o1 o2 : Int} {J : Nat} (hJ : J < 2 ^ 500) {x1 x2 : SC} : ∀ (n : Nat) (g s t r u w : Int) (k : SC), BZ o1 o2 J g s t r u w → r.natAbs ≤ n → ∃ (f : Nat) (g' s' t' r' u' w' : Int) (k' : SC), BZ o1 o2 J g' s' t' 0 u' w' ∧
    whileF bezC bezB f [x1, x2, .va (.int g), .va (.int s), .va (.int t), .va (.int r), .va (.int u), .va (.int w), k] = some (.nx [x1, x2, .va (.int g'), .va (.int s'), .va (.int t'), .va (.int 0), .va (.int u'), .va (.int w'), k'])
  | n, g, s, t, r, u, w, k, b, hn => by
    by_cases hr : r = 0
    · subst hr
      exact ⟨1, g, s, t, 0, u, w, k, b, whileF_end (by simp only [bezC, runD, List.map_cons, List.map_nil, List.replicate_zero, List.replicate_succ, List.cons_append, List.nil_append, List.append_nil, sRet, sRetN, sNx, sSeq, sSet, sSetF, sOwn, sTo, gsCons, gsNil, sPar, sPar3, eChain, sExp, sApp, sPut, sIf, sFrz, frz, frz1, List.foldl_cons, List.foldl_nil, eBin, eUn, eVar, eC, eAnd, eOr, eIf, eLend, flat, eIxO, eOfF, eTup, eAll, fAll, eCall, eIs, eSl, fSl, oNone, oSome, aNil, aCons, bVal, bAnd, bOr, bNot, bYes, blOf, gNot, iSeq, iRg1, iRg2, seq_l, seq_t, tup_l, tup_t, lst_l, lst_t, len_l, len_t, gIx_l, gIx_t, gNm, wipeR, List.getElem?_cons_zero, List.getElem?_cons_succ, List.set_cons_zero, List.set_cons_succ, Option.bind_some, Option.bind_none, Option.map_some, Option.map_none, if_true, if_false, decide_true, decide_false, Bool.not_true, Bool.not_false, Bool.false_eq_true, reduceIte, gAdd_i, gSub_i, gNeg_i, gLt_i, gLe_i, gGt_i, gGe_i, gEq_i, gNe_i, gMul_b, gMod_p, gFdiv_p, Nat.reduceAdd, Nat.reduceMul, Nat.reduceLeDiff, at0, at1, at2, at3, at4, at5, at6, at7, at8, at9, at10, at11, at12, at13, at14, at15, gSl_l, cut_pos, cut_from, cut_to, Int.reduceToNat, List.drop_succ_cons, List.drop_zero, List.take_succ_cons, List.take_zero, List.take_nil, Nat.reduceSub, Int.reduceAdd, Int.reduceSub, Int.reduceMul, Int.reduceMod, Int.reduceDiv, Int.reduceNeg, List.length_cons, List.length_nil, Nat.zero_add, fComp, compL, rg1_3, mInt, mAbs, mGcd, mMax2, mMin2, mMax3, mMin3, mIsqrt, isT])⟩
    · have e := bez_body (o1 := x1) (o2 := x2) (k := k) (s := s) (t := t) hr ⟨b.bg⟩ ⟨b.br⟩ ⟨Nat.lt_of_le_of_lt b.bu hJ⟩ ⟨Nat.lt_of_le_of_lt b.bw hJ⟩
      have hlt := (fd_abs hr b.sg).2.1
      cases n with
      | zero => omega
      | succ n =>
        obtain ⟨f, g', s', t', r', u', w', k', b', e'⟩ := bez_go hJ n _ _ _ _ _ _ (.va (.int (g.fdiv r))) (b.step hr) (by omega)
        exact ⟨f + 1, g', s', t', r', u', w', k', b', by rw [whileF_nx (by simp only [bezC, runD, List.map_cons, List.map_nil, List.replicate_zero, List.replicate_succ, List.cons_append, List.nil_append, List.append_nil, sRet, sRetN, sNx, sSeq, sSet, sSetF, sOwn, sTo, gsCons, gsNil, sPar, sPar3, eChain, sExp, sApp, sPut, sIf, sFrz, frz, frz1, List.foldl_cons, List.foldl_nil, eBin, eUn, eVar, eC, eAnd, eOr, eIf, eLend, flat, eIxO, eOfF, eTup, eAll, fAll, eCall, eIs, eSl, fSl, oNone, oSome, aNil, aCons, bVal, bAnd, bOr, bNot, bYes, blOf, gNot, iSeq, iRg1, iRg2, seq_l, seq_t, tup_l, tup_t, lst_l, lst_t, len_l, len_t, gIx_l, gIx_t, gNm, wipeR, List.getElem?_cons_zero, List.getElem?_cons_succ, List.set_cons_zero, List.set_cons_succ, Option.bind_some, Option.bind_none, Option.map_some, Option.map_none, if_true, if_false, decide_true, decide_false, Bool.not_true, Bool.not_false, Bool.false_eq_true, reduceIte, gAdd_i, gSub_i, gNeg_i, gLt_i, gLe_i, gGt_i, gGe_i, gEq_i, gNe_i, gMul_b, gMod_p, gFdiv_p, Nat.reduceAdd, Nat.reduceMul, Nat.reduceLeDiff, at0, at1, at2, at3, at4, at5, at6, at7, at8, at9, at10, at11, at12, at13, at14, at15, gSl_l, cut_pos, cut_from, cut_to, Int.reduceToNat, List.drop_succ_cons, List.drop_zero, List.take_succ_cons, List.take_zero, List.take_nil, Nat.reduceSub, Int.reduceAdd, Int.reduceSub, Int.reduceMul, Int.reduceMod, Int.reduceDiv, Int.reduceNeg, List.length_cons, List.length_nil, Nat.zero_add, fComp, compL, rg1_3, mInt, mAbs, mGcd, mMax2, mMin2, mMax3, mMin3, mIsqrt, isT, hr]) e]; exact e'⟩
end W

set_option linter.all false
set_option maxRecDepth 100000
set_option maxHeartbeats 4000000
set_option exponentiation.threshold 10000
namespace W
open PySem DL L2
theorem fd_sgn {g r : Int} (h : r ≠ 0) : (g - g.fdiv r * r).natAbs < r.natAbs ∧ ((0 ≤ r ∧ 0 ≤ g - g.fdiv r * r) ∨ (r ≤ 0 ∧ g - g.fdiv r * r ≤ 0)) := by
  have e : g - g.fdiv r * r = g.fmod r := by
    rw [Int.fmod_def]
    grind
  rw [e]
  rcases Int.lt_or_lt_of_ne h with c | c
  · have n1 := Int.neg_fmod_neg g r
    have n2 := Int.fmod_nonneg_of_pos (-g) (show 0 < -r by omega)
    have n3 := Int.fmod_lt_of_pos (-g) (show 0 < -r by omega)
    rw [n1] at n2 n3
    exact ⟨by omega, .inr ⟨by omega, by omega⟩⟩
  · have n2 := Int.fmod_nonneg_of_pos g c
    have n3 := Int.fmod_lt_of_pos g c
    exact ⟨by omega, .inl ⟨by omega, by omega⟩⟩
theorem v_bezout {a b : Int} (ha : a.natAbs < 2 ^ 320) (hb : b.natAbs < 2 ^ 320) : ∃ s t : Int, s * a + t * b = (Int.gcd a b : Nat) ∧ s.natAbs < 2 ^ 330 ∧ t.natAbs < 2 ^ 330 ∧ m_bezout [.int a, .int b] = some (rw3 true ⟨(Int.gcd a b : Nat), s, t⟩) := by
  have hJ : a.natAbs + 2 * b.natAbs + 1 < 2 ^ 322 := by omega
  have hJ2 : a.natAbs + 2 * b.natAbs + 1 < 2 ^ 500 := Nat.lt_of_lt_of_le hJ (Nat.pow_le_pow_right (by decide) (by decide))
  have main : ∃ (f : Nat) (g s t u w : Int) (k : SC), g.natAbs = Int.gcd a b ∧ s * a + t * b = g ∧ s.natAbs ≤ a.natAbs + 2 * b.natAbs + 1 ∧ t.natAbs ≤ a.natAbs + 2 * b.natAbs + 1 ∧
      whileF bezC bezB f [.va (.int a), .va (.int b), .va (.int a), .va (.int 1), .va (.int 0), .va (.int b), .va (.int 0), .va (.int 1), .un] = some (.nx [.va (.int a), .va (.int b), .va (.int g), .va (.int s), .va (.int t), .va (.int 0), .va (.int u), .va (.int w), k]) := by
    by_cases hb0 : b = 0
    · subst hb0
      exact ⟨1, a, 1, 0, 0, 1, .un, by rw [Int.gcd_zero_right], by omega, by omega, by omega, whileF_end (by simp only [bezC, runD, List.map_cons, List.map_nil, List.replicate_zero, List.replicate_succ, List.cons_append, List.nil_append, List.append_nil, sRet, sRetN, sNx, sSeq, sSet, sSetF, sOwn, sTo, gsCons, gsNil, sPar, sPar3, eChain, sExp, sApp, sPut, sIf, sFrz, frz, frz1, List.foldl_cons, List.foldl_nil, eBin, eUn, eVar, eC, eAnd, eOr, eIf, eLend, flat, eIxO, eOfF, eTup, eAll, fAll, eCall, eIs, eSl, fSl, oNone, oSome, aNil, aCons, bVal, bAnd, bOr, bNot, bYes, blOf, gNot, iSeq, iRg1, iRg2, seq_l, seq_t, tup_l, tup_t, lst_l, lst_t, len_l, len_t, gIx_l, gIx_t, gNm, wipeR, List.getElem?_cons_zero, List.getElem?_cons_succ, List.set_cons_zero, List.set_cons_succ, Option.bind_some, Option.bind_none, Option.map_some, Option.map_none, if_true, if_false, decide_true, decide_false, Bool.not_true, Bool.not_false, Bool.false_eq_true, reduceIte, gAdd_i, gSub_i, gNeg_i, gLt_i, gLe_i, gGt_i, gGe_i, gEq_i, gNe_i, gMul_b, gMod_p, gFdiv_p, Nat.reduceAdd, Nat.reduceMul, Nat.reduceLeDiff, at0, at1, at2, at3, at4, at5, at6, at7, at8, at9, at10, at11, at12, at13, at14, at15, gSl_l, cut_pos, cut_from, cut_to, Int.reduceToNat, List.drop_succ_cons, List.drop_zero, List.take_succ_cons, List.take_zero, List.take_nil, Nat.reduceSub, Int.reduceAdd, Int.reduceSub, Int.reduceMul, Int.reduceMod, Int.reduceDiv, Int.reduceNeg, List.length_cons, List.length_nil, Nat.zero_add, fComp, compL, rg1_3, mInt, mAbs, mGcd, mMax2, mMin2, mMax3, mMin3, mIsqrt, isT])⟩
    · have up : ∀ x : Int, x.natAbs < 2 ^ 320 → x.natAbs < 2 ^ 500 := fun x h => Bd.mono h (by decide)
      have e := bez_body (o1 := .va (.int a)) (o2 := .va (.int b)) (k := .un) (g := a) (s := 1) (t := 0) (u := 0) (w := 1) hb0 ⟨up a ha⟩ ⟨up b hb⟩ ⟨up 0 (by decide)⟩ ⟨up 1 (by decide)⟩
      obtain ⟨f1, f2⟩ := fd_sgn (g := a) hb0
      have hk : (a.fdiv b).natAbs * b.natAbs ≤ a.natAbs + (a - a.fdiv b * b).natAbs := by
        rw [← Int.natAbs_mul]
        omega
      have hk1 : (a.fdiv b).natAbs ≤ (a.fdiv b).natAbs * b.natAbs := Nat.le_mul_of_pos_right _ (by omega)
      have B : BZ a b (a.natAbs + 2 * b.natAbs + 1) b 0 1 (a - a.fdiv b * b) (1 - a.fdiv b * 0) (0 - a.fdiv b * 1) := by
        rw [Int.mul_zero, Int.mul_one, Int.sub_zero, Int.zero_sub]
        refine ⟨by omega, by grind, ?_, f2, by omega, by omega, by omega, by omega, ?_, ?_, up b hb, by have := up b hb; omega⟩
        · rw [Int.gcd_sub_mul_right_right, Int.gcd_comm]
        · simp only [Int.natAbs_zero, Nat.zero_mul, Nat.add_zero]
          have : (1 : Int).natAbs = 1 := rfl
          rw [this]
          omega
        · rw [Int.natAbs_neg]
          have : (1 : Int).natAbs = 1 := rfl
          rw [this]
          omega
      obtain ⟨f, g', s', t', r', u', w', k', b', e'⟩ := bez_go (x1 := .va (.int a)) (x2 := .va (.int b)) hJ2 _ _ _ _ _ _ _ (.va (.int (a.fdiv b))) B (Nat.le_refl _)
      refine ⟨f + 1, g', s', t', u', w', k', ?_, b'.e1, b'.bs, b'.bt, by rw [whileF_nx (by simp only [bezC, runD, List.map_cons, List.map_nil, List.replicate_zero, List.replicate_succ, List.cons_append, List.nil_append, List.append_nil, sRet, sRetN, sNx, sSeq, sSet, sSetF, sOwn, sTo, gsCons, gsNil, sPar, sPar3, eChain, sExp, sApp, sPut, sIf, sFrz, frz, frz1, List.foldl_cons, List.foldl_nil, eBin, eUn, eVar, eC, eAnd, eOr, eIf, eLend, flat, eIxO, eOfF, eTup, eAll, fAll, eCall, eIs, eSl, fSl, oNone, oSome, aNil, aCons, bVal, bAnd, bOr, bNot, bYes, blOf, gNot, iSeq, iRg1, iRg2, seq_l, seq_t, tup_l, tup_t, lst_l, lst_t, len_l, len_t, gIx_l, gIx_t, gNm, wipeR, List.getElem?_cons_zero, List.getElem?_cons_succ, List.set_cons_zero, List.set_cons_succ, Option.bind_some, Option.bind_none, Option.map_some, Option.map_none, if_true, if_false, decide_true, decide_false, Bool.not_true, Bool.not_false, Bool.false_eq_true, reduceIte, gAdd_i, gSub_i, gNeg_i, gLt_i, gLe_i, gGt_i, gGe_i, gEq_i, gNe_i, gMul_b, gMod_p, gFdiv_p, Nat.reduceAdd, Nat.reduceMul, Nat.reduceLeDiff, at0, at1, at2, at3, at4, at5, at6, at7, at8, at9, at10, at11, at12, at13, at14, at15, gSl_l, cut_pos, cut_from, cut_to, Int.reduceToNat, List.drop_succ_cons, List.drop_zero, List.take_succ_cons, List.take_zero, List.take_nil, Nat.reduceSub, Int.reduceAdd, Int.reduceSub, Int.reduceMul, Int.reduceMod, Int.reduceDiv, Int.reduceNeg, List.length_cons, List.length_nil, Nat.zero_add, fComp, compL, rg1_3, mInt, mAbs, mGcd, mMax2, mMin2, mMax3, mMin3, mIsqrt, isT, hb0]) e]; exact e'⟩
      have := b'.gc
      rw [Int.gcd_zero_right] at this
      exact this
  obtain ⟨f, g, s, t, u, w, k, h1, h2, h3, h4, h5⟩ := main
  have h6 := sWhile_of h5
  have hs : s.natAbs < 2 ^ 330 := Nat.lt_of_le_of_lt h3 (Nat.lt_of_lt_of_le hJ (Nat.pow_le_pow_right (by decide) (by decide)))
  have ht : t.natAbs < 2 ^ 330 := Nat.lt_of_le_of_lt h4 (Nat.lt_of_lt_of_le hJ (Nat.pow_le_pow_right (by decide) (by decide)))
  by_cases hg : g < 0
  · refine ⟨-s, -t, ?_, by rw [Int.natAbs_neg]; exact hs, by rw [Int.natAbs_neg]; exact ht, ?_⟩
    · have : -s * a + -t * b = -(s * a + t * b) := by grind
      rw [this, h2]
      omega
    · have e : ((Int.gcd a b : Nat) : Int) = -g := by omega
      simp only [m_bezout, b_bezout, runD, List.map_cons, List.map_nil, List.replicate_zero, List.replicate_succ, List.cons_append, List.nil_append, List.append_nil, sRet, sRetN, sNx, sSeq, sSet, sSetF, sOwn, sTo, gsCons, gsNil, sPar, sPar3, eChain, sExp, sApp, sPut, sIf, sFrz, frz, frz1, List.foldl_cons, List.foldl_nil, eBin, eUn, eVar, eC, eAnd, eOr, eIf, eLend, flat, eIxO, eOfF, eTup, eAll, fAll, eCall, eIs, eSl, fSl, oNone, oSome, aNil, aCons, bVal, bAnd, bOr, bNot, bYes, blOf, gNot, iSeq, iRg1, iRg2, seq_l, seq_t, tup_l, tup_t, lst_l, lst_t, len_l, len_t, gIx_l, gIx_t, gNm, wipeR, List.getElem?_cons_zero, List.getElem?_cons_succ, List.set_cons_zero, List.set_cons_succ, Option.bind_some, Option.bind_none, Option.map_some, Option.map_none, if_true, if_false, decide_true, decide_false, Bool.not_true, Bool.not_false, Bool.false_eq_true, reduceIte, gAdd_i, gSub_i, gNeg_i, gLt_i, gLe_i, gGt_i, gGe_i, gEq_i, gNe_i, gMul_b, gMod_p, gFdiv_p, Nat.reduceAdd, Nat.reduceMul, Nat.reduceLeDiff, at0, at1, at2, at3, at4, at5, at6, at7, at8, at9, at10, at11, at12, at13, at14, at15, gSl_l, cut_pos, cut_from, cut_to, Int.reduceToNat, List.drop_succ_cons, List.drop_zero, List.take_succ_cons, List.take_zero, List.take_nil, Nat.reduceSub, Int.reduceAdd, Int.reduceSub, Int.reduceMul, Int.reduceMod, Int.reduceDiv, Int.reduceNeg, List.length_cons, List.length_nil, Nat.zero_add, fComp, compL, rg1_3, mInt, mAbs, mGcd, mMax2, mMin2, mMax3, mMin3, mIsqrt, isT]
      simp only [bezC, bezB] at h6
      rw [h6]
      simp only [runD, List.map_cons, List.map_nil, List.replicate_zero, List.replicate_succ, List.cons_append, List.nil_append, List.append_nil, sRet, sRetN, sNx, sSeq, sSet, sSetF, sOwn, sTo, gsCons, gsNil, sPar, sPar3, eChain, sExp, sApp, sPut, sIf, sFrz, frz, frz1, List.foldl_cons, List.foldl_nil, eBin, eUn, eVar, eC, eAnd, eOr, eIf, eLend, flat, eIxO, eOfF, eTup, eAll, fAll, eCall, eIs, eSl, fSl, oNone, oSome, aNil, aCons, bVal, bAnd, bOr, bNot, bYes, blOf, gNot, iSeq, iRg1, iRg2, seq_l, seq_t, tup_l, tup_t, lst_l, lst_t, len_l, len_t, gIx_l, gIx_t, gNm, wipeR, List.getElem?_cons_zero, List.getElem?_cons_succ, List.set_cons_zero, List.set_cons_succ, Option.bind_some, Option.bind_none, Option.map_some, Option.map_none, if_true, if_false, decide_true, decide_false, Bool.not_true, Bool.not_false, Bool.false_eq_true, reduceIte, gAdd_i, gSub_i, gNeg_i, gLt_i, gLe_i, gGt_i, gGe_i, gEq_i, gNe_i, gMul_b, gMod_p, gFdiv_p, Nat.reduceAdd, Nat.reduceMul, Nat.reduceLeDiff, at0, at1, at2, at3, at4, at5, at6, at7, at8, at9, at10, at11, at12, at13, at14, at15, gSl_l, cut_pos, cut_from, cut_to, Int.reduceToNat, List.drop_succ_cons, List.drop_zero, List.take_succ_cons, List.take_zero, List.take_nil, Nat.reduceSub, Int.reduceAdd, Int.reduceSub, Int.reduceMul, Int.reduceMod, Int.reduceDiv, Int.reduceNeg, List.length_cons, List.length_nil, Nat.zero_add, fComp, compL, rg1_3, mInt, mAbs, mGcd, mMax2, mMin2, mMax3, mMin3, mIsqrt, isT, hg, row_t, e]
  · refine ⟨s, t, ?_, hs, ht, ?_⟩
    · rw [h2]
      omega
    · have e : ((Int.gcd a b : Nat) : Int) = g := by omega
      simp only [m_bezout, b_bezout, runD, List.map_cons, List.map_nil, List.replicate_zero, List.replicate_succ, List.cons_append, List.nil_append, List.append_nil, sRet, sRetN, sNx, sSeq, sSet, sSetF, sOwn, sTo, gsCons, gsNil, sPar, sPar3, eChain, sExp, sApp, sPut, sIf, sFrz, frz, frz1, List.foldl_cons, List.foldl_nil, eBin, eUn, eVar, eC, eAnd, eOr, eIf, eLend, flat, eIxO, eOfF, eTup, eAll, fAll, eCall, eIs, eSl, fSl, oNone, oSome, aNil, aCons, bVal, bAnd, bOr, bNot, bYes, blOf, gNot, iSeq, iRg1, iRg2, seq_l, seq_t, tup_l, tup_t, lst_l, lst_t, len_l, len_t, gIx_l, gIx_t, gNm, wipeR, List.getElem?_cons_zero, List.getElem?_cons_succ, List.set_cons_zero, List.set_cons_succ, Option.bind_some, Option.bind_none, Option.map_some, Option.map_none, if_true, if_false, decide_true, decide_false, Bool.not_true, Bool.not_false, Bool.false_eq_true, reduceIte, gAdd_i, gSub_i, gNeg_i, gLt_i, gLe_i, gGt_i, gGe_i, gEq_i, gNe_i, gMul_b, gMod_p, gFdiv_p, Nat.reduceAdd, Nat.reduceMul, Nat.reduceLeDiff, at0, at1, at2, at3, at4, at5, at6, at7, at8, at9, at10, at11, at12, at13, at14, at15, gSl_l, cut_pos, cut_from, cut_to, Int.reduceToNat, List.drop_succ_cons, List.drop_zero, List.take_succ_cons, List.take_zero, List.take_nil, Nat.reduceSub, Int.reduceAdd, Int.reduceSub, Int.reduceMul, Int.reduceMod, Int.reduceDiv, Int.reduceNeg, List.length_cons, List.length_nil, Nat.zero_add, fComp, compL, rg1_3, mInt, mAbs, mGcd, mMax2, mMin2, mMax3, mMin3, mIsqrt, isT]
      simp only [bezC, bezB] at h6
      rw [h6]
      simp only [runD, List.map_cons, List.map_nil, List.replicate_zero, List.replicate_succ, List.cons_append, List.nil_append, List.append_nil, sRet, sRetN, sNx, sSeq, sSet, sSetF, sOwn, sTo, gsCons, gsNil, sPar, sPar3, eChain, sExp, sApp, sPut, sIf, sFrz, frz, frz1, List.foldl_cons, List.foldl_nil, eBin, eUn, eVar, eC, eAnd, eOr, eIf, eLend, flat, eIxO, eOfF, eTup, eAll, fAll, eCall, eIs, eSl, fSl, oNone, oSome, aNil, aCons, bVal, bAnd, bOr, bNot, bYes, blOf, gNot, iSeq, iRg1, iRg2, seq_l, seq_t, tup_l, tup_t, lst_l, lst_t, len_l, len_t, gIx_l, gIx_t, gNm, wipeR, List.getElem?_cons_zero, List.getElem?_cons_succ, List.set_cons_zero, List.set_cons_succ, Option.bind_some, Option.bind_none, Option.map_some, Option.map_none, if_true, if_false, decide_true, decide_false, Bool.not_true, Bool.not_false, Bool.false_eq_true, reduceIte, gAdd_i, gSub_i, gNeg_i, gLt_i, gLe_i, gGt_i, gGe_i, gEq_i, gNe_i, gMul_b, gMod_p, gFdiv_p, Nat.reduceAdd, Nat.reduceMul, Nat.reduceLeDiff, at0, at1, at2, at3, at4, at5, at6, at7, at8, at9, at10, at11, at12, at13, at14, at15, gSl_l, cut_pos, cut_from, cut_to, Int.reduceToNat, List.drop_succ_cons, List.drop_zero, List.take_succ_cons, List.take_zero, List.take_nil, Nat.reduceSub, Int.reduceAdd, Int.reduceSub, Int.reduceMul, Int.reduceMod, Int.reduceDiv, Int.reduceNeg, List.length_cons, List.length_nil, Nat.zero_add, fComp, compL, rg1_3, mInt, mAbs, mGcd, mMax2, mMin2, mMax3, mMin3, mIsqrt, isT, hg, row_t, e]
theorem w_bezout {a b : Int} (ha : a.natAbs < 2 ^ 320) (hb : b.natAbs < 2 ^ 320) : m__law_bezout_right [.int a, .int b] = some (.bool true) := by
  obtain ⟨s, t, h1, h2, h3, h4⟩ := v_bezout ha hb
  have hg := w_gcd (a := a) (b := b) (n := 320) hb (by decide)
  have hg' : m__law_gcd [.int a, .int b] = some (.int (Int.gcd a b : Nat)) := hg
  haveI : Bd 320 a := ⟨ha⟩
  haveI : Bd 320 b := ⟨hb⟩
  haveI : Bd 330 s := ⟨h2⟩
  haveI : Bd 330 t := ⟨h3⟩
  generalize ((Int.gcd a b : Nat) : Int) = g at h1 h4 hg'
  simp (config := {decide := true}) only [m__law_bezout_right, b__law_bezout_right, runD, List.map_cons, List.map_nil, List.replicate_zero, List.replicate_succ, List.cons_append, List.nil_append, List.append_nil, sRet, sRetN, sNx, sSeq, sSet, sSetF, sOwn, sTo, gsCons, gsNil, sPar, sPar3, eChain, sExp, sApp, sPut, sIf, sFrz, frz, frz1, List.foldl_cons, List.foldl_nil, eBin, eUn, eVar, eC, eAnd, eOr, eIf, eLend, flat, eIxO, eOfF, eTup, eAll, fAll, eCall, eIs, eSl, fSl, oNone, oSome, aNil, aCons, bVal, bAnd, bOr, bNot, bYes, blOf, gNot, iSeq, iRg1, iRg2, seq_l, seq_t, tup_l, tup_t, lst_l, lst_t, len_l, len_t, gIx_l, gIx_t, gNm, wipeR, List.getElem?_cons_zero, List.getElem?_cons_succ, List.set_cons_zero, List.set_cons_succ, Option.bind_some, Option.bind_none, Option.map_some, Option.map_none, if_true, if_false, decide_true, decide_false, Bool.not_true, Bool.not_false, Bool.false_eq_true, reduceIte, gAdd_i, gSub_i, gNeg_i, gLt_i, gLe_i, gGt_i, gGe_i, gEq_i, gNe_i, gMul_b, gMod_p, gFdiv_p, Nat.reduceAdd, Nat.reduceMul, Nat.reduceLeDiff, at0, at1, at2, at3, at4, at5, at6, at7, at8, at9, at10, at11, at12, at13, at14, at15, gSl_l, cut_pos, cut_from, cut_to, Int.reduceToNat, List.drop_succ_cons, List.drop_zero, List.take_succ_cons, List.take_zero, List.take_nil, Nat.reduceSub, Int.reduceAdd, Int.reduceSub, Int.reduceMul, Int.reduceMod, Int.reduceDiv, Int.reduceNeg, List.length_cons, List.length_nil, Nat.zero_add, fComp, compL, rg1_3, mInt, mAbs, mGcd, mMax2, mMin2, mMax3, mMin3, mIsqrt, isT, h4, w_is_row, ix_r0, ix_r1, ix_r2, hg', h1, eq_r]
/-! ### how often -/
noncomputable abbrev valC (p r : Nat) : EB := bVal (eBin gEq (eBin gMod (eVar r) (eVar p)) (eC (.int 0)))
theorem v_val {p : Nat} (hp : 2 ≤ p) (hp2 : p < 2 ^ 64) {m : Int} (hm : ¬ (p : Int) ∣ m) {x0 : SC} : ∀ (e : Nat) (c : Int), whileF (bVal (eBin gEq (eBin gMod (eVar 3) (eVar 1)) (eC (.int 0)))) (sSeq (sSet 3 (eBin gFdiv (eVar 3) (eVar 1))) (sSet 2 (eBin gAdd (eVar 2) (eC (.int 1))))) (e + 1) [x0, .va (.int p), .va (.int c), .va (.int ((p : Int) ^ e * m))] = some (.nx [x0, .va (.int p), .va (.int (c + e)), .va (.int m)])
  | 0, c => by
    have h : ¬ m % (p : Int) = 0 := fun z => hm (Int.dvd_of_emod_eq_zero z)
    rw [whileF_end]
    · simp
    · simp only [runD, List.map_cons, List.map_nil, List.replicate_zero, List.replicate_succ, List.cons_append, List.nil_append, List.append_nil, sRet, sRetN, sNx, sSeq, sSet, sSetF, sOwn, sTo, gsCons, gsNil, sPar, sPar3, eChain, sExp, sApp, sPut, sIf, sFrz, frz, frz1, List.foldl_cons, List.foldl_nil, eBin, eUn, eVar, eC, eAnd, eOr, eIf, eLend, flat, eIxO, eOfF, eTup, eAll, fAll, eCall, eIs, eSl, fSl, oNone, oSome, aNil, aCons, bVal, bAnd, bOr, bNot, bYes, blOf, gNot, iSeq, iRg1, iRg2, seq_l, seq_t, tup_l, tup_t, lst_l, lst_t, len_l, len_t, gIx_l, gIx_t, gNm, wipeR, List.getElem?_cons_zero, List.getElem?_cons_succ, List.set_cons_zero, List.set_cons_succ, Option.bind_some, Option.bind_none, Option.map_some, Option.map_none, if_true, if_false, decide_true, decide_false, Bool.not_true, Bool.not_false, Bool.false_eq_true, reduceIte, gAdd_i, gSub_i, gNeg_i, gLt_i, gLe_i, gGt_i, gGe_i, gEq_i, gNe_i, gMul_b, gMod_p, gFdiv_p, Nat.reduceAdd, Nat.reduceMul, Nat.reduceLeDiff, at0, at1, at2, at3, at4, at5, at6, at7, at8, at9, at10, at11, at12, at13, at14, at15, gSl_l, cut_pos, cut_from, cut_to, Int.reduceToNat, List.drop_succ_cons, List.drop_zero, List.take_succ_cons, List.take_zero, List.take_nil, Nat.reduceSub, Int.reduceAdd, Int.reduceSub, Int.reduceMul, Int.reduceMod, Int.reduceDiv, Int.reduceNeg, List.length_cons, List.length_nil, Nat.zero_add, fComp, compL, rg1_3, mInt, mAbs, mGcd, mMax2, mMin2, mMax3, mMin3, mIsqrt, isT, gMod_p (show (0 : Int) < p by omega), Int.pow_zero, Int.one_mul, h]
  | e + 1, c => by
    have e1 : (p : Int) ^ (e + 1) * m = p * ((p : Int) ^ e * m) := by rw [Int.pow_succ]; grind
    have h : (p : Int) * ((p : Int) ^ e * m) % p = 0 := Int.mul_emod_right _ _
    have h2 : (p : Int) * ((p : Int) ^ e * m) / p = (p : Int) ^ e * m := Int.mul_ediv_cancel_left _ (by omega)
    have l2 : (p : Int).natAbs.log2 < 9000 := log_small (by omega) (by omega)
    rw [e1, whileF_nx (ρ' := [x0, .va (.int p), .va (.int (c + 1)), .va (.int ((p : Int) ^ e * m))])]
    · rw [v_val hp hp2 hm e (c + 1)]
      have : c + 1 + (e : Int) = c + ((e + 1 : Nat) : Int) := by push_cast; omega
      rw [this]
    · simp only [runD, List.map_cons, List.map_nil, List.replicate_zero, List.replicate_succ, List.cons_append, List.nil_append, List.append_nil, sRet, sRetN, sNx, sSeq, sSet, sSetF, sOwn, sTo, gsCons, gsNil, sPar, sPar3, eChain, sExp, sApp, sPut, sIf, sFrz, frz, frz1, List.foldl_cons, List.foldl_nil, eBin, eUn, eVar, eC, eAnd, eOr, eIf, eLend, flat, eIxO, eOfF, eTup, eAll, fAll, eCall, eIs, eSl, fSl, oNone, oSome, aNil, aCons, bVal, bAnd, bOr, bNot, bYes, blOf, gNot, iSeq, iRg1, iRg2, seq_l, seq_t, tup_l, tup_t, lst_l, lst_t, len_l, len_t, gIx_l, gIx_t, gNm, wipeR, List.getElem?_cons_zero, List.getElem?_cons_succ, List.set_cons_zero, List.set_cons_succ, Option.bind_some, Option.bind_none, Option.map_some, Option.map_none, if_true, if_false, decide_true, decide_false, Bool.not_true, Bool.not_false, Bool.false_eq_true, reduceIte, gAdd_i, gSub_i, gNeg_i, gLt_i, gLe_i, gGt_i, gGe_i, gEq_i, gNe_i, gMul_b, gMod_p, gFdiv_p, Nat.reduceAdd, Nat.reduceMul, Nat.reduceLeDiff, at0, at1, at2, at3, at4, at5, at6, at7, at8, at9, at10, at11, at12, at13, at14, at15, gSl_l, cut_pos, cut_from, cut_to, Int.reduceToNat, List.drop_succ_cons, List.drop_zero, List.take_succ_cons, List.take_zero, List.take_nil, Nat.reduceSub, Int.reduceAdd, Int.reduceSub, Int.reduceMul, Int.reduceMod, Int.reduceDiv, Int.reduceNeg, List.length_cons, List.length_nil, Nat.zero_add, fComp, compL, rg1_3, mInt, mAbs, mGcd, mMax2, mMin2, mMax3, mMin3, mIsqrt, isT, gMod_p (show (0 : Int) < p by omega), h]
    · simp only [runD, List.map_cons, List.map_nil, List.replicate_zero, List.replicate_succ, List.cons_append, List.nil_append, List.append_nil, sRet, sRetN, sNx, sSeq, sSet, sSetF, sOwn, sTo, gsCons, gsNil, sPar, sPar3, eChain, sExp, sApp, sPut, sIf, sFrz, frz, frz1, List.foldl_cons, List.foldl_nil, eBin, eUn, eVar, eC, eAnd, eOr, eIf, eLend, flat, eIxO, eOfF, eTup, eAll, fAll, eCall, eIs, eSl, fSl, oNone, oSome, aNil, aCons, bVal, bAnd, bOr, bNot, bYes, blOf, gNot, iSeq, iRg1, iRg2, seq_l, seq_t, tup_l, tup_t, lst_l, lst_t, len_l, len_t, gIx_l, gIx_t, gNm, wipeR, List.getElem?_cons_zero, List.getElem?_cons_succ, List.set_cons_zero, List.set_cons_succ, Option.bind_some, Option.bind_none, Option.map_some, Option.map_none, if_true, if_false, decide_true, decide_false, Bool.not_true, Bool.not_false, Bool.false_eq_true, reduceIte, gAdd_i, gSub_i, gNeg_i, gLt_i, gLe_i, gGt_i, gGe_i, gEq_i, gNe_i, gMul_b, gMod_p, gFdiv_p, Nat.reduceAdd, Nat.reduceMul, Nat.reduceLeDiff, at0, at1, at2, at3, at4, at5, at6, at7, at8, at9, at10, at11, at12, at13, at14, at15, gSl_l, cut_pos, cut_from, cut_to, Int.reduceToNat, List.drop_succ_cons, List.drop_zero, List.take_succ_cons, List.take_zero, List.take_nil, Nat.reduceSub, Int.reduceAdd, Int.reduceSub, Int.reduceMul, Int.reduceMod, Int.reduceDiv, Int.reduceNeg, List.length_cons, List.length_nil, Nat.zero_add, fComp, compL, rg1_3, mInt, mAbs, mGcd, mMax2, mMin2, mMax3, mMin3, mIsqrt, isT, gFdiv_p (show (0 : Int) < p by omega) l2, h2]
theorem v_valuation {p : Nat} (hp : 2 ≤ p) (hp2 : p < 2 ^ 64) {m : Int} (hm : ¬ (p : Int) ∣ m) (e : Nat) : m_valuation [.int ((p : Int) ^ e * m), .int p] = some (.int e) := by
  have h := sWhile_of (v_val hp hp2 hm (x0 := .va (.int ((p : Int) ^ e * m))) e 0)
  simp only [m_valuation, b_valuation, runD, List.map_cons, List.map_nil, List.replicate_zero, List.replicate_succ, List.cons_append, List.nil_append, List.append_nil, sRet, sRetN, sNx, sSeq, sSet, sSetF, sOwn, sTo, gsCons, gsNil, sPar, sPar3, eChain, sExp, sApp, sPut, sIf, sFrz, frz, frz1, List.foldl_cons, List.foldl_nil, eBin, eUn, eVar, eC, eAnd, eOr, eIf, eLend, flat, eIxO, eOfF, eTup, eAll, fAll, eCall, eIs, eSl, fSl, oNone, oSome, aNil, aCons, bVal, bAnd, bOr, bNot, bYes, blOf, gNot, iSeq, iRg1, iRg2, seq_l, seq_t, tup_l, tup_t, lst_l, lst_t, len_l, len_t, gIx_l, gIx_t, gNm, wipeR, List.getElem?_cons_zero, List.getElem?_cons_succ, List.set_cons_zero, List.set_cons_succ, Option.bind_some, Option.bind_none, Option.map_some, Option.map_none, if_true, if_false, decide_true, decide_false, Bool.not_true, Bool.not_false, Bool.false_eq_true, reduceIte, gAdd_i, gSub_i, gNeg_i, gLt_i, gLe_i, gGt_i, gGe_i, gEq_i, gNe_i, gMul_b, gMod_p, gFdiv_p, Nat.reduceAdd, Nat.reduceMul, Nat.reduceLeDiff, at0, at1, at2, at3, at4, at5, at6, at7, at8, at9, at10, at11, at12, at13, at14, at15, gSl_l, cut_pos, cut_from, cut_to, Int.reduceToNat, List.drop_succ_cons, List.drop_zero, List.take_succ_cons, List.take_zero, List.take_nil, Nat.reduceSub, Int.reduceAdd, Int.reduceSub, Int.reduceMul, Int.reduceMod, Int.reduceDiv, Int.reduceNeg, List.length_cons, List.length_nil, Nat.zero_add, fComp, compL, rg1_3, mInt, mAbs, mGcd, mMax2, mMin2, mMax3, mMin3, mIsqrt, isT]
  rw [h]
  simp only [runD, List.map_cons, List.map_nil, List.replicate_zero, List.replicate_succ, List.cons_append, List.nil_append, List.append_nil, sRet, sRetN, sNx, sSeq, sSet, sSetF, sOwn, sTo, gsCons, gsNil, sPar, sPar3, eChain, sExp, sApp, sPut, sIf, sFrz, frz, frz1, List.foldl_cons, List.foldl_nil, eBin, eUn, eVar, eC, eAnd, eOr, eIf, eLend, flat, eIxO, eOfF, eTup, eAll, fAll, eCall, eIs, eSl, fSl, oNone, oSome, aNil, aCons, bVal, bAnd, bOr, bNot, bYes, blOf, gNot, iSeq, iRg1, iRg2, seq_l, seq_t, tup_l, tup_t, lst_l, lst_t, len_l, len_t, gIx_l, gIx_t, gNm, wipeR, List.getElem?_cons_zero, List.getElem?_cons_succ, List.set_cons_zero, List.set_cons_succ, Option.bind_some, Option.bind_none, Option.map_some, Option.map_none, if_true, if_false, decide_true, decide_false, Bool.not_true, Bool.not_false, Bool.false_eq_true, reduceIte, gAdd_i, gSub_i, gNeg_i, gLt_i, gLe_i, gGt_i, gGe_i, gEq_i, gNe_i, gMul_b, gMod_p, gFdiv_p, Nat.reduceAdd, Nat.reduceMul, Nat.reduceLeDiff, at0, at1, at2, at3, at4, at5, at6, at7, at8, at9, at10, at11, at12, at13, at14, at15, gSl_l, cut_pos, cut_from, cut_to, Int.reduceToNat, List.drop_succ_cons, List.drop_zero, List.take_succ_cons, List.take_zero, List.take_nil, Nat.reduceSub, Int.reduceAdd, Int.reduceSub, Int.reduceMul, Int.reduceMod, Int.reduceDiv, Int.reduceNeg, List.length_cons, List.length_nil, Nat.zero_add, fComp, compL, rg1_3, mInt, mAbs, mGcd, mMax2, mMin2, mMax3, mMin3, mIsqrt, isT, Int.zero_add]
end W

set_option linter.all false
set_option maxRecDepth 100000
set_option maxHeartbeats 4000000
set_option exponentiation.threshold 10000
namespace DL
open PySem
def fdata (l : List (Nat × Nat)) : List PyData := l.map fun q => r2 true ⟨q.1, q.2⟩
theorem fdata_app (l m : List (Nat × Nat)) : fdata (l ++ m) = fdata l ++ fdata m := List.map_append
theorem len_PP : ∀ {l : List (Nat × Nat)}, (∀ q ∈ l, NoDiv q.1 ∧ 1 ≤ q.2) → 2 ^ l.length ≤ PP l
  | [], _ => Nat.le_refl _
  | (p, e) :: l, hl => by
    obtain ⟨⟨h1, _⟩, h3⟩ := hl (p, e) List.mem_cons_self
    have h2 := len_PP (l := l) fun x hx => hl x (List.mem_cons_of_mem _ hx)
    obtain ⟨k, rfl⟩ : ∃ k, e = k + 1 := ⟨e - 1, by have h3' : 1 ≤ e := h3; omega⟩
    have h4 : 2 ≤ p ^ (k + 1) := by
      have h1' : 2 ≤ p := h1
      have : 0 < p ^ k := Nat.pow_pos (by omega)
      rw [Nat.pow_succ]
      have := Nat.le_mul_of_pos_left p this
      omega
    show 2 ^ (l.length + 1) ≤ p ^ (k + 1) * PP l
    rw [Nat.pow_succ, Nat.mul_comm]
    exact Nat.mul_le_mul h4 h2
theorem Fac.len {N r p : Nat} {l : List (Nat × Nat)} (h : Fac N l r p) (hN : N ≤ 1000000000) : l.length < 30 := by
  have h1 := len_PP (l := l) fun q hq => ⟨(h.ent q hq).p, (h.ent q hq).e⟩
  have h2 : PP l ≤ N := by
    rw [h.n]
    exact Nat.le_mul_of_pos_right _ h.r0
  rcases Nat.lt_or_ge l.length 30 with c | c
  · exact c
  · have : 2 ^ 30 ≤ 2 ^ l.length := Nat.pow_le_pow_right (by decide) c
    omega
end DL
namespace W
open PySem DL L2
noncomputable abbrev ppIC : EB := (bVal (eBin gEq (eBin gMod (eVar 2) (eVar 3)) (eC (.int 0))))
noncomputable abbrev ppIB : ES := (sSeq (sSet 2 (eBin gFdiv (eVar 2) (eVar 3))) (sSet 4 (eBin gAdd (eVar 4) (eC (.int 1)))))
noncomputable abbrev ppC : EB := (bVal (eBin gLe (eBin gMul (eVar 3) (eVar 3)) (eVar 2)))
noncomputable abbrev ppB : ES := (sSeq (sSet 4 (eC (.int 0))) (sSeq (sWhile ppIC ppIB) (sSeq (sIf (bVal (eBin gGt (eVar 4) (eC (.int 0)))) (sApp 1 (eTup (aCons (eVar 3) (aCons (eVar 4) aNil)))) sNx) (sSet 3 (eBin gAdd (eVar 3) (eC (.int 1)))))))
theorem pp_in {p : Nat} (hp : 2 ≤ p) (hp2 : p < 2 ^ 64) {m : Nat} (hm : ¬ p ∣ m) {x0 x1 : SC} : ∀ (e : Nat) (c : Int), whileF ppIC ppIB (e + 1) [x0, x1, .va (.int ((p ^ e * m : Nat) : Int)), .va (.int p), .va (.int c)] = some (.nx [x0, x1, .va (.int m), .va (.int p), .va (.int (c + e))])
  | 0, c => by
    have h : ¬ (m : Int) % (p : Int) = 0 := fun z => hm (Int.natCast_dvd_natCast.mp (Int.dvd_of_emod_eq_zero z))
    rw [whileF_end]
    · simp
    · simp only [ppIC, runD, List.map_cons, List.map_nil, List.replicate_zero, List.replicate_succ, List.cons_append, List.nil_append, List.append_nil, sRet, sRetN, sNx, sSeq, sSet, sSetF, sOwn, sTo, gsCons, gsNil, sPar, sPar3, eChain, sExp, sApp, sPut, sIf, sFrz, frz, frz1, List.foldl_cons, List.foldl_nil, eBin, eUn, eVar, eC, eAnd, eOr, eIf, eLend, flat, eIxO, eOfF, eTup, eAll, fAll, eCall, eIs, eSl, fSl, oNone, oSome, aNil, aCons, bVal, bAnd, bOr, bNot, bYes, blOf, gNot, iSeq, iRg1, iRg2, seq_l, seq_t, tup_l, tup_t, lst_l, lst_t, len_l, len_t, gIx_l, gIx_t, gNm, wipeR, List.getElem?_cons_zero, List.getElem?_cons_succ, List.set_cons_zero, List.set_cons_succ, Option.bind_some, Option.bind_none, Option.map_some, Option.map_none, if_true, if_false, decide_true, decide_false, Bool.not_true, Bool.not_false, Bool.false_eq_true, reduceIte, gAdd_i, gSub_i, gNeg_i, gLt_i, gLe_i, gGt_i, gGe_i, gEq_i, gNe_i, gMul_b, gMod_p, gFdiv_p, Nat.reduceAdd, Nat.reduceMul, Nat.reduceLeDiff, at0, at1, at2, at3, at4, at5, at6, at7, at8, at9, at10, at11, at12, at13, at14, at15, gSl_l, cut_pos, cut_from, cut_to, Int.reduceToNat, List.drop_succ_cons, List.drop_zero, List.take_succ_cons, List.take_zero, List.take_nil, Nat.reduceSub, Int.reduceAdd, Int.reduceSub, Int.reduceMul, Int.reduceMod, Int.reduceDiv, Int.reduceNeg, List.length_cons, List.length_nil, Nat.zero_add, fComp, compL, rg1_3, mInt, mAbs, mGcd, mMax2, mMin2, mMax3, mMin3, mIsqrt, isT, gMod_p (show (0 : Int) < p by omega), Nat.pow_zero, Nat.one_mul, h]
  | e + 1, c => by
    have e1 : ((p ^ (e + 1) * m : Nat) : Int) = p * ((p ^ e * m : Nat) : Int) := by rw [Nat.pow_succ]; push_cast; grind
    have h : (p : Int) * ((p ^ e * m : Nat) : Int) % p = 0 := Int.mul_emod_right _ _
    have h2 : (p : Int) * ((p ^ e * m : Nat) : Int) / p = ((p ^ e * m : Nat) : Int) := Int.mul_ediv_cancel_left _ (by omega)
    have l2 : (p : Int).natAbs.log2 < 9000 := log_small (by omega) (by omega)
    rw [e1, whileF_nx (ρ' := [x0, x1, .va (.int ((p ^ e * m : Nat) : Int)), .va (.int p), .va (.int (c + 1))])]
    · rw [pp_in hp hp2 hm e (c + 1)]
      have : c + 1 + (e : Int) = c + ((e + 1 : Nat) : Int) := by push_cast; omega
      rw [this]
    · simp only [ppIC, runD, List.map_cons, List.map_nil, List.replicate_zero, List.replicate_succ, List.cons_append, List.nil_append, List.append_nil, sRet, sRetN, sNx, sSeq, sSet, sSetF, sOwn, sTo, gsCons, gsNil, sPar, sPar3, eChain, sExp, sApp, sPut, sIf, sFrz, frz, frz1, List.foldl_cons, List.foldl_nil, eBin, eUn, eVar, eC, eAnd, eOr, eIf, eLend, flat, eIxO, eOfF, eTup, eAll, fAll, eCall, eIs, eSl, fSl, oNone, oSome, aNil, aCons, bVal, bAnd, bOr, bNot, bYes, blOf, gNot, iSeq, iRg1, iRg2, seq_l, seq_t, tup_l, tup_t, lst_l, lst_t, len_l, len_t, gIx_l, gIx_t, gNm, wipeR, List.getElem?_cons_zero, List.getElem?_cons_succ, List.set_cons_zero, List.set_cons_succ, Option.bind_some, Option.bind_none, Option.map_some, Option.map_none, if_true, if_false, decide_true, decide_false, Bool.not_true, Bool.not_false, Bool.false_eq_true, reduceIte, gAdd_i, gSub_i, gNeg_i, gLt_i, gLe_i, gGt_i, gGe_i, gEq_i, gNe_i, gMul_b, gMod_p, gFdiv_p, Nat.reduceAdd, Nat.reduceMul, Nat.reduceLeDiff, at0, at1, at2, at3, at4, at5, at6, at7, at8, at9, at10, at11, at12, at13, at14, at15, gSl_l, cut_pos, cut_from, cut_to, Int.reduceToNat, List.drop_succ_cons, List.drop_zero, List.take_succ_cons, List.take_zero, List.take_nil, Nat.reduceSub, Int.reduceAdd, Int.reduceSub, Int.reduceMul, Int.reduceMod, Int.reduceDiv, Int.reduceNeg, List.length_cons, List.length_nil, Nat.zero_add, fComp, compL, rg1_3, mInt, mAbs, mGcd, mMax2, mMin2, mMax3, mMin3, mIsqrt, isT, gMod_p (show (0 : Int) < p by omega), h]
    · simp only [ppIB, runD, List.map_cons, List.map_nil, List.replicate_zero, List.replicate_succ, List.cons_append, List.nil_append, List.append_nil, sRet, sRetN, sNx, sSeq, sSet, sSetF, sOwn, sTo, gsCons, gsNil, sPar, sPar3, eChain, sExp, sApp, sPut, sIf, sFrz, frz, frz1, List.foldl_cons, List.foldl_nil, eBin, eUn, eVar, eC, eAnd, eOr, eIf, eLend, flat, eIxO, eOfF, eTup, eAll, fAll, eCall, eIs, eSl, fSl, oNone, oSome, aNil, aCons, bVal, bAnd, bOr, bNot, bYes, blOf, gNot, iSeq, iRg1, iRg2, seq_l, seq_t, tup_l, tup_t, lst_l, lst_t, len_l, len_t, gIx_l, gIx_t, gNm, wipeR, List.getElem?_cons_zero, List.getElem?_cons_succ, List.set_cons_zero, List.set_cons_succ, Option.bind_some, Option.bind_none, Option.map_some, Option.map_none, if_true, if_false, decide_true, decide_false, Bool.not_true, Bool.not_false, Bool.false_eq_true, reduceIte, gAdd_i, gSub_i, gNeg_i, gLt_i, gLe_i, gGt_i, gGe_i, gEq_i, gNe_i, gMul_b, gMod_p, gFdiv_p, Nat.reduceAdd, Nat.reduceMul, Nat.reduceLeDiff, at0, at1, at2, at3, at4, at5, at6, at7, at8, at9, at10, at11, at12, at13, at14, at15, gSl_l, cut_pos, cut_from, cut_to, Int.reduceToNat, List.drop_succ_cons, List.drop_zero, List.take_succ_cons, List.take_zero, List.take_nil, Nat.reduceSub, Int.reduceAdd, Int.reduceSub, Int.reduceMul, Int.reduceMod, Int.reduceDiv, Int.reduceNeg, List.length_cons, List.length_nil, Nat.zero_add, fComp, compL, rg1_3, mInt, mAbs, mGcd, mMax2, mMin2, mMax3, mMin3, mIsqrt, isT, gFdiv_p (show (0 : Int) < p by omega) l2, h2]
theorem pp_step {N r p : Nat} {l : List (Nat × Nat)} (h : Fac N l r p) (hN : N ≤ 1000000000) (hlt : p * p ≤ r) {x0 x4 : SC} : ∃ (l' : List (Nat × Nat)) (m : Nat) (x4' : SC), Fac N l' m (p + 1) ∧ m ≤ r ∧ ppB [x0, .ow (fdata l), .va (.int r), .va (.int p), x4] = some (.nx [x0, .ow (fdata l'), .va (.int m), .va (.int ((p + 1 : Nat) : Int)), x4']) := by
  have hp := h.p2
  have hr0 := h.r0
  have hrN : r ≤ N := by
    rw [h.n]
    refine Nat.le_mul_of_pos_left _ ?_
    rcases Nat.eq_zero_or_pos (PP l) with z | z
    · have := h.n
      rw [z, Nat.zero_mul] at this
      exact PP_pos (fun q hq => ⟨(h.ent q hq).p, (h.ent q hq).e⟩)
    · exact z
  have hpr : p ≤ r := by
    have := Nat.le_mul_of_pos_right p (show 0 < p by omega)
    omega
  obtain ⟨e, m0, e1, e2, e3⟩ := val_step p hp r (r : Int) (by omega) (by omega)
  have hm0 : 0 < m0 := by
    rcases Int.lt_or_le 0 m0 with z | z
    · exact z
    · have : 0 ≤ (p : Int) ^ e := Int.pow_nonneg (by omega)
      have := Int.mul_nonneg this (show 0 ≤ -m0 by omega)
      rw [Int.mul_neg] at this
      omega
  obtain ⟨m, rfl⟩ : ∃ m : Nat, m0 = m := ⟨m0.toNat, by omega⟩
  have e4 : r = p ^ e * m := by
    have : ((p ^ e * m : Nat) : Int) = (p : Int) ^ e * m := by push_cast; rfl
    omega
  have hm : ¬ p ∣ m := fun z => e2 (Int.natCast_dvd_natCast.mpr z)
  have hin := sWhile_of (pp_in hp (show p < 2 ^ 64 by omega) hm (x0 := x0) (x1 := .ow (fdata l)) e 0)
  rw [Int.zero_add, ← e4] at hin
  have hml : m ≤ r := by
    rw [e4]
    exact Nat.le_mul_of_pos_left _ (Nat.pow_pos (by omega))
  have hlen : (fdata l).length < 16000000 := by
    unfold fdata
    rw [List.length_map]
    have := h.len hN
    omega
  have c1 : (p : Int) + 1 = ((p + 1 : Nat) : Int) := by push_cast; rfl
  simp only [ppIC, ppIB] at hin
  by_cases he : e = 0
  · subst he
    rw [Nat.pow_zero, Nat.one_mul] at e4
    subst e4
    refine ⟨l, r, .va (.int (0 : Nat)), h.next0 hm, Nat.le_refl _, ?_⟩
    simp only [ppB, ppIC, ppIB, runD, List.map_cons, List.map_nil, List.replicate_zero, List.replicate_succ, List.cons_append, List.nil_append, List.append_nil, sRet, sRetN, sNx, sSeq, sSet, sSetF, sOwn, sTo, gsCons, gsNil, sPar, sPar3, eChain, sExp, sApp, sPut, sIf, sFrz, frz, frz1, List.foldl_cons, List.foldl_nil, eBin, eUn, eVar, eC, eAnd, eOr, eIf, eLend, flat, eIxO, eOfF, eTup, eAll, fAll, eCall, eIs, eSl, fSl, oNone, oSome, aNil, aCons, bVal, bAnd, bOr, bNot, bYes, blOf, gNot, iSeq, iRg1, iRg2, seq_l, seq_t, tup_l, tup_t, lst_l, lst_t, len_l, len_t, gIx_l, gIx_t, gNm, wipeR, List.getElem?_cons_zero, List.getElem?_cons_succ, List.set_cons_zero, List.set_cons_succ, Option.bind_some, Option.bind_none, Option.map_some, Option.map_none, if_true, if_false, decide_true, decide_false, Bool.not_true, Bool.not_false, Bool.false_eq_true, reduceIte, gAdd_i, gSub_i, gNeg_i, gLt_i, gLe_i, gGt_i, gGe_i, gEq_i, gNe_i, gMul_b, gMod_p, gFdiv_p, Nat.reduceAdd, Nat.reduceMul, Nat.reduceLeDiff, at0, at1, at2, at3, at4, at5, at6, at7, at8, at9, at10, at11, at12, at13, at14, at15, gSl_l, cut_pos, cut_from, cut_to, Int.reduceToNat, List.drop_succ_cons, List.drop_zero, List.take_succ_cons, List.take_zero, List.take_nil, Nat.reduceSub, Int.reduceAdd, Int.reduceSub, Int.reduceMul, Int.reduceMod, Int.reduceDiv, Int.reduceNeg, List.length_cons, List.length_nil, Nat.zero_add, fComp, compL, rg1_3, mInt, mAbs, mGcd, mMax2, mMin2, mMax3, mMin3, mIsqrt, isT, hin, c1]
    simp only [runD, List.map_cons, List.map_nil, List.replicate_zero, List.replicate_succ, List.cons_append, List.nil_append, List.append_nil, sRet, sRetN, sNx, sSeq, sSet, sSetF, sOwn, sTo, gsCons, gsNil, sPar, sPar3, eChain, sExp, sApp, sPut, sIf, sFrz, frz, frz1, List.foldl_cons, List.foldl_nil, eBin, eUn, eVar, eC, eAnd, eOr, eIf, eLend, flat, eIxO, eOfF, eTup, eAll, fAll, eCall, eIs, eSl, fSl, oNone, oSome, aNil, aCons, bVal, bAnd, bOr, bNot, bYes, blOf, gNot, iSeq, iRg1, iRg2, seq_l, seq_t, tup_l, tup_t, lst_l, lst_t, len_l, len_t, gIx_l, gIx_t, gNm, wipeR, List.getElem?_cons_zero, List.getElem?_cons_succ, List.set_cons_zero, List.set_cons_succ, Option.bind_some, Option.bind_none, Option.map_some, Option.map_none, if_true, if_false, decide_true, decide_false, Bool.not_true, Bool.not_false, Bool.false_eq_true, reduceIte, gAdd_i, gSub_i, gNeg_i, gLt_i, gLe_i, gGt_i, gGe_i, gEq_i, gNe_i, gMul_b, gMod_p, gFdiv_p, Nat.reduceAdd, Nat.reduceMul, Nat.reduceLeDiff, at0, at1, at2, at3, at4, at5, at6, at7, at8, at9, at10, at11, at12, at13, at14, at15, gSl_l, cut_pos, cut_from, cut_to, Int.reduceToNat, List.drop_succ_cons, List.drop_zero, List.take_succ_cons, List.take_zero, List.take_nil, Nat.reduceSub, Int.reduceAdd, Int.reduceSub, Int.reduceMul, Int.reduceMod, Int.reduceDiv, Int.reduceNeg, List.length_cons, List.length_nil, Nat.zero_add, fComp, compL, rg1_3, mInt, mAbs, mGcd, mMax2, mMin2, mMax3, mMin3, mIsqrt, isT, Int.cast_ofNat_Int, Int.lt_irrefl, Int.natCast_zero, decide_false, c1]
  · refine ⟨l ++ [(p, e)], m, .va (.int e), h.next (by omega) e4 hm, hml, ?_⟩
    simp only [ppB, ppIC, ppIB, runD, List.map_cons, List.map_nil, List.replicate_zero, List.replicate_succ, List.cons_append, List.nil_append, List.append_nil, sRet, sRetN, sNx, sSeq, sSet, sSetF, sOwn, sTo, gsCons, gsNil, sPar, sPar3, eChain, sExp, sApp, sPut, sIf, sFrz, frz, frz1, List.foldl_cons, List.foldl_nil, eBin, eUn, eVar, eC, eAnd, eOr, eIf, eLend, flat, eIxO, eOfF, eTup, eAll, fAll, eCall, eIs, eSl, fSl, oNone, oSome, aNil, aCons, bVal, bAnd, bOr, bNot, bYes, blOf, gNot, iSeq, iRg1, iRg2, seq_l, seq_t, tup_l, tup_t, lst_l, lst_t, len_l, len_t, gIx_l, gIx_t, gNm, wipeR, List.getElem?_cons_zero, List.getElem?_cons_succ, List.set_cons_zero, List.set_cons_succ, Option.bind_some, Option.bind_none, Option.map_some, Option.map_none, if_true, if_false, decide_true, decide_false, Bool.not_true, Bool.not_false, Bool.false_eq_true, reduceIte, gAdd_i, gSub_i, gNeg_i, gLt_i, gLe_i, gGt_i, gGe_i, gEq_i, gNe_i, gMul_b, gMod_p, gFdiv_p, Nat.reduceAdd, Nat.reduceMul, Nat.reduceLeDiff, at0, at1, at2, at3, at4, at5, at6, at7, at8, at9, at10, at11, at12, at13, at14, at15, gSl_l, cut_pos, cut_from, cut_to, Int.reduceToNat, List.drop_succ_cons, List.drop_zero, List.take_succ_cons, List.take_zero, List.take_nil, Nat.reduceSub, Int.reduceAdd, Int.reduceSub, Int.reduceMul, Int.reduceMod, Int.reduceDiv, Int.reduceNeg, List.length_cons, List.length_nil, Nat.zero_add, fComp, compL, rg1_3, mInt, mAbs, mGcd, mMax2, mMin2, mMax3, mMin3, mIsqrt, isT, hin, c1]
    simp only [runD, List.map_cons, List.map_nil, List.replicate_zero, List.replicate_succ, List.cons_append, List.nil_append, List.append_nil, sRet, sRetN, sNx, sSeq, sSet, sSetF, sOwn, sTo, gsCons, gsNil, sPar, sPar3, eChain, sExp, sApp, sPut, sIf, sFrz, frz, frz1, List.foldl_cons, List.foldl_nil, eBin, eUn, eVar, eC, eAnd, eOr, eIf, eLend, flat, eIxO, eOfF, eTup, eAll, fAll, eCall, eIs, eSl, fSl, oNone, oSome, aNil, aCons, bVal, bAnd, bOr, bNot, bYes, blOf, gNot, iSeq, iRg1, iRg2, seq_l, seq_t, tup_l, tup_t, lst_l, lst_t, len_l, len_t, gIx_l, gIx_t, gNm, wipeR, List.getElem?_cons_zero, List.getElem?_cons_succ, List.set_cons_zero, List.set_cons_succ, Option.bind_some, Option.bind_none, Option.map_some, Option.map_none, if_true, if_false, decide_true, decide_false, Bool.not_true, Bool.not_false, Bool.false_eq_true, reduceIte, gAdd_i, gSub_i, gNeg_i, gLt_i, gLe_i, gGt_i, gGe_i, gEq_i, gNe_i, gMul_b, gMod_p, gFdiv_p, Nat.reduceAdd, Nat.reduceMul, Nat.reduceLeDiff, at0, at1, at2, at3, at4, at5, at6, at7, at8, at9, at10, at11, at12, at13, at14, at15, gSl_l, cut_pos, cut_from, cut_to, Int.reduceToNat, List.drop_succ_cons, List.drop_zero, List.take_succ_cons, List.take_zero, List.take_nil, Nat.reduceSub, Int.reduceAdd, Int.reduceSub, Int.reduceMul, Int.reduceMod, Int.reduceDiv, Int.reduceNeg, List.length_cons, List.length_nil, Nat.zero_add, fComp, compL, rg1_3, mInt, mAbs, mGcd, mMax2, mMin2, mMax3, mMin3, mIsqrt, isT, show (0 : Int) < (e : Int) by omega, hlen, c1, fdata_app]
    rfl
theorem pp_go {N : Nat} (hN : N ≤ 1000000000) {x0 : SC} : ∀ (n r p : Nat) (l : List (Nat × Nat)) (x4 : SC), Fac N l r p → p ≤ 40000 → r - p ≤ n → ∃ (f : Nat) (l' : List (Nat × Nat)) (r' p' : Nat) (x4' : SC), Fac N l' r' p' ∧ r' < p' * p' ∧
    whileF ppC ppB f [x0, .ow (fdata l), .va (.int r), .va (.int p), x4] = some (.nx [x0, .ow (fdata l'), .va (.int r'), .va (.int p'), x4'])
  | n, r, p, l, x4, h, hp4, hn => by
    have hp := h.p2
    have hrN : r ≤ N := by
      rw [h.n]
      exact Nat.le_mul_of_pos_left _ (PP_pos (fun q hq => ⟨(h.ent q hq).p, (h.ent q hq).e⟩))
    by_cases c : p * p ≤ r
    · have hpr : p + 1 ≤ r := by
        have := Nat.mul_le_mul_left p hp
        omega
      obtain ⟨l', m, x4', h', hm, e⟩ := pp_step h hN c (x0 := x0) (x4 := x4)
      haveI : Bd 31 (p : Int) := ⟨by omega⟩
      have cc : (p : Int) * p ≤ r := by
        have : ((p * p : Nat) : Int) = (p : Int) * p := by push_cast; rfl
        omega
      cases n with
      | zero => omega
      | succ n =>
        obtain ⟨f, l2, r2', p2, x42, q1, q2, q3⟩ := pp_go hN n m (p + 1) l' x4' h' (by
          rcases Nat.lt_or_ge p 40000 with z | z
          · omega
          · have := Nat.mul_le_mul z z
            omega) (by omega)
        exact ⟨f + 1, l2, r2', p2, x42, q1, q2, by rw [whileF_nx (by simp (config := {decide := true}) only [ppC, runD, List.map_cons, List.map_nil, List.replicate_zero, List.replicate_succ, List.cons_append, List.nil_append, List.append_nil, sRet, sRetN, sNx, sSeq, sSet, sSetF, sOwn, sTo, gsCons, gsNil, sPar, sPar3, eChain, sExp, sApp, sPut, sIf, sFrz, frz, frz1, List.foldl_cons, List.foldl_nil, eBin, eUn, eVar, eC, eAnd, eOr, eIf, eLend, flat, eIxO, eOfF, eTup, eAll, fAll, eCall, eIs, eSl, fSl, oNone, oSome, aNil, aCons, bVal, bAnd, bOr, bNot, bYes, blOf, gNot, iSeq, iRg1, iRg2, seq_l, seq_t, tup_l, tup_t, lst_l, lst_t, len_l, len_t, gIx_l, gIx_t, gNm, wipeR, List.getElem?_cons_zero, List.getElem?_cons_succ, List.set_cons_zero, List.set_cons_succ, Option.bind_some, Option.bind_none, Option.map_some, Option.map_none, if_true, if_false, decide_true, decide_false, Bool.not_true, Bool.not_false, Bool.false_eq_true, reduceIte, gAdd_i, gSub_i, gNeg_i, gLt_i, gLe_i, gGt_i, gGe_i, gEq_i, gNe_i, gMul_b, gMod_p, gFdiv_p, Nat.reduceAdd, Nat.reduceMul, Nat.reduceLeDiff, at0, at1, at2, at3, at4, at5, at6, at7, at8, at9, at10, at11, at12, at13, at14, at15, gSl_l, cut_pos, cut_from, cut_to, Int.reduceToNat, List.drop_succ_cons, List.drop_zero, List.take_succ_cons, List.take_zero, List.take_nil, Nat.reduceSub, Int.reduceAdd, Int.reduceSub, Int.reduceMul, Int.reduceMod, Int.reduceDiv, Int.reduceNeg, List.length_cons, List.length_nil, Nat.zero_add, fComp, compL, rg1_3, mInt, mAbs, mGcd, mMax2, mMin2, mMax3, mMin3, mIsqrt, isT, cc]) e]; exact q3⟩
    · refine ⟨1, l, r, p, x4, h, by omega, whileF_end ?_⟩
      haveI : Bd 31 (p : Int) := ⟨by omega⟩
      have cc : ¬ (p : Int) * p ≤ r := by
        have : ((p * p : Nat) : Int) = (p : Int) * p := by push_cast; rfl
        omega
      simp (config := {decide := true}) only [ppC, runD, List.map_cons, List.map_nil, List.replicate_zero, List.replicate_succ, List.cons_append, List.nil_append, List.append_nil, sRet, sRetN, sNx, sSeq, sSet, sSetF, sOwn, sTo, gsCons, gsNil, sPar, sPar3, eChain, sExp, sApp, sPut, sIf, sFrz, frz, frz1, List.foldl_cons, List.foldl_nil, eBin, eUn, eVar, eC, eAnd, eOr, eIf, eLend, flat, eIxO, eOfF, eTup, eAll, fAll, eCall, eIs, eSl, fSl, oNone, oSome, aNil, aCons, bVal, bAnd, bOr, bNot, bYes, blOf, gNot, iSeq, iRg1, iRg2, seq_l, seq_t, tup_l, tup_t, lst_l, lst_t, len_l, len_t, gIx_l, gIx_t, gNm, wipeR, List.getElem?_cons_zero, List.getElem?_cons_succ, List.set_cons_zero, List.set_cons_succ, Option.bind_some, Option.bind_none, Option.map_some, Option.map_none, if_true, if_false, decide_true, decide_false, Bool.not_true, Bool.not_false, Bool.false_eq_true, reduceIte, gAdd_i, gSub_i, gNeg_i, gLt_i, gLe_i, gGt_i, gGe_i, gEq_i, gNe_i, gMul_b, gMod_p, gFdiv_p, Nat.reduceAdd, Nat.reduceMul, Nat.reduceLeDiff, at0, at1, at2, at3, at4, at5, at6, at7, at8, at9, at10, at11, at12, at13, at14, at15, gSl_l, cut_pos, cut_from, cut_to, Int.reduceToNat, List.drop_succ_cons, List.drop_zero, List.take_succ_cons, List.take_zero, List.take_nil, Nat.reduceSub, Int.reduceAdd, Int.reduceSub, Int.reduceMul, Int.reduceMod, Int.reduceDiv, Int.reduceNeg, List.length_cons, List.length_nil, Nat.zero_add, fComp, compL, rg1_3, mInt, mAbs, mGcd, mMax2, mMin2, mMax3, mMin3, mIsqrt, isT, cc]
theorem v_prime_powers {N : Nat} (hN0 : 0 < N) (hN : N ≤ 1000000000) : ∃ L, Facs N L ∧ m_prime_powers [.int N] = some (.tuple (fdata L)) := by
  obtain ⟨f, l, r, p, x4, h1, h2, h3⟩ := pp_go hN (x0 := .va (.int N)) N N 2 [] .un (Fac.start hN0) (by decide) (by omega)
  have h4 := sWhile_of h3
  have hlen : (fdata l).length < 16000000 := by
    unfold fdata
    rw [List.length_map]
    have := h1.len hN
    omega
  simp only [ppC, ppB, ppIC, ppIB] at h4
  have e0 : fdata [] = [] := rfl
  rw [e0] at h4
  have h4' : sWhile (bVal (eBin gLe (eBin gMul (eVar 3) (eVar 3)) (eVar 2))) (sSeq (sSet 4 (eC (.int 0))) (sSeq (sWhile (bVal (eBin gEq (eBin gMod (eVar 2) (eVar 3)) (eC (.int 0)))) (sSeq (sSet 2 (eBin gFdiv (eVar 2) (eVar 3))) (sSet 4 (eBin gAdd (eVar 4) (eC (.int 1)))))) (sSeq (sIf (bVal (eBin gGt (eVar 4) (eC (.int 0)))) (sApp 1 (eTup (aCons (eVar 3) (aCons (eVar 4) aNil)))) sNx) (sSet 3 (eBin gAdd (eVar 3) (eC (.int 1))))))) [.va (.int N), .ow [], .va (.int N), .va (.int 2), .un] = _ := h4
  by_cases c : 1 < r
  · refine ⟨l ++ [(r, 1)], h1.end2 c h2, ?_⟩
    simp only [m_prime_powers, b_prime_powers, runD, List.map_cons, List.map_nil, List.replicate_zero, List.replicate_succ, List.cons_append, List.nil_append, List.append_nil, sRet, sRetN, sNx, sSeq, sSet, sSetF, sOwn, sTo, gsCons, gsNil, sPar, sPar3, eChain, sExp, sApp, sPut, sIf, sFrz, frz, frz1, List.foldl_cons, List.foldl_nil, eBin, eUn, eVar, eC, eAnd, eOr, eIf, eLend, flat, eIxO, eOfF, eTup, eAll, fAll, eCall, eIs, eSl, fSl, oNone, oSome, aNil, aCons, bVal, bAnd, bOr, bNot, bYes, blOf, gNot, iSeq, iRg1, iRg2, seq_l, seq_t, tup_l, tup_t, lst_l, lst_t, len_l, len_t, gIx_l, gIx_t, gNm, wipeR, List.getElem?_cons_zero, List.getElem?_cons_succ, List.set_cons_zero, List.set_cons_succ, Option.bind_some, Option.bind_none, Option.map_some, Option.map_none, if_true, if_false, decide_true, decide_false, Bool.not_true, Bool.not_false, Bool.false_eq_true, reduceIte, gAdd_i, gSub_i, gNeg_i, gLt_i, gLe_i, gGt_i, gGe_i, gEq_i, gNe_i, gMul_b, gMod_p, gFdiv_p, Nat.reduceAdd, Nat.reduceMul, Nat.reduceLeDiff, at0, at1, at2, at3, at4, at5, at6, at7, at8, at9, at10, at11, at12, at13, at14, at15, gSl_l, cut_pos, cut_from, cut_to, Int.reduceToNat, List.drop_succ_cons, List.drop_zero, List.take_succ_cons, List.take_zero, List.take_nil, Nat.reduceSub, Int.reduceAdd, Int.reduceSub, Int.reduceMul, Int.reduceMod, Int.reduceDiv, Int.reduceNeg, List.length_cons, List.length_nil, Nat.zero_add, fComp, compL, rg1_3, mInt, mAbs, mGcd, mMax2, mMin2, mMax3, mMin3, mIsqrt, isT]
    rw [h4']
    simp only [runD, List.map_cons, List.map_nil, List.replicate_zero, List.replicate_succ, List.cons_append, List.nil_append, List.append_nil, sRet, sRetN, sNx, sSeq, sSet, sSetF, sOwn, sTo, gsCons, gsNil, sPar, sPar3, eChain, sExp, sApp, sPut, sIf, sFrz, frz, frz1, List.foldl_cons, List.foldl_nil, eBin, eUn, eVar, eC, eAnd, eOr, eIf, eLend, flat, eIxO, eOfF, eTup, eAll, fAll, eCall, eIs, eSl, fSl, oNone, oSome, aNil, aCons, bVal, bAnd, bOr, bNot, bYes, blOf, gNot, iSeq, iRg1, iRg2, seq_l, seq_t, tup_l, tup_t, lst_l, lst_t, len_l, len_t, gIx_l, gIx_t, gNm, wipeR, List.getElem?_cons_zero, List.getElem?_cons_succ, List.set_cons_zero, List.set_cons_succ, Option.bind_some, Option.bind_none, Option.map_some, Option.map_none, if_true, if_false, decide_true, decide_false, Bool.not_true, Bool.not_false, Bool.false_eq_true, reduceIte, gAdd_i, gSub_i, gNeg_i, gLt_i, gLe_i, gGt_i, gGe_i, gEq_i, gNe_i, gMul_b, gMod_p, gFdiv_p, Nat.reduceAdd, Nat.reduceMul, Nat.reduceLeDiff, at0, at1, at2, at3, at4, at5, at6, at7, at8, at9, at10, at11, at12, at13, at14, at15, gSl_l, cut_pos, cut_from, cut_to, Int.reduceToNat, List.drop_succ_cons, List.drop_zero, List.take_succ_cons, List.take_zero, List.take_nil, Nat.reduceSub, Int.reduceAdd, Int.reduceSub, Int.reduceMul, Int.reduceMod, Int.reduceDiv, Int.reduceNeg, List.length_cons, List.length_nil, Nat.zero_add, fComp, compL, rg1_3, mInt, mAbs, mGcd, mMax2, mMin2, mMax3, mMin3, mIsqrt, isT, show (1 : Int) < (r : Int) by omega, hlen, fdata_app]
    rfl
  · have hr : r = 1 := by
      have := h1.r0
      omega
    subst hr
    refine ⟨l, h1.end1, ?_⟩
    simp only [m_prime_powers, b_prime_powers, runD, List.map_cons, List.map_nil, List.replicate_zero, List.replicate_succ, List.cons_append, List.nil_append, List.append_nil, sRet, sRetN, sNx, sSeq, sSet, sSetF, sOwn, sTo, gsCons, gsNil, sPar, sPar3, eChain, sExp, sApp, sPut, sIf, sFrz, frz, frz1, List.foldl_cons, List.foldl_nil, eBin, eUn, eVar, eC, eAnd, eOr, eIf, eLend, flat, eIxO, eOfF, eTup, eAll, fAll, eCall, eIs, eSl, fSl, oNone, oSome, aNil, aCons, bVal, bAnd, bOr, bNot, bYes, blOf, gNot, iSeq, iRg1, iRg2, seq_l, seq_t, tup_l, tup_t, lst_l, lst_t, len_l, len_t, gIx_l, gIx_t, gNm, wipeR, List.getElem?_cons_zero, List.getElem?_cons_succ, List.set_cons_zero, List.set_cons_succ, Option.bind_some, Option.bind_none, Option.map_some, Option.map_none, if_true, if_false, decide_true, decide_false, Bool.not_true, Bool.not_false, Bool.false_eq_true, reduceIte, gAdd_i, gSub_i, gNeg_i, gLt_i, gLe_i, gGt_i, gGe_i, gEq_i, gNe_i, gMul_b, gMod_p, gFdiv_p, Nat.reduceAdd, Nat.reduceMul, Nat.reduceLeDiff, at0, at1, at2, at3, at4, at5, at6, at7, at8, at9, at10, at11, at12, at13, at14, at15, gSl_l, cut_pos, cut_from, cut_to, Int.reduceToNat, List.drop_succ_cons, List.drop_zero, List.take_succ_cons, List.take_zero, List.take_nil, Nat.reduceSub, Int.reduceAdd, Int.reduceSub, Int.reduceMul, Int.reduceMod, Int.reduceDiv, Int.reduceNeg, List.length_cons, List.length_nil, Nat.zero_add, fComp, compL, rg1_3, mInt, mAbs, mGcd, mMax2, mMin2, mMax3, mMin3, mIsqrt, isT]
    rw [h4']
    simp only [runD, List.map_cons, List.map_nil, List.replicate_zero, List.replicate_succ, List.cons_append, List.nil_append, List.append_nil, sRet, sRetN, sNx, sSeq, sSet, sSetF, sOwn, sTo, gsCons, gsNil, sPar, sPar3, eChain, sExp, sApp, sPut, sIf, sFrz, frz, frz1, List.foldl_cons, List.foldl_nil, eBin, eUn, eVar, eC, eAnd, eOr, eIf, eLend, flat, eIxO, eOfF, eTup, eAll, fAll, eCall, eIs, eSl, fSl, oNone, oSome, aNil, aCons, bVal, bAnd, bOr, bNot, bYes, blOf, gNot, iSeq, iRg1, iRg2, seq_l, seq_t, tup_l, tup_t, lst_l, lst_t, len_l, len_t, gIx_l, gIx_t, gNm, wipeR, List.getElem?_cons_zero, List.getElem?_cons_succ, List.set_cons_zero, List.set_cons_succ, Option.bind_some, Option.bind_none, Option.map_some, Option.map_none, if_true, if_false, decide_true, decide_false, Bool.not_true, Bool.not_false, Bool.false_eq_true, reduceIte, gAdd_i, gSub_i, gNeg_i, gLt_i, gLe_i, gGt_i, gGe_i, gEq_i, gNe_i, gMul_b, gMod_p, gFdiv_p, Nat.reduceAdd, Nat.reduceMul, Nat.reduceLeDiff, at0, at1, at2, at3, at4, at5, at6, at7, at8, at9, at10, at11, at12, at13, at14, at15, gSl_l, cut_pos, cut_from, cut_to, Int.reduceToNat, List.drop_succ_cons, List.drop_zero, List.take_succ_cons, List.take_zero, List.take_nil, Nat.reduceSub, Int.reduceAdd, Int.reduceSub, Int.reduceMul, Int.reduceMod, Int.reduceDiv, Int.reduceNeg, List.length_cons, List.length_nil, Nat.zero_add, fComp, compL, rg1_3, mInt, mAbs, mGcd, mMax2, mMin2, mMax3, mMin3, mIsqrt, isT, show ¬ (1 : Int) < ((1 : Nat) : Int) by omega]
/-! ### a prime -/
theorem prime_go {q : Nat} (hq : NoDiv q) (hq2 : q ≤ 1000000000) : ∀ (m k : Nat) (x : SC), 2 ≤ k → (k - 1) * (k - 1) ≤ q → k + m = 31624 →
    forL (gNm 1) (sSeq (sIf (bVal (eBin gGt (eBin gMul (eVar 1) (eVar 1)) (eVar 0))) (sRet (eC (.bool true))) sNx) (sIf (bVal (eBin gEq (eBin gMod (eAll mInt (aCons (eVar 0) aNil)) (eVar 1)) (eC (.int 0)))) (sRet (eC (.bool false))) sNx)) (rng k m) [.va (.int q), x] = some (.rt (.bool true))
  | 0, k, x, h1, h2, h3 => by
    have : k = 31624 := by omega
    subst this
    omega
  | m + 1, k, x, h1, h2, h3 => by
    rw [rng_succ]
    haveI : Bd 15 (k : Int) := ⟨by omega⟩
    by_cases c : q < k * k
    · have cc : (q : Int) < (k : Int) * k := by
        have : ((k * k : Nat) : Int) = (k : Int) * k := by push_cast; rfl
        omega
      simp (config := {decide := true}) only [forL, runD, List.map_cons, List.map_nil, List.replicate_zero, List.replicate_succ, List.cons_append, List.nil_append, List.append_nil, sRet, sRetN, sNx, sSeq, sSet, sSetF, sOwn, sTo, gsCons, gsNil, sPar, sPar3, eChain, sExp, sApp, sPut, sIf, sFrz, frz, frz1, List.foldl_cons, List.foldl_nil, eBin, eUn, eVar, eC, eAnd, eOr, eIf, eLend, flat, eIxO, eOfF, eTup, eAll, fAll, eCall, eIs, eSl, fSl, oNone, oSome, aNil, aCons, bVal, bAnd, bOr, bNot, bYes, blOf, gNot, iSeq, iRg1, iRg2, seq_l, seq_t, tup_l, tup_t, lst_l, lst_t, len_l, len_t, gIx_l, gIx_t, gNm, wipeR, List.getElem?_cons_zero, List.getElem?_cons_succ, List.set_cons_zero, List.set_cons_succ, Option.bind_some, Option.bind_none, Option.map_some, Option.map_none, if_true, if_false, decide_true, decide_false, Bool.not_true, Bool.not_false, Bool.false_eq_true, reduceIte, gAdd_i, gSub_i, gNeg_i, gLt_i, gLe_i, gGt_i, gGe_i, gEq_i, gNe_i, gMul_b, gMod_p, gFdiv_p, Nat.reduceAdd, Nat.reduceMul, Nat.reduceLeDiff, at0, at1, at2, at3, at4, at5, at6, at7, at8, at9, at10, at11, at12, at13, at14, at15, gSl_l, cut_pos, cut_from, cut_to, Int.reduceToNat, List.drop_succ_cons, List.drop_zero, List.take_succ_cons, List.take_zero, List.take_nil, Nat.reduceSub, Int.reduceAdd, Int.reduceSub, Int.reduceMul, Int.reduceMod, Int.reduceDiv, Int.reduceNeg, List.length_cons, List.length_nil, Nat.zero_add, fComp, compL, rg1_3, mInt, mAbs, mGcd, mMax2, mMin2, mMax3, mMin3, mIsqrt, isT, cc]
    · have cc : ¬ (q : Int) < (k : Int) * k := by
        have : ((k * k : Nat) : Int) = (k : Int) * k := by push_cast; rfl
        omega
      have hkq : k < q := by
        have := Nat.mul_le_mul_left k h1
        omega
      have hd : ¬ (q : Int) % (k : Int) = 0 := fun z => hq.2 k h1 hkq (Int.natCast_dvd_natCast.mp (Int.dvd_of_emod_eq_zero z))
      have ih := prime_go hq hq2 m (k + 1) (.va (.int k)) (by omega) (by rw [Nat.add_sub_cancel]; omega) (by omega)
      simp (config := {decide := true}) only [forL, runD, List.map_cons, List.map_nil, List.replicate_zero, List.replicate_succ, List.cons_append, List.nil_append, List.append_nil, sRet, sRetN, sNx, sSeq, sSet, sSetF, sOwn, sTo, gsCons, gsNil, sPar, sPar3, eChain, sExp, sApp, sPut, sIf, sFrz, frz, frz1, List.foldl_cons, List.foldl_nil, eBin, eUn, eVar, eC, eAnd, eOr, eIf, eLend, flat, eIxO, eOfF, eTup, eAll, fAll, eCall, eIs, eSl, fSl, oNone, oSome, aNil, aCons, bVal, bAnd, bOr, bNot, bYes, blOf, gNot, iSeq, iRg1, iRg2, seq_l, seq_t, tup_l, tup_t, lst_l, lst_t, len_l, len_t, gIx_l, gIx_t, gNm, wipeR, List.getElem?_cons_zero, List.getElem?_cons_succ, List.set_cons_zero, List.set_cons_succ, Option.bind_some, Option.bind_none, Option.map_some, Option.map_none, if_true, if_false, decide_true, decide_false, Bool.not_true, Bool.not_false, Bool.false_eq_true, reduceIte, gAdd_i, gSub_i, gNeg_i, gLt_i, gLe_i, gGt_i, gGe_i, gEq_i, gNe_i, gMul_b, gMod_p, gFdiv_p, Nat.reduceAdd, Nat.reduceMul, Nat.reduceLeDiff, at0, at1, at2, at3, at4, at5, at6, at7, at8, at9, at10, at11, at12, at13, at14, at15, gSl_l, cut_pos, cut_from, cut_to, Int.reduceToNat, List.drop_succ_cons, List.drop_zero, List.take_succ_cons, List.take_zero, List.take_nil, Nat.reduceSub, Int.reduceAdd, Int.reduceSub, Int.reduceMul, Int.reduceMod, Int.reduceDiv, Int.reduceNeg, List.length_cons, List.length_nil, Nat.zero_add, fComp, compL, rg1_3, mInt, mAbs, mGcd, mMax2, mMin2, mMax3, mMin3, mIsqrt, isT, cc, gMod_p (show (0 : Int) < k by omega), hd]
      exact ih
theorem w_prime {q : Nat} (hq : NoDiv q) (hq2 : q ≤ 1000000000) : m__law_prime [.int q] = some (.bool true) := by
  have h := prime_go hq hq2 31622 2 .un (Nat.le_refl _) (by have := hq.1; omega) rfl
  have hr : rg2 (.int 2) (.int 31624) = some (rng 2 31622) := rg2_lit 2 31624 (by decide) (by decide) (by decide) (by decide)
  change forL _ _ (rng 2 31622) _ = _ at h
  generalize rng 2 31622 = ds at h hr
  simp only [m__law_prime, b__law_prime, runD, List.map_cons, List.map_nil, List.replicate_zero, List.replicate_succ, List.cons_append, List.nil_append, List.append_nil, sRet, sRetN, sNx, sSeq, sSet, sSetF, sOwn, sTo, gsCons, gsNil, sPar, sPar3, eChain, sExp, sApp, sPut, sIf, sFrz, frz, frz1, List.foldl_cons, List.foldl_nil, eBin, eUn, eVar, eC, eAnd, eOr, eIf, eLend, flat, eIxO, eOfF, eTup, eAll, fAll, eCall, eIs, eSl, fSl, oNone, oSome, aNil, aCons, bVal, bAnd, bOr, bNot, bYes, blOf, gNot, iSeq, iRg1, iRg2, seq_l, seq_t, tup_l, tup_t, lst_l, lst_t, len_l, len_t, gIx_l, gIx_t, gNm, wipeR, List.getElem?_cons_zero, List.getElem?_cons_succ, List.set_cons_zero, List.set_cons_succ, Option.bind_some, Option.bind_none, Option.map_some, Option.map_none, if_true, if_false, decide_true, decide_false, Bool.not_true, Bool.not_false, Bool.false_eq_true, reduceIte, gAdd_i, gSub_i, gNeg_i, gLt_i, gLe_i, gGt_i, gGe_i, gEq_i, gNe_i, gMul_b, gMod_p, gFdiv_p, Nat.reduceAdd, Nat.reduceMul, Nat.reduceLeDiff, at0, at1, at2, at3, at4, at5, at6, at7, at8, at9, at10, at11, at12, at13, at14, at15, gSl_l, cut_pos, cut_from, cut_to, Int.reduceToNat, List.drop_succ_cons, List.drop_zero, List.take_succ_cons, List.take_zero, List.take_nil, Nat.reduceSub, Int.reduceAdd, Int.reduceSub, Int.reduceMul, Int.reduceMod, Int.reduceDiv, Int.reduceNeg, List.length_cons, List.length_nil, Nat.zero_add, fComp, compL, rg1_3, mInt, mAbs, mGcd, mMax2, mMin2, mMax3, mMin3, mIsqrt, isT, sFor, hr, h]
end W

set_option linter.all false
set_option maxRecDepth 100000
set_option maxHeartbeats 4000000
set_option exponentiation.threshold 10000
namespace W
open PySem DL L2
noncomputable abbrev pwIB : ES := (sSet 3 (eBin gMul (eVar 3) (eBin gIx (eVar 4) (eC (.int 0)))))
theorem pw_in {q e : Nat} {s0 s1 s2 s6 : SC} (hq : q < 2 ^ 31) : ∀ (m k : Nat) (whole : Nat) (x : SC), whole * q ^ m < 2 ^ 31 → 0 < q → ∃ x', forL (gNm 5) pwIB (rng k m) [s0, s1, s2, .va (.int whole), .va (r2 true ⟨q, e⟩), x, s6] = some (.nx [s0, s1, s2, .va (.int ((whole * q ^ m : Nat) : Int)), .va (r2 true ⟨q, e⟩), x', s6])
  | 0, k, whole, x, h, h0 => ⟨x, by simp [rng_zero, forL]⟩
  | m + 1, k, whole, x, h, h0 => by
    have e1 : whole * q ^ (m + 1) = whole * q * q ^ m := by rw [Nat.pow_succ]; grind
    have hw : whole < 2 ^ 31 := by
      have : whole ≤ whole * q ^ (m + 1) := Nat.le_mul_of_pos_right _ (Nat.pow_pos h0)
      omega
    haveI : Bd 31 (whole : Int) := ⟨by rw [Int.natAbs_natCast]; exact hw⟩
    haveI : Bd 31 (q : Int) := ⟨by rw [Int.natAbs_natCast]; exact hq⟩
    obtain ⟨x', ih⟩ := pw_in (e := e) (s0 := s0) (s1 := s1) (s2 := s2) (s6 := s6) hq m (k + 1) (whole * q) (.va (.int k)) (by rw [← e1]; exact h) h0
    refine ⟨x', ?_⟩
    rw [rng_succ, e1]
    have c : ((whole * q : Nat) : Int) = (whole : Int) * q := by push_cast; rfl
    rw [c] at ih
    simp (config := {decide := true}) only [forL, runD, List.map_cons, List.map_nil, List.replicate_zero, List.replicate_succ, List.cons_append, List.nil_append, List.append_nil, sRet, sRetN, sNx, sSeq, sSet, sSetF, sOwn, sTo, gsCons, gsNil, sPar, sPar3, eChain, sExp, sApp, sPut, sIf, sFrz, frz, frz1, List.foldl_cons, List.foldl_nil, eBin, eUn, eVar, eC, eAnd, eOr, eIf, eLend, flat, eIxO, eOfF, eTup, eAll, fAll, eCall, eIs, eSl, fSl, oNone, oSome, aNil, aCons, bVal, bAnd, bOr, bNot, bYes, blOf, gNot, iSeq, iRg1, iRg2, seq_l, seq_t, tup_l, tup_t, lst_l, lst_t, len_l, len_t, gIx_l, gIx_t, gNm, wipeR, List.getElem?_cons_zero, List.getElem?_cons_succ, List.set_cons_zero, List.set_cons_succ, Option.bind_some, Option.bind_none, Option.map_some, Option.map_none, if_true, if_false, decide_true, decide_false, Bool.not_true, Bool.not_false, Bool.false_eq_true, reduceIte, gAdd_i, gSub_i, gNeg_i, gLt_i, gLe_i, gGt_i, gGe_i, gEq_i, gNe_i, gMul_b, gMod_p, gFdiv_p, Nat.reduceAdd, Nat.reduceMul, Nat.reduceLeDiff, at0, at1, at2, at3, at4, at5, at6, at7, at8, at9, at10, at11, at12, at13, at14, at15, gSl_l, cut_pos, cut_from, cut_to, Int.reduceToNat, List.drop_succ_cons, List.drop_zero, List.take_succ_cons, List.take_zero, List.take_nil, Nat.reduceSub, Int.reduceAdd, Int.reduceSub, Int.reduceMul, Int.reduceMod, Int.reduceDiv, Int.reduceNeg, List.length_cons, List.length_nil, Nat.zero_add, fComp, compL, rg1_3, mInt, mAbs, mGcd, mMax2, mMin2, mMax3, mMin3, mIsqrt, isT, pwIB, ix_p0]
    exact ih
noncomputable abbrev pwB : ES := (sSeq (sIf (bOr (bNot (bVal (eCall m__law_is_row (aCons (eVar 4) (aCons (eC (.int 2)) aNil))))) (bOr (bVal (eBin gLe (eBin gIx (eVar 4) (eC (.int 0))) (eVar 2))) (bOr (bVal (eBin gGt (eBin gIx (eVar 4) (eC (.int 0))) (eVar 0))) (bOr (bVal (eBin gLt (eBin gIx (eVar 4) (eC (.int 1))) (eC (.int 1)))) (bVal (eBin gGt (eBin gIx (eVar 4) (eC (.int 1))) (eC (.int 29)))))))) (sRet (eC (.bool false))) sNx) (sSeq (sFor (iRg1 (eBin gIx (eVar 4) (eC (.int 1)))) (gNm 5) (sSet 3 (eBin gMul (eVar 3) (eBin gIx (eVar 4) (eC (.int 0)))))) (sSeq (sIf (bOr (bVal (eBin gGt (eVar 3) (eVar 0))) (bNot (bVal (eCall m__law_prime (aCons (eBin gIx (eVar 4) (eC (.int 0))) aNil))))) (sRet (eC (.bool false))) sNx) (sSeq (sSet 6 (eCall m_valuation (aCons (eUn gNeg (eVar 0)) (aCons (eBin gIx (eVar 4) (eC (.int 0))) aNil)))) (sSeq (sIf (bOr (bNot (bVal (eCall m__law_whole (aCons (eVar 6) aNil)))) (bVal (eBin gNe (eVar 6) (eBin gIx (eVar 4) (eC (.int 1)))))) (sRet (eC (.bool false))) sNx) (sSet 2 (eBin gIx (eVar 4) (eC (.int 0)))))))))
theorem w_is_row2 {u : V2} : m__law_is_row [r2 true u, .int 2] = some (.bool true) := w_is_row_g (l := [u.x, u.y]) (n := 2) rfl
theorem pw_body {N whole last q e : Nat} {s1 x5 x6 : SC} (hN : N ≤ 1000000000) (hN0 : 0 < N) (hE : Ent N (q, e)) (hlast : last < q) (hw : whole * q ^ e ≤ N) (hw0 : 0 < whole) : ∃ x5' x6', pwB [.va (.int N), s1, .va (.int last), .va (.int whole), .va (r2 true ⟨q, e⟩), x5, x6] = some (.nx [.va (.int N), s1, .va (.int q), .va (.int ((whole * q ^ e : Nat) : Int)), .va (r2 true ⟨q, e⟩), x5', x6']) := by
  obtain ⟨m, e1, e2⟩ := hE.v
  have hq2 : 2 ≤ q := hE.p.1
  have he1 : 1 ≤ e := hE.e
  have hqe : q ^ e ≤ N := by
    have := Nat.le_mul_of_pos_left (q ^ e) hw0
    omega
  have hqN : q ≤ N := by
    obtain ⟨k, rfl⟩ : ∃ k, e = k + 1 := ⟨e - 1, by omega⟩
    have : 0 < q ^ k := Nat.pow_pos (by omega)
    have := Nat.le_mul_of_pos_left q this
    rw [Nat.pow_succ] at hqe
    omega
  have he29 : e ≤ 29 := by
    rcases Nat.lt_or_ge e 30 with c | c
    · omega
    · have h1 : 2 ^ 30 ≤ 2 ^ e := Nat.pow_le_pow_right (by decide) c
      have h2 : 2 ^ e ≤ q ^ e := Nat.pow_le_pow_left hq2 e
      omega
  have hv : m_valuation [.int (-(N : Int)), .int q] = some (.int e) := by
    have hm : ¬ (q : Int) ∣ -(m : Int) := fun z => e2 (by
      rw [Int.dvd_neg] at z
      exact Int.natCast_dvd_natCast.mp z)
    have := v_valuation hq2 (show q < 2 ^ 64 by omega) hm e
    have e3 : (q : Int) ^ e * -(m : Int) = -(N : Int) := by
      have e4 : N = q ^ e * m := e1
      have : (N : Int) = ((q ^ e * m : Nat) : Int) := by rw [← e4]
      rw [this]
      push_cast
      rw [Int.mul_neg]
    rw [e3] at this
    exact this
  obtain ⟨x', hin⟩ := pw_in (q := q) (e := e) (s0 := .va (.int N)) (s1 := s1) (s2 := .va (.int last)) (s6 := x6) (show q < 2 ^ 31 by omega) e 0 whole x5 (by omega) (by omega)
  have hr : rg1 (.int (e : Int)) = some (rng 0 e) := rg1_nat e (by omega)
  have hp := w_prime hE.p (show q ≤ 1000000000 by omega)
  have c0 : ((0 : Nat) : Int) = 0 := rfl
  rw [c0] at hin
  refine ⟨x', .va (.int e), ?_⟩
  unfold pwB
  (refine Eq.trans (sSeq_eq (ρ' := ?_) ?_) ?_; rotate_left; ((conv => lhs; simp (config := {decide := true}) only [runD, List.map_cons, List.map_nil, List.replicate_zero, List.replicate_succ, List.cons_append, List.nil_append, List.append_nil, sRet, sRetN, sNx, sSeq, sSet, sSetF, sOwn, sTo, gsCons, gsNil, sPar, sPar3, eChain, sExp, sApp, sPut, sIf, sFrz, frz, frz1, List.foldl_cons, List.foldl_nil, eBin, eUn, eVar, eC, eAnd, eOr, eIf, eLend, flat, eIxO, eOfF, eTup, eAll, fAll, eCall, eIs, eSl, fSl, oNone, oSome, aNil, aCons, bVal, bAnd, bOr, bNot, bYes, blOf, gNot, iSeq, iRg1, iRg2, seq_l, seq_t, tup_l, tup_t, lst_l, lst_t, len_l, len_t, gIx_l, gIx_t, gNm, wipeR, List.getElem?_cons_zero, List.getElem?_cons_succ, List.set_cons_zero, List.set_cons_succ, Option.bind_some, Option.bind_none, Option.map_some, Option.map_none, if_true, if_false, decide_true, decide_false, Bool.not_true, Bool.not_false, Bool.false_eq_true, reduceIte, gAdd_i, gSub_i, gNeg_i, gLt_i, gLe_i, gGt_i, gGe_i, gEq_i, gNe_i, gMul_b, gMod_p, gFdiv_p, Nat.reduceAdd, Nat.reduceMul, Nat.reduceLeDiff, at0, at1, at2, at3, at4, at5, at6, at7, at8, at9, at10, at11, at12, at13, at14, at15, gSl_l, cut_pos, cut_from, cut_to, Int.reduceToNat, List.drop_succ_cons, List.drop_zero, List.take_succ_cons, List.take_zero, List.take_nil, Nat.reduceSub, Int.reduceAdd, Int.reduceSub, Int.reduceMul, Int.reduceMod, Int.reduceDiv, Int.reduceNeg, List.length_cons, List.length_nil, Nat.zero_add, fComp, compL, rg1_3, mInt, mAbs, mGcd, mMax2, mMin2, mMax3, mMin3, mIsqrt, isT, w_is_row2, ix_p0, ix_p1, show ¬ (q : Int) ≤ (last : Int) by omega, show ¬ (N : Int) < (q : Int) by omega, show ¬ (e : Int) < 1 by omega, show ¬ (29 : Int) < (e : Int) by omega]); try rfl))
  refine Eq.trans (sSeq_eq (ρ' := [.va (.int N), s1, .va (.int last), .va (.int ((whole * q ^ e : Nat) : Int)), .va (r2 true ⟨q, e⟩), x', x6]) ?_) ?_
  · rw [sFor]
    simp only [iRg1, eBin, eVar, eC, List.getElem?_cons_zero, List.getElem?_cons_succ, Option.bind_some, ix_p1, hr]
    exact hin
  (refine Eq.trans (sSeq_eq (ρ' := ?_) ?_) ?_; rotate_left; ((conv => lhs; simp (config := {decide := true}) only [runD, List.map_cons, List.map_nil, List.replicate_zero, List.replicate_succ, List.cons_append, List.nil_append, List.append_nil, sRet, sRetN, sNx, sSeq, sSet, sSetF, sOwn, sTo, gsCons, gsNil, sPar, sPar3, eChain, sExp, sApp, sPut, sIf, sFrz, frz, frz1, List.foldl_cons, List.foldl_nil, eBin, eUn, eVar, eC, eAnd, eOr, eIf, eLend, flat, eIxO, eOfF, eTup, eAll, fAll, eCall, eIs, eSl, fSl, oNone, oSome, aNil, aCons, bVal, bAnd, bOr, bNot, bYes, blOf, gNot, iSeq, iRg1, iRg2, seq_l, seq_t, tup_l, tup_t, lst_l, lst_t, len_l, len_t, gIx_l, gIx_t, gNm, wipeR, List.getElem?_cons_zero, List.getElem?_cons_succ, List.set_cons_zero, List.set_cons_succ, Option.bind_some, Option.bind_none, Option.map_some, Option.map_none, if_true, if_false, decide_true, decide_false, Bool.not_true, Bool.not_false, Bool.false_eq_true, reduceIte, gAdd_i, gSub_i, gNeg_i, gLt_i, gLe_i, gGt_i, gGe_i, gEq_i, gNe_i, gMul_b, gMod_p, gFdiv_p, Nat.reduceAdd, Nat.reduceMul, Nat.reduceLeDiff, at0, at1, at2, at3, at4, at5, at6, at7, at8, at9, at10, at11, at12, at13, at14, at15, gSl_l, cut_pos, cut_from, cut_to, Int.reduceToNat, List.drop_succ_cons, List.drop_zero, List.take_succ_cons, List.take_zero, List.take_nil, Nat.reduceSub, Int.reduceAdd, Int.reduceSub, Int.reduceMul, Int.reduceMod, Int.reduceDiv, Int.reduceNeg, List.length_cons, List.length_nil, Nat.zero_add, fComp, compL, rg1_3, mInt, mAbs, mGcd, mMax2, mMin2, mMax3, mMin3, mIsqrt, isT, ix_p0, hp, show ¬ (N : Int) < ((whole * q ^ e : Nat) : Int) by omega]); try rfl))
  (refine Eq.trans (sSeq_eq (ρ' := ?_) ?_) ?_; rotate_left; ((conv => lhs; simp (config := {decide := true}) only [runD, List.map_cons, List.map_nil, List.replicate_zero, List.replicate_succ, List.cons_append, List.nil_append, List.append_nil, sRet, sRetN, sNx, sSeq, sSet, sSetF, sOwn, sTo, gsCons, gsNil, sPar, sPar3, eChain, sExp, sApp, sPut, sIf, sFrz, frz, frz1, List.foldl_cons, List.foldl_nil, eBin, eUn, eVar, eC, eAnd, eOr, eIf, eLend, flat, eIxO, eOfF, eTup, eAll, fAll, eCall, eIs, eSl, fSl, oNone, oSome, aNil, aCons, bVal, bAnd, bOr, bNot, bYes, blOf, gNot, iSeq, iRg1, iRg2, seq_l, seq_t, tup_l, tup_t, lst_l, lst_t, len_l, len_t, gIx_l, gIx_t, gNm, wipeR, List.getElem?_cons_zero, List.getElem?_cons_succ, List.set_cons_zero, List.set_cons_succ, Option.bind_some, Option.bind_none, Option.map_some, Option.map_none, if_true, if_false, decide_true, decide_false, Bool.not_true, Bool.not_false, Bool.false_eq_true, reduceIte, gAdd_i, gSub_i, gNeg_i, gLt_i, gLe_i, gGt_i, gGe_i, gEq_i, gNe_i, gMul_b, gMod_p, gFdiv_p, Nat.reduceAdd, Nat.reduceMul, Nat.reduceLeDiff, at0, at1, at2, at3, at4, at5, at6, at7, at8, at9, at10, at11, at12, at13, at14, at15, gSl_l, cut_pos, cut_from, cut_to, Int.reduceToNat, List.drop_succ_cons, List.drop_zero, List.take_succ_cons, List.take_zero, List.take_nil, Nat.reduceSub, Int.reduceAdd, Int.reduceSub, Int.reduceMul, Int.reduceMod, Int.reduceDiv, Int.reduceNeg, List.length_cons, List.length_nil, Nat.zero_add, fComp, compL, rg1_3, mInt, mAbs, mGcd, mMax2, mMin2, mMax3, mMin3, mIsqrt, isT, ix_p0, hv]); try rfl))
  (refine Eq.trans (sSeq_eq (ρ' := ?_) ?_) ?_; rotate_left; ((conv => lhs; simp (config := {decide := true}) only [runD, List.map_cons, List.map_nil, List.replicate_zero, List.replicate_succ, List.cons_append, List.nil_append, List.append_nil, sRet, sRetN, sNx, sSeq, sSet, sSetF, sOwn, sTo, gsCons, gsNil, sPar, sPar3, eChain, sExp, sApp, sPut, sIf, sFrz, frz, frz1, List.foldl_cons, List.foldl_nil, eBin, eUn, eVar, eC, eAnd, eOr, eIf, eLend, flat, eIxO, eOfF, eTup, eAll, fAll, eCall, eIs, eSl, fSl, oNone, oSome, aNil, aCons, bVal, bAnd, bOr, bNot, bYes, blOf, gNot, iSeq, iRg1, iRg2, seq_l, seq_t, tup_l, tup_t, lst_l, lst_t, len_l, len_t, gIx_l, gIx_t, gNm, wipeR, List.getElem?_cons_zero, List.getElem?_cons_succ, List.set_cons_zero, List.set_cons_succ, Option.bind_some, Option.bind_none, Option.map_some, Option.map_none, if_true, if_false, decide_true, decide_false, Bool.not_true, Bool.not_false, Bool.false_eq_true, reduceIte, gAdd_i, gSub_i, gNeg_i, gLt_i, gLe_i, gGt_i, gGe_i, gEq_i, gNe_i, gMul_b, gMod_p, gFdiv_p, Nat.reduceAdd, Nat.reduceMul, Nat.reduceLeDiff, at0, at1, at2, at3, at4, at5, at6, at7, at8, at9, at10, at11, at12, at13, at14, at15, gSl_l, cut_pos, cut_from, cut_to, Int.reduceToNat, List.drop_succ_cons, List.drop_zero, List.take_succ_cons, List.take_zero, List.take_nil, Nat.reduceSub, Int.reduceAdd, Int.reduceSub, Int.reduceMul, Int.reduceMod, Int.reduceDiv, Int.reduceNeg, List.length_cons, List.length_nil, Nat.zero_add, fComp, compL, rg1_3, mInt, mAbs, mGcd, mMax2, mMin2, mMax3, mMin3, mIsqrt, isT, ix_p1, w_whole]); try rfl))
theorem pw_go {N : Nat} {s1 : SC} (hN : N ≤ 1000000000) (hN0 : 0 < N) : ∀ (L : List (Nat × Nat)) (last whole : Nat) (x4 x5 x6 : SC), Asc last L → (∀ q ∈ L, Ent N q) → N = whole * PP L → ∃ last' x4' x5' x6', forL (gNm 4) pwB (fdata L) [.va (.int N), s1, .va (.int last), .va (.int whole), x4, x5, x6] = some (.nx [.va (.int N), s1, last', .va (.int N), x4', x5', x6'])
  | [], last, whole, x4, x5, x6, _, _, h => by
    have e : whole = N := by rw [h]; show whole = whole * 1; omega
    subst e
    exact ⟨_, x4, x5, x6, rfl⟩
  | (q, e) :: L, last, whole, x4, x5, x6, ha, hE, h => by
    cases ha with
    | cons h1 h2 =>
      have e1 : N = whole * q ^ e * PP L := by rw [h]; show whole * (q ^ e * PP L) = _; rw [Nat.mul_assoc]
      have hw0 : 0 < whole := Nat.pos_of_ne_zero fun z => by rw [z, Nat.zero_mul] at h; omega
      have hP : 1 ≤ PP L := PP_pos fun x hx => ⟨(hE x (List.mem_cons_of_mem _ hx)).p, (hE x (List.mem_cons_of_mem _ hx)).e⟩
      have hw : whole * q ^ e ≤ N := by
        rw [e1]
        exact Nat.le_mul_of_pos_right _ hP
      obtain ⟨x5', x6', eb⟩ := pw_body (s1 := s1) (x5 := x5) (x6 := x6) hN hN0 (hE _ List.mem_cons_self) h1 hw hw0
      obtain ⟨l', y4, y5, y6, ih⟩ := pw_go hN hN0 L q (whole * q ^ e) (.va (r2 true ⟨q, e⟩)) x5' x6' h2 (fun x hx => hE x (List.mem_cons_of_mem _ hx)) e1
      refine ⟨l', y4, y5, y6, ?_⟩
      have c : fdata ((q, e) :: L) = r2 true ⟨q, e⟩ :: fdata L := rfl
      rw [c]
      simp only [forL, gNm, Option.bind_some, List.set_cons_succ, List.set_cons_zero, eb]
      exact ih
theorem w_powers {n : Int} (h : 0 < n) (h2 : n ≤ 1000000000) : m__law_powers_right [.int n] = some (.bool true) := by
  obtain ⟨N, rfl⟩ : ∃ N : Nat, n = N := ⟨n.toNat, by omega⟩
  obtain ⟨L, hL, e⟩ := v_prime_powers (N := N) (by omega) (by omega)
  have hlen := few hL (by omega) (by omega)
  obtain ⟨l', x4, x5, x6, eg⟩ := pw_go (s1 := .va (.tuple (fdata L))) (show N ≤ 1000000000 by omega) (by omega) L 1 1 .un .un .un hL.asc hL.ent (by rw [Nat.one_mul]; exact hL.n)
  have hl : (fdata L).length ≤ 9 := by
    unfold fdata
    rw [List.length_map]
    exact hlen
  refine run_rt (k := 6) (u := b__law_powers_right) ?_
  simp only [List.map_cons, List.map_nil, List.replicate_succ, List.replicate_zero, List.cons_append, List.nil_append]
  unfold b__law_powers_right
  (refine Eq.trans (sSeq_eq (ρ' := ?_) ?_) ?_; rotate_left; ((conv => lhs; simp (config := {decide := true}) only [runD, List.map_cons, List.map_nil, List.replicate_zero, List.replicate_succ, List.cons_append, List.nil_append, List.append_nil, sRet, sRetN, sNx, sSeq, sSet, sSetF, sOwn, sTo, gsCons, gsNil, sPar, sPar3, eChain, sExp, sApp, sPut, sIf, sFrz, frz, frz1, List.foldl_cons, List.foldl_nil, eBin, eUn, eVar, eC, eAnd, eOr, eIf, eLend, flat, eIxO, eOfF, eTup, eAll, fAll, eCall, eIs, eSl, fSl, oNone, oSome, aNil, aCons, bVal, bAnd, bOr, bNot, bYes, blOf, gNot, iSeq, iRg1, iRg2, seq_l, seq_t, tup_l, tup_t, lst_l, lst_t, len_l, len_t, gIx_l, gIx_t, gNm, wipeR, List.getElem?_cons_zero, List.getElem?_cons_succ, List.set_cons_zero, List.set_cons_succ, Option.bind_some, Option.bind_none, Option.map_some, Option.map_none, if_true, if_false, decide_true, decide_false, Bool.not_true, Bool.not_false, Bool.false_eq_true, reduceIte, gAdd_i, gSub_i, gNeg_i, gLt_i, gLe_i, gGt_i, gGe_i, gEq_i, gNe_i, gMul_b, gMod_p, gFdiv_p, Nat.reduceAdd, Nat.reduceMul, Nat.reduceLeDiff, at0, at1, at2, at3, at4, at5, at6, at7, at8, at9, at10, at11, at12, at13, at14, at15, gSl_l, cut_pos, cut_from, cut_to, Int.reduceToNat, List.drop_succ_cons, List.drop_zero, List.take_succ_cons, List.take_zero, List.take_nil, Nat.reduceSub, Int.reduceAdd, Int.reduceSub, Int.reduceMul, Int.reduceMod, Int.reduceDiv, Int.reduceNeg, List.length_cons, List.length_nil, Nat.zero_add, fComp, compL, rg1_3, mInt, mAbs, mGcd, mMax2, mMin2, mMax3, mMin3, mIsqrt, isT, e]); try rfl))
  (refine Eq.trans (sSeq_eq (ρ' := ?_) ?_) ?_; rotate_left; ((conv => lhs; simp (config := {decide := true}) only [runD, List.map_cons, List.map_nil, List.replicate_zero, List.replicate_succ, List.cons_append, List.nil_append, List.append_nil, sRet, sRetN, sNx, sSeq, sSet, sSetF, sOwn, sTo, gsCons, gsNil, sPar, sPar3, eChain, sExp, sApp, sPut, sIf, sFrz, frz, frz1, List.foldl_cons, List.foldl_nil, eBin, eUn, eVar, eC, eAnd, eOr, eIf, eLend, flat, eIxO, eOfF, eTup, eAll, fAll, eCall, eIs, eSl, fSl, oNone, oSome, aNil, aCons, bVal, bAnd, bOr, bNot, bYes, blOf, gNot, iSeq, iRg1, iRg2, seq_l, seq_t, tup_l, tup_t, lst_l, lst_t, len_l, len_t, gIx_l, gIx_t, gNm, wipeR, List.getElem?_cons_zero, List.getElem?_cons_succ, List.set_cons_zero, List.set_cons_succ, Option.bind_some, Option.bind_none, Option.map_some, Option.map_none, if_true, if_false, decide_true, decide_false, Bool.not_true, Bool.not_false, Bool.false_eq_true, reduceIte, gAdd_i, gSub_i, gNeg_i, gLt_i, gLe_i, gGt_i, gGe_i, gEq_i, gNe_i, gMul_b, gMod_p, gFdiv_p, Nat.reduceAdd, Nat.reduceMul, Nat.reduceLeDiff, at0, at1, at2, at3, at4, at5, at6, at7, at8, at9, at10, at11, at12, at13, at14, at15, gSl_l, cut_pos, cut_from, cut_to, Int.reduceToNat, List.drop_succ_cons, List.drop_zero, List.take_succ_cons, List.take_zero, List.take_nil, Nat.reduceSub, Int.reduceAdd, Int.reduceSub, Int.reduceMul, Int.reduceMod, Int.reduceDiv, Int.reduceNeg, List.length_cons, List.length_nil, Nat.zero_add, fComp, compL, rg1_3, mInt, mAbs, mGcd, mMax2, mMin2, mMax3, mMin3, mIsqrt, isT, show ¬ (9 : Int) < ((fdata L).length : Int) by omega]); try rfl))
  (refine Eq.trans (sSeq_eq (ρ' := ?_) ?_) ?_; rotate_left; ((conv => lhs; simp (config := {decide := true}) only [runD, List.map_cons, List.map_nil, List.replicate_zero, List.replicate_succ, List.cons_append, List.nil_append, List.append_nil, sRet, sRetN, sNx, sSeq, sSet, sSetF, sOwn, sTo, gsCons, gsNil, sPar, sPar3, eChain, sExp, sApp, sPut, sIf, sFrz, frz, frz1, List.foldl_cons, List.foldl_nil, eBin, eUn, eVar, eC, eAnd, eOr, eIf, eLend, flat, eIxO, eOfF, eTup, eAll, fAll, eCall, eIs, eSl, fSl, oNone, oSome, aNil, aCons, bVal, bAnd, bOr, bNot, bYes, blOf, gNot, iSeq, iRg1, iRg2, seq_l, seq_t, tup_l, tup_t, lst_l, lst_t, len_l, len_t, gIx_l, gIx_t, gNm, wipeR, List.getElem?_cons_zero, List.getElem?_cons_succ, List.set_cons_zero, List.set_cons_succ, Option.bind_some, Option.bind_none, Option.map_some, Option.map_none, if_true, if_false, decide_true, decide_false, Bool.not_true, Bool.not_false, Bool.false_eq_true, reduceIte, gAdd_i, gSub_i, gNeg_i, gLt_i, gLe_i, gGt_i, gGe_i, gEq_i, gNe_i, gMul_b, gMod_p, gFdiv_p, Nat.reduceAdd, Nat.reduceMul, Nat.reduceLeDiff, at0, at1, at2, at3, at4, at5, at6, at7, at8, at9, at10, at11, at12, at13, at14, at15, gSl_l, cut_pos, cut_from, cut_to, Int.reduceToNat, List.drop_succ_cons, List.drop_zero, List.take_succ_cons, List.take_zero, List.take_nil, Nat.reduceSub, Int.reduceAdd, Int.reduceSub, Int.reduceMul, Int.reduceMod, Int.reduceDiv, Int.reduceNeg, List.length_cons, List.length_nil, Nat.zero_add, fComp, compL, rg1_3, mInt, mAbs, mGcd, mMax2, mMin2, mMax3, mMin3, mIsqrt, isT, e]); try rfl))
  (refine Eq.trans (sSeq_eq (ρ' := ?_) ?_) ?_; rotate_left; ((conv => lhs; simp (config := {decide := true}) only [runD, List.map_cons, List.map_nil, List.replicate_zero, List.replicate_succ, List.cons_append, List.nil_append, List.append_nil, sRet, sRetN, sNx, sSeq, sSet, sSetF, sOwn, sTo, gsCons, gsNil, sPar, sPar3, eChain, sExp, sApp, sPut, sIf, sFrz, frz, frz1, List.foldl_cons, List.foldl_nil, eBin, eUn, eVar, eC, eAnd, eOr, eIf, eLend, flat, eIxO, eOfF, eTup, eAll, fAll, eCall, eIs, eSl, fSl, oNone, oSome, aNil, aCons, bVal, bAnd, bOr, bNot, bYes, blOf, gNot, iSeq, iRg1, iRg2, seq_l, seq_t, tup_l, tup_t, lst_l, lst_t, len_l, len_t, gIx_l, gIx_t, gNm, wipeR, List.getElem?_cons_zero, List.getElem?_cons_succ, List.set_cons_zero, List.set_cons_succ, Option.bind_some, Option.bind_none, Option.map_some, Option.map_none, if_true, if_false, decide_true, decide_false, Bool.not_true, Bool.not_false, Bool.false_eq_true, reduceIte, gAdd_i, gSub_i, gNeg_i, gLt_i, gLe_i, gGt_i, gGe_i, gEq_i, gNe_i, gMul_b, gMod_p, gFdiv_p, Nat.reduceAdd, Nat.reduceMul, Nat.reduceLeDiff, at0, at1, at2, at3, at4, at5, at6, at7, at8, at9, at10, at11, at12, at13, at14, at15, gSl_l, cut_pos, cut_from, cut_to, Int.reduceToNat, List.drop_succ_cons, List.drop_zero, List.take_succ_cons, List.take_zero, List.take_nil, Nat.reduceSub, Int.reduceAdd, Int.reduceSub, Int.reduceMul, Int.reduceMod, Int.reduceDiv, Int.reduceNeg, List.length_cons, List.length_nil, Nat.zero_add, fComp, compL, rg1_3, mInt, mAbs, mGcd, mMax2, mMin2, mMax3, mMin3, mIsqrt, isT, e]); try rfl))
  refine Eq.trans (sSeq_eq (ρ' := [.va (.int N), .va (.tuple (fdata L)), l', .va (.int N), x4, x5, x6]) ?_) ?_
  · rw [sFor]
    simp only [iSeq, eVar, List.getElem?_cons_zero, List.getElem?_cons_succ, Option.bind_some, seq_t]
    exact eg
  · simp only [runD, List.map_cons, List.map_nil, List.replicate_zero, List.replicate_succ, List.cons_append, List.nil_append, List.append_nil, sRet, sRetN, sNx, sSeq, sSet, sSetF, sOwn, sTo, gsCons, gsNil, sPar, sPar3, eChain, sExp, sApp, sPut, sIf, sFrz, frz, frz1, List.foldl_cons, List.foldl_nil, eBin, eUn, eVar, eC, eAnd, eOr, eIf, eLend, flat, eIxO, eOfF, eTup, eAll, fAll, eCall, eIs, eSl, fSl, oNone, oSome, aNil, aCons, bVal, bAnd, bOr, bNot, bYes, blOf, gNot, iSeq, iRg1, iRg2, seq_l, seq_t, tup_l, tup_t, lst_l, lst_t, len_l, len_t, gIx_l, gIx_t, gNm, wipeR, List.getElem?_cons_zero, List.getElem?_cons_succ, List.set_cons_zero, List.set_cons_succ, Option.bind_some, Option.bind_none, Option.map_some, Option.map_none, if_true, if_false, decide_true, decide_false, Bool.not_true, Bool.not_false, Bool.false_eq_true, reduceIte, gAdd_i, gSub_i, gNeg_i, gLt_i, gLe_i, gGt_i, gGe_i, gEq_i, gNe_i, gMul_b, gMod_p, gFdiv_p, Nat.reduceAdd, Nat.reduceMul, Nat.reduceLeDiff, at0, at1, at2, at3, at4, at5, at6, at7, at8, at9, at10, at11, at12, at13, at14, at15, gSl_l, cut_pos, cut_from, cut_to, Int.reduceToNat, List.drop_succ_cons, List.drop_zero, List.take_succ_cons, List.take_zero, List.take_nil, Nat.reduceSub, Int.reduceAdd, Int.reduceSub, Int.reduceMul, Int.reduceMod, Int.reduceDiv, Int.reduceNeg, List.length_cons, List.length_nil, Nat.zero_add, fComp, compL, rg1_3, mInt, mAbs, mGcd, mMax2, mMin2, mMax3, mMin3, mIsqrt, isT]
/-! ### the number for the powers -/
theorem gPow_9 : gPow (.int 10) (.int 9) = some (.int 1000000000) := by
  show (if CPow 10 9 then some (PyData.int (10 ^ (9 : Int).toNat)) else none) = _
  rw [if_pos (by decide +kernel)]
  rfl
theorem fac_go {s0 s1 s2 s5 s6 : SC} : ∀ (fs : List Int) (n : Int) (x4 : SC), (∀ f ∈ fs, 1 ≤ f ∧ f ≤ 1000) → 1 ≤ n → n ≤ 1000000000 → ∃ (n' : Int) (x4' : SC), 1 ≤ n' ∧ n' ≤ 1000000000 ∧
    forL (gNm 4) (sIf (bVal (eBin gLe (eBin gMul (eVar 3) (eVar 4)) (eBin gPow (eC (.int 10)) (eC (.int 9))))) (sSet 3 (eBin gMul (eVar 3) (eVar 4))) sNx) (fs.map .int) [s0, s1, s2, .va (.int n), x4, s5, s6] = some (.nx [s0, s1, s2, .va (.int n'), x4', s5, s6])
  | [], n, x4, _, h1, h2 => ⟨n, x4, h1, h2, rfl⟩
  | f :: fs, n, x4, hf, h1, h2 => by
    obtain ⟨f1, f2⟩ := hf f List.mem_cons_self
    haveI : Bd 31 n := ⟨by omega⟩
    haveI : Bd 11 f := ⟨by omega⟩
    by_cases c : n * f ≤ 1000000000
    · have h3 : 1 * 1 ≤ n * f := Int.mul_le_mul h1 f1 (by decide) (by omega)
      obtain ⟨n', x4', q1, q2, q3⟩ := fac_go fs (n * f) (.va (.int f)) (fun g hg => hf g (List.mem_cons_of_mem _ hg)) (by omega) c
      refine ⟨n', x4', q1, q2, ?_⟩
      simp (config := {decide := true}) only [List.map_cons, forL, runD, List.map_cons, List.map_nil, List.replicate_zero, List.replicate_succ, List.cons_append, List.nil_append, List.append_nil, sRet, sRetN, sNx, sSeq, sSet, sSetF, sOwn, sTo, gsCons, gsNil, sPar, sPar3, eChain, sExp, sApp, sPut, sIf, sFrz, frz, frz1, List.foldl_cons, List.foldl_nil, eBin, eUn, eVar, eC, eAnd, eOr, eIf, eLend, flat, eIxO, eOfF, eTup, eAll, fAll, eCall, eIs, eSl, fSl, oNone, oSome, aNil, aCons, bVal, bAnd, bOr, bNot, bYes, blOf, gNot, iSeq, iRg1, iRg2, seq_l, seq_t, tup_l, tup_t, lst_l, lst_t, len_l, len_t, gIx_l, gIx_t, gNm, wipeR, List.getElem?_cons_zero, List.getElem?_cons_succ, List.set_cons_zero, List.set_cons_succ, Option.bind_some, Option.bind_none, Option.map_some, Option.map_none, if_true, if_false, decide_true, decide_false, Bool.not_true, Bool.not_false, Bool.false_eq_true, reduceIte, gAdd_i, gSub_i, gNeg_i, gLt_i, gLe_i, gGt_i, gGe_i, gEq_i, gNe_i, gMul_b, gMod_p, gFdiv_p, Nat.reduceAdd, Nat.reduceMul, Nat.reduceLeDiff, at0, at1, at2, at3, at4, at5, at6, at7, at8, at9, at10, at11, at12, at13, at14, at15, gSl_l, cut_pos, cut_from, cut_to, Int.reduceToNat, List.drop_succ_cons, List.drop_zero, List.take_succ_cons, List.take_zero, List.take_nil, Nat.reduceSub, Int.reduceAdd, Int.reduceSub, Int.reduceMul, Int.reduceMod, Int.reduceDiv, Int.reduceNeg, List.length_cons, List.length_nil, Nat.zero_add, fComp, compL, rg1_3, mInt, mAbs, mGcd, mMax2, mMin2, mMax3, mMin3, mIsqrt, isT, gPow_9, c]
      exact q3
    · obtain ⟨n', x4', q1, q2, q3⟩ := fac_go fs n (.va (.int f)) (fun g hg => hf g (List.mem_cons_of_mem _ hg)) h1 h2
      refine ⟨n', x4', q1, q2, ?_⟩
      simp (config := {decide := true}) only [List.map_cons, forL, runD, List.map_cons, List.map_nil, List.replicate_zero, List.replicate_succ, List.cons_append, List.nil_append, List.append_nil, sRet, sRetN, sNx, sSeq, sSet, sSetF, sOwn, sTo, gsCons, gsNil, sPar, sPar3, eChain, sExp, sApp, sPut, sIf, sFrz, frz, frz1, List.foldl_cons, List.foldl_nil, eBin, eUn, eVar, eC, eAnd, eOr, eIf, eLend, flat, eIxO, eOfF, eTup, eAll, fAll, eCall, eIs, eSl, fSl, oNone, oSome, aNil, aCons, bVal, bAnd, bOr, bNot, bYes, blOf, gNot, iSeq, iRg1, iRg2, seq_l, seq_t, tup_l, tup_t, lst_l, lst_t, len_l, len_t, gIx_l, gIx_t, gNm, wipeR, List.getElem?_cons_zero, List.getElem?_cons_succ, List.set_cons_zero, List.set_cons_succ, Option.bind_some, Option.bind_none, Option.map_some, Option.map_none, if_true, if_false, decide_true, decide_false, Bool.not_true, Bool.not_false, Bool.false_eq_true, reduceIte, gAdd_i, gSub_i, gNeg_i, gLt_i, gLe_i, gGt_i, gGe_i, gEq_i, gNe_i, gMul_b, gMod_p, gFdiv_p, Nat.reduceAdd, Nat.reduceMul, Nat.reduceLeDiff, at0, at1, at2, at3, at4, at5, at6, at7, at8, at9, at10, at11, at12, at13, at14, at15, gSl_l, cut_pos, cut_from, cut_to, Int.reduceToNat, List.drop_succ_cons, List.drop_zero, List.take_succ_cons, List.take_zero, List.take_nil, Nat.reduceSub, Int.reduceAdd, Int.reduceSub, Int.reduceMul, Int.reduceMod, Int.reduceDiv, Int.reduceNeg, List.length_cons, List.length_nil, Nat.zero_add, fComp, compL, rg1_3, mInt, mAbs, mGcd, mMax2, mMin2, mMax3, mMin3, mIsqrt, isT, gPow_9, c]
      exact q3
theorem comp_two {g : Rho} {v : Int} (h : ∀ d, (eBin gAdd (eC (.int 2)) (eBin gMod (eAll mInt (aCons (eBin gIx (eVar 1) (eC (.int 4))) aNil)) (eC (.int 9)))) (g.set 6 (.va d)) = some (.int v)) : ∀ ds : List PyData, compL (gNm 6) bYes (eBin gAdd (eC (.int 2)) (eBin gMod (eAll mInt (aCons (eBin gIx (eVar 1) (eC (.int 4))) aNil)) (eC (.int 9)))) g ds = some ((List.replicate ds.length v).map .int)
  | [] => rfl
  | d :: ds => by
    rw [compL]
    simp only [gNm, Option.bind_some, bYes, if_true, h d, comp_two h ds]
    rfl
theorem comp_one {g : Rho} (hg : 5 < g.length) : ∀ ds : List Int, compL (gNm 5) bYes (eBin gAdd (eC (.int 1)) (eVar 5)) g (ds.map .int) = some ((ds.map (1 + ·)).map .int)
  | [] => rfl
  | d :: ds => by
    rw [List.map_cons, compL]
    simp only [gNm, Option.bind_some, bYes, if_true, eBin, eC, eVar, List.getElem?_set_self hg, gAdd_i, comp_one hg ds]
    rfl
theorem inD_lt {M : Int} : ∀ {ds ls : List Int}, inD ds ls → (∀ l ∈ ls, l ≤ M) → ∀ d ∈ ds, 0 ≤ d ∧ d < M
  | [], _, _, _, d, hd => by simp at hd
  | x :: ds, [], h, _, d, hd => h.elim
  | x :: ds, l :: ls, h, hl, d, hd => by
    rcases List.mem_cons.mp hd with rfl | hd
    · have := hl l List.mem_cons_self
      exact ⟨h.1, by have := h.2.1; omega⟩
    · exact inD_lt h.2.2 (fun x hx => hl x (List.mem_cons_of_mem _ hx)) d hd
theorem w_nfp (c : Int) : ∃ n, 1 ≤ n ∧ n ≤ 1000000000 ∧ m__law_number_for_powers [.int c] = some (.int n) := by
  obtain ⟨ds, q1, q2⟩ := w_digits c [8, 30, 1000, 7, 97, 97, 97, 97, 97, 97, 30, 31622, 31623, 31623, 100] (by decide) (by decide)
  obtain ⟨d0, r, rfl, a0, b0, q1⟩ := inD_cons q1
  obtain ⟨d1, r, rfl, a1, b1, q1⟩ := inD_cons q1
  obtain ⟨d2, r, rfl, a2, b2, q1⟩ := inD_cons q1
  obtain ⟨d3, r, rfl, a3, b3, q1⟩ := inD_cons q1
  obtain ⟨d4, r, rfl, a4, b4, q1⟩ := inD_cons q1
  obtain ⟨d5, r, rfl, a5, b5, q1⟩ := inD_cons q1
  obtain ⟨d6, r, rfl, a6, b6, q1⟩ := inD_cons q1
  obtain ⟨d7, r, rfl, a7, b7, q1⟩ := inD_cons q1
  obtain ⟨d8, r, rfl, a8, b8, q1⟩ := inD_cons q1
  obtain ⟨d9, r, rfl, a9, b9, q1⟩ := inD_cons q1
  obtain ⟨d10, r, rfl, a10, b10, q1⟩ := inD_cons q1
  obtain ⟨d11, r, rfl, a11, b11, q1⟩ := inD_cons q1
  obtain ⟨d12, r, rfl, a12, b12, q1⟩ := inD_cons q1
  obtain ⟨d13, r, rfl, a13, b13, q1⟩ := inD_cons q1
  obtain ⟨d14, r, rfl, a14, b14, q1⟩ := inD_cons q1
  obtain rfl := inD_nil q1
  simp only [List.map_cons, List.map_nil] at q2
  by_cases h0 : d0 = 0
  · exact ⟨1 + d1, by omega, by omega, by simp (config := {decide := true}) only [m__law_number_for_powers, b__law_number_for_powers, runD, List.map_cons, List.map_nil, List.replicate_zero, List.replicate_succ, List.cons_append, List.nil_append, List.append_nil, sRet, sRetN, sNx, sSeq, sSet, sSetF, sOwn, sTo, gsCons, gsNil, sPar, sPar3, eChain, sExp, sApp, sPut, sIf, sFrz, frz, frz1, List.foldl_cons, List.foldl_nil, eBin, eUn, eVar, eC, eAnd, eOr, eIf, eLend, flat, eIxO, eOfF, eTup, eAll, fAll, eCall, eIs, eSl, fSl, oNone, oSome, aNil, aCons, bVal, bAnd, bOr, bNot, bYes, blOf, gNot, iSeq, iRg1, iRg2, seq_l, seq_t, tup_l, tup_t, lst_l, lst_t, len_l, len_t, gIx_l, gIx_t, gNm, wipeR, List.getElem?_cons_zero, List.getElem?_cons_succ, List.set_cons_zero, List.set_cons_succ, Option.bind_some, Option.bind_none, Option.map_some, Option.map_none, if_true, if_false, decide_true, decide_false, Bool.not_true, Bool.not_false, Bool.false_eq_true, reduceIte, gAdd_i, gSub_i, gNeg_i, gLt_i, gLe_i, gGt_i, gGe_i, gEq_i, gNe_i, gMul_b, gMod_p, gFdiv_p, Nat.reduceAdd, Nat.reduceMul, Nat.reduceLeDiff, at0, at1, at2, at3, at4, at5, at6, at7, at8, at9, at10, at11, at12, at13, at14, at15, gSl_l, cut_pos, cut_from, cut_to, Int.reduceToNat, List.drop_succ_cons, List.drop_zero, List.take_succ_cons, List.take_zero, List.take_nil, Nat.reduceSub, Int.reduceAdd, Int.reduceSub, Int.reduceMul, Int.reduceMod, Int.reduceDiv, Int.reduceNeg, List.length_cons, List.length_nil, Nat.zero_add, fComp, compL, rg1_3, mInt, mAbs, mGcd, mMax2, mMin2, mMax3, mMin3, mIsqrt, isT, q2, h0]⟩
  by_cases h1 : d0 = 1
  · exact ⟨1 + d2, by omega, by omega, by simp (config := {decide := true}) only [m__law_number_for_powers, b__law_number_for_powers, runD, List.map_cons, List.map_nil, List.replicate_zero, List.replicate_succ, List.cons_append, List.nil_append, List.append_nil, sRet, sRetN, sNx, sSeq, sSet, sSetF, sOwn, sTo, gsCons, gsNil, sPar, sPar3, eChain, sExp, sApp, sPut, sIf, sFrz, frz, frz1, List.foldl_cons, List.foldl_nil, eBin, eUn, eVar, eC, eAnd, eOr, eIf, eLend, flat, eIxO, eOfF, eTup, eAll, fAll, eCall, eIs, eSl, fSl, oNone, oSome, aNil, aCons, bVal, bAnd, bOr, bNot, bYes, blOf, gNot, iSeq, iRg1, iRg2, seq_l, seq_t, tup_l, tup_t, lst_l, lst_t, len_l, len_t, gIx_l, gIx_t, gNm, wipeR, List.getElem?_cons_zero, List.getElem?_cons_succ, List.set_cons_zero, List.set_cons_succ, Option.bind_some, Option.bind_none, Option.map_some, Option.map_none, if_true, if_false, decide_true, decide_false, Bool.not_true, Bool.not_false, Bool.false_eq_true, reduceIte, gAdd_i, gSub_i, gNeg_i, gLt_i, gLe_i, gGt_i, gGe_i, gEq_i, gNe_i, gMul_b, gMod_p, gFdiv_p, Nat.reduceAdd, Nat.reduceMul, Nat.reduceLeDiff, at0, at1, at2, at3, at4, at5, at6, at7, at8, at9, at10, at11, at12, at13, at14, at15, gSl_l, cut_pos, cut_from, cut_to, Int.reduceToNat, List.drop_succ_cons, List.drop_zero, List.take_succ_cons, List.take_zero, List.take_nil, Nat.reduceSub, Int.reduceAdd, Int.reduceSub, Int.reduceMul, Int.reduceMod, Int.reduceDiv, Int.reduceNeg, List.length_cons, List.length_nil, Nat.zero_add, fComp, compL, rg1_3, mInt, mAbs, mGcd, mMax2, mMin2, mMax3, mMin3, mIsqrt, isT, q2, h1]⟩
  by_cases h5 : d0 = 5
  · haveI : Bd 16 (1 + d11) := ⟨by omega⟩
    have p1 : 1 * 1 ≤ (1 + d11) * (1 + d11) := Int.mul_le_mul (by omega) (by omega) (by decide) (by omega)
    have p2 : (1 + d11) * (1 + d11) ≤ 31622 * 31622 := Int.mul_le_mul (by omega) (by omega) (by omega) (by decide)
    exact ⟨(1 + d11) * (1 + d11), by omega, by omega, by simp (config := {decide := true}) only [m__law_number_for_powers, b__law_number_for_powers, runD, List.map_cons, List.map_nil, List.replicate_zero, List.replicate_succ, List.cons_append, List.nil_append, List.append_nil, sRet, sRetN, sNx, sSeq, sSet, sSetF, sOwn, sTo, gsCons, gsNil, sPar, sPar3, eChain, sExp, sApp, sPut, sIf, sFrz, frz, frz1, List.foldl_cons, List.foldl_nil, eBin, eUn, eVar, eC, eAnd, eOr, eIf, eLend, flat, eIxO, eOfF, eTup, eAll, fAll, eCall, eIs, eSl, fSl, oNone, oSome, aNil, aCons, bVal, bAnd, bOr, bNot, bYes, blOf, gNot, iSeq, iRg1, iRg2, seq_l, seq_t, tup_l, tup_t, lst_l, lst_t, len_l, len_t, gIx_l, gIx_t, gNm, wipeR, List.getElem?_cons_zero, List.getElem?_cons_succ, List.set_cons_zero, List.set_cons_succ, Option.bind_some, Option.bind_none, Option.map_some, Option.map_none, if_true, if_false, decide_true, decide_false, Bool.not_true, Bool.not_false, Bool.false_eq_true, reduceIte, gAdd_i, gSub_i, gNeg_i, gLt_i, gLe_i, gGt_i, gGe_i, gEq_i, gNe_i, gMul_b, gMod_p, gFdiv_p, Nat.reduceAdd, Nat.reduceMul, Nat.reduceLeDiff, at0, at1, at2, at3, at4, at5, at6, at7, at8, at9, at10, at11, at12, at13, at14, at15, gSl_l, cut_pos, cut_from, cut_to, Int.reduceToNat, List.drop_succ_cons, List.drop_zero, List.take_succ_cons, List.take_zero, List.take_nil, Nat.reduceSub, Int.reduceAdd, Int.reduceSub, Int.reduceMul, Int.reduceMod, Int.reduceDiv, Int.reduceNeg, List.length_cons, List.length_nil, Nat.zero_add, fComp, compL, rg1_3, mInt, mAbs, mGcd, mMax2, mMin2, mMax3, mMin3, mIsqrt, isT, q2, h5]⟩
  by_cases h6 : d0 = 6
  · exact ⟨1000000000 - d14, by omega, by omega, by simp (config := {decide := true}) only [m__law_number_for_powers, b__law_number_for_powers, runD, List.map_cons, List.map_nil, List.replicate_zero, List.replicate_succ, List.cons_append, List.nil_append, List.append_nil, sRet, sRetN, sNx, sSeq, sSet, sSetF, sOwn, sTo, gsCons, gsNil, sPar, sPar3, eChain, sExp, sApp, sPut, sIf, sFrz, frz, frz1, List.foldl_cons, List.foldl_nil, eBin, eUn, eVar, eC, eAnd, eOr, eIf, eLend, flat, eIxO, eOfF, eTup, eAll, fAll, eCall, eIs, eSl, fSl, oNone, oSome, aNil, aCons, bVal, bAnd, bOr, bNot, bYes, blOf, gNot, iSeq, iRg1, iRg2, seq_l, seq_t, tup_l, tup_t, lst_l, lst_t, len_l, len_t, gIx_l, gIx_t, gNm, wipeR, List.getElem?_cons_zero, List.getElem?_cons_succ, List.set_cons_zero, List.set_cons_succ, Option.bind_some, Option.bind_none, Option.map_some, Option.map_none, if_true, if_false, decide_true, decide_false, Bool.not_true, Bool.not_false, Bool.false_eq_true, reduceIte, gAdd_i, gSub_i, gNeg_i, gLt_i, gLe_i, gGt_i, gGe_i, gEq_i, gNe_i, gMul_b, gMod_p, gFdiv_p, Nat.reduceAdd, Nat.reduceMul, Nat.reduceLeDiff, at0, at1, at2, at3, at4, at5, at6, at7, at8, at9, at10, at11, at12, at13, at14, at15, gSl_l, cut_pos, cut_from, cut_to, Int.reduceToNat, List.drop_succ_cons, List.drop_zero, List.take_succ_cons, List.take_zero, List.take_nil, Nat.reduceSub, Int.reduceAdd, Int.reduceSub, Int.reduceMul, Int.reduceMod, Int.reduceDiv, Int.reduceNeg, List.length_cons, List.length_nil, Nat.zero_add, fComp, compL, rg1_3, mInt, mAbs, mGcd, mMax2, mMin2, mMax3, mMin3, mIsqrt, isT, q2, h6, gPow_9]⟩
  by_cases h7 : d0 = 7
  · haveI : Bd 16 d12 := ⟨by omega⟩
    exact ⟨1 + (d12 * 31623 + d13) % 1000000000, by omega, by omega, by simp (config := {decide := true}) only [m__law_number_for_powers, b__law_number_for_powers, runD, List.map_cons, List.map_nil, List.replicate_zero, List.replicate_succ, List.cons_append, List.nil_append, List.append_nil, sRet, sRetN, sNx, sSeq, sSet, sSetF, sOwn, sTo, gsCons, gsNil, sPar, sPar3, eChain, sExp, sApp, sPut, sIf, sFrz, frz, frz1, List.foldl_cons, List.foldl_nil, eBin, eUn, eVar, eC, eAnd, eOr, eIf, eLend, flat, eIxO, eOfF, eTup, eAll, fAll, eCall, eIs, eSl, fSl, oNone, oSome, aNil, aCons, bVal, bAnd, bOr, bNot, bYes, blOf, gNot, iSeq, iRg1, iRg2, seq_l, seq_t, tup_l, tup_t, lst_l, lst_t, len_l, len_t, gIx_l, gIx_t, gNm, wipeR, List.getElem?_cons_zero, List.getElem?_cons_succ, List.set_cons_zero, List.set_cons_succ, Option.bind_some, Option.bind_none, Option.map_some, Option.map_none, if_true, if_false, decide_true, decide_false, Bool.not_true, Bool.not_false, Bool.false_eq_true, reduceIte, gAdd_i, gSub_i, gNeg_i, gLt_i, gLe_i, gGt_i, gGe_i, gEq_i, gNe_i, gMul_b, gMod_p, gFdiv_p, Nat.reduceAdd, Nat.reduceMul, Nat.reduceLeDiff, at0, at1, at2, at3, at4, at5, at6, at7, at8, at9, at10, at11, at12, at13, at14, at15, gSl_l, cut_pos, cut_from, cut_to, Int.reduceToNat, List.drop_succ_cons, List.drop_zero, List.take_succ_cons, List.take_zero, List.take_nil, Nat.reduceSub, Int.reduceAdd, Int.reduceSub, Int.reduceMul, Int.reduceMod, Int.reduceDiv, Int.reduceNeg, List.length_cons, List.length_nil, Nat.zero_add, fComp, compL, rg1_3, mInt, mAbs, mGcd, mMax2, mMin2, mMax3, mMin3, mIsqrt, isT, q2, h7, gPow_9]⟩
  let sl : List Int := ([d4, d5, d6, d7, d8, d9, d10, d11, d12, d13, d14]).take d3.toNat
  have hsl : ∀ f ∈ sl.map (1 + ·), 1 ≤ f ∧ f ≤ 1000 := by
    intro f hf
    obtain ⟨x, hx, rfl⟩ := List.mem_map.mp hf
    have hx6 : x ∈ [d4, d5, d6, d7, d8, d9] := by
      have : sl = ([d4, d5, d6, d7, d8, d9]).take d3.toNat := by
        show ([d4, d5, d6, d7, d8, d9] ++ [d10, d11, d12, d13, d14]).take d3.toNat = _
        rw [List.take_append_of_le_length (by simp; omega)]
      rw [this] at hx
      exact List.mem_of_mem_take hx
    simp only [List.mem_cons, List.not_mem_nil, or_false] at hx6
    rcases hx6 with rfl | rfl | rfl | rfl | rfl | rfl <;> omega
  have hcut : cutD ([d0, d1, d2, d3, d4, d5, d6, d7, d8, d9, d10, d11, d12, d13, d14].map PyData.int) (some 4) (some (4 + d3)) = sl.map PyData.int := by
    rw [cut_pos (by decide) (by omega)]
    show (([d4, d5, d6, d7, d8, d9, d10, d11, d12, d13, d14]).map PyData.int).take _ = _
    rw [List.map_take]
    congr 1
    omega
  have hsl2 : (sl.map PyData.int).length ≤ 16000000 := by
    rw [List.length_map]
    have : sl.length ≤ 11 := by
      show (List.take _ _).length ≤ 11
      rw [List.length_take]
      simp
      omega
    omega
  simp only [List.map_cons, List.map_nil] at hcut
  refine Exists.elim (?_ : ∃ n : Int, 1 ≤ n ∧ n ≤ 1000000000 ∧ b__law_number_for_powers [.va (.int c), .un, .un, .un, .un, .un, .un] = some (.rt (.int n))) fun n hn => ⟨n, hn.1, hn.2.1, run_rt (k := 6) hn.2.2⟩
  have hcase : ∃ fs : List Int, (∀ f ∈ fs, 1 ≤ f ∧ f ≤ 1000) ∧ (sIf (bVal (eBin gEq (eBin gIx (eVar 1) (eC (.int 0))) (eC (.int 4)))) (sSetF 2 (fComp (iRg1 (eBin gIx (eVar 1) (eC (.int 10)))) (gNm 6) bYes (eBin gAdd (eC (.int 2)) (eBin gMod (eAll mInt (aCons (eBin gIx (eVar 1) (eC (.int 4))) aNil)) (eC (.int 9)))) [6])) sNx) [.va (.int c), .va (.list [.int d0, .int d1, .int d2, .int d3, .int d4, .int d5, .int d6, .int d7, .int d8, .int d9, .int d10, .int d11, .int d12, .int d13, .int d14]), .va (.list ((sl.map (1 + ·)).map PyData.int)), .un, .un, .un, .un] = some (.nx [.va (.int c), .va (.list [.int d0, .int d1, .int d2, .int d3, .int d4, .int d5, .int d6, .int d7, .int d8, .int d9, .int d10, .int d11, .int d12, .int d13, .int d14]), .va (.list (fs.map PyData.int)), .un, .un, .un, .un]) := by
    by_cases h4 : d0 = 4
    · obtain ⟨n, rfl⟩ : ∃ n : Nat, d10 = n := ⟨d10.toNat, by omega⟩
      have hr : rg1 (.int (n : Int)) = some (rng 0 n) := rg1_nat n (by omega)
      have hrl : (rng 0 n).length ≤ 16000000 := by rw [rng_len]; omega
      refine ⟨List.replicate n (2 + d4 % 9), fun f hf => ?_, ?_⟩
      · obtain ⟨_, rfl⟩ := List.mem_replicate.mp hf
        omega
      · have hcmp := comp_two (g := [.va (.int c), .va (.list [.int d0, .int d1, .int d2, .int d3, .int d4, .int d5, .int d6, .int d7, .int d8, .int d9, .int n, .int d11, .int d12, .int d13, .int d14]), .va (.list ((sl.map (1 + ·)).map PyData.int)), .un, .un, .un, .un]) (v := 2 + d4 % 9) (fun d => by simp (config := {decide := true}) only [runD, List.map_cons, List.map_nil, List.replicate_zero, List.replicate_succ, List.cons_append, List.nil_append, List.append_nil, sRet, sRetN, sNx, sSeq, sSet, sSetF, sOwn, sTo, gsCons, gsNil, sPar, sPar3, eChain, sExp, sApp, sPut, sIf, sFrz, frz, frz1, List.foldl_cons, List.foldl_nil, eBin, eUn, eVar, eC, eAnd, eOr, eIf, eLend, flat, eIxO, eOfF, eTup, eAll, fAll, eCall, eIs, eSl, fSl, oNone, oSome, aNil, aCons, bVal, bAnd, bOr, bNot, bYes, blOf, gNot, iSeq, iRg1, iRg2, seq_l, seq_t, tup_l, tup_t, lst_l, lst_t, len_l, len_t, gIx_l, gIx_t, gNm, wipeR, List.getElem?_cons_zero, List.getElem?_cons_succ, List.set_cons_zero, List.set_cons_succ, Option.bind_some, Option.bind_none, Option.map_some, Option.map_none, if_true, if_false, decide_true, decide_false, Bool.not_true, Bool.not_false, Bool.false_eq_true, reduceIte, gAdd_i, gSub_i, gNeg_i, gLt_i, gLe_i, gGt_i, gGe_i, gEq_i, gNe_i, gMul_b, gMod_p, gFdiv_p, Nat.reduceAdd, Nat.reduceMul, Nat.reduceLeDiff, at0, at1, at2, at3, at4, at5, at6, at7, at8, at9, at10, at11, at12, at13, at14, at15, gSl_l, cut_pos, cut_from, cut_to, Int.reduceToNat, List.drop_succ_cons, List.drop_zero, List.take_succ_cons, List.take_zero, List.take_nil, Nat.reduceSub, Int.reduceAdd, Int.reduceSub, Int.reduceMul, Int.reduceMod, Int.reduceDiv, Int.reduceNeg, List.length_cons, List.length_nil, Nat.zero_add, fComp, compL, rg1_3, mInt, mAbs, mGcd, mMax2, mMin2, mMax3, mMin3, mIsqrt, isT]) (rng 0 n)
        rw [rng_len] at hcmp
        simp only [sIf, bVal, eBin, eVar, eC, List.getElem?_cons_zero, List.getElem?_cons_succ, Option.bind_some, gIx_l, at0, at10, gEq_i, h4, decide_true, blOf, if_true, sSetF, fComp, iRg1, hr, hrl, wipeR, List.set_cons_succ, List.set_cons_zero]
        simp only [eBin, eC, eVar, h4] at hcmp
        rw [hcmp]
        rfl
    · exact ⟨sl.map (1 + ·), hsl, by simp (config := {decide := true}) only [runD, List.map_cons, List.map_nil, List.replicate_zero, List.replicate_succ, List.cons_append, List.nil_append, List.append_nil, sRet, sRetN, sNx, sSeq, sSet, sSetF, sOwn, sTo, gsCons, gsNil, sPar, sPar3, eChain, sExp, sApp, sPut, sIf, sFrz, frz, frz1, List.foldl_cons, List.foldl_nil, eBin, eUn, eVar, eC, eAnd, eOr, eIf, eLend, flat, eIxO, eOfF, eTup, eAll, fAll, eCall, eIs, eSl, fSl, oNone, oSome, aNil, aCons, bVal, bAnd, bOr, bNot, bYes, blOf, gNot, iSeq, iRg1, iRg2, seq_l, seq_t, tup_l, tup_t, lst_l, lst_t, len_l, len_t, gIx_l, gIx_t, gNm, wipeR, List.getElem?_cons_zero, List.getElem?_cons_succ, List.set_cons_zero, List.set_cons_succ, Option.bind_some, Option.bind_none, Option.map_some, Option.map_none, if_true, if_false, decide_true, decide_false, Bool.not_true, Bool.not_false, Bool.false_eq_true, reduceIte, gAdd_i, gSub_i, gNeg_i, gLt_i, gLe_i, gGt_i, gGe_i, gEq_i, gNe_i, gMul_b, gMod_p, gFdiv_p, Nat.reduceAdd, Nat.reduceMul, Nat.reduceLeDiff, at0, at1, at2, at3, at4, at5, at6, at7, at8, at9, at10, at11, at12, at13, at14, at15, gSl_l, cut_pos, cut_from, cut_to, Int.reduceToNat, List.drop_succ_cons, List.drop_zero, List.take_succ_cons, List.take_zero, List.take_nil, Nat.reduceSub, Int.reduceAdd, Int.reduceSub, Int.reduceMul, Int.reduceMod, Int.reduceDiv, Int.reduceNeg, List.length_cons, List.length_nil, Nat.zero_add, fComp, compL, rg1_3, mInt, mAbs, mGcd, mMax2, mMin2, mMax3, mMin3, mIsqrt, isT, h4]⟩
  obtain ⟨fs, hf, ef⟩ := hcase
  refine Exists.elim (fac_go (s0 := .va (.int c)) (s1 := .va (.list [.int d0, .int d1, .int d2, .int d3, .int d4, .int d5, .int d6, .int d7, .int d8, .int d9, .int d10, .int d11, .int d12, .int d13, .int d14])) (s2 := .va (.list (fs.map PyData.int))) (s5 := .un) (s6 := .un) fs 1 .un hf (by decide) (by decide)) fun n hn => ?_
  obtain ⟨x4, n1, n2, n3⟩ := hn
  refine ⟨n, n1, n2, ?_⟩
  unfold b__law_number_for_powers
  (refine Eq.trans (sSeq_eq (ρ' := ?_) ?_) ?_; rotate_left; ((conv => lhs; simp (config := {decide := true}) only [runD, List.map_cons, List.map_nil, List.replicate_zero, List.replicate_succ, List.cons_append, List.nil_append, List.append_nil, sRet, sRetN, sNx, sSeq, sSet, sSetF, sOwn, sTo, gsCons, gsNil, sPar, sPar3, eChain, sExp, sApp, sPut, sIf, sFrz, frz, frz1, List.foldl_cons, List.foldl_nil, eBin, eUn, eVar, eC, eAnd, eOr, eIf, eLend, flat, eIxO, eOfF, eTup, eAll, fAll, eCall, eIs, eSl, fSl, oNone, oSome, aNil, aCons, bVal, bAnd, bOr, bNot, bYes, blOf, gNot, iSeq, iRg1, iRg2, seq_l, seq_t, tup_l, tup_t, lst_l, lst_t, len_l, len_t, gIx_l, gIx_t, gNm, wipeR, List.getElem?_cons_zero, List.getElem?_cons_succ, List.set_cons_zero, List.set_cons_succ, Option.bind_some, Option.bind_none, Option.map_some, Option.map_none, if_true, if_false, decide_true, decide_false, Bool.not_true, Bool.not_false, Bool.false_eq_true, reduceIte, gAdd_i, gSub_i, gNeg_i, gLt_i, gLe_i, gGt_i, gGe_i, gEq_i, gNe_i, gMul_b, gMod_p, gFdiv_p, Nat.reduceAdd, Nat.reduceMul, Nat.reduceLeDiff, at0, at1, at2, at3, at4, at5, at6, at7, at8, at9, at10, at11, at12, at13, at14, at15, gSl_l, cut_pos, cut_from, cut_to, Int.reduceToNat, List.drop_succ_cons, List.drop_zero, List.take_succ_cons, List.take_zero, List.take_nil, Nat.reduceSub, Int.reduceAdd, Int.reduceSub, Int.reduceMul, Int.reduceMod, Int.reduceDiv, Int.reduceNeg, List.length_cons, List.length_nil, Nat.zero_add, fComp, compL, rg1_3, mInt, mAbs, mGcd, mMax2, mMin2, mMax3, mMin3, mIsqrt, isT, q2]); try rfl))
  (refine Eq.trans (sSeq_eq (ρ' := ?_) ?_) ?_; rotate_left; ((conv => lhs; simp (config := {decide := true}) only [runD, List.map_cons, List.map_nil, List.replicate_zero, List.replicate_succ, List.cons_append, List.nil_append, List.append_nil, sRet, sRetN, sNx, sSeq, sSet, sSetF, sOwn, sTo, gsCons, gsNil, sPar, sPar3, eChain, sExp, sApp, sPut, sIf, sFrz, frz, frz1, List.foldl_cons, List.foldl_nil, eBin, eUn, eVar, eC, eAnd, eOr, eIf, eLend, flat, eIxO, eOfF, eTup, eAll, fAll, eCall, eIs, eSl, fSl, oNone, oSome, aNil, aCons, bVal, bAnd, bOr, bNot, bYes, blOf, gNot, iSeq, iRg1, iRg2, seq_l, seq_t, tup_l, tup_t, lst_l, lst_t, len_l, len_t, gIx_l, gIx_t, gNm, wipeR, List.getElem?_cons_zero, List.getElem?_cons_succ, List.set_cons_zero, List.set_cons_succ, Option.bind_some, Option.bind_none, Option.map_some, Option.map_none, if_true, if_false, decide_true, decide_false, Bool.not_true, Bool.not_false, Bool.false_eq_true, reduceIte, gAdd_i, gSub_i, gNeg_i, gLt_i, gLe_i, gGt_i, gGe_i, gEq_i, gNe_i, gMul_b, gMod_p, gFdiv_p, Nat.reduceAdd, Nat.reduceMul, Nat.reduceLeDiff, at0, at1, at2, at3, at4, at5, at6, at7, at8, at9, at10, at11, at12, at13, at14, at15, gSl_l, cut_pos, cut_from, cut_to, Int.reduceToNat, List.drop_succ_cons, List.drop_zero, List.take_succ_cons, List.take_zero, List.take_nil, Nat.reduceSub, Int.reduceAdd, Int.reduceSub, Int.reduceMul, Int.reduceMod, Int.reduceDiv, Int.reduceNeg, List.length_cons, List.length_nil, Nat.zero_add, fComp, compL, rg1_3, mInt, mAbs, mGcd, mMax2, mMin2, mMax3, mMin3, mIsqrt, isT, h0]); try rfl))
  (refine Eq.trans (sSeq_eq (ρ' := ?_) ?_) ?_; rotate_left; ((conv => lhs; simp (config := {decide := true}) only [runD, List.map_cons, List.map_nil, List.replicate_zero, List.replicate_succ, List.cons_append, List.nil_append, List.append_nil, sRet, sRetN, sNx, sSeq, sSet, sSetF, sOwn, sTo, gsCons, gsNil, sPar, sPar3, eChain, sExp, sApp, sPut, sIf, sFrz, frz, frz1, List.foldl_cons, List.foldl_nil, eBin, eUn, eVar, eC, eAnd, eOr, eIf, eLend, flat, eIxO, eOfF, eTup, eAll, fAll, eCall, eIs, eSl, fSl, oNone, oSome, aNil, aCons, bVal, bAnd, bOr, bNot, bYes, blOf, gNot, iSeq, iRg1, iRg2, seq_l, seq_t, tup_l, tup_t, lst_l, lst_t, len_l, len_t, gIx_l, gIx_t, gNm, wipeR, List.getElem?_cons_zero, List.getElem?_cons_succ, List.set_cons_zero, List.set_cons_succ, Option.bind_some, Option.bind_none, Option.map_some, Option.map_none, if_true, if_false, decide_true, decide_false, Bool.not_true, Bool.not_false, Bool.false_eq_true, reduceIte, gAdd_i, gSub_i, gNeg_i, gLt_i, gLe_i, gGt_i, gGe_i, gEq_i, gNe_i, gMul_b, gMod_p, gFdiv_p, Nat.reduceAdd, Nat.reduceMul, Nat.reduceLeDiff, at0, at1, at2, at3, at4, at5, at6, at7, at8, at9, at10, at11, at12, at13, at14, at15, gSl_l, cut_pos, cut_from, cut_to, Int.reduceToNat, List.drop_succ_cons, List.drop_zero, List.take_succ_cons, List.take_zero, List.take_nil, Nat.reduceSub, Int.reduceAdd, Int.reduceSub, Int.reduceMul, Int.reduceMod, Int.reduceDiv, Int.reduceNeg, List.length_cons, List.length_nil, Nat.zero_add, fComp, compL, rg1_3, mInt, mAbs, mGcd, mMax2, mMin2, mMax3, mMin3, mIsqrt, isT, h1]); try rfl))
  (refine Eq.trans (sSeq_eq (ρ' := ?_) ?_) ?_; rotate_left; ((conv => lhs; simp (config := {decide := true}) only [runD, List.map_cons, List.map_nil, List.replicate_zero, List.replicate_succ, List.cons_append, List.nil_append, List.append_nil, sRet, sRetN, sNx, sSeq, sSet, sSetF, sOwn, sTo, gsCons, gsNil, sPar, sPar3, eChain, sExp, sApp, sPut, sIf, sFrz, frz, frz1, List.foldl_cons, List.foldl_nil, eBin, eUn, eVar, eC, eAnd, eOr, eIf, eLend, flat, eIxO, eOfF, eTup, eAll, fAll, eCall, eIs, eSl, fSl, oNone, oSome, aNil, aCons, bVal, bAnd, bOr, bNot, bYes, blOf, gNot, iSeq, iRg1, iRg2, seq_l, seq_t, tup_l, tup_t, lst_l, lst_t, len_l, len_t, gIx_l, gIx_t, gNm, wipeR, List.getElem?_cons_zero, List.getElem?_cons_succ, List.set_cons_zero, List.set_cons_succ, Option.bind_some, Option.bind_none, Option.map_some, Option.map_none, if_true, if_false, decide_true, decide_false, Bool.not_true, Bool.not_false, Bool.false_eq_true, reduceIte, gAdd_i, gSub_i, gNeg_i, gLt_i, gLe_i, gGt_i, gGe_i, gEq_i, gNe_i, gMul_b, gMod_p, gFdiv_p, Nat.reduceAdd, Nat.reduceMul, Nat.reduceLeDiff, at0, at1, at2, at3, at4, at5, at6, at7, at8, at9, at10, at11, at12, at13, at14, at15, gSl_l, cut_pos, cut_from, cut_to, Int.reduceToNat, List.drop_succ_cons, List.drop_zero, List.take_succ_cons, List.take_zero, List.take_nil, Nat.reduceSub, Int.reduceAdd, Int.reduceSub, Int.reduceMul, Int.reduceMod, Int.reduceDiv, Int.reduceNeg, List.length_cons, List.length_nil, Nat.zero_add, fComp, compL, rg1_3, mInt, mAbs, mGcd, mMax2, mMin2, mMax3, mMin3, mIsqrt, isT, h5]); try rfl))
  (refine Eq.trans (sSeq_eq (ρ' := ?_) ?_) ?_; rotate_left; ((conv => lhs; simp (config := {decide := true}) only [runD, List.map_cons, List.map_nil, List.replicate_zero, List.replicate_succ, List.cons_append, List.nil_append, List.append_nil, sRet, sRetN, sNx, sSeq, sSet, sSetF, sOwn, sTo, gsCons, gsNil, sPar, sPar3, eChain, sExp, sApp, sPut, sIf, sFrz, frz, frz1, List.foldl_cons, List.foldl_nil, eBin, eUn, eVar, eC, eAnd, eOr, eIf, eLend, flat, eIxO, eOfF, eTup, eAll, fAll, eCall, eIs, eSl, fSl, oNone, oSome, aNil, aCons, bVal, bAnd, bOr, bNot, bYes, blOf, gNot, iSeq, iRg1, iRg2, seq_l, seq_t, tup_l, tup_t, lst_l, lst_t, len_l, len_t, gIx_l, gIx_t, gNm, wipeR, List.getElem?_cons_zero, List.getElem?_cons_succ, List.set_cons_zero, List.set_cons_succ, Option.bind_some, Option.bind_none, Option.map_some, Option.map_none, if_true, if_false, decide_true, decide_false, Bool.not_true, Bool.not_false, Bool.false_eq_true, reduceIte, gAdd_i, gSub_i, gNeg_i, gLt_i, gLe_i, gGt_i, gGe_i, gEq_i, gNe_i, gMul_b, gMod_p, gFdiv_p, Nat.reduceAdd, Nat.reduceMul, Nat.reduceLeDiff, at0, at1, at2, at3, at4, at5, at6, at7, at8, at9, at10, at11, at12, at13, at14, at15, gSl_l, cut_pos, cut_from, cut_to, Int.reduceToNat, List.drop_succ_cons, List.drop_zero, List.take_succ_cons, List.take_zero, List.take_nil, Nat.reduceSub, Int.reduceAdd, Int.reduceSub, Int.reduceMul, Int.reduceMod, Int.reduceDiv, Int.reduceNeg, List.length_cons, List.length_nil, Nat.zero_add, fComp, compL, rg1_3, mInt, mAbs, mGcd, mMax2, mMin2, mMax3, mMin3, mIsqrt, isT, h6]); try rfl))
  (refine Eq.trans (sSeq_eq (ρ' := ?_) ?_) ?_; rotate_left; ((conv => lhs; simp (config := {decide := true}) only [runD, List.map_cons, List.map_nil, List.replicate_zero, List.replicate_succ, List.cons_append, List.nil_append, List.append_nil, sRet, sRetN, sNx, sSeq, sSet, sSetF, sOwn, sTo, gsCons, gsNil, sPar, sPar3, eChain, sExp, sApp, sPut, sIf, sFrz, frz, frz1, List.foldl_cons, List.foldl_nil, eBin, eUn, eVar, eC, eAnd, eOr, eIf, eLend, flat, eIxO, eOfF, eTup, eAll, fAll, eCall, eIs, eSl, fSl, oNone, oSome, aNil, aCons, bVal, bAnd, bOr, bNot, bYes, blOf, gNot, iSeq, iRg1, iRg2, seq_l, seq_t, tup_l, tup_t, lst_l, lst_t, len_l, len_t, gIx_l, gIx_t, gNm, wipeR, List.getElem?_cons_zero, List.getElem?_cons_succ, List.set_cons_zero, List.set_cons_succ, Option.bind_some, Option.bind_none, Option.map_some, Option.map_none, if_true, if_false, decide_true, decide_false, Bool.not_true, Bool.not_false, Bool.false_eq_true, reduceIte, gAdd_i, gSub_i, gNeg_i, gLt_i, gLe_i, gGt_i, gGe_i, gEq_i, gNe_i, gMul_b, gMod_p, gFdiv_p, Nat.reduceAdd, Nat.reduceMul, Nat.reduceLeDiff, at0, at1, at2, at3, at4, at5, at6, at7, at8, at9, at10, at11, at12, at13, at14, at15, gSl_l, cut_pos, cut_from, cut_to, Int.reduceToNat, List.drop_succ_cons, List.drop_zero, List.take_succ_cons, List.take_zero, List.take_nil, Nat.reduceSub, Int.reduceAdd, Int.reduceSub, Int.reduceMul, Int.reduceMod, Int.reduceDiv, Int.reduceNeg, List.length_cons, List.length_nil, Nat.zero_add, fComp, compL, rg1_3, mInt, mAbs, mGcd, mMax2, mMin2, mMax3, mMin3, mIsqrt, isT, h7]); try rfl))
  refine Eq.trans (sSeq_eq (ρ' := [.va (.int c), .va (.list [.int d0, .int d1, .int d2, .int d3, .int d4, .int d5, .int d6, .int d7, .int d8, .int d9, .int d10, .int d11, .int d12, .int d13, .int d14]), .va (.list ((sl.map (1 + ·)).map PyData.int)), .un, .un, .un, .un]) ?_) ?_
  · simp only [sSetF, fComp, iSeq, eSl, oSome, eVar, eC, eBin, List.getElem?_cons_zero, List.getElem?_cons_succ, Option.bind_some, gIx_l, at3, gAdd_i, gSl_l, hcut, seq_l, hsl2, if_true, wipeR, List.set_cons_succ, List.set_cons_zero]
    have := comp_one (g := [.va (.int c), .va (.list [.int d0, .int d1, .int d2, .int d3, .int d4, .int d5, .int d6, .int d7, .int d8, .int d9, .int d10, .int d11, .int d12, .int d13, .int d14]), .un, .un, .un, .un, .un]) (by simp) sl
    rw [this]
    rfl
  refine Eq.trans (sSeq_eq ef) ?_
  (refine Eq.trans (sSeq_eq (ρ' := ?_) ?_) ?_; rotate_left; ((conv => lhs; simp (config := {decide := true}) only [runD, List.map_cons, List.map_nil, List.replicate_zero, List.replicate_succ, List.cons_append, List.nil_append, List.append_nil, sRet, sRetN, sNx, sSeq, sSet, sSetF, sOwn, sTo, gsCons, gsNil, sPar, sPar3, eChain, sExp, sApp, sPut, sIf, sFrz, frz, frz1, List.foldl_cons, List.foldl_nil, eBin, eUn, eVar, eC, eAnd, eOr, eIf, eLend, flat, eIxO, eOfF, eTup, eAll, fAll, eCall, eIs, eSl, fSl, oNone, oSome, aNil, aCons, bVal, bAnd, bOr, bNot, bYes, blOf, gNot, iSeq, iRg1, iRg2, seq_l, seq_t, tup_l, tup_t, lst_l, lst_t, len_l, len_t, gIx_l, gIx_t, gNm, wipeR, List.getElem?_cons_zero, List.getElem?_cons_succ, List.set_cons_zero, List.set_cons_succ, Option.bind_some, Option.bind_none, Option.map_some, Option.map_none, if_true, if_false, decide_true, decide_false, Bool.not_true, Bool.not_false, Bool.false_eq_true, reduceIte, gAdd_i, gSub_i, gNeg_i, gLt_i, gLe_i, gGt_i, gGe_i, gEq_i, gNe_i, gMul_b, gMod_p, gFdiv_p, Nat.reduceAdd, Nat.reduceMul, Nat.reduceLeDiff, at0, at1, at2, at3, at4, at5, at6, at7, at8, at9, at10, at11, at12, at13, at14, at15, gSl_l, cut_pos, cut_from, cut_to, Int.reduceToNat, List.drop_succ_cons, List.drop_zero, List.take_succ_cons, List.take_zero, List.take_nil, Nat.reduceSub, Int.reduceAdd, Int.reduceSub, Int.reduceMul, Int.reduceMod, Int.reduceDiv, Int.reduceNeg, List.length_cons, List.length_nil, Nat.zero_add, fComp, compL, rg1_3, mInt, mAbs, mGcd, mMax2, mMin2, mMax3, mMin3, mIsqrt, isT, q2]); try rfl))
  refine Eq.trans (sSeq_eq (ρ' := [.va (.int c), .va (.list [.int d0, .int d1, .int d2, .int d3, .int d4, .int d5, .int d6, .int d7, .int d8, .int d9, .int d10, .int d11, .int d12, .int d13, .int d14]), .va (.list (fs.map PyData.int)), .va (.int n), x4, .un, .un]) ?_) ?_
  · rw [sFor]
    simp only [iSeq, eVar, List.getElem?_cons_zero, List.getElem?_cons_succ, Option.bind_some, seq_l]
    exact n3
  · simp only [runD, List.map_cons, List.map_nil, List.replicate_zero, List.replicate_succ, List.cons_append, List.nil_append, List.append_nil, sRet, sRetN, sNx, sSeq, sSet, sSetF, sOwn, sTo, gsCons, gsNil, sPar, sPar3, eChain, sExp, sApp, sPut, sIf, sFrz, frz, frz1, List.foldl_cons, List.foldl_nil, eBin, eUn, eVar, eC, eAnd, eOr, eIf, eLend, flat, eIxO, eOfF, eTup, eAll, fAll, eCall, eIs, eSl, fSl, oNone, oSome, aNil, aCons, bVal, bAnd, bOr, bNot, bYes, blOf, gNot, iSeq, iRg1, iRg2, seq_l, seq_t, tup_l, tup_t, lst_l, lst_t, len_l, len_t, gIx_l, gIx_t, gNm, wipeR, List.getElem?_cons_zero, List.getElem?_cons_succ, List.set_cons_zero, List.set_cons_succ, Option.bind_some, Option.bind_none, Option.map_some, Option.map_none, if_true, if_false, decide_true, decide_false, Bool.not_true, Bool.not_false, Bool.false_eq_true, reduceIte, gAdd_i, gSub_i, gNeg_i, gLt_i, gLe_i, gGt_i, gGe_i, gEq_i, gNe_i, gMul_b, gMod_p, gFdiv_p, Nat.reduceAdd, Nat.reduceMul, Nat.reduceLeDiff, at0, at1, at2, at3, at4, at5, at6, at7, at8, at9, at10, at11, at12, at13, at14, at15, gSl_l, cut_pos, cut_from, cut_to, Int.reduceToNat, List.drop_succ_cons, List.drop_zero, List.take_succ_cons, List.take_zero, List.take_nil, Nat.reduceSub, Int.reduceAdd, Int.reduceSub, Int.reduceMul, Int.reduceMod, Int.reduceDiv, Int.reduceNeg, List.length_cons, List.length_nil, Nat.zero_add, fComp, compL, rg1_3, mInt, mAbs, mGcd, mMax2, mMin2, mMax3, mMin3, mIsqrt, isT]
/-! ### the valuation -/
theorem lp_go {n : Int} (hn : 2 ≤ n) (hn2 : n < 2 ^ 63) : ∀ (m k : Nat) (x : SC), 2 ≤ k → k + m = 1001 → ∃ p : Nat, 2 ≤ p ∧ p < 2 ^ 63 ∧ (sSeq (sFor (fun _ => some (rng k m)) (gNm 1) (sIf (bVal (eBin gEq (eBin gMod (eAll mInt (aCons (eVar 0) aNil)) (eVar 1)) (eC (.int 0)))) (sRet (eVar 1)) sNx)) (sRet (eVar 0))) [.va (.int n), x] = some (.rt (.int p))
  | 0, k, x, h1, h2 => by
    refine ⟨n.toNat, by omega, by omega, ?_⟩
    have : ((n.toNat : Nat) : Int) = n := by omega
    simp only [runD, List.map_cons, List.map_nil, List.replicate_zero, List.replicate_succ, List.cons_append, List.nil_append, List.append_nil, sRet, sRetN, sNx, sSeq, sSet, sSetF, sOwn, sTo, gsCons, gsNil, sPar, sPar3, eChain, sExp, sApp, sPut, sIf, sFrz, frz, frz1, List.foldl_cons, List.foldl_nil, eBin, eUn, eVar, eC, eAnd, eOr, eIf, eLend, flat, eIxO, eOfF, eTup, eAll, fAll, eCall, eIs, eSl, fSl, oNone, oSome, aNil, aCons, bVal, bAnd, bOr, bNot, bYes, blOf, gNot, iSeq, iRg1, iRg2, seq_l, seq_t, tup_l, tup_t, lst_l, lst_t, len_l, len_t, gIx_l, gIx_t, gNm, wipeR, List.getElem?_cons_zero, List.getElem?_cons_succ, List.set_cons_zero, List.set_cons_succ, Option.bind_some, Option.bind_none, Option.map_some, Option.map_none, if_true, if_false, decide_true, decide_false, Bool.not_true, Bool.not_false, Bool.false_eq_true, reduceIte, gAdd_i, gSub_i, gNeg_i, gLt_i, gLe_i, gGt_i, gGe_i, gEq_i, gNe_i, gMul_b, gMod_p, gFdiv_p, Nat.reduceAdd, Nat.reduceMul, Nat.reduceLeDiff, at0, at1, at2, at3, at4, at5, at6, at7, at8, at9, at10, at11, at12, at13, at14, at15, gSl_l, cut_pos, cut_from, cut_to, Int.reduceToNat, List.drop_succ_cons, List.drop_zero, List.take_succ_cons, List.take_zero, List.take_nil, Nat.reduceSub, Int.reduceAdd, Int.reduceSub, Int.reduceMul, Int.reduceMod, Int.reduceDiv, Int.reduceNeg, List.length_cons, List.length_nil, Nat.zero_add, fComp, compL, rg1_3, mInt, mAbs, mGcd, mMax2, mMin2, mMax3, mMin3, mIsqrt, isT, sFor, rng_zero, forL, this]
  | m + 1, k, x, h1, h2 => by
    by_cases c : n % (k : Int) = 0
    · exact ⟨k, h1, by omega, by simp only [sSeq, sFor, rng_succ, forL, runD, List.map_cons, List.map_nil, List.replicate_zero, List.replicate_succ, List.cons_append, List.nil_append, List.append_nil, sRet, sRetN, sNx, sSeq, sSet, sSetF, sOwn, sTo, gsCons, gsNil, sPar, sPar3, eChain, sExp, sApp, sPut, sIf, sFrz, frz, frz1, List.foldl_cons, List.foldl_nil, eBin, eUn, eVar, eC, eAnd, eOr, eIf, eLend, flat, eIxO, eOfF, eTup, eAll, fAll, eCall, eIs, eSl, fSl, oNone, oSome, aNil, aCons, bVal, bAnd, bOr, bNot, bYes, blOf, gNot, iSeq, iRg1, iRg2, seq_l, seq_t, tup_l, tup_t, lst_l, lst_t, len_l, len_t, gIx_l, gIx_t, gNm, wipeR, List.getElem?_cons_zero, List.getElem?_cons_succ, List.set_cons_zero, List.set_cons_succ, Option.bind_some, Option.bind_none, Option.map_some, Option.map_none, if_true, if_false, decide_true, decide_false, Bool.not_true, Bool.not_false, Bool.false_eq_true, reduceIte, gAdd_i, gSub_i, gNeg_i, gLt_i, gLe_i, gGt_i, gGe_i, gEq_i, gNe_i, gMul_b, gMod_p, gFdiv_p, Nat.reduceAdd, Nat.reduceMul, Nat.reduceLeDiff, at0, at1, at2, at3, at4, at5, at6, at7, at8, at9, at10, at11, at12, at13, at14, at15, gSl_l, cut_pos, cut_from, cut_to, Int.reduceToNat, List.drop_succ_cons, List.drop_zero, List.take_succ_cons, List.take_zero, List.take_nil, Nat.reduceSub, Int.reduceAdd, Int.reduceSub, Int.reduceMul, Int.reduceMod, Int.reduceDiv, Int.reduceNeg, List.length_cons, List.length_nil, Nat.zero_add, fComp, compL, rg1_3, mInt, mAbs, mGcd, mMax2, mMin2, mMax3, mMin3, mIsqrt, isT, gMod_p (show (0 : Int) < k by omega), c]⟩
    · obtain ⟨p, p1, p2, p3⟩ := lp_go hn hn2 m (k + 1) (.va (.int k)) (by omega) (by omega)
      refine ⟨p, p1, p2, ?_⟩
      have c1 : ((k : Nat) : Int) + 1 = ((k + 1 : Nat) : Int) := by push_cast; rfl
      simp only [sSeq, sFor, rng_succ, forL, runD, List.map_cons, List.map_nil, List.replicate_zero, List.replicate_succ, List.cons_append, List.nil_append, List.append_nil, sRet, sRetN, sNx, sSeq, sSet, sSetF, sOwn, sTo, gsCons, gsNil, sPar, sPar3, eChain, sExp, sApp, sPut, sIf, sFrz, frz, frz1, List.foldl_cons, List.foldl_nil, eBin, eUn, eVar, eC, eAnd, eOr, eIf, eLend, flat, eIxO, eOfF, eTup, eAll, fAll, eCall, eIs, eSl, fSl, oNone, oSome, aNil, aCons, bVal, bAnd, bOr, bNot, bYes, blOf, gNot, iSeq, iRg1, iRg2, seq_l, seq_t, tup_l, tup_t, lst_l, lst_t, len_l, len_t, gIx_l, gIx_t, gNm, wipeR, List.getElem?_cons_zero, List.getElem?_cons_succ, List.set_cons_zero, List.set_cons_succ, Option.bind_some, Option.bind_none, Option.map_some, Option.map_none, if_true, if_false, decide_true, decide_false, Bool.not_true, Bool.not_false, Bool.false_eq_true, reduceIte, gAdd_i, gSub_i, gNeg_i, gLt_i, gLe_i, gGt_i, gGe_i, gEq_i, gNe_i, gMul_b, gMod_p, gFdiv_p, Nat.reduceAdd, Nat.reduceMul, Nat.reduceLeDiff, at0, at1, at2, at3, at4, at5, at6, at7, at8, at9, at10, at11, at12, at13, at14, at15, gSl_l, cut_pos, cut_from, cut_to, Int.reduceToNat, List.drop_succ_cons, List.drop_zero, List.take_succ_cons, List.take_zero, List.take_nil, Nat.reduceSub, Int.reduceAdd, Int.reduceSub, Int.reduceMul, Int.reduceMod, Int.reduceDiv, Int.reduceNeg, List.length_cons, List.length_nil, Nat.zero_add, fComp, compL, rg1_3, mInt, mAbs, mGcd, mMax2, mMin2, mMax3, mMin3, mIsqrt, isT, gMod_p (show (0 : Int) < k by omega), c, c1] at p3 ⊢
      exact p3
theorem w_lp {n : Int} (hn : 2 ≤ n) (hn2 : n < 2 ^ 63) : ∃ p : Nat, 2 ≤ p ∧ p < 2 ^ 63 ∧ m__law_least_prime [.int n] = some (.int p) := by
  obtain ⟨p, p1, p2, p3⟩ := lp_go hn hn2 999 2 .un (by decide) rfl
  refine ⟨p, p1, p2, run_rt (k := 1) (u := b__law_least_prime) ?_⟩
  simp only [List.map_cons, List.map_nil, List.replicate_succ, List.replicate_zero, List.cons_append, List.nil_append]
  unfold b__law_least_prime
  have hr : rg2 (.int 2) (.int 1001) = some (rng (2 : Nat) 999) := rg2_lit 2 1001 (by decide) (by decide) (by decide) (by decide)
  generalize rng (2 : Nat) 999 = ds at p3 hr
  simp only [sSeq, sFor, iRg2, eC, Option.bind_some, hr] at p3 ⊢
  exact p3
end W

set_option linter.all false
set_option maxRecDepth 100000
set_option maxHeartbeats 4000000
set_option exponentiation.threshold 20000
namespace W
open PySem DL L2
theorem mul_go {p : Nat} {s0 s1 s2 s5 s7 s8 s9 : SC} (hp : 0 < p) (hp2 : p < 2 ^ 63) : ∀ (m k : Nat) (c : Int) (x : SC), c.natAbs * p ^ m < 2 ^ 13000 → ∃ x', forL (gNm 6) (sSet 4 (eBin gMul (eVar 4) (eVar 3))) (rng k m) [s0, s1, s2, .va (.int p), .va (.int c), s5, x, s7, s8, s9] = some (.nx [s0, s1, s2, .va (.int p), .va (.int ((p : Int) ^ m * c)), s5, x', s7, s8, s9])
  | 0, k, c, x, h => ⟨x, by simp [rng_zero, forL]⟩
  | m + 1, k, c, x, h => by
    have hc : c.natAbs < 2 ^ 13000 := by
      have : c.natAbs ≤ c.natAbs * p ^ (m + 1) := Nat.le_mul_of_pos_right _ (Nat.pow_pos hp)
      exact Nat.lt_of_le_of_lt this h
    haveI : Bd 13000 c := ⟨hc⟩
    haveI : Bd 63 (p : Int) := ⟨by rw [Int.natAbs_natCast]; exact hp2⟩
    have e1 : (c * p).natAbs * p ^ m = c.natAbs * p ^ (m + 1) := by
      rw [Int.natAbs_mul, Int.natAbs_natCast, Nat.pow_succ, Nat.mul_assoc, Nat.mul_comm p]
    obtain ⟨x', ih⟩ := mul_go (s0 := s0) (s1 := s1) (s2 := s2) (s5 := s5) (s7 := s7) (s8 := s8) (s9 := s9) hp hp2 m (k + 1) (c * p) (.va (.int k)) (by rw [e1]; exact h)
    refine ⟨x', ?_⟩
    have e2 : (p : Int) ^ (m + 1) * c = (p : Int) ^ m * (c * p) := by rw [Int.pow_succ]; grind
    rw [rng_succ, e2]
    simp (config := {decide := true}) only [forL, runD, List.map_cons, List.map_nil, List.replicate_zero, List.replicate_succ, List.cons_append, List.nil_append, List.append_nil, sRet, sRetN, sNx, sSeq, sSet, sSetF, sOwn, sTo, gsCons, gsNil, sPar, sPar3, eChain, sExp, sApp, sPut, sIf, sFrz, frz, frz1, List.foldl_cons, List.foldl_nil, eBin, eUn, eVar, eC, eAnd, eOr, eIf, eLend, flat, eIxO, eOfF, eTup, eAll, fAll, eCall, eIs, eSl, fSl, oNone, oSome, aNil, aCons, bVal, bAnd, bOr, bNot, bYes, blOf, gNot, iSeq, iRg1, iRg2, seq_l, seq_t, tup_l, tup_t, lst_l, lst_t, len_l, len_t, gIx_l, gIx_t, gNm, wipeR, List.getElem?_cons_zero, List.getElem?_cons_succ, List.set_cons_zero, List.set_cons_succ, Option.bind_some, Option.bind_none, Option.map_some, Option.map_none, if_true, if_false, decide_true, decide_false, Bool.not_true, Bool.not_false, Bool.false_eq_true, reduceIte, gAdd_i, gSub_i, gNeg_i, gLt_i, gLe_i, gGt_i, gGe_i, gEq_i, gNe_i, gMul_b, gMod_p, gFdiv_p, Nat.reduceAdd, Nat.reduceMul, Nat.reduceLeDiff, at0, at1, at2, at3, at4, at5, at6, at7, at8, at9, at10, at11, at12, at13, at14, at15, gSl_l, cut_pos, cut_from, cut_to, Int.reduceToNat, List.drop_succ_cons, List.drop_zero, List.take_succ_cons, List.take_zero, List.take_nil, Nat.reduceSub, Int.reduceAdd, Int.reduceSub, Int.reduceMul, Int.reduceMod, Int.reduceDiv, Int.reduceNeg, List.length_cons, List.length_nil, Nat.zero_add, fComp, compL, rg1_3, mInt, mAbs, mGcd, mMax2, mMin2, mMax3, mMin3, mIsqrt, isT]
    exact ih
noncomputable abbrev dueB : ES := (sSeq (sIf (bVal (eBin gNe (eBin gMod (eAll mInt (aCons (eVar 8) aNil)) (eVar 3)) (eC (.int 0)))) sBk sNx) (sSeq (sSet 8 (eBin gFdiv (eVar 8) (eVar 3))) (sSet 7 (eBin gAdd (eVar 7) (eC (.int 1))))))
theorem due_go {p : Nat} (hp : 2 ≤ p) (hp2 : p < 2 ^ 64) {m : Int} (hm : ¬ (p : Int) ∣ m) {s0 s1 s2 s4 s5 s9 : SC} : ∀ (e : Nat) (L : List PyData) (c : Int) (x : SC), e < L.length → ∃ x', forL (gNm 6) dueB L [s0, s1, s2, .va (.int p), s4, s5, x, .va (.int c), .va (.int ((p : Int) ^ e * m)), s9] = some (.nx [s0, s1, s2, .va (.int p), s4, s5, x', .va (.int (c + e)), .va (.int m), s9])
  | 0, [], c, x, h => by simp at h
  | e + 1, [], c, x, h => by simp at h
  | 0, d :: L, c, x, h => by
    have h0 : ¬ m % (p : Int) = 0 := fun z => hm (Int.dvd_of_emod_eq_zero z)
    refine ⟨.va d, ?_⟩
    simp only [forL, dueB, runD, List.map_cons, List.map_nil, List.replicate_zero, List.replicate_succ, List.cons_append, List.nil_append, List.append_nil, sRet, sRetN, sNx, sSeq, sSet, sSetF, sOwn, sTo, gsCons, gsNil, sPar, sPar3, eChain, sExp, sApp, sPut, sIf, sFrz, frz, frz1, List.foldl_cons, List.foldl_nil, eBin, eUn, eVar, eC, eAnd, eOr, eIf, eLend, flat, eIxO, eOfF, eTup, eAll, fAll, eCall, eIs, eSl, fSl, oNone, oSome, aNil, aCons, bVal, bAnd, bOr, bNot, bYes, blOf, gNot, iSeq, iRg1, iRg2, seq_l, seq_t, tup_l, tup_t, lst_l, lst_t, len_l, len_t, gIx_l, gIx_t, gNm, wipeR, List.getElem?_cons_zero, List.getElem?_cons_succ, List.set_cons_zero, List.set_cons_succ, Option.bind_some, Option.bind_none, Option.map_some, Option.map_none, if_true, if_false, decide_true, decide_false, Bool.not_true, Bool.not_false, Bool.false_eq_true, reduceIte, gAdd_i, gSub_i, gNeg_i, gLt_i, gLe_i, gGt_i, gGe_i, gEq_i, gNe_i, gMul_b, gMod_p, gFdiv_p, Nat.reduceAdd, Nat.reduceMul, Nat.reduceLeDiff, at0, at1, at2, at3, at4, at5, at6, at7, at8, at9, at10, at11, at12, at13, at14, at15, gSl_l, cut_pos, cut_from, cut_to, Int.reduceToNat, List.drop_succ_cons, List.drop_zero, List.take_succ_cons, List.take_zero, List.take_nil, Nat.reduceSub, Int.reduceAdd, Int.reduceSub, Int.reduceMul, Int.reduceMod, Int.reduceDiv, Int.reduceNeg, List.length_cons, List.length_nil, Nat.zero_add, fComp, compL, rg1_3, mInt, mAbs, mGcd, mMax2, mMin2, mMax3, mMin3, mIsqrt, isT, sBk, gMod_p (show (0 : Int) < p by omega), Int.pow_zero, Int.one_mul, h0]
    simp
  | e + 1, d :: L, c, x, h => by
    have e1 : (p : Int) ^ (e + 1) * m = p * ((p : Int) ^ e * m) := by rw [Int.pow_succ]; grind
    have h1 : (p : Int) * ((p : Int) ^ e * m) % p = 0 := Int.mul_emod_right _ _
    have h2 : (p : Int) * ((p : Int) ^ e * m) / p = (p : Int) ^ e * m := Int.mul_ediv_cancel_left _ (by omega)
    have l2 : (p : Int).natAbs.log2 < 9000 := log_small (by omega) (by omega)
    obtain ⟨x', ih⟩ := due_go hp hp2 hm (s0 := s0) (s1 := s1) (s2 := s2) (s4 := s4) (s5 := s5) (s9 := s9) e L (c + 1) (.va d) (by simpa using h)
    refine ⟨x', ?_⟩
    have : c + 1 + (e : Int) = c + ((e + 1 : Nat) : Int) := by push_cast; omega
    rw [this] at ih
    rw [e1]
    simp only [forL, dueB, runD, List.map_cons, List.map_nil, List.replicate_zero, List.replicate_succ, List.cons_append, List.nil_append, List.append_nil, sRet, sRetN, sNx, sSeq, sSet, sSetF, sOwn, sTo, gsCons, gsNil, sPar, sPar3, eChain, sExp, sApp, sPut, sIf, sFrz, frz, frz1, List.foldl_cons, List.foldl_nil, eBin, eUn, eVar, eC, eAnd, eOr, eIf, eLend, flat, eIxO, eOfF, eTup, eAll, fAll, eCall, eIs, eSl, fSl, oNone, oSome, aNil, aCons, bVal, bAnd, bOr, bNot, bYes, blOf, gNot, iSeq, iRg1, iRg2, seq_l, seq_t, tup_l, tup_t, lst_l, lst_t, len_l, len_t, gIx_l, gIx_t, gNm, wipeR, List.getElem?_cons_zero, List.getElem?_cons_succ, List.set_cons_zero, List.set_cons_succ, Option.bind_some, Option.bind_none, Option.map_some, Option.map_none, if_true, if_false, decide_true, decide_false, Bool.not_true, Bool.not_false, Bool.false_eq_true, reduceIte, gAdd_i, gSub_i, gNeg_i, gLt_i, gLe_i, gGt_i, gGe_i, gEq_i, gNe_i, gMul_b, gMod_p, gFdiv_p, Nat.reduceAdd, Nat.reduceMul, Nat.reduceLeDiff, at0, at1, at2, at3, at4, at5, at6, at7, at8, at9, at10, at11, at12, at13, at14, at15, gSl_l, cut_pos, cut_from, cut_to, Int.reduceToNat, List.drop_succ_cons, List.drop_zero, List.take_succ_cons, List.take_zero, List.take_nil, Nat.reduceSub, Int.reduceAdd, Int.reduceSub, Int.reduceMul, Int.reduceMod, Int.reduceDiv, Int.reduceNeg, List.length_cons, List.length_nil, Nat.zero_add, fComp, compL, rg1_3, mInt, mAbs, mGcd, mMax2, mMin2, mMax3, mMin3, mIsqrt, isT, gMod_p (show (0 : Int) < p by omega), h1, gFdiv_p (show (0 : Int) < p by omega) l2, h2]
    exact ih
theorem w_valuation_right (c : Int) {f : Int} (hf : f.natAbs < 2 ^ 103) : m__law_valuation_right [.int c, .int f] = some (.bool true) := by
  obtain ⟨ds, q1, q2⟩ := w_digits c [3, 10, 1000, 999999, 41, 8, 201] (by decide) (by decide)
  obtain ⟨d0, r, rfl, a0, b0, q1⟩ := inD_cons q1
  obtain ⟨d1, r, rfl, a1, b1, q1⟩ := inD_cons q1
  obtain ⟨d2, r, rfl, a2, b2, q1⟩ := inD_cons q1
  obtain ⟨d3, r, rfl, a3, b3, q1⟩ := inD_cons q1
  obtain ⟨d4, r, rfl, a4, b4, q1⟩ := inD_cons q1
  obtain ⟨d5, r, rfl, a5, b5, q1⟩ := inD_cons q1
  obtain ⟨d6, r, rfl, a6, b6, q1⟩ := inD_cons q1
  obtain rfl := inD_nil q1
  simp only [List.map_cons, List.map_nil] at q2
  obtain ⟨n, hn1, hn2, hn3⟩ : ∃ n : Int, 2 ≤ n ∧ n < 2 ^ 63 ∧ (atI [PyData.int d0, .int d1, .int d2, .int d3, .int d4, .int d5, .int d6] (1 + d0)).bind (fun y => gAdd (.int 2) y) = some (.int n) := by
    have h : d0 = 0 ∨ d0 = 1 ∨ d0 = 2 := by omega
    rcases h with rfl | rfl | rfl
    · exact ⟨2 + d1, by omega, by omega, rfl⟩
    · exact ⟨2 + d2, by omega, by omega, rfl⟩
    · exact ⟨2 + d3, by omega, by omega, rfl⟩
  obtain ⟨p, p1, p2, p3⟩ := w_lp hn1 hn2
  obtain ⟨g, hg0, hg1, hg2⟩ : ∃ g : Int, g ≠ 0 ∧ g.natAbs < 2 ^ 103 ∧ (if f = 0 then 1 else f) = g := by
    by_cases z : f = 0
    · exact ⟨1, by decide, by decide, by rw [if_pos z]⟩
    · exact ⟨f, z, hf, by rw [if_neg z]⟩
  obtain ⟨many, hm1, hm2⟩ : ∃ many : Nat, many ≤ 200 ∧ (if d5 = 0 then d6 else d4) = (many : Int) := by
    by_cases z : d5 = 0
    · exact ⟨d6.toNat, by omega, by rw [if_pos z]; omega⟩
    · exact ⟨d4.toNat, by omega, by rw [if_neg z]; omega⟩
  obtain ⟨e, m, e1, e2, e3⟩ := val_step p p1 _ g (Nat.le_refl _) hg0
  have he : e < 103 := by
    rcases Nat.lt_or_ge e 103 with z | z
    · exact z
    · have h1 : g.natAbs = p ^ e * m.natAbs := by rw [e1, Int.natAbs_mul, Int.natAbs_pow]; rfl
      have h2 : p ^ e ≤ p ^ e * m.natAbs := Nat.le_mul_of_pos_right _ (by omega)
      have h3 : 2 ^ e ≤ p ^ e := Nat.pow_le_pow_left p1 e
      have h4 : 2 ^ 103 ≤ 2 ^ e := Nat.pow_le_pow_right (by decide) z
      omega
  have hbig : g.natAbs * p ^ many < 2 ^ 13000 := by
    have h1 : p ^ many ≤ (2 ^ 63) ^ many := Nat.pow_le_pow_left (Nat.le_of_lt p2) many
    have h2 : ((2 : Nat) ^ 63) ^ many ≤ 2 ^ 12600 := by
      rw [← Nat.pow_mul]
      exact Nat.pow_le_pow_right (by decide) (by omega)
    have h3 : g.natAbs * p ^ many ≤ 2 ^ 103 * 2 ^ 12600 := Nat.mul_le_mul (Nat.le_of_lt hg1) (Nat.le_trans h1 h2)
    have h4 : (2 : Nat) ^ 103 * 2 ^ 12600 < 2 ^ 13000 := by
      rw [← Nat.pow_add]
      exact Nat.pow_lt_pow_right (by decide) (by decide)
    exact Nat.lt_of_le_of_lt h3 h4
  have hnum : (p : Int) ^ many * g = (p : Int) ^ (many + e) * m := by
    rw [e1, Int.pow_add]
    grind
  obtain ⟨x1, g1⟩ := mul_go (s0 := .va (.int c)) (s1 := .va (.int f)) (s2 := .va (.list [.int d0, .int d1, .int d2, .int d3, .int d4, .int d5, .int d6])) (s5 := .va (.int many)) (s7 := .un) (s8 := .un) (s9 := .un) (show 0 < p by omega) p2 many 0 g .un hbig
  obtain ⟨L, hL, hL2⟩ : ∃ L, rg1 (.int 1000) = some L ∧ L.length = 1000 := ⟨_, rg1_nat 1000 (by decide), rng_len _ _⟩
  have hp64 : p < 2 ^ 64 := Nat.lt_trans p2 (by decide)
  obtain ⟨x2, g2⟩ := due_go p1 hp64 e2 (s0 := .va (.int c)) (s1 := .va (.int f)) (s2 := .va (.list [.int d0, .int d1, .int d2, .int d3, .int d4, .int d5, .int d6])) (s4 := .va (.int ((p : Int) ^ (many + e) * m))) (s5 := .va (.int many)) (s9 := .un) (many + e) L 0 x1 (by omega)
  have g3 := v_valuation p1 hp64 e2 (many + e)
  have hr : rg1 (.int (many : Int)) = some (rng 0 many) := rg1_nat many (by omega)
  rw [hnum] at g1
  generalize (p : Int) ^ (many + e) * m = num at g1 g2 g3
  rw [Int.zero_add] at g2
  have c0 : ((0 : Nat) : Int) = 0 := rfl
  rw [c0] at g1
  refine run_rt (k := 8) (u := b__law_valuation_right) ?_
  simp only [List.map_cons, List.map_nil, List.replicate_succ, List.replicate_zero, List.cons_append, List.nil_append]
  unfold b__law_valuation_right
  (refine Eq.trans (sSeq_eq (ρ' := ?_) ?_) ?_; rotate_left; ((conv => lhs; simp (config := {decide := true}) only [runD, List.map_cons, List.map_nil, List.replicate_zero, List.replicate_succ, List.cons_append, List.nil_append, List.append_nil, sRet, sRetN, sNx, sSeq, sSet, sSetF, sOwn, sTo, gsCons, gsNil, sPar, sPar3, eChain, sExp, sApp, sPut, sIf, sFrz, frz, frz1, List.foldl_cons, List.foldl_nil, eBin, eUn, eVar, eC, eAnd, eOr, eIf, eLend, flat, eIxO, eOfF, eTup, eAll, fAll, eCall, eIs, eSl, fSl, oNone, oSome, aNil, aCons, bVal, bAnd, bOr, bNot, bYes, blOf, gNot, iSeq, iRg1, iRg2, seq_l, seq_t, tup_l, tup_t, lst_l, lst_t, len_l, len_t, gIx_l, gIx_t, gNm, wipeR, List.getElem?_cons_zero, List.getElem?_cons_succ, List.set_cons_zero, List.set_cons_succ, Option.bind_some, Option.bind_none, Option.map_some, Option.map_none, if_true, if_false, decide_true, decide_false, Bool.not_true, Bool.not_false, Bool.false_eq_true, reduceIte, gAdd_i, gSub_i, gNeg_i, gLt_i, gLe_i, gGt_i, gGe_i, gEq_i, gNe_i, gMul_b, gMod_p, gFdiv_p, Nat.reduceAdd, Nat.reduceMul, Nat.reduceLeDiff, at0, at1, at2, at3, at4, at5, at6, at7, at8, at9, at10, at11, at12, at13, at14, at15, gSl_l, cut_pos, cut_from, cut_to, Int.reduceToNat, List.drop_succ_cons, List.drop_zero, List.take_succ_cons, List.take_zero, List.take_nil, Nat.reduceSub, Int.reduceAdd, Int.reduceSub, Int.reduceMul, Int.reduceMod, Int.reduceDiv, Int.reduceNeg, List.length_cons, List.length_nil, Nat.zero_add, fComp, compL, rg1_3, mInt, mAbs, mGcd, mMax2, mMin2, mMax3, mMin3, mIsqrt, isT, q2]); try rfl))
  refine Eq.trans (sSeq_eq (ρ' := [.va (.int c), .va (.int f), .va (.list [.int d0, .int d1, .int d2, .int d3, .int d4, .int d5, .int d6]), .va (.int p), .un, .un, .un, .un, .un, .un]) ?_) ?_
  · simp only [runD, List.map_cons, List.map_nil, List.replicate_zero, List.replicate_succ, List.cons_append, List.nil_append, List.append_nil, sRet, sRetN, sNx, sSeq, sSet, sSetF, sOwn, sTo, gsCons, gsNil, sPar, sPar3, eChain, sExp, sApp, sPut, sIf, sFrz, frz, frz1, List.foldl_cons, List.foldl_nil, eBin, eUn, eVar, eC, eAnd, eOr, eIf, eLend, flat, eIxO, eOfF, eTup, eAll, fAll, eCall, eIs, eSl, fSl, oNone, oSome, aNil, aCons, bVal, bAnd, bOr, bNot, bYes, blOf, gNot, iSeq, iRg1, iRg2, seq_l, seq_t, tup_l, tup_t, lst_l, lst_t, len_l, len_t, gIx_l, gIx_t, gNm, wipeR, List.getElem?_cons_zero, List.getElem?_cons_succ, List.set_cons_zero, List.set_cons_succ, Option.bind_some, Option.bind_none, Option.map_some, Option.map_none, if_true, if_false, decide_true, decide_false, Bool.not_true, Bool.not_false, Bool.false_eq_true, reduceIte, gAdd_i, gSub_i, gNeg_i, gLt_i, gLe_i, gGt_i, gGe_i, gEq_i, gNe_i, gMul_b, gMod_p, gFdiv_p, Nat.reduceAdd, Nat.reduceMul, Nat.reduceLeDiff, at0, at1, at2, at3, at4, at5, at6, at7, at8, at9, at10, at11, at12, at13, at14, at15, gSl_l, cut_pos, cut_from, cut_to, Int.reduceToNat, List.drop_succ_cons, List.drop_zero, List.take_succ_cons, List.take_zero, List.take_nil, Nat.reduceSub, Int.reduceAdd, Int.reduceSub, Int.reduceMul, Int.reduceMod, Int.reduceDiv, Int.reduceNeg, List.length_cons, List.length_nil, Nat.zero_add, fComp, compL, rg1_3, mInt, mAbs, mGcd, mMax2, mMin2, mMax3, mMin3, mIsqrt, isT]
    cases hA : atI [PyData.int d0, .int d1, .int d2, .int d3, .int d4, .int d5, .int d6] (1 + d0) with
    | none =>
      rw [hA] at hn3
      cases hn3
    | some y =>
      rw [hA] at hn3
      have hn4 : gAdd (.int 2) y = some (.int n) := hn3
      simp only [Option.bind_some, hn4, p3]
  (refine Eq.trans (sSeq_eq (ρ' := ?_) ?_) ?_; rotate_left; ((conv => lhs; simp (config := {decide := true}) only [runD, List.map_cons, List.map_nil, List.replicate_zero, List.replicate_succ, List.cons_append, List.nil_append, List.append_nil, sRet, sRetN, sNx, sSeq, sSet, sSetF, sOwn, sTo, gsCons, gsNil, sPar, sPar3, eChain, sExp, sApp, sPut, sIf, sFrz, frz, frz1, List.foldl_cons, List.foldl_nil, eBin, eUn, eVar, eC, eAnd, eOr, eIf, eLend, flat, eIxO, eOfF, eTup, eAll, fAll, eCall, eIs, eSl, fSl, oNone, oSome, aNil, aCons, bVal, bAnd, bOr, bNot, bYes, blOf, gNot, iSeq, iRg1, iRg2, seq_l, seq_t, tup_l, tup_t, lst_l, lst_t, len_l, len_t, gIx_l, gIx_t, gNm, wipeR, List.getElem?_cons_zero, List.getElem?_cons_succ, List.set_cons_zero, List.set_cons_succ, Option.bind_some, Option.bind_none, Option.map_some, Option.map_none, if_true, if_false, decide_true, decide_false, Bool.not_true, Bool.not_false, Bool.false_eq_true, reduceIte, gAdd_i, gSub_i, gNeg_i, gLt_i, gLe_i, gGt_i, gGe_i, gEq_i, gNe_i, gMul_b, gMod_p, gFdiv_p, Nat.reduceAdd, Nat.reduceMul, Nat.reduceLeDiff, at0, at1, at2, at3, at4, at5, at6, at7, at8, at9, at10, at11, at12, at13, at14, at15, gSl_l, cut_pos, cut_from, cut_to, Int.reduceToNat, List.drop_succ_cons, List.drop_zero, List.take_succ_cons, List.take_zero, List.take_nil, Nat.reduceSub, Int.reduceAdd, Int.reduceSub, Int.reduceMul, Int.reduceMod, Int.reduceDiv, Int.reduceNeg, List.length_cons, List.length_nil, Nat.zero_add, fComp, compL, rg1_3, mInt, mAbs, mGcd, mMax2, mMin2, mMax3, mMin3, mIsqrt, isT, q2]); try rfl))
  refine Eq.trans (sSeq_eq (ρ' := [.va (.int c), .va (.int f), .va (.list [.int d0, .int d1, .int d2, .int d3, .int d4, .int d5, .int d6]), .va (.int p), .va (.int g), .un, .un, .un, .un, .un]) ?_) ?_
  · by_cases z : f = 0
    · rw [if_pos z] at hg2
      subst hg2
      simp only [runD, List.map_cons, List.map_nil, List.replicate_zero, List.replicate_succ, List.cons_append, List.nil_append, List.append_nil, sRet, sRetN, sNx, sSeq, sSet, sSetF, sOwn, sTo, gsCons, gsNil, sPar, sPar3, eChain, sExp, sApp, sPut, sIf, sFrz, frz, frz1, List.foldl_cons, List.foldl_nil, eBin, eUn, eVar, eC, eAnd, eOr, eIf, eLend, flat, eIxO, eOfF, eTup, eAll, fAll, eCall, eIs, eSl, fSl, oNone, oSome, aNil, aCons, bVal, bAnd, bOr, bNot, bYes, blOf, gNot, iSeq, iRg1, iRg2, seq_l, seq_t, tup_l, tup_t, lst_l, lst_t, len_l, len_t, gIx_l, gIx_t, gNm, wipeR, List.getElem?_cons_zero, List.getElem?_cons_succ, List.set_cons_zero, List.set_cons_succ, Option.bind_some, Option.bind_none, Option.map_some, Option.map_none, if_true, if_false, decide_true, decide_false, Bool.not_true, Bool.not_false, Bool.false_eq_true, reduceIte, gAdd_i, gSub_i, gNeg_i, gLt_i, gLe_i, gGt_i, gGe_i, gEq_i, gNe_i, gMul_b, gMod_p, gFdiv_p, Nat.reduceAdd, Nat.reduceMul, Nat.reduceLeDiff, at0, at1, at2, at3, at4, at5, at6, at7, at8, at9, at10, at11, at12, at13, at14, at15, gSl_l, cut_pos, cut_from, cut_to, Int.reduceToNat, List.drop_succ_cons, List.drop_zero, List.take_succ_cons, List.take_zero, List.take_nil, Nat.reduceSub, Int.reduceAdd, Int.reduceSub, Int.reduceMul, Int.reduceMod, Int.reduceDiv, Int.reduceNeg, List.length_cons, List.length_nil, Nat.zero_add, fComp, compL, rg1_3, mInt, mAbs, mGcd, mMax2, mMin2, mMax3, mMin3, mIsqrt, isT, z]
    · rw [if_neg z] at hg2
      subst hg2
      simp only [runD, List.map_cons, List.map_nil, List.replicate_zero, List.replicate_succ, List.cons_append, List.nil_append, List.append_nil, sRet, sRetN, sNx, sSeq, sSet, sSetF, sOwn, sTo, gsCons, gsNil, sPar, sPar3, eChain, sExp, sApp, sPut, sIf, sFrz, frz, frz1, List.foldl_cons, List.foldl_nil, eBin, eUn, eVar, eC, eAnd, eOr, eIf, eLend, flat, eIxO, eOfF, eTup, eAll, fAll, eCall, eIs, eSl, fSl, oNone, oSome, aNil, aCons, bVal, bAnd, bOr, bNot, bYes, blOf, gNot, iSeq, iRg1, iRg2, seq_l, seq_t, tup_l, tup_t, lst_l, lst_t, len_l, len_t, gIx_l, gIx_t, gNm, wipeR, List.getElem?_cons_zero, List.getElem?_cons_succ, List.set_cons_zero, List.set_cons_succ, Option.bind_some, Option.bind_none, Option.map_some, Option.map_none, if_true, if_false, decide_true, decide_false, Bool.not_true, Bool.not_false, Bool.false_eq_true, reduceIte, gAdd_i, gSub_i, gNeg_i, gLt_i, gLe_i, gGt_i, gGe_i, gEq_i, gNe_i, gMul_b, gMod_p, gFdiv_p, Nat.reduceAdd, Nat.reduceMul, Nat.reduceLeDiff, at0, at1, at2, at3, at4, at5, at6, at7, at8, at9, at10, at11, at12, at13, at14, at15, gSl_l, cut_pos, cut_from, cut_to, Int.reduceToNat, List.drop_succ_cons, List.drop_zero, List.take_succ_cons, List.take_zero, List.take_nil, Nat.reduceSub, Int.reduceAdd, Int.reduceSub, Int.reduceMul, Int.reduceMod, Int.reduceDiv, Int.reduceNeg, List.length_cons, List.length_nil, Nat.zero_add, fComp, compL, rg1_3, mInt, mAbs, mGcd, mMax2, mMin2, mMax3, mMin3, mIsqrt, isT, z]
  (refine Eq.trans (sSeq_eq (ρ' := ?_) ?_) ?_; rotate_left; ((conv => lhs; simp (config := {decide := true}) only [runD, List.map_cons, List.map_nil, List.replicate_zero, List.replicate_succ, List.cons_append, List.nil_append, List.append_nil, sRet, sRetN, sNx, sSeq, sSet, sSetF, sOwn, sTo, gsCons, gsNil, sPar, sPar3, eChain, sExp, sApp, sPut, sIf, sFrz, frz, frz1, List.foldl_cons, List.foldl_nil, eBin, eUn, eVar, eC, eAnd, eOr, eIf, eLend, flat, eIxO, eOfF, eTup, eAll, fAll, eCall, eIs, eSl, fSl, oNone, oSome, aNil, aCons, bVal, bAnd, bOr, bNot, bYes, blOf, gNot, iSeq, iRg1, iRg2, seq_l, seq_t, tup_l, tup_t, lst_l, lst_t, len_l, len_t, gIx_l, gIx_t, gNm, wipeR, List.getElem?_cons_zero, List.getElem?_cons_succ, List.set_cons_zero, List.set_cons_succ, Option.bind_some, Option.bind_none, Option.map_some, Option.map_none, if_true, if_false, decide_true, decide_false, Bool.not_true, Bool.not_false, Bool.false_eq_true, reduceIte, gAdd_i, gSub_i, gNeg_i, gLt_i, gLe_i, gGt_i, gGe_i, gEq_i, gNe_i, gMul_b, gMod_p, gFdiv_p, Nat.reduceAdd, Nat.reduceMul, Nat.reduceLeDiff, at0, at1, at2, at3, at4, at5, at6, at7, at8, at9, at10, at11, at12, at13, at14, at15, gSl_l, cut_pos, cut_from, cut_to, Int.reduceToNat, List.drop_succ_cons, List.drop_zero, List.take_succ_cons, List.take_zero, List.take_nil, Nat.reduceSub, Int.reduceAdd, Int.reduceSub, Int.reduceMul, Int.reduceMod, Int.reduceDiv, Int.reduceNeg, List.length_cons, List.length_nil, Nat.zero_add, fComp, compL, rg1_3, mInt, mAbs, mGcd, mMax2, mMin2, mMax3, mMin3, mIsqrt, isT, q2]); try rfl))
  refine Eq.trans (sSeq_eq (ρ' := [.va (.int c), .va (.int f), .va (.list [.int d0, .int d1, .int d2, .int d3, .int d4, .int d5, .int d6]), .va (.int p), .va (.int g), .va (.int many), .un, .un, .un, .un]) ?_) ?_
  · by_cases z : d5 = 0
    · rw [if_pos z] at hm2
      simp only [runD, List.map_cons, List.map_nil, List.replicate_zero, List.replicate_succ, List.cons_append, List.nil_append, List.append_nil, sRet, sRetN, sNx, sSeq, sSet, sSetF, sOwn, sTo, gsCons, gsNil, sPar, sPar3, eChain, sExp, sApp, sPut, sIf, sFrz, frz, frz1, List.foldl_cons, List.foldl_nil, eBin, eUn, eVar, eC, eAnd, eOr, eIf, eLend, flat, eIxO, eOfF, eTup, eAll, fAll, eCall, eIs, eSl, fSl, oNone, oSome, aNil, aCons, bVal, bAnd, bOr, bNot, bYes, blOf, gNot, iSeq, iRg1, iRg2, seq_l, seq_t, tup_l, tup_t, lst_l, lst_t, len_l, len_t, gIx_l, gIx_t, gNm, wipeR, List.getElem?_cons_zero, List.getElem?_cons_succ, List.set_cons_zero, List.set_cons_succ, Option.bind_some, Option.bind_none, Option.map_some, Option.map_none, if_true, if_false, decide_true, decide_false, Bool.not_true, Bool.not_false, Bool.false_eq_true, reduceIte, gAdd_i, gSub_i, gNeg_i, gLt_i, gLe_i, gGt_i, gGe_i, gEq_i, gNe_i, gMul_b, gMod_p, gFdiv_p, Nat.reduceAdd, Nat.reduceMul, Nat.reduceLeDiff, at0, at1, at2, at3, at4, at5, at6, at7, at8, at9, at10, at11, at12, at13, at14, at15, gSl_l, cut_pos, cut_from, cut_to, Int.reduceToNat, List.drop_succ_cons, List.drop_zero, List.take_succ_cons, List.take_zero, List.take_nil, Nat.reduceSub, Int.reduceAdd, Int.reduceSub, Int.reduceMul, Int.reduceMod, Int.reduceDiv, Int.reduceNeg, List.length_cons, List.length_nil, Nat.zero_add, fComp, compL, rg1_3, mInt, mAbs, mGcd, mMax2, mMin2, mMax3, mMin3, mIsqrt, isT, z, hm2]
    · rw [if_neg z] at hm2
      simp only [runD, List.map_cons, List.map_nil, List.replicate_zero, List.replicate_succ, List.cons_append, List.nil_append, List.append_nil, sRet, sRetN, sNx, sSeq, sSet, sSetF, sOwn, sTo, gsCons, gsNil, sPar, sPar3, eChain, sExp, sApp, sPut, sIf, sFrz, frz, frz1, List.foldl_cons, List.foldl_nil, eBin, eUn, eVar, eC, eAnd, eOr, eIf, eLend, flat, eIxO, eOfF, eTup, eAll, fAll, eCall, eIs, eSl, fSl, oNone, oSome, aNil, aCons, bVal, bAnd, bOr, bNot, bYes, blOf, gNot, iSeq, iRg1, iRg2, seq_l, seq_t, tup_l, tup_t, lst_l, lst_t, len_l, len_t, gIx_l, gIx_t, gNm, wipeR, List.getElem?_cons_zero, List.getElem?_cons_succ, List.set_cons_zero, List.set_cons_succ, Option.bind_some, Option.bind_none, Option.map_some, Option.map_none, if_true, if_false, decide_true, decide_false, Bool.not_true, Bool.not_false, Bool.false_eq_true, reduceIte, gAdd_i, gSub_i, gNeg_i, gLt_i, gLe_i, gGt_i, gGe_i, gEq_i, gNe_i, gMul_b, gMod_p, gFdiv_p, Nat.reduceAdd, Nat.reduceMul, Nat.reduceLeDiff, at0, at1, at2, at3, at4, at5, at6, at7, at8, at9, at10, at11, at12, at13, at14, at15, gSl_l, cut_pos, cut_from, cut_to, Int.reduceToNat, List.drop_succ_cons, List.drop_zero, List.take_succ_cons, List.take_zero, List.take_nil, Nat.reduceSub, Int.reduceAdd, Int.reduceSub, Int.reduceMul, Int.reduceMod, Int.reduceDiv, Int.reduceNeg, List.length_cons, List.length_nil, Nat.zero_add, fComp, compL, rg1_3, mInt, mAbs, mGcd, mMax2, mMin2, mMax3, mMin3, mIsqrt, isT, z, hm2]
  refine Eq.trans (sSeq_eq (ρ' := [.va (.int c), .va (.int f), .va (.list [.int d0, .int d1, .int d2, .int d3, .int d4, .int d5, .int d6]), .va (.int p), .va (.int num), .va (.int many), x1, .un, .un, .un]) ?_) ?_
  · rw [sFor]
    simp only [iRg1, eVar, List.getElem?_cons_zero, List.getElem?_cons_succ, Option.bind_some, hr]
    exact g1
  (refine Eq.trans (sSeq_eq (ρ' := ?_) ?_) ?_; rotate_left; ((conv => lhs; simp (config := {decide := true}) only [runD, List.map_cons, List.map_nil, List.replicate_zero, List.replicate_succ, List.cons_append, List.nil_append, List.append_nil, sRet, sRetN, sNx, sSeq, sSet, sSetF, sOwn, sTo, gsCons, gsNil, sPar, sPar3, eChain, sExp, sApp, sPut, sIf, sFrz, frz, frz1, List.foldl_cons, List.foldl_nil, eBin, eUn, eVar, eC, eAnd, eOr, eIf, eLend, flat, eIxO, eOfF, eTup, eAll, fAll, eCall, eIs, eSl, fSl, oNone, oSome, aNil, aCons, bVal, bAnd, bOr, bNot, bYes, blOf, gNot, iSeq, iRg1, iRg2, seq_l, seq_t, tup_l, tup_t, lst_l, lst_t, len_l, len_t, gIx_l, gIx_t, gNm, wipeR, List.getElem?_cons_zero, List.getElem?_cons_succ, List.set_cons_zero, List.set_cons_succ, Option.bind_some, Option.bind_none, Option.map_some, Option.map_none, if_true, if_false, decide_true, decide_false, Bool.not_true, Bool.not_false, Bool.false_eq_true, reduceIte, gAdd_i, gSub_i, gNeg_i, gLt_i, gLe_i, gGt_i, gGe_i, gEq_i, gNe_i, gMul_b, gMod_p, gFdiv_p, Nat.reduceAdd, Nat.reduceMul, Nat.reduceLeDiff, at0, at1, at2, at3, at4, at5, at6, at7, at8, at9, at10, at11, at12, at13, at14, at15, gSl_l, cut_pos, cut_from, cut_to, Int.reduceToNat, List.drop_succ_cons, List.drop_zero, List.take_succ_cons, List.take_zero, List.take_nil, Nat.reduceSub, Int.reduceAdd, Int.reduceSub, Int.reduceMul, Int.reduceMod, Int.reduceDiv, Int.reduceNeg, List.length_cons, List.length_nil, Nat.zero_add, fComp, compL, rg1_3, mInt, mAbs, mGcd, mMax2, mMin2, mMax3, mMin3, mIsqrt, isT, q2]); try rfl))
  (refine Eq.trans (sSeq_eq (ρ' := ?_) ?_) ?_; rotate_left; ((conv => lhs; simp (config := {decide := true}) only [runD, List.map_cons, List.map_nil, List.replicate_zero, List.replicate_succ, List.cons_append, List.nil_append, List.append_nil, sRet, sRetN, sNx, sSeq, sSet, sSetF, sOwn, sTo, gsCons, gsNil, sPar, sPar3, eChain, sExp, sApp, sPut, sIf, sFrz, frz, frz1, List.foldl_cons, List.foldl_nil, eBin, eUn, eVar, eC, eAnd, eOr, eIf, eLend, flat, eIxO, eOfF, eTup, eAll, fAll, eCall, eIs, eSl, fSl, oNone, oSome, aNil, aCons, bVal, bAnd, bOr, bNot, bYes, blOf, gNot, iSeq, iRg1, iRg2, seq_l, seq_t, tup_l, tup_t, lst_l, lst_t, len_l, len_t, gIx_l, gIx_t, gNm, wipeR, List.getElem?_cons_zero, List.getElem?_cons_succ, List.set_cons_zero, List.set_cons_succ, Option.bind_some, Option.bind_none, Option.map_some, Option.map_none, if_true, if_false, decide_true, decide_false, Bool.not_true, Bool.not_false, Bool.false_eq_true, reduceIte, gAdd_i, gSub_i, gNeg_i, gLt_i, gLe_i, gGt_i, gGe_i, gEq_i, gNe_i, gMul_b, gMod_p, gFdiv_p, Nat.reduceAdd, Nat.reduceMul, Nat.reduceLeDiff, at0, at1, at2, at3, at4, at5, at6, at7, at8, at9, at10, at11, at12, at13, at14, at15, gSl_l, cut_pos, cut_from, cut_to, Int.reduceToNat, List.drop_succ_cons, List.drop_zero, List.take_succ_cons, List.take_zero, List.take_nil, Nat.reduceSub, Int.reduceAdd, Int.reduceSub, Int.reduceMul, Int.reduceMod, Int.reduceDiv, Int.reduceNeg, List.length_cons, List.length_nil, Nat.zero_add, fComp, compL, rg1_3, mInt, mAbs, mGcd, mMax2, mMin2, mMax3, mMin3, mIsqrt, isT, q2]); try rfl))
  refine Eq.trans (sSeq_eq (ρ' := [.va (.int c), .va (.int f), .va (.list [.int d0, .int d1, .int d2, .int d3, .int d4, .int d5, .int d6]), .va (.int p), .va (.int num), .va (.int many), x2, .va (.int ((many + e : Nat) : Int)), .va (.int m), .un]) ?_) ?_
  · rw [sFor]
    simp only [iRg1, eC, Option.bind_some, hL]
    exact g2
  (refine Eq.trans (sSeq_eq (ρ' := ?_) ?_) ?_; rotate_left; ((conv => lhs; simp (config := {decide := true}) only [runD, List.map_cons, List.map_nil, List.replicate_zero, List.replicate_succ, List.cons_append, List.nil_append, List.append_nil, sRet, sRetN, sNx, sSeq, sSet, sSetF, sOwn, sTo, gsCons, gsNil, sPar, sPar3, eChain, sExp, sApp, sPut, sIf, sFrz, frz, frz1, List.foldl_cons, List.foldl_nil, eBin, eUn, eVar, eC, eAnd, eOr, eIf, eLend, flat, eIxO, eOfF, eTup, eAll, fAll, eCall, eIs, eSl, fSl, oNone, oSome, aNil, aCons, bVal, bAnd, bOr, bNot, bYes, blOf, gNot, iSeq, iRg1, iRg2, seq_l, seq_t, tup_l, tup_t, lst_l, lst_t, len_l, len_t, gIx_l, gIx_t, gNm, wipeR, List.getElem?_cons_zero, List.getElem?_cons_succ, List.set_cons_zero, List.set_cons_succ, Option.bind_some, Option.bind_none, Option.map_some, Option.map_none, if_true, if_false, decide_true, decide_false, Bool.not_true, Bool.not_false, Bool.false_eq_true, reduceIte, gAdd_i, gSub_i, gNeg_i, gLt_i, gLe_i, gGt_i, gGe_i, gEq_i, gNe_i, gMul_b, gMod_p, gFdiv_p, Nat.reduceAdd, Nat.reduceMul, Nat.reduceLeDiff, at0, at1, at2, at3, at4, at5, at6, at7, at8, at9, at10, at11, at12, at13, at14, at15, gSl_l, cut_pos, cut_from, cut_to, Int.reduceToNat, List.drop_succ_cons, List.drop_zero, List.take_succ_cons, List.take_zero, List.take_nil, Nat.reduceSub, Int.reduceAdd, Int.reduceSub, Int.reduceMul, Int.reduceMod, Int.reduceDiv, Int.reduceNeg, List.length_cons, List.length_nil, Nat.zero_add, fComp, compL, rg1_3, mInt, mAbs, mGcd, mMax2, mMin2, mMax3, mMin3, mIsqrt, isT, g3]); try rfl))
  simp (config := {decide := true}) only [runD, List.map_cons, List.map_nil, List.replicate_zero, List.replicate_succ, List.cons_append, List.nil_append, List.append_nil, sRet, sRetN, sNx, sSeq, sSet, sSetF, sOwn, sTo, gsCons, gsNil, sPar, sPar3, eChain, sExp, sApp, sPut, sIf, sFrz, frz, frz1, List.foldl_cons, List.foldl_nil, eBin, eUn, eVar, eC, eAnd, eOr, eIf, eLend, flat, eIxO, eOfF, eTup, eAll, fAll, eCall, eIs, eSl, fSl, oNone, oSome, aNil, aCons, bVal, bAnd, bOr, bNot, bYes, blOf, gNot, iSeq, iRg1, iRg2, seq_l, seq_t, tup_l, tup_t, lst_l, lst_t, len_l, len_t, gIx_l, gIx_t, gNm, wipeR, List.getElem?_cons_zero, List.getElem?_cons_succ, List.set_cons_zero, List.set_cons_succ, Option.bind_some, Option.bind_none, Option.map_some, Option.map_none, if_true, if_false, decide_true, decide_false, Bool.not_true, Bool.not_false, Bool.false_eq_true, reduceIte, gAdd_i, gSub_i, gNeg_i, gLt_i, gLe_i, gGt_i, gGe_i, gEq_i, gNe_i, gMul_b, gMod_p, gFdiv_p, Nat.reduceAdd, Nat.reduceMul, Nat.reduceLeDiff, at0, at1, at2, at3, at4, at5, at6, at7, at8, at9, at10, at11, at12, at13, at14, at15, gSl_l, cut_pos, cut_from, cut_to, Int.reduceToNat, List.drop_succ_cons, List.drop_zero, List.take_succ_cons, List.take_zero, List.take_nil, Nat.reduceSub, Int.reduceAdd, Int.reduceSub, Int.reduceMul, Int.reduceMod, Int.reduceDiv, Int.reduceNeg, List.length_cons, List.length_nil, Nat.zero_add, fComp, compL, rg1_3, mInt, mAbs, mGcd, mMax2, mMin2, mMax3, mMin3, mIsqrt, isT, w_whole]
end W

set_option linter.all false
set_option maxRecDepth 100000
set_option maxHeartbeats 4000000
set_option exponentiation.threshold 20000
namespace W
open PySem DL L2
/-- in lowest terms -/
structure Low (a b x y : Int) : Prop where
  e : x * b = a * y
  pos : 1 ≤ y
  g : Int.gcd x y = 1
  bx : x.natAbs ≤ a.natAbs
  by' : y.natAbs ≤ b.natAbs
theorem low_ex (a b : Int) (hb : b ≠ 0) : ∃ x y, Low a b x y ∧ ∀ G : Int, G = (Int.gcd a b : Nat) → (0 < b → a.fdiv G = x ∧ b.fdiv G = y) ∧ (b < 0 → a.fdiv (-G) = x ∧ b.fdiv (-G) = y) := by
  have hG : 0 < Int.gcd a b := Nat.pos_of_ne_zero fun z => hb (Int.gcd_eq_zero_iff.mp z).2
  obtain ⟨a', ha⟩ := Int.gcd_dvd_left (a := a) (b := b)
  obtain ⟨b', hb'⟩ := Int.gcd_dvd_right (a := a) (b := b)
  generalize hgg : Int.gcd a b = g at *
  have g1 : Int.gcd a' b' = 1 := by
    have h1 : Int.gcd a b = g := hgg
    rw [ha, hb', Int.gcd_mul_left] at h1
    rw [Int.natAbs_natCast] at h1
    have h2 : g * Int.gcd a' b' = g * 1 := by omega
    exact Nat.eq_of_mul_eq_mul_left hG h2
  have n1 : a'.natAbs ≤ a.natAbs := by
    rw [ha, Int.natAbs_mul, Int.natAbs_natCast]
    exact Nat.le_mul_of_pos_left _ hG
  have n2 : b'.natAbs ≤ b.natAbs := by
    rw [hb', Int.natAbs_mul, Int.natAbs_natCast]
    exact Nat.le_mul_of_pos_left _ hG
  have f1 : ∀ z : Int, ((g : Int) * z).fdiv g = z := fun z => Int.mul_fdiv_cancel_left z (by omega)
  have f2 : ∀ z : Int, ((g : Int) * z).fdiv (-(g : Int)) = -z := fun z => by
    have e : (g : Int) * z = -(g : Int) * -z := by grind
    rw [e]
    exact Int.mul_fdiv_cancel_left _ (by omega)
  by_cases hp : 0 < b
  · have hb0 : 0 < b' := by
      rcases Int.lt_or_le 0 b' with z | z
      · exact z
      · have := Int.mul_nonneg (show (0 : Int) ≤ g by omega) (show 0 ≤ -b' by omega)
        rw [Int.mul_neg] at this
        omega
    refine ⟨a', b', ⟨?_, hb0, g1, n1, n2⟩, fun G e => ⟨fun _ => ?_, fun z => by omega⟩⟩
    · rw [ha, hb']
      grind
    · subst e
      rw [ha, hb']
      exact ⟨f1 a', f1 b'⟩
  · have hb0 : b' < 0 := by
      rcases Int.lt_or_le b' 0 with z | z
      · exact z
      · have := Int.mul_nonneg (show (0 : Int) ≤ g by omega) z
        omega
    refine ⟨-a', -b', ⟨?_, by omega, ?_, by rw [Int.natAbs_neg]; exact n1, by rw [Int.natAbs_neg]; exact n2⟩, fun G e => ⟨fun z => by omega, fun _ => ?_⟩⟩
    · rw [ha, hb']
      grind
    · rw [Int.gcd_neg, Int.neg_gcd]
      exact g1
    · subst e
      rw [ha, hb']
      exact ⟨f2 a', f2 b'⟩
theorem gcd_log {a b : Int} (hb : b ≠ 0) (h : b.natAbs < 2 ^ 1000) : ((Int.gcd a b : Nat) : Int).natAbs.log2 < 9000 := by
  rw [Int.natAbs_natCast]
  have h1 : Int.gcd a b ≤ b.natAbs := Nat.gcd_le_right _ (by omega)
  have h2 : Int.gcd a b < 2 ^ 1001 := Nat.lt_of_le_of_lt h1 (Nat.lt_of_lt_of_le h (Nat.pow_le_pow_right (by decide) (by decide)))
  exact Nat.lt_of_lt_of_le (PySem.Flt.log2_lt_of (by decide) h2) (by decide)
theorem x_ratio0 {a : Int} : x_ratio [.int a, .int 0] = some (.exc ⟨"ZeroBottom", "top", .int a⟩) := by
  simp only [x_ratio, b_ratio, runX, runD, List.map_cons, List.map_nil, List.replicate_zero, List.replicate_succ, List.cons_append, List.nil_append, List.append_nil, sRet, sRetN, sNx, sSeq, sSet, sSetF, sOwn, sTo, gsCons, gsNil, sPar, sPar3, eChain, sExp, sApp, sPut, sIf, sFrz, frz, frz1, List.foldl_cons, List.foldl_nil, eBin, eUn, eVar, eC, eAnd, eOr, eIf, eLend, flat, eIxO, eOfF, eTup, eAll, fAll, eCall, eIs, eSl, fSl, oNone, oSome, aNil, aCons, bVal, bAnd, bOr, bNot, bYes, blOf, gNot, iSeq, iRg1, iRg2, seq_l, seq_t, tup_l, tup_t, lst_l, lst_t, len_l, len_t, gIx_l, gIx_t, gNm, wipeR, List.getElem?_cons_zero, List.getElem?_cons_succ, List.set_cons_zero, List.set_cons_succ, Option.bind_some, Option.bind_none, Option.map_some, Option.map_none, if_true, if_false, decide_true, decide_false, Bool.not_true, Bool.not_false, Bool.false_eq_true, reduceIte, gAdd_i, gSub_i, gNeg_i, gLt_i, gLe_i, gGt_i, gGe_i, gEq_i, gNe_i, gMul_b, gMod_p, gFdiv_p, Nat.reduceAdd, Nat.reduceMul, Nat.reduceLeDiff, at0, at1, at2, at3, at4, at5, at6, at7, at8, at9, at10, at11, at12, at13, at14, at15, gSl_l, cut_pos, cut_from, cut_to, Int.reduceToNat, List.drop_succ_cons, List.drop_zero, List.take_succ_cons, List.take_zero, List.take_nil, Nat.reduceSub, Int.reduceAdd, Int.reduceSub, Int.reduceMul, Int.reduceMod, Int.reduceDiv, Int.reduceNeg, List.length_cons, List.length_nil, Nat.zero_add, fComp, compL, rg1_3, mInt, mAbs, mGcd, mMax2, mMin2, mMax3, mMin3, mIsqrt, isT, sRaise]
/-- what ratio and the law's own division tell -/
theorem v_low {a b : Int} (hb : b ≠ 0) (h : b.natAbs < 2 ^ 1000) : ∃ x y, Low a b x y ∧ x_ratio [.int a, .int b] = some (.val (r2 true ⟨x, y⟩)) ∧ m__law_reduced [.int a, .int b] = some (r2 true ⟨x, y⟩) := by
  obtain ⟨x, y, hl, hf⟩ := low_ex a b hb
  obtain ⟨f1, f2⟩ := hf _ rfl
  have hG : 0 < Int.gcd a b := Nat.pos_of_ne_zero fun z => hb (Int.gcd_eq_zero_iff.mp z).2
  have lg := gcd_log (a := a) hb h
  have lg' : (-((Int.gcd a b : Nat) : Int)).natAbs.log2 < 9000 := by rw [Int.natAbs_neg]; exact lg
  have hmg : mGcd [.int a, .int b] = some (.int (Int.gcd a b : Nat)) := rfl
  have hwg : m__law_gcd [.int a, .int b] = some (.int (Int.gcd a b : Nat)) := w_gcd (a := a) (b := b) h (by decide)
  have n0 : ((Int.gcd a b : Nat) : Int) ≠ 0 := by omega
  have n1 : -((Int.gcd a b : Nat) : Int) ≠ 0 := by omega
  generalize ((Int.gcd a b : Nat) : Int) = G at *
  refine ⟨x, y, hl, ?_, ?_⟩
  · by_cases c : b < 0
    · obtain ⟨k1, k2⟩ := f2 c
      have d1 := @gFdiv_n a (-G) n1 lg'
      have d2 := @gFdiv_n b (-G) n1 lg'
      rw [k1] at d1
      rw [k2] at d2
      simp only [x_ratio, b_ratio, runX, runD, List.map_cons, List.map_nil, List.replicate_zero, List.replicate_succ, List.cons_append, List.nil_append, List.append_nil, sRet, sRetN, sNx, sSeq, sSet, sSetF, sOwn, sTo, gsCons, gsNil, sPar, sPar3, eChain, sExp, sApp, sPut, sIf, sFrz, frz, frz1, List.foldl_cons, List.foldl_nil, eBin, eUn, eVar, eC, eAnd, eOr, eIf, eLend, flat, eIxO, eOfF, eTup, eAll, fAll, eCall, eIs, eSl, fSl, oNone, oSome, aNil, aCons, bVal, bAnd, bOr, bNot, bYes, blOf, gNot, iSeq, iRg1, iRg2, seq_l, seq_t, tup_l, tup_t, lst_l, lst_t, len_l, len_t, gIx_l, gIx_t, gNm, wipeR, List.getElem?_cons_zero, List.getElem?_cons_succ, List.set_cons_zero, List.set_cons_succ, Option.bind_some, Option.bind_none, Option.map_some, Option.map_none, if_true, if_false, decide_true, decide_false, Bool.not_true, Bool.not_false, Bool.false_eq_true, reduceIte, gAdd_i, gSub_i, gNeg_i, gLt_i, gLe_i, gGt_i, gGe_i, gEq_i, gNe_i, gMul_b, gMod_p, gFdiv_p, Nat.reduceAdd, Nat.reduceMul, Nat.reduceLeDiff, at0, at1, at2, at3, at4, at5, at6, at7, at8, at9, at10, at11, at12, at13, at14, at15, gSl_l, cut_pos, cut_from, cut_to, Int.reduceToNat, List.drop_succ_cons, List.drop_zero, List.take_succ_cons, List.take_zero, List.take_nil, Nat.reduceSub, Int.reduceAdd, Int.reduceSub, Int.reduceMul, Int.reduceMod, Int.reduceDiv, Int.reduceNeg, List.length_cons, List.length_nil, Nat.zero_add, fComp, compL, rg1_3, mInt, mAbs, mMax2, mMin2, mMax3, mMin3, hb, hmg, c, d1, d2, row2_t]
    · obtain ⟨k1, k2⟩ := f1 (by omega)
      have d1 := @gFdiv_n a G n0 lg
      have d2 := @gFdiv_n b G n0 lg
      rw [k1] at d1
      rw [k2] at d2
      simp only [x_ratio, b_ratio, runX, runD, List.map_cons, List.map_nil, List.replicate_zero, List.replicate_succ, List.cons_append, List.nil_append, List.append_nil, sRet, sRetN, sNx, sSeq, sSet, sSetF, sOwn, sTo, gsCons, gsNil, sPar, sPar3, eChain, sExp, sApp, sPut, sIf, sFrz, frz, frz1, List.foldl_cons, List.foldl_nil, eBin, eUn, eVar, eC, eAnd, eOr, eIf, eLend, flat, eIxO, eOfF, eTup, eAll, fAll, eCall, eIs, eSl, fSl, oNone, oSome, aNil, aCons, bVal, bAnd, bOr, bNot, bYes, blOf, gNot, iSeq, iRg1, iRg2, seq_l, seq_t, tup_l, tup_t, lst_l, lst_t, len_l, len_t, gIx_l, gIx_t, gNm, wipeR, List.getElem?_cons_zero, List.getElem?_cons_succ, List.set_cons_zero, List.set_cons_succ, Option.bind_some, Option.bind_none, Option.map_some, Option.map_none, if_true, if_false, decide_true, decide_false, Bool.not_true, Bool.not_false, Bool.false_eq_true, reduceIte, gAdd_i, gSub_i, gNeg_i, gLt_i, gLe_i, gGt_i, gGe_i, gEq_i, gNe_i, gMul_b, gMod_p, gFdiv_p, Nat.reduceAdd, Nat.reduceMul, Nat.reduceLeDiff, at0, at1, at2, at3, at4, at5, at6, at7, at8, at9, at10, at11, at12, at13, at14, at15, gSl_l, cut_pos, cut_from, cut_to, Int.reduceToNat, List.drop_succ_cons, List.drop_zero, List.take_succ_cons, List.take_zero, List.take_nil, Nat.reduceSub, Int.reduceAdd, Int.reduceSub, Int.reduceMul, Int.reduceMod, Int.reduceDiv, Int.reduceNeg, List.length_cons, List.length_nil, Nat.zero_add, fComp, compL, rg1_3, mInt, mAbs, mMax2, mMin2, mMax3, mMin3, hb, hmg, c, d1, d2, row2_t]
  · by_cases c : b < 0
    · obtain ⟨k1, k2⟩ := f2 c
      have d1 := @gFdiv_n a (-G) n1 lg'
      have d2 := @gFdiv_n b (-G) n1 lg'
      rw [k1] at d1
      rw [k2] at d2
      simp only [m__law_reduced, b__law_reduced, runD, List.map_cons, List.map_nil, List.replicate_zero, List.replicate_succ, List.cons_append, List.nil_append, List.append_nil, sRet, sRetN, sNx, sSeq, sSet, sSetF, sOwn, sTo, gsCons, gsNil, sPar, sPar3, eChain, sExp, sApp, sPut, sIf, sFrz, frz, frz1, List.foldl_cons, List.foldl_nil, eBin, eUn, eVar, eC, eAnd, eOr, eIf, eLend, flat, eIxO, eOfF, eTup, eAll, fAll, eCall, eIs, eSl, fSl, oNone, oSome, aNil, aCons, bVal, bAnd, bOr, bNot, bYes, blOf, gNot, iSeq, iRg1, iRg2, seq_l, seq_t, tup_l, tup_t, lst_l, lst_t, len_l, len_t, gIx_l, gIx_t, gNm, wipeR, List.getElem?_cons_zero, List.getElem?_cons_succ, List.set_cons_zero, List.set_cons_succ, Option.bind_some, Option.bind_none, Option.map_some, Option.map_none, if_true, if_false, decide_true, decide_false, Bool.not_true, Bool.not_false, Bool.false_eq_true, reduceIte, gAdd_i, gSub_i, gNeg_i, gLt_i, gLe_i, gGt_i, gGe_i, gEq_i, gNe_i, gMul_b, gMod_p, gFdiv_p, Nat.reduceAdd, Nat.reduceMul, Nat.reduceLeDiff, at0, at1, at2, at3, at4, at5, at6, at7, at8, at9, at10, at11, at12, at13, at14, at15, gSl_l, cut_pos, cut_from, cut_to, Int.reduceToNat, List.drop_succ_cons, List.drop_zero, List.take_succ_cons, List.take_zero, List.take_nil, Nat.reduceSub, Int.reduceAdd, Int.reduceSub, Int.reduceMul, Int.reduceMod, Int.reduceDiv, Int.reduceNeg, List.length_cons, List.length_nil, Nat.zero_add, fComp, compL, rg1_3, mInt, mAbs, mGcd, mMax2, mMin2, mMax3, mMin3, mIsqrt, isT, hwg, c, d1, d2, row2_t]
    · obtain ⟨k1, k2⟩ := f1 (by omega)
      have d1 := @gFdiv_n a G n0 lg
      have d2 := @gFdiv_n b G n0 lg
      rw [k1] at d1
      rw [k2] at d2
      simp only [m__law_reduced, b__law_reduced, runD, List.map_cons, List.map_nil, List.replicate_zero, List.replicate_succ, List.cons_append, List.nil_append, List.append_nil, sRet, sRetN, sNx, sSeq, sSet, sSetF, sOwn, sTo, gsCons, gsNil, sPar, sPar3, eChain, sExp, sApp, sPut, sIf, sFrz, frz, frz1, List.foldl_cons, List.foldl_nil, eBin, eUn, eVar, eC, eAnd, eOr, eIf, eLend, flat, eIxO, eOfF, eTup, eAll, fAll, eCall, eIs, eSl, fSl, oNone, oSome, aNil, aCons, bVal, bAnd, bOr, bNot, bYes, blOf, gNot, iSeq, iRg1, iRg2, seq_l, seq_t, tup_l, tup_t, lst_l, lst_t, len_l, len_t, gIx_l, gIx_t, gNm, wipeR, List.getElem?_cons_zero, List.getElem?_cons_succ, List.set_cons_zero, List.set_cons_succ, Option.bind_some, Option.bind_none, Option.map_some, Option.map_none, if_true, if_false, decide_true, decide_false, Bool.not_true, Bool.not_false, Bool.false_eq_true, reduceIte, gAdd_i, gSub_i, gNeg_i, gLt_i, gLe_i, gGt_i, gGe_i, gEq_i, gNe_i, gMul_b, gMod_p, gFdiv_p, Nat.reduceAdd, Nat.reduceMul, Nat.reduceLeDiff, at0, at1, at2, at3, at4, at5, at6, at7, at8, at9, at10, at11, at12, at13, at14, at15, gSl_l, cut_pos, cut_from, cut_to, Int.reduceToNat, List.drop_succ_cons, List.drop_zero, List.take_succ_cons, List.take_zero, List.take_nil, Nat.reduceSub, Int.reduceAdd, Int.reduceSub, Int.reduceMul, Int.reduceMod, Int.reduceDiv, Int.reduceNeg, List.length_cons, List.length_nil, Nat.zero_add, fComp, compL, rg1_3, mInt, mAbs, mGcd, mMax2, mMin2, mMax3, mMin3, mIsqrt, isT, hwg, c, d1, d2, row2_t]
theorem w_lowest {x y : Int} (h1 : 1 ≤ y) (h2 : Int.gcd x y = 1) (h3 : y.natAbs < 2 ^ 1000) : m__law_lowest [r2 true ⟨x, y⟩] = some (.bool true) := by
  have hwg : m__law_gcd [.int x, .int y] = some (.int (Int.gcd x y : Nat)) := w_gcd (a := x) (b := y) h3 (by decide)
  rw [h2] at hwg
  have c : ((1 : Nat) : Int) = 1 := rfl
  rw [c] at hwg
  simp only [m__law_lowest, b__law_lowest, runD, List.map_cons, List.map_nil, List.replicate_zero, List.replicate_succ, List.cons_append, List.nil_append, List.append_nil, sRet, sRetN, sNx, sSeq, sSet, sSetF, sOwn, sTo, gsCons, gsNil, sPar, sPar3, eChain, sExp, sApp, sPut, sIf, sFrz, frz, frz1, List.foldl_cons, List.foldl_nil, eBin, eUn, eVar, eC, eAnd, eOr, eIf, eLend, flat, eIxO, eOfF, eTup, eAll, fAll, eCall, eIs, eSl, fSl, oNone, oSome, aNil, aCons, bVal, bAnd, bOr, bNot, bYes, blOf, gNot, iSeq, iRg1, iRg2, seq_l, seq_t, tup_l, tup_t, lst_l, lst_t, len_l, len_t, gIx_l, gIx_t, gNm, wipeR, List.getElem?_cons_zero, List.getElem?_cons_succ, List.set_cons_zero, List.set_cons_succ, Option.bind_some, Option.bind_none, Option.map_some, Option.map_none, if_true, if_false, decide_true, decide_false, Bool.not_true, Bool.not_false, Bool.false_eq_true, reduceIte, gAdd_i, gSub_i, gNeg_i, gLt_i, gLe_i, gGt_i, gGe_i, gEq_i, gNe_i, gMul_b, gMod_p, gFdiv_p, Nat.reduceAdd, Nat.reduceMul, Nat.reduceLeDiff, at0, at1, at2, at3, at4, at5, at6, at7, at8, at9, at10, at11, at12, at13, at14, at15, gSl_l, cut_pos, cut_from, cut_to, Int.reduceToNat, List.drop_succ_cons, List.drop_zero, List.take_succ_cons, List.take_zero, List.take_nil, Nat.reduceSub, Int.reduceAdd, Int.reduceSub, Int.reduceMul, Int.reduceMod, Int.reduceDiv, Int.reduceNeg, List.length_cons, List.length_nil, Nat.zero_add, fComp, compL, rg1_3, mInt, mAbs, mGcd, mMax2, mMin2, mMax3, mMin3, mIsqrt, isT, w_is_row2, ix_p0, ix_p1, h1, hwg]
theorem w_ratio_v {a b : Int} {v : V2} (h : x_ratio [.int a, .int b] = some (.val (r2 true v))) : m__law_ratio [.int a, .int b] = some (.list [.bool true, r2 true v]) := by
  simp only [m__law_ratio, b__law_ratio, runD, List.map_cons, List.map_nil, List.replicate_zero, List.replicate_succ, List.cons_append, List.nil_append, List.append_nil, sRet, sRetN, sNx, sSeq, sSet, sSetF, sOwn, sTo, gsCons, gsNil, sPar, sPar3, eChain, sExp, sApp, sPut, sIf, sFrz, frz, frz1, List.foldl_cons, List.foldl_nil, eBin, eUn, eVar, eC, eAnd, eOr, eIf, eLend, flat, eIxO, eOfF, eTup, eAll, fAll, eCall, eIs, eSl, fSl, oNone, oSome, aNil, aCons, bVal, bAnd, bOr, bNot, bYes, blOf, gNot, iSeq, iRg1, iRg2, seq_l, seq_t, tup_l, tup_t, lst_l, lst_t, len_l, len_t, gIx_l, gIx_t, gNm, wipeR, List.getElem?_cons_zero, List.getElem?_cons_succ, List.set_cons_zero, List.set_cons_succ, Option.bind_some, Option.bind_none, Option.map_some, Option.map_none, if_true, if_false, decide_true, decide_false, Bool.not_true, Bool.not_false, Bool.false_eq_true, reduceIte, gAdd_i, gSub_i, gNeg_i, gLt_i, gLe_i, gGt_i, gGe_i, gEq_i, gNe_i, gMul_b, gMod_p, gFdiv_p, Nat.reduceAdd, Nat.reduceMul, Nat.reduceLeDiff, at0, at1, at2, at3, at4, at5, at6, at7, at8, at9, at10, at11, at12, at13, at14, at15, gSl_l, cut_pos, cut_from, cut_to, Int.reduceToNat, List.drop_succ_cons, List.drop_zero, List.take_succ_cons, List.take_zero, List.take_nil, Nat.reduceSub, Int.reduceAdd, Int.reduceSub, Int.reduceMul, Int.reduceMod, Int.reduceDiv, Int.reduceNeg, List.length_cons, List.length_nil, Nat.zero_add, fComp, compL, rg1_3, mInt, mAbs, mGcd, mMax2, mMin2, mMax3, mMin3, mIsqrt, isT, sTry, sRetX, xLst1, xCall, h]
theorem w_ratio_0 {a : Int} : m__law_ratio [.int a, .int 0] = some (.list [.bool false, .int a]) := by
  have e1 : decide (("ZeroBottom" : Str) ∈ (["ZeroBottom"] : List Str)) = true := by decide
  have e2 : ∀ b : Bool, List.lookup ("ZeroBottom" : Str) ([("ZeroBottom", b)] : List (Str × Bool)) = some b := fun b => by cases b <;> decide
  have e3 : (("ZeroBottom" : Str) = "ZeroBottom" ∧ ("top" : Str) = "top") := ⟨rfl, rfl⟩
  have e4 : ∀ {n : Nat}, (2 : Nat) < n + 4 := by intro n; omega
  simp only [m__law_ratio, b__law_ratio, runD, List.map_cons, List.map_nil, List.replicate_zero, List.replicate_succ, List.cons_append, List.nil_append, List.append_nil, sRet, sRetN, sNx, sSeq, sSet, sSetF, sOwn, sTo, gsCons, gsNil, sPar, sPar3, eChain, sExp, sApp, sPut, sIf, sFrz, frz, frz1, List.foldl_cons, List.foldl_nil, eBin, eUn, eVar, eC, eAnd, eOr, eIf, eLend, flat, eIxO, eOfF, eTup, eAll, fAll, eCall, eIs, eSl, fSl, oNone, oSome, aNil, aCons, bVal, bAnd, bOr, bNot, bYes, blOf, gNot, iSeq, iRg1, iRg2, seq_l, seq_t, tup_l, tup_t, lst_l, lst_t, len_l, len_t, gIx_l, gIx_t, gNm, wipeR, List.getElem?_cons_zero, List.getElem?_cons_succ, List.set_cons_zero, List.set_cons_succ, Option.bind_some, Option.bind_none, Option.map_some, Option.map_none, if_true, if_false, decide_true, decide_false, Bool.not_true, Bool.not_false, Bool.false_eq_true, reduceIte, gAdd_i, gSub_i, gNeg_i, gLt_i, gLe_i, gGt_i, gGe_i, gEq_i, gNe_i, gMul_b, gMod_p, gFdiv_p, Nat.reduceAdd, Nat.reduceMul, Nat.reduceLeDiff, at0, at1, at2, at3, at4, at5, at6, at7, at8, at9, at10, at11, at12, at13, at14, at15, gSl_l, cut_pos, cut_from, cut_to, Int.reduceToNat, List.drop_succ_cons, List.drop_zero, List.take_succ_cons, List.take_zero, List.take_nil, Nat.reduceSub, Int.reduceAdd, Int.reduceSub, Int.reduceMul, Int.reduceMod, Int.reduceDiv, Int.reduceNeg, List.length_cons, List.length_nil, Nat.zero_add, fComp, compL, rg1_3, mInt, mAbs, mGcd, mMax2, mMin2, mMax3, mMin3, mIsqrt, isT, sTry, sRetX, xLst1, xCall, x_ratio0, sSeqH, sSetH, sIfH, sRetH, sNxH, eIsC, e1, e2, bAndH, bValH, bNotH, eLstH, aConsH, aNilH, eFld, e3, true_and, and_self, List.length_cons]
  rfl
end W

set_option linter.all false
set_option maxRecDepth 100000
set_option maxHeartbeats 4000000
set_option exponentiation.threshold 20000
namespace W
open PySem DL L2
theorem w_ratio_right {a b : Int} (hb : b ≠ 0) (ha : a.natAbs < 2 ^ 500) (h : b.natAbs < 2 ^ 500) : m__law_ratio_right [.int a, .int b] = some (.bool true) := by
  have up : ∀ x : Int, x.natAbs < 2 ^ 500 → x.natAbs < 2 ^ 1000 := fun x h => Bd.mono h (by decide)
  obtain ⟨x, y, hl, e1, e2⟩ := v_low (a := a) hb (up b h)
  have e3 := w_ratio_v e1
  have e4 := w_ratio_0 (a := a)
  have hy : y.natAbs < 2 ^ 1000 := Nat.lt_of_le_of_lt hl.by' (up b h)
  have e5 := w_lowest hl.pos hl.g hy
  haveI : Bd 500 a := ⟨ha⟩
  haveI : Bd 500 b := ⟨h⟩
  haveI : Bd 1000 x := ⟨Nat.lt_of_le_of_lt hl.bx (up a ha)⟩
  haveI : Bd 1000 y := ⟨hy⟩
  have e6 := hl.e
  simp (config := {decide := true}) only [m__law_ratio_right, b__law_ratio_right, runD, List.map_cons, List.map_nil, List.replicate_zero, List.replicate_succ, List.cons_append, List.nil_append, List.append_nil, sRet, sRetN, sNx, sSeq, sSet, sSetF, sOwn, sTo, gsCons, gsNil, sPar, sPar3, eChain, sExp, sApp, sPut, sIf, sFrz, frz, frz1, List.foldl_cons, List.foldl_nil, eBin, eUn, eVar, eC, eAnd, eOr, eIf, eLend, flat, eIxO, eOfF, eTup, eAll, fAll, eCall, eIs, eSl, fSl, oNone, oSome, aNil, aCons, bVal, bAnd, bOr, bNot, bYes, blOf, gNot, iSeq, iRg1, iRg2, seq_l, seq_t, tup_l, tup_t, lst_l, lst_t, len_l, len_t, gIx_l, gIx_t, gNm, wipeR, List.getElem?_cons_zero, List.getElem?_cons_succ, List.set_cons_zero, List.set_cons_succ, Option.bind_some, Option.bind_none, Option.map_some, Option.map_none, if_true, if_false, decide_true, decide_false, Bool.not_true, Bool.not_false, Bool.false_eq_true, reduceIte, gAdd_i, gSub_i, gNeg_i, gLt_i, gLe_i, gGt_i, gGe_i, gEq_i, gNe_i, gMul_b, gMod_p, gFdiv_p, Nat.reduceAdd, Nat.reduceMul, Nat.reduceLeDiff, at0, at1, at2, at3, at4, at5, at6, at7, at8, at9, at10, at11, at12, at13, at14, at15, gSl_l, cut_pos, cut_from, cut_to, Int.reduceToNat, List.drop_succ_cons, List.drop_zero, List.take_succ_cons, List.take_zero, List.take_nil, Nat.reduceSub, Int.reduceAdd, Int.reduceSub, Int.reduceMul, Int.reduceMod, Int.reduceDiv, Int.reduceNeg, List.length_cons, List.length_nil, Nat.zero_add, fComp, compL, rg1_3, mInt, mAbs, mGcd, mMax2, mMin2, mMax3, mMin3, mIsqrt, isT, e3, e4, gIsB, w_whole, e5, ix_p0, ix_p1, e6]
theorem w_handed2 {v : V2} {w : Int} : m__law_handed [r2 true v, .int w] = some (r2 (decide (w = 0)) v) := w_handed_g (k := true) (l := [.int v.x, .int v.y]) (by simp)
theorem v_ratio {a b : Int} {v : V2} (h : x_ratio [.int a, .int b] = some (.val (r2 true v))) : m_ratio [.int a, .int b] = some (r2 true v) := by
  simp only [m_ratio, h, Option.bind_some, vOf]
theorem v_sign {k : Bool} {v : V2} : m_ratio_sign [r2 k v] = some (.int (if 0 < v.x then 1 else if v.x < 0 then -1 else 0)) := by
  by_cases c : 0 < v.x
  · simp only [m_ratio_sign, b_ratio_sign, runD, List.map_cons, List.map_nil, List.replicate_zero, List.replicate_succ, List.cons_append, List.nil_append, List.append_nil, sRet, sRetN, sNx, sSeq, sSet, sSetF, sOwn, sTo, gsCons, gsNil, sPar, sPar3, eChain, sExp, sApp, sPut, sIf, sFrz, frz, frz1, List.foldl_cons, List.foldl_nil, eBin, eUn, eVar, eC, eAnd, eOr, eIf, eLend, flat, eIxO, eOfF, eTup, eAll, fAll, eCall, eIs, eSl, fSl, oNone, oSome, aNil, aCons, bVal, bAnd, bOr, bNot, bYes, blOf, gNot, iSeq, iRg1, iRg2, seq_l, seq_t, tup_l, tup_t, lst_l, lst_t, len_l, len_t, gIx_l, gIx_t, gNm, wipeR, List.getElem?_cons_zero, List.getElem?_cons_succ, List.set_cons_zero, List.set_cons_succ, Option.bind_some, Option.bind_none, Option.map_some, Option.map_none, if_true, if_false, decide_true, decide_false, Bool.not_true, Bool.not_false, Bool.false_eq_true, reduceIte, gAdd_i, gSub_i, gNeg_i, gLt_i, gLe_i, gGt_i, gGe_i, gEq_i, gNe_i, gMul_b, gMod_p, gFdiv_p, Nat.reduceAdd, Nat.reduceMul, Nat.reduceLeDiff, at0, at1, at2, at3, at4, at5, at6, at7, at8, at9, at10, at11, at12, at13, at14, at15, gSl_l, cut_pos, cut_from, cut_to, Int.reduceToNat, List.drop_succ_cons, List.drop_zero, List.take_succ_cons, List.take_zero, List.take_nil, Nat.reduceSub, Int.reduceAdd, Int.reduceSub, Int.reduceMul, Int.reduceMod, Int.reduceDiv, Int.reduceNeg, List.length_cons, List.length_nil, Nat.zero_add, fComp, compL, rg1_3, mInt, mAbs, mGcd, mMax2, mMin2, mMax3, mMin3, mIsqrt, isT, ix_p0, c]
  · by_cases c2 : v.x < 0
    · simp only [m_ratio_sign, b_ratio_sign, runD, List.map_cons, List.map_nil, List.replicate_zero, List.replicate_succ, List.cons_append, List.nil_append, List.append_nil, sRet, sRetN, sNx, sSeq, sSet, sSetF, sOwn, sTo, gsCons, gsNil, sPar, sPar3, eChain, sExp, sApp, sPut, sIf, sFrz, frz, frz1, List.foldl_cons, List.foldl_nil, eBin, eUn, eVar, eC, eAnd, eOr, eIf, eLend, flat, eIxO, eOfF, eTup, eAll, fAll, eCall, eIs, eSl, fSl, oNone, oSome, aNil, aCons, bVal, bAnd, bOr, bNot, bYes, blOf, gNot, iSeq, iRg1, iRg2, seq_l, seq_t, tup_l, tup_t, lst_l, lst_t, len_l, len_t, gIx_l, gIx_t, gNm, wipeR, List.getElem?_cons_zero, List.getElem?_cons_succ, List.set_cons_zero, List.set_cons_succ, Option.bind_some, Option.bind_none, Option.map_some, Option.map_none, if_true, if_false, decide_true, decide_false, Bool.not_true, Bool.not_false, Bool.false_eq_true, reduceIte, gAdd_i, gSub_i, gNeg_i, gLt_i, gLe_i, gGt_i, gGe_i, gEq_i, gNe_i, gMul_b, gMod_p, gFdiv_p, Nat.reduceAdd, Nat.reduceMul, Nat.reduceLeDiff, at0, at1, at2, at3, at4, at5, at6, at7, at8, at9, at10, at11, at12, at13, at14, at15, gSl_l, cut_pos, cut_from, cut_to, Int.reduceToNat, List.drop_succ_cons, List.drop_zero, List.take_succ_cons, List.take_zero, List.take_nil, Nat.reduceSub, Int.reduceAdd, Int.reduceSub, Int.reduceMul, Int.reduceMod, Int.reduceDiv, Int.reduceNeg, List.length_cons, List.length_nil, Nat.zero_add, fComp, compL, rg1_3, mInt, mAbs, mGcd, mMax2, mMin2, mMax3, mMin3, mIsqrt, isT, ix_p0, c, c2]
    · simp only [m_ratio_sign, b_ratio_sign, runD, List.map_cons, List.map_nil, List.replicate_zero, List.replicate_succ, List.cons_append, List.nil_append, List.append_nil, sRet, sRetN, sNx, sSeq, sSet, sSetF, sOwn, sTo, gsCons, gsNil, sPar, sPar3, eChain, sExp, sApp, sPut, sIf, sFrz, frz, frz1, List.foldl_cons, List.foldl_nil, eBin, eUn, eVar, eC, eAnd, eOr, eIf, eLend, flat, eIxO, eOfF, eTup, eAll, fAll, eCall, eIs, eSl, fSl, oNone, oSome, aNil, aCons, bVal, bAnd, bOr, bNot, bYes, blOf, gNot, iSeq, iRg1, iRg2, seq_l, seq_t, tup_l, tup_t, lst_l, lst_t, len_l, len_t, gIx_l, gIx_t, gNm, wipeR, List.getElem?_cons_zero, List.getElem?_cons_succ, List.set_cons_zero, List.set_cons_succ, Option.bind_some, Option.bind_none, Option.map_some, Option.map_none, if_true, if_false, decide_true, decide_false, Bool.not_true, Bool.not_false, Bool.false_eq_true, reduceIte, gAdd_i, gSub_i, gNeg_i, gLt_i, gLe_i, gGt_i, gGe_i, gEq_i, gNe_i, gMul_b, gMod_p, gFdiv_p, Nat.reduceAdd, Nat.reduceMul, Nat.reduceLeDiff, at0, at1, at2, at3, at4, at5, at6, at7, at8, at9, at10, at11, at12, at13, at14, at15, gSl_l, cut_pos, cut_from, cut_to, Int.reduceToNat, List.drop_succ_cons, List.drop_zero, List.take_succ_cons, List.take_zero, List.take_nil, Nat.reduceSub, Int.reduceAdd, Int.reduceSub, Int.reduceMul, Int.reduceMod, Int.reduceDiv, Int.reduceNeg, List.length_cons, List.length_nil, Nat.zero_add, fComp, compL, rg1_3, mInt, mAbs, mGcd, mMax2, mMin2, mMax3, mMin3, mIsqrt, isT, ix_p0, c, c2]
theorem w_sums {f s : V2} {w : Int} (hf : BW 400 f) (hs : BW 400 s) (hf1 : 1 ≤ f.y) (hs1 : 1 ≤ s.y) : m__law_sums_right [r2 true f, r2 true s, .int w] = some (.bool true) := by
  have hb0 : f.y * s.y ≠ 0 := Int.mul_ne_zero (by omega) (by omega)
  have bb : (f.y * s.y).natAbs < 2 ^ 1000 := (inferInstance : Bd 800 (f.y * s.y)).up (m := 1000) (by decide) |>.lt
  have ba : (f.x * s.y + s.x * f.y).natAbs < 2 ^ 1000 := (inferInstance : Bd _ (f.x * s.y + s.x * f.y)).up (m := 1000) (by decide) |>.lt
  have bc : (f.x * s.x).natAbs < 2 ^ 1000 := (inferInstance : Bd 800 (f.x * s.x)).up (m := 1000) (by decide) |>.lt
  obtain ⟨x, y, hl, e1, _⟩ := v_low (a := f.x * s.y + s.x * f.y) hb0 bb
  obtain ⟨x', y', hl', e1', _⟩ := v_low (a := f.x * s.x) hb0 bb
  have r1 := v_ratio e1
  have r2' := v_ratio e1'
  have hy : y.natAbs < 2 ^ 1000 := Nat.lt_of_le_of_lt hl.by' bb
  have hy' : y'.natAbs < 2 ^ 1000 := Nat.lt_of_le_of_lt hl'.by' bb
  have l1 := w_lowest hl.pos hl.g hy
  have l2 := w_lowest hl'.pos hl'.g hy'
  haveI : Bd 1000 x := ⟨Nat.lt_of_le_of_lt hl.bx ba⟩
  haveI : Bd 1000 y := ⟨hy⟩
  haveI : Bd 1000 x' := ⟨Nat.lt_of_le_of_lt hl'.bx bc⟩
  haveI : Bd 1000 y' := ⟨hy'⟩
  have q1 := hl.e
  have q2 := hl'.e
  have rs : m_ratio_sum [r2 (decide (w = 0)) f, r2 (decide (1 - w = 0)) s] = some (r2 true ⟨x, y⟩) := by
    simp (config := {decide := true}) only [m_ratio_sum, b_ratio_sum, runD, List.map_cons, List.map_nil, List.replicate_zero, List.replicate_succ, List.cons_append, List.nil_append, List.append_nil, sRet, sRetN, sNx, sSeq, sSet, sSetF, sOwn, sTo, gsCons, gsNil, sPar, sPar3, eChain, sExp, sApp, sPut, sIf, sFrz, frz, frz1, List.foldl_cons, List.foldl_nil, eBin, eUn, eVar, eC, eAnd, eOr, eIf, eLend, flat, eIxO, eOfF, eTup, eAll, fAll, eCall, eIs, eSl, fSl, oNone, oSome, aNil, aCons, bVal, bAnd, bOr, bNot, bYes, blOf, gNot, iSeq, iRg1, iRg2, seq_l, seq_t, tup_l, tup_t, lst_l, lst_t, len_l, len_t, gIx_l, gIx_t, gNm, wipeR, List.getElem?_cons_zero, List.getElem?_cons_succ, List.set_cons_zero, List.set_cons_succ, Option.bind_some, Option.bind_none, Option.map_some, Option.map_none, if_true, if_false, decide_true, decide_false, Bool.not_true, Bool.not_false, Bool.false_eq_true, reduceIte, gAdd_i, gSub_i, gNeg_i, gLt_i, gLe_i, gGt_i, gGe_i, gEq_i, gNe_i, gMul_b, gMod_p, gFdiv_p, Nat.reduceAdd, Nat.reduceMul, Nat.reduceLeDiff, at0, at1, at2, at3, at4, at5, at6, at7, at8, at9, at10, at11, at12, at13, at14, at15, gSl_l, cut_pos, cut_from, cut_to, Int.reduceToNat, List.drop_succ_cons, List.drop_zero, List.take_succ_cons, List.take_zero, List.take_nil, Nat.reduceSub, Int.reduceAdd, Int.reduceSub, Int.reduceMul, Int.reduceMod, Int.reduceDiv, Int.reduceNeg, List.length_cons, List.length_nil, Nat.zero_add, fComp, compL, rg1_3, mInt, mAbs, mGcd, mMax2, mMin2, mMax3, mMin3, mIsqrt, isT, ix_p0, ix_p1, r1]
  have rp : m_ratio_product [r2 (decide (w = 0)) f, r2 (decide (1 - w = 0)) s] = some (r2 true ⟨x', y'⟩) := by
    simp (config := {decide := true}) only [m_ratio_product, b_ratio_product, runD, List.map_cons, List.map_nil, List.replicate_zero, List.replicate_succ, List.cons_append, List.nil_append, List.append_nil, sRet, sRetN, sNx, sSeq, sSet, sSetF, sOwn, sTo, gsCons, gsNil, sPar, sPar3, eChain, sExp, sApp, sPut, sIf, sFrz, frz, frz1, List.foldl_cons, List.foldl_nil, eBin, eUn, eVar, eC, eAnd, eOr, eIf, eLend, flat, eIxO, eOfF, eTup, eAll, fAll, eCall, eIs, eSl, fSl, oNone, oSome, aNil, aCons, bVal, bAnd, bOr, bNot, bYes, blOf, gNot, iSeq, iRg1, iRg2, seq_l, seq_t, tup_l, tup_t, lst_l, lst_t, len_l, len_t, gIx_l, gIx_t, gNm, wipeR, List.getElem?_cons_zero, List.getElem?_cons_succ, List.set_cons_zero, List.set_cons_succ, Option.bind_some, Option.bind_none, Option.map_some, Option.map_none, if_true, if_false, decide_true, decide_false, Bool.not_true, Bool.not_false, Bool.false_eq_true, reduceIte, gAdd_i, gSub_i, gNeg_i, gLt_i, gLe_i, gGt_i, gGe_i, gEq_i, gNe_i, gMul_b, gMod_p, gFdiv_p, Nat.reduceAdd, Nat.reduceMul, Nat.reduceLeDiff, at0, at1, at2, at3, at4, at5, at6, at7, at8, at9, at10, at11, at12, at13, at14, at15, gSl_l, cut_pos, cut_from, cut_to, Int.reduceToNat, List.drop_succ_cons, List.drop_zero, List.take_succ_cons, List.take_zero, List.take_nil, Nat.reduceSub, Int.reduceAdd, Int.reduceSub, Int.reduceMul, Int.reduceMod, Int.reduceDiv, Int.reduceNeg, List.length_cons, List.length_nil, Nat.zero_add, fComp, compL, rg1_3, mInt, mAbs, mGcd, mMax2, mMin2, mMax3, mMin3, mIsqrt, isT, ix_p0, ix_p1, r2']
  have sg : ∀ v : V2, (if 0 < v.x then (1 : Int) else if v.x < 0 then -1 else 0) = (if decide (0 < v.x) = true then 1 else 0) - (if decide (v.x < 0) = true then 1 else 0) := by
    intro v
    by_cases c : 0 < v.x
    · simp [c, show ¬ v.x < 0 by omega]
    · by_cases c2 : v.x < 0
      · simp [c, c2]
      · simp [c, c2]
  refine run_rt (k := 4) (u := b__law_sums_right) ?_
  simp only [List.map_cons, List.map_nil, List.replicate_succ, List.replicate_zero, List.cons_append, List.nil_append]
  unfold b__law_sums_right
  (refine Eq.trans (sSeq_eq (ρ' := ?_) ?_) ?_; rotate_left; ((conv => lhs; simp (config := {decide := true}) only [runD, List.map_cons, List.map_nil, List.replicate_zero, List.replicate_succ, List.cons_append, List.nil_append, List.append_nil, sRet, sRetN, sNx, sSeq, sSet, sSetF, sOwn, sTo, gsCons, gsNil, sPar, sPar3, eChain, sExp, sApp, sPut, sIf, sFrz, frz, frz1, List.foldl_cons, List.foldl_nil, eBin, eUn, eVar, eC, eAnd, eOr, eIf, eLend, flat, eIxO, eOfF, eTup, eAll, fAll, eCall, eIs, eSl, fSl, oNone, oSome, aNil, aCons, bVal, bAnd, bOr, bNot, bYes, blOf, gNot, iSeq, iRg1, iRg2, seq_l, seq_t, tup_l, tup_t, lst_l, lst_t, len_l, len_t, gIx_l, gIx_t, gNm, wipeR, List.getElem?_cons_zero, List.getElem?_cons_succ, List.set_cons_zero, List.set_cons_succ, Option.bind_some, Option.bind_none, Option.map_some, Option.map_none, if_true, if_false, decide_true, decide_false, Bool.not_true, Bool.not_false, Bool.false_eq_true, reduceIte, gAdd_i, gSub_i, gNeg_i, gLt_i, gLe_i, gGt_i, gGe_i, gEq_i, gNe_i, gMul_b, gMod_p, gFdiv_p, Nat.reduceAdd, Nat.reduceMul, Nat.reduceLeDiff, at0, at1, at2, at3, at4, at5, at6, at7, at8, at9, at10, at11, at12, at13, at14, at15, gSl_l, cut_pos, cut_from, cut_to, Int.reduceToNat, List.drop_succ_cons, List.drop_zero, List.take_succ_cons, List.take_zero, List.take_nil, Nat.reduceSub, Int.reduceAdd, Int.reduceSub, Int.reduceMul, Int.reduceMod, Int.reduceDiv, Int.reduceNeg, List.length_cons, List.length_nil, Nat.zero_add, fComp, compL, rg1_3, mInt, mAbs, mGcd, mMax2, mMin2, mMax3, mMin3, mIsqrt, isT, w_handed2]); try rfl))
  (refine Eq.trans (sSeq_eq (ρ' := ?_) ?_) ?_; rotate_left; ((conv => lhs; simp (config := {decide := true}) only [runD, List.map_cons, List.map_nil, List.replicate_zero, List.replicate_succ, List.cons_append, List.nil_append, List.append_nil, sRet, sRetN, sNx, sSeq, sSet, sSetF, sOwn, sTo, gsCons, gsNil, sPar, sPar3, eChain, sExp, sApp, sPut, sIf, sFrz, frz, frz1, List.foldl_cons, List.foldl_nil, eBin, eUn, eVar, eC, eAnd, eOr, eIf, eLend, flat, eIxO, eOfF, eTup, eAll, fAll, eCall, eIs, eSl, fSl, oNone, oSome, aNil, aCons, bVal, bAnd, bOr, bNot, bYes, blOf, gNot, iSeq, iRg1, iRg2, seq_l, seq_t, tup_l, tup_t, lst_l, lst_t, len_l, len_t, gIx_l, gIx_t, gNm, wipeR, List.getElem?_cons_zero, List.getElem?_cons_succ, List.set_cons_zero, List.set_cons_succ, Option.bind_some, Option.bind_none, Option.map_some, Option.map_none, if_true, if_false, decide_true, decide_false, Bool.not_true, Bool.not_false, Bool.false_eq_true, reduceIte, gAdd_i, gSub_i, gNeg_i, gLt_i, gLe_i, gGt_i, gGe_i, gEq_i, gNe_i, gMul_b, gMod_p, gFdiv_p, Nat.reduceAdd, Nat.reduceMul, Nat.reduceLeDiff, at0, at1, at2, at3, at4, at5, at6, at7, at8, at9, at10, at11, at12, at13, at14, at15, gSl_l, cut_pos, cut_from, cut_to, Int.reduceToNat, List.drop_succ_cons, List.drop_zero, List.take_succ_cons, List.take_zero, List.take_nil, Nat.reduceSub, Int.reduceAdd, Int.reduceSub, Int.reduceMul, Int.reduceMod, Int.reduceDiv, Int.reduceNeg, List.length_cons, List.length_nil, Nat.zero_add, fComp, compL, rg1_3, mInt, mAbs, mGcd, mMax2, mMin2, mMax3, mMin3, mIsqrt, isT, w_handed2]); try rfl))
  (refine Eq.trans (sSeq_eq (ρ' := ?_) ?_) ?_; rotate_left; ((conv => lhs; simp (config := {decide := true}) only [runD, List.map_cons, List.map_nil, List.replicate_zero, List.replicate_succ, List.cons_append, List.nil_append, List.append_nil, sRet, sRetN, sNx, sSeq, sSet, sSetF, sOwn, sTo, gsCons, gsNil, sPar, sPar3, eChain, sExp, sApp, sPut, sIf, sFrz, frz, frz1, List.foldl_cons, List.foldl_nil, eBin, eUn, eVar, eC, eAnd, eOr, eIf, eLend, flat, eIxO, eOfF, eTup, eAll, fAll, eCall, eIs, eSl, fSl, oNone, oSome, aNil, aCons, bVal, bAnd, bOr, bNot, bYes, blOf, gNot, iSeq, iRg1, iRg2, seq_l, seq_t, tup_l, tup_t, lst_l, lst_t, len_l, len_t, gIx_l, gIx_t, gNm, wipeR, List.getElem?_cons_zero, List.getElem?_cons_succ, List.set_cons_zero, List.set_cons_succ, Option.bind_some, Option.bind_none, Option.map_some, Option.map_none, if_true, if_false, decide_true, decide_false, Bool.not_true, Bool.not_false, Bool.false_eq_true, reduceIte, gAdd_i, gSub_i, gNeg_i, gLt_i, gLe_i, gGt_i, gGe_i, gEq_i, gNe_i, gMul_b, gMod_p, gFdiv_p, Nat.reduceAdd, Nat.reduceMul, Nat.reduceLeDiff, at0, at1, at2, at3, at4, at5, at6, at7, at8, at9, at10, at11, at12, at13, at14, at15, gSl_l, cut_pos, cut_from, cut_to, Int.reduceToNat, List.drop_succ_cons, List.drop_zero, List.take_succ_cons, List.take_zero, List.take_nil, Nat.reduceSub, Int.reduceAdd, Int.reduceSub, Int.reduceMul, Int.reduceMod, Int.reduceDiv, Int.reduceNeg, List.length_cons, List.length_nil, Nat.zero_add, fComp, compL, rg1_3, mInt, mAbs, mGcd, mMax2, mMin2, mMax3, mMin3, mIsqrt, isT, rs]); try rfl))
  (refine Eq.trans (sSeq_eq (ρ' := ?_) ?_) ?_; rotate_left; ((conv => lhs; simp (config := {decide := true}) only [runD, List.map_cons, List.map_nil, List.replicate_zero, List.replicate_succ, List.cons_append, List.nil_append, List.append_nil, sRet, sRetN, sNx, sSeq, sSet, sSetF, sOwn, sTo, gsCons, gsNil, sPar, sPar3, eChain, sExp, sApp, sPut, sIf, sFrz, frz, frz1, List.foldl_cons, List.foldl_nil, eBin, eUn, eVar, eC, eAnd, eOr, eIf, eLend, flat, eIxO, eOfF, eTup, eAll, fAll, eCall, eIs, eSl, fSl, oNone, oSome, aNil, aCons, bVal, bAnd, bOr, bNot, bYes, blOf, gNot, iSeq, iRg1, iRg2, seq_l, seq_t, tup_l, tup_t, lst_l, lst_t, len_l, len_t, gIx_l, gIx_t, gNm, wipeR, List.getElem?_cons_zero, List.getElem?_cons_succ, List.set_cons_zero, List.set_cons_succ, Option.bind_some, Option.bind_none, Option.map_some, Option.map_none, if_true, if_false, decide_true, decide_false, Bool.not_true, Bool.not_false, Bool.false_eq_true, reduceIte, gAdd_i, gSub_i, gNeg_i, gLt_i, gLe_i, gGt_i, gGe_i, gEq_i, gNe_i, gMul_b, gMod_p, gFdiv_p, Nat.reduceAdd, Nat.reduceMul, Nat.reduceLeDiff, at0, at1, at2, at3, at4, at5, at6, at7, at8, at9, at10, at11, at12, at13, at14, at15, gSl_l, cut_pos, cut_from, cut_to, Int.reduceToNat, List.drop_succ_cons, List.drop_zero, List.take_succ_cons, List.take_zero, List.take_nil, Nat.reduceSub, Int.reduceAdd, Int.reduceSub, Int.reduceMul, Int.reduceMod, Int.reduceDiv, Int.reduceNeg, List.length_cons, List.length_nil, Nat.zero_add, fComp, compL, rg1_3, mInt, mAbs, mGcd, mMax2, mMin2, mMax3, mMin3, mIsqrt, isT, l1, ix_p0, ix_p1, q1]); try rfl))
  (refine Eq.trans (sSeq_eq (ρ' := ?_) ?_) ?_; rotate_left; ((conv => lhs; simp (config := {decide := true}) only [runD, List.map_cons, List.map_nil, List.replicate_zero, List.replicate_succ, List.cons_append, List.nil_append, List.append_nil, sRet, sRetN, sNx, sSeq, sSet, sSetF, sOwn, sTo, gsCons, gsNil, sPar, sPar3, eChain, sExp, sApp, sPut, sIf, sFrz, frz, frz1, List.foldl_cons, List.foldl_nil, eBin, eUn, eVar, eC, eAnd, eOr, eIf, eLend, flat, eIxO, eOfF, eTup, eAll, fAll, eCall, eIs, eSl, fSl, oNone, oSome, aNil, aCons, bVal, bAnd, bOr, bNot, bYes, blOf, gNot, iSeq, iRg1, iRg2, seq_l, seq_t, tup_l, tup_t, lst_l, lst_t, len_l, len_t, gIx_l, gIx_t, gNm, wipeR, List.getElem?_cons_zero, List.getElem?_cons_succ, List.set_cons_zero, List.set_cons_succ, Option.bind_some, Option.bind_none, Option.map_some, Option.map_none, if_true, if_false, decide_true, decide_false, Bool.not_true, Bool.not_false, Bool.false_eq_true, reduceIte, gAdd_i, gSub_i, gNeg_i, gLt_i, gLe_i, gGt_i, gGe_i, gEq_i, gNe_i, gMul_b, gMod_p, gFdiv_p, Nat.reduceAdd, Nat.reduceMul, Nat.reduceLeDiff, at0, at1, at2, at3, at4, at5, at6, at7, at8, at9, at10, at11, at12, at13, at14, at15, gSl_l, cut_pos, cut_from, cut_to, Int.reduceToNat, List.drop_succ_cons, List.drop_zero, List.take_succ_cons, List.take_zero, List.take_nil, Nat.reduceSub, Int.reduceAdd, Int.reduceSub, Int.reduceMul, Int.reduceMod, Int.reduceDiv, Int.reduceNeg, List.length_cons, List.length_nil, Nat.zero_add, fComp, compL, rg1_3, mInt, mAbs, mGcd, mMax2, mMin2, mMax3, mMin3, mIsqrt, isT, rp]); try rfl))
  (refine Eq.trans (sSeq_eq (ρ' := ?_) ?_) ?_; rotate_left; ((conv => lhs; simp (config := {decide := true}) only [runD, List.map_cons, List.map_nil, List.replicate_zero, List.replicate_succ, List.cons_append, List.nil_append, List.append_nil, sRet, sRetN, sNx, sSeq, sSet, sSetF, sOwn, sTo, gsCons, gsNil, sPar, sPar3, eChain, sExp, sApp, sPut, sIf, sFrz, frz, frz1, List.foldl_cons, List.foldl_nil, eBin, eUn, eVar, eC, eAnd, eOr, eIf, eLend, flat, eIxO, eOfF, eTup, eAll, fAll, eCall, eIs, eSl, fSl, oNone, oSome, aNil, aCons, bVal, bAnd, bOr, bNot, bYes, blOf, gNot, iSeq, iRg1, iRg2, seq_l, seq_t, tup_l, tup_t, lst_l, lst_t, len_l, len_t, gIx_l, gIx_t, gNm, wipeR, List.getElem?_cons_zero, List.getElem?_cons_succ, List.set_cons_zero, List.set_cons_succ, Option.bind_some, Option.bind_none, Option.map_some, Option.map_none, if_true, if_false, decide_true, decide_false, Bool.not_true, Bool.not_false, Bool.false_eq_true, reduceIte, gAdd_i, gSub_i, gNeg_i, gLt_i, gLe_i, gGt_i, gGe_i, gEq_i, gNe_i, gMul_b, gMod_p, gFdiv_p, Nat.reduceAdd, Nat.reduceMul, Nat.reduceLeDiff, at0, at1, at2, at3, at4, at5, at6, at7, at8, at9, at10, at11, at12, at13, at14, at15, gSl_l, cut_pos, cut_from, cut_to, Int.reduceToNat, List.drop_succ_cons, List.drop_zero, List.take_succ_cons, List.take_zero, List.take_nil, Nat.reduceSub, Int.reduceAdd, Int.reduceSub, Int.reduceMul, Int.reduceMod, Int.reduceDiv, Int.reduceNeg, List.length_cons, List.length_nil, Nat.zero_add, fComp, compL, rg1_3, mInt, mAbs, mGcd, mMax2, mMin2, mMax3, mMin3, mIsqrt, isT, l2, ix_p0, ix_p1, q2]); try rfl))
  refine Eq.trans (sSeq_eq (ρ' := [.va (r2 true f), .va (r2 true s), .va (.int w), .va (r2 (decide (w = 0)) f), .va (r2 (decide (1 - w = 0)) s), .va (.int (if 0 < s.x then 1 else if s.x < 0 then -1 else 0)), .va (r2 true s)]) ?_) ?_
  · have g1 := sg f
    have g2 := sg s
    simp (config := {decide := true}) only [sFor, runD, List.map_cons, List.map_nil, List.replicate_zero, List.replicate_succ, List.cons_append, List.nil_append, List.append_nil, sRet, sRetN, sNx, sSeq, sSet, sSetF, sOwn, sTo, gsCons, gsNil, sPar, sPar3, eChain, sExp, sApp, sPut, sIf, sFrz, frz, frz1, List.foldl_cons, List.foldl_nil, eBin, eUn, eVar, eC, eAnd, eOr, eIf, eLend, flat, eIxO, eOfF, eTup, eAll, fAll, eCall, eIs, eSl, fSl, oNone, oSome, aNil, aCons, bVal, bAnd, bOr, bNot, bYes, blOf, gNot, iSeq, iRg1, iRg2, seq_l, seq_t, tup_l, tup_t, lst_l, lst_t, len_l, len_t, gIx_l, gIx_t, gNm, wipeR, List.getElem?_cons_zero, List.getElem?_cons_succ, List.set_cons_zero, List.set_cons_succ, Option.bind_some, Option.bind_none, Option.map_some, Option.map_none, if_true, if_false, decide_true, decide_false, Bool.not_true, Bool.not_false, Bool.false_eq_true, reduceIte, gAdd_i, gSub_i, gNeg_i, gLt_i, gLe_i, gGt_i, gGe_i, gEq_i, gNe_i, gMul_b, gMod_p, gFdiv_p, Nat.reduceAdd, Nat.reduceMul, Nat.reduceLeDiff, at0, at1, at2, at3, at4, at5, at6, at7, at8, at9, at10, at11, at12, at13, at14, at15, gSl_l, cut_pos, cut_from, cut_to, Int.reduceToNat, List.drop_succ_cons, List.drop_zero, List.take_succ_cons, List.take_zero, List.take_nil, Nat.reduceSub, Int.reduceAdd, Int.reduceSub, Int.reduceMul, Int.reduceMod, Int.reduceDiv, Int.reduceNeg, List.length_cons, List.length_nil, Nat.zero_add, fComp, compL, rg1_3, mInt, mAbs, mGcd, mMax2, mMin2, mMax3, mMin3, mIsqrt, isT, forL, w_handed2, v_sign, w_whole, ix_p0, g1, g2]
  · simp only [runD, List.map_cons, List.map_nil, List.replicate_zero, List.replicate_succ, List.cons_append, List.nil_append, List.append_nil, sRet, sRetN, sNx, sSeq, sSet, sSetF, sOwn, sTo, gsCons, gsNil, sPar, sPar3, eChain, sExp, sApp, sPut, sIf, sFrz, frz, frz1, List.foldl_cons, List.foldl_nil, eBin, eUn, eVar, eC, eAnd, eOr, eIf, eLend, flat, eIxO, eOfF, eTup, eAll, fAll, eCall, eIs, eSl, fSl, oNone, oSome, aNil, aCons, bVal, bAnd, bOr, bNot, bYes, blOf, gNot, iSeq, iRg1, iRg2, seq_l, seq_t, tup_l, tup_t, lst_l, lst_t, len_l, len_t, gIx_l, gIx_t, gNm, wipeR, List.getElem?_cons_zero, List.getElem?_cons_succ, List.set_cons_zero, List.set_cons_succ, Option.bind_some, Option.bind_none, Option.map_some, Option.map_none, if_true, if_false, decide_true, decide_false, Bool.not_true, Bool.not_false, Bool.false_eq_true, reduceIte, gAdd_i, gSub_i, gNeg_i, gLt_i, gLe_i, gGt_i, gGe_i, gEq_i, gNe_i, gMul_b, gMod_p, gFdiv_p, Nat.reduceAdd, Nat.reduceMul, Nat.reduceLeDiff, at0, at1, at2, at3, at4, at5, at6, at7, at8, at9, at10, at11, at12, at13, at14, at15, gSl_l, cut_pos, cut_from, cut_to, Int.reduceToNat, List.drop_succ_cons, List.drop_zero, List.take_succ_cons, List.take_zero, List.take_nil, Nat.reduceSub, Int.reduceAdd, Int.reduceSub, Int.reduceMul, Int.reduceMod, Int.reduceDiv, Int.reduceNeg, List.length_cons, List.length_nil, Nat.zero_add, fComp, compL, rg1_3, mInt, mAbs, mGcd, mMax2, mMin2, mMax3, mMin3, mIsqrt, isT, tup_p, eq_p]
theorem numbers2_go (ns : List Int) (a : SC) : ∀ (m : Nat) (i : Int), 0 ≤ i → i + m < 1000 → ∃ l, Nums m l ∧
    compL (gNm 13) bYes (eCall m__law_number (aCons (eCall m__law_cell (aCons (eVar 0) (aCons (eVar 13) aNil))) aNil)) [.va (.list (ns.map .int)), a, .un, .un, .un, .un, .un, .un, .un, .un, .un, .un, .un, .un] (rng i m) = some (l.map PyData.int)
  | 0, i, _, _ => ⟨[], ⟨rfl, by simp⟩, rfl⟩
  | m + 1, i, h1, h2 => by
    obtain ⟨l, q1, q2⟩ := numbers2_go ns a m (i + 1) (by omega) (by omega)
    obtain ⟨c, e1⟩ := w_cell ns i h1 (by omega)
    obtain ⟨n, b, e2⟩ := w_number c
    refine ⟨n :: l, ⟨congrArg (· + 1) q1.1, fun x hx => ?_⟩, ?_⟩
    · rcases List.mem_cons.mp hx with rfl | hx
      · exact b.lt
      · exact q1.2 x hx
    · rw [rng_succ]
      simp only [runD, List.map_cons, List.map_nil, List.replicate_zero, List.replicate_succ, List.cons_append, List.nil_append, List.append_nil, sRet, sRetN, sNx, sSeq, sSet, sSetF, sOwn, sTo, gsCons, gsNil, sPar, sPar3, eChain, sExp, sApp, sPut, sIf, sFrz, frz, frz1, List.foldl_cons, List.foldl_nil, eBin, eUn, eVar, eC, eAnd, eOr, eIf, eLend, flat, eIxO, eOfF, eTup, eAll, fAll, eCall, eIs, eSl, fSl, oNone, oSome, aNil, aCons, bVal, bAnd, bOr, bNot, bYes, blOf, gNot, iSeq, iRg1, iRg2, seq_l, seq_t, tup_l, tup_t, lst_l, lst_t, len_l, len_t, gIx_l, gIx_t, gNm, wipeR, List.getElem?_cons_zero, List.getElem?_cons_succ, List.set_cons_zero, List.set_cons_succ, Option.bind_some, Option.bind_none, Option.map_some, Option.map_none, if_true, if_false, decide_true, decide_false, Bool.not_true, Bool.not_false, Bool.false_eq_true, reduceIte, gAdd_i, gSub_i, gNeg_i, gLt_i, gLe_i, gGt_i, gGe_i, gEq_i, gNe_i, gMul_b, gMod_p, gFdiv_p, Nat.reduceAdd, Nat.reduceMul, Nat.reduceLeDiff, at0, at1, at2, at3, at4, at5, at6, at7, at8, at9, at10, at11, at12, at13, at14, at15, gSl_l, cut_pos, cut_from, cut_to, Int.reduceToNat, List.drop_succ_cons, List.drop_zero, List.take_succ_cons, List.take_zero, List.take_nil, Nat.reduceSub, Int.reduceAdd, Int.reduceSub, Int.reduceMul, Int.reduceMod, Int.reduceDiv, Int.reduceNeg, List.length_cons, List.length_nil, Nat.zero_add, fComp, compL, rg1_3, mInt, mAbs, mGcd, mMax2, mMin2, mMax3, mMin3, mIsqrt, isT, e1, e2, q2]
theorem nx_of {o : Option PyData} {k : PyData → Option PyData} {d : PyData} {g : PyData → Rho} (h : o.bind k = some d) : ((o.bind fun y => k y).bind fun d => some (SR.nx (g d))) = some (.nx (g d)) := by
  cases o with
  | none => cases h
  | some y =>
    have h' : k y = some d := h
    simp only [Option.bind_some, h']
theorem law_true (ns : List Int) (h : ns.length ≤ 63) (hb : ∀ z ∈ ns, Builtin.Int.intBits z ≤ 1048576) : m_law [.list (ns.map PyData.int)] = some (.bool true) := by
  obtain ⟨c0, e0⟩ := w_cell ns 0 (by decide) (by decide)
  obtain ⟨c14, e14⟩ := w_cell ns 14 (by decide) (by decide)
  obtain ⟨c15, e15⟩ := w_cell ns 15 (by decide) (by decide)
  obtain ⟨ds, q1, q2⟩ := w_digits c0 [7, 4, 9, 7, 2] (by decide) (by decide)
  obtain ⟨d0, r, rfl, a0, b0, q1⟩ := inD_cons q1
  obtain ⟨d1, r, rfl, a1, b1, q1⟩ := inD_cons q1
  obtain ⟨d2, r, rfl, a2, b2, q1⟩ := inD_cons q1
  obtain ⟨d3, r, rfl, a3, b3, q1⟩ := inD_cons q1
  obtain ⟨d4, r, rfl, a4, b4, q1⟩ := inD_cons q1
  obtain rfl := inD_nil q1
  simp only [List.map_cons, List.map_nil] at q2
  obtain ⟨l, n1, n2⟩ := numbers2_go ns (.va (.list [.int d0, .int d1, .int d2, .int d3, .int d4])) 13 1 (by decide) (by decide)
  have n3 : rg2 (.int 1) (.int 14) = some (rng 1 13) := rg2_lit 1 14 (by decide) (by decide) (by decide) (by decide)
  have n4 : (rng 1 13).length ≤ 16000000 := by rw [rng_len]; decide
  obtain ⟨x0, l, rfl, k0, n1⟩ := n1.cons
  obtain ⟨x1, l, rfl, k1, n1⟩ := n1.cons
  obtain ⟨x2, l, rfl, k2, n1⟩ := n1.cons
  obtain ⟨x3, l, rfl, k3, n1⟩ := n1.cons
  obtain ⟨x4, l, rfl, k4, n1⟩ := n1.cons
  obtain ⟨x5, l, rfl, k5, n1⟩ := n1.cons
  obtain ⟨x6, l, rfl, k6, n1⟩ := n1.cons
  obtain ⟨x7, l, rfl, k7, n1⟩ := n1.cons
  obtain ⟨x8, l, rfl, k8, n1⟩ := n1.cons
  obtain ⟨x9, l, rfl, k9, n1⟩ := n1.cons
  obtain ⟨x10, l, rfl, k10, n1⟩ := n1.cons
  obtain ⟨x11, l, rfl, k11, n1⟩ := n1.cons
  obtain ⟨x12, l, rfl, k12, n1⟩ := n1.cons
  obtain rfl := n1.nil
  simp only [List.map_cons, List.map_nil] at n2
  obtain ⟨np, p1, p2, p3⟩ := w_nfp c14
  have wp := w_powers (show 0 < np by omega) p2
  have wv := w_valuation_right c15 k6.lt
  refine run_rt (k := 13) (u := b_law) ?_
  simp only [List.map_cons, List.map_nil, List.replicate_succ, List.replicate_zero, List.cons_append, List.nil_append]
  unfold b_law
  (refine Eq.trans (sSeq_eq (ρ' := ?_) ?_) ?_; rotate_left; ((conv => lhs; simp (config := {decide := true}) only [runD, List.map_cons, List.map_nil, List.replicate_zero, List.replicate_succ, List.cons_append, List.nil_append, List.append_nil, sRet, sRetN, sNx, sSeq, sSet, sSetF, sOwn, sTo, gsCons, gsNil, sPar, sPar3, eChain, sExp, sApp, sPut, sIf, sFrz, frz, frz1, List.foldl_cons, List.foldl_nil, eBin, eUn, eVar, eC, eAnd, eOr, eIf, eLend, flat, eIxO, eOfF, eTup, eAll, fAll, eCall, eIs, eSl, fSl, oNone, oSome, aNil, aCons, bVal, bAnd, bOr, bNot, bYes, blOf, gNot, iSeq, iRg1, iRg2, seq_l, seq_t, tup_l, tup_t, lst_l, lst_t, len_l, len_t, gIx_l, gIx_t, gNm, wipeR, List.getElem?_cons_zero, List.getElem?_cons_succ, List.set_cons_zero, List.set_cons_succ, Option.bind_some, Option.bind_none, Option.map_some, Option.map_none, if_true, if_false, decide_true, decide_false, Bool.not_true, Bool.not_false, Bool.false_eq_true, reduceIte, gAdd_i, gSub_i, gNeg_i, gLt_i, gLe_i, gGt_i, gGe_i, gEq_i, gNe_i, gMul_b, gMod_p, gFdiv_p, Nat.reduceAdd, Nat.reduceMul, Nat.reduceLeDiff, at0, at1, at2, at3, at4, at5, at6, at7, at8, at9, at10, at11, at12, at13, at14, at15, gSl_l, cut_pos, cut_from, cut_to, Int.reduceToNat, List.drop_succ_cons, List.drop_zero, List.take_succ_cons, List.take_zero, List.take_nil, Nat.reduceSub, Int.reduceAdd, Int.reduceSub, Int.reduceMul, Int.reduceMod, Int.reduceDiv, Int.reduceNeg, List.length_cons, List.length_nil, Nat.zero_add, fComp, compL, rg1_3, mInt, mAbs, mGcd, mMax2, mMin2, mMax3, mMin3, mIsqrt, isT, e0, q2]); try rfl))
  (refine Eq.trans (sSeq_eq (ρ' := ?_) ?_) ?_; rotate_left; ((conv => lhs; simp (config := {decide := true}) only [runD, List.map_cons, List.map_nil, List.replicate_zero, List.replicate_succ, List.cons_append, List.nil_append, List.append_nil, sRet, sRetN, sNx, sSeq, sSet, sSetF, sOwn, sTo, gsCons, gsNil, sPar, sPar3, eChain, sExp, sApp, sPut, sIf, sFrz, frz, frz1, List.foldl_cons, List.foldl_nil, eBin, eUn, eVar, eC, eAnd, eOr, eIf, eLend, flat, eIxO, eOfF, eTup, eAll, fAll, eCall, eIs, eSl, fSl, oNone, oSome, aNil, aCons, bVal, bAnd, bOr, bNot, bYes, blOf, gNot, iSeq, iRg1, iRg2, seq_l, seq_t, tup_l, tup_t, lst_l, lst_t, len_l, len_t, gIx_l, gIx_t, gNm, wipeR, List.getElem?_cons_zero, List.getElem?_cons_succ, List.set_cons_zero, List.set_cons_succ, Option.bind_some, Option.bind_none, Option.map_some, Option.map_none, if_true, if_false, decide_true, decide_false, Bool.not_true, Bool.not_false, Bool.false_eq_true, reduceIte, gAdd_i, gSub_i, gNeg_i, gLt_i, gLe_i, gGt_i, gGe_i, gEq_i, gNe_i, gMul_b, gMod_p, gFdiv_p, Nat.reduceAdd, Nat.reduceMul, Nat.reduceLeDiff, at0, at1, at2, at3, at4, at5, at6, at7, at8, at9, at10, at11, at12, at13, at14, at15, gSl_l, cut_pos, cut_from, cut_to, Int.reduceToNat, List.drop_succ_cons, List.drop_zero, List.take_succ_cons, List.take_zero, List.take_nil, Nat.reduceSub, Int.reduceAdd, Int.reduceSub, Int.reduceMul, Int.reduceMod, Int.reduceDiv, Int.reduceNeg, List.length_cons, List.length_nil, Nat.zero_add, fComp, compL, rg1_3, mInt, mAbs, mGcd, mMax2, mMin2, mMax3, mMin3, mIsqrt, isT, n2, n3, n4]); try rfl))
  (refine Eq.trans (sSeq_eq (ρ' := ?_) ?_) ?_; rotate_left; ((conv => lhs; simp (config := {decide := true}) only [runD, List.map_cons, List.map_nil, List.replicate_zero, List.replicate_succ, List.cons_append, List.nil_append, List.append_nil, sRet, sRetN, sNx, sSeq, sSet, sSetF, sOwn, sTo, gsCons, gsNil, sPar, sPar3, eChain, sExp, sApp, sPut, sIf, sFrz, frz, frz1, List.foldl_cons, List.foldl_nil, eBin, eUn, eVar, eC, eAnd, eOr, eIf, eLend, flat, eIxO, eOfF, eTup, eAll, fAll, eCall, eIs, eSl, fSl, oNone, oSome, aNil, aCons, bVal, bAnd, bOr, bNot, bYes, blOf, gNot, iSeq, iRg1, iRg2, seq_l, seq_t, tup_l, tup_t, lst_l, lst_t, len_l, len_t, gIx_l, gIx_t, gNm, wipeR, List.getElem?_cons_zero, List.getElem?_cons_succ, List.set_cons_zero, List.set_cons_succ, Option.bind_some, Option.bind_none, Option.map_some, Option.map_none, if_true, if_false, decide_true, decide_false, Bool.not_true, Bool.not_false, Bool.false_eq_true, reduceIte, gAdd_i, gSub_i, gNeg_i, gLt_i, gLe_i, gGt_i, gGe_i, gEq_i, gNe_i, gMul_b, gMod_p, gFdiv_p, Nat.reduceAdd, Nat.reduceMul, Nat.reduceLeDiff, at0, at1, at2, at3, at4, at5, at6, at7, at8, at9, at10, at11, at12, at13, at14, at15, gSl_l, cut_pos, cut_from, cut_to, Int.reduceToNat, List.drop_succ_cons, List.drop_zero, List.take_succ_cons, List.take_zero, List.take_nil, Nat.reduceSub, Int.reduceAdd, Int.reduceSub, Int.reduceMul, Int.reduceMod, Int.reduceDiv, Int.reduceNeg, List.length_cons, List.length_nil, Nat.zero_add, fComp, compL, rg1_3, mInt, mAbs, mGcd, mMax2, mMin2, mMax3, mMin3, mIsqrt, isT, abs_nat]); try rfl))
  generalize hbase : ((x0.natAbs : Nat) : Int) = base
  have hbase0 : 0 ≤ base := by omega
  have hbase1 : base.natAbs < 2 ^ 103 := by have := k0.lt; omega
  haveI : Bd 103 base := ⟨hbase1⟩
  obtain ⟨z, hz, ez⟩ : ∃ z : Int, z.natAbs < 2 ^ 290 ∧ (atI [PyData.int (-1), .int 0, .int 1, .int (2 * base), .int (2 * base + 1), .int base, .int (base - base * base)] d0).bind (fun y => gAdd (.int (base * base)) y) = some (.int z) := by
    have bq : (base * base).natAbs < 2 ^ 206 := (inferInstance : Bd 206 (base * base)).lt
    have hd : d0 = 0 ∨ d0 = 1 ∨ d0 = 2 ∨ d0 = 3 ∨ d0 = 4 ∨ d0 = 5 ∨ d0 = 6 := by omega
    rcases hd with rfl | rfl | rfl | rfl | rfl | rfl | rfl <;> exact ⟨_, by omega, rfl⟩
  refine Eq.trans (sSeq_eq (ρ' := [.va (.list (ns.map .int)), .va (.list [.int d0, .int d1, .int d2, .int d3, .int d4]), .va (.list [.int x0, .int x1, .int x2, .int x3, .int x4, .int x5, .int x6, .int x7, .int x8, .int x9, .int x10, .int x11, .int x12]), .va (.int base), .va (.int z), .un, .un, .un, .un, .un, .un, .un, .un, .un]) ?_) ?_
  · simp (config := {decide := true}) only [runD, List.map_cons, List.map_nil, List.replicate_zero, List.replicate_succ, List.cons_append, List.nil_append, List.append_nil, sRet, sRetN, sNx, sSeq, sSet, sSetF, sOwn, sTo, gsCons, gsNil, sPar, sPar3, eChain, sExp, sApp, sPut, sIf, sFrz, frz, frz1, List.foldl_cons, List.foldl_nil, eBin, eUn, eVar, eC, eAnd, eOr, eIf, eLend, flat, eIxO, eOfF, eTup, eAll, fAll, eCall, eIs, eSl, fSl, oNone, oSome, aNil, aCons, bVal, bAnd, bOr, bNot, bYes, blOf, gNot, iSeq, iRg1, iRg2, seq_l, seq_t, tup_l, tup_t, lst_l, lst_t, len_l, len_t, gIx_l, gIx_t, gNm, wipeR, List.getElem?_cons_zero, List.getElem?_cons_succ, List.set_cons_zero, List.set_cons_succ, Option.bind_some, Option.bind_none, Option.map_some, Option.map_none, if_true, if_false, decide_true, decide_false, Bool.not_true, Bool.not_false, Bool.false_eq_true, reduceIte, gAdd_i, gSub_i, gNeg_i, gLt_i, gLe_i, gGt_i, gGe_i, gEq_i, gNe_i, gMul_b, gMod_p, gFdiv_p, Nat.reduceAdd, Nat.reduceMul, Nat.reduceLeDiff, at0, at1, at2, at3, at4, at5, at6, at7, at8, at9, at10, at11, at12, at13, at14, at15, gSl_l, cut_pos, cut_from, cut_to, Int.reduceToNat, List.drop_succ_cons, List.drop_zero, List.take_succ_cons, List.take_zero, List.take_nil, Nat.reduceSub, Int.reduceAdd, Int.reduceSub, Int.reduceMul, Int.reduceMod, Int.reduceDiv, Int.reduceNeg, List.length_cons, List.length_nil, Nat.zero_add, fComp, compL, rg1_3, mInt, mAbs, mGcd, mMax2, mMin2, mMax3, mMin3, mIsqrt, isT]
    exact nx_of ez
  have wr : m__law_roots_right [.int (if z > 0 then z else 0)] = some (.bool true) := by
    by_cases c : z > 0
    · rw [if_pos c]
      exact w_roots (by omega) (by omega)
    · rw [if_neg c]
      exact w_roots (by omega) (by decide)
  (refine Eq.trans (sSeq_eq (ρ' := ?_) ?_) ?_; rotate_left; ((conv => lhs; simp (config := {decide := true}) only [runD, List.map_cons, List.map_nil, List.replicate_zero, List.replicate_succ, List.cons_append, List.nil_append, List.append_nil, sRet, sRetN, sNx, sSeq, sSet, sSetF, sOwn, sTo, gsCons, gsNil, sPar, sPar3, eChain, sExp, sApp, sPut, sIf, sFrz, frz, frz1, List.foldl_cons, List.foldl_nil, eBin, eUn, eVar, eC, eAnd, eOr, eIf, eLend, flat, eIxO, eOfF, eTup, eAll, fAll, eCall, eIs, eSl, fSl, oNone, oSome, aNil, aCons, bVal, bAnd, bOr, bNot, bYes, blOf, gNot, iSeq, iRg1, iRg2, seq_l, seq_t, tup_l, tup_t, lst_l, lst_t, len_l, len_t, gIx_l, gIx_t, gNm, wipeR, List.getElem?_cons_zero, List.getElem?_cons_succ, List.set_cons_zero, List.set_cons_succ, Option.bind_some, Option.bind_none, Option.map_some, Option.map_none, if_true, if_false, decide_true, decide_false, Bool.not_true, Bool.not_false, Bool.false_eq_true, reduceIte, gAdd_i, gSub_i, gNeg_i, gLt_i, gLe_i, gGt_i, gGe_i, gEq_i, gNe_i, gMul_b, gMod_p, gFdiv_p, Nat.reduceAdd, Nat.reduceMul, Nat.reduceLeDiff, at0, at1, at2, at3, at4, at5, at6, at7, at8, at9, at10, at11, at12, at13, at14, at15, gSl_l, cut_pos, cut_from, cut_to, Int.reduceToNat, List.drop_succ_cons, List.drop_zero, List.take_succ_cons, List.take_zero, List.take_nil, Nat.reduceSub, Int.reduceAdd, Int.reduceSub, Int.reduceMul, Int.reduceMod, Int.reduceDiv, Int.reduceNeg, List.length_cons, List.length_nil, Nat.zero_add, fComp, compL, rg1_3, mInt, mAbs, mGcd, mMax2, mMin2, mMax3, mMin3, mIsqrt, isT, wr]); try rfl))
  (refine Eq.trans (sSeq_eq (ρ' := ?_) ?_) ?_; rotate_left; ((conv => lhs; simp (config := {decide := true}) only [runD, List.map_cons, List.map_nil, List.replicate_zero, List.replicate_succ, List.cons_append, List.nil_append, List.append_nil, sRet, sRetN, sNx, sSeq, sSet, sSetF, sOwn, sTo, gsCons, gsNil, sPar, sPar3, eChain, sExp, sApp, sPut, sIf, sFrz, frz, frz1, List.foldl_cons, List.foldl_nil, eBin, eUn, eVar, eC, eAnd, eOr, eIf, eLend, flat, eIxO, eOfF, eTup, eAll, fAll, eCall, eIs, eSl, fSl, oNone, oSome, aNil, aCons, bVal, bAnd, bOr, bNot, bYes, blOf, gNot, iSeq, iRg1, iRg2, seq_l, seq_t, tup_l, tup_t, lst_l, lst_t, len_l, len_t, gIx_l, gIx_t, gNm, wipeR, List.getElem?_cons_zero, List.getElem?_cons_succ, List.set_cons_zero, List.set_cons_succ, Option.bind_some, Option.bind_none, Option.map_some, Option.map_none, if_true, if_false, decide_true, decide_false, Bool.not_true, Bool.not_false, Bool.false_eq_true, reduceIte, gAdd_i, gSub_i, gNeg_i, gLt_i, gLe_i, gGt_i, gGe_i, gEq_i, gNe_i, gMul_b, gMod_p, gFdiv_p, Nat.reduceAdd, Nat.reduceMul, Nat.reduceLeDiff, at0, at1, at2, at3, at4, at5, at6, at7, at8, at9, at10, at11, at12, at13, at14, at15, gSl_l, cut_pos, cut_from, cut_to, Int.reduceToNat, List.drop_succ_cons, List.drop_zero, List.take_succ_cons, List.take_zero, List.take_nil, Nat.reduceSub, Int.reduceAdd, Int.reduceSub, Int.reduceMul, Int.reduceMod, Int.reduceDiv, Int.reduceNeg, List.length_cons, List.length_nil, Nat.zero_add, fComp, compL, rg1_3, mInt, mAbs, mGcd, mMax2, mMin2, mMax3, mMin3, mIsqrt, isT, abs_nat]); try rfl))
  generalize hbo : 1 + ((x1.natAbs : Nat) : Int) = bo
  have bo1 : 0 < bo := by omega
  have bo2 : bo.natAbs < 2 ^ 104 := by have := k1.lt; omega
  haveI : Bd 104 bo := ⟨bo2⟩
  obtain ⟨to, ht, et⟩ : ∃ to : Int, to.natAbs < 2 ^ 290 ∧ (atI [PyData.int (bo * x2 - 1), .int (bo * x2), .int (bo * x2 + 1), .int x2] d1) = some (.int to) := by
    have bq : (bo * x2).natAbs < 2 ^ 207 := (inferInstance : Bd 207 (bo * x2)).lt
    have b2 := k2.lt
    have hd : d1 = 0 ∨ d1 = 1 ∨ d1 = 2 ∨ d1 = 3 := by omega
    rcases hd with rfl | rfl | rfl | rfl <;> exact ⟨_, by omega, rfl⟩
  refine Eq.trans (sSeq_eq (ρ' := [.va (.list (ns.map .int)), .va (.list [.int d0, .int d1, .int d2, .int d3, .int d4]), .va (.list [.int x0, .int x1, .int x2, .int x3, .int x4, .int x5, .int x6, .int x7, .int x8, .int x9, .int x10, .int x11, .int x12]), .va (.int base), .va (.int z), .va (.int bo), .va (.int to), .un, .un, .un, .un, .un, .un, .un]) ?_) ?_
  · simp (config := {decide := true}) only [runD, List.map_cons, List.map_nil, List.replicate_zero, List.replicate_succ, List.cons_append, List.nil_append, List.append_nil, sRet, sRetN, sNx, sSeq, sSet, sSetF, sOwn, sTo, gsCons, gsNil, sPar, sPar3, eChain, sExp, sApp, sPut, sIf, sFrz, frz, frz1, List.foldl_cons, List.foldl_nil, eBin, eUn, eVar, eC, eAnd, eOr, eIf, eLend, flat, eIxO, eOfF, eTup, eAll, fAll, eCall, eIs, eSl, fSl, oNone, oSome, aNil, aCons, bVal, bAnd, bOr, bNot, bYes, blOf, gNot, iSeq, iRg1, iRg2, seq_l, seq_t, tup_l, tup_t, lst_l, lst_t, len_l, len_t, gIx_l, gIx_t, gNm, wipeR, List.getElem?_cons_zero, List.getElem?_cons_succ, List.set_cons_zero, List.set_cons_succ, Option.bind_some, Option.bind_none, Option.map_some, Option.map_none, if_true, if_false, decide_true, decide_false, Bool.not_true, Bool.not_false, Bool.false_eq_true, reduceIte, gAdd_i, gSub_i, gNeg_i, gLt_i, gLe_i, gGt_i, gGe_i, gEq_i, gNe_i, gMul_b, gMod_p, gFdiv_p, Nat.reduceAdd, Nat.reduceMul, Nat.reduceLeDiff, at0, at1, at2, at3, at4, at5, at6, at7, at8, at9, at10, at11, at12, at13, at14, at15, gSl_l, cut_pos, cut_from, cut_to, Int.reduceToNat, List.drop_succ_cons, List.drop_zero, List.take_succ_cons, List.take_zero, List.take_nil, Nat.reduceSub, Int.reduceAdd, Int.reduceSub, Int.reduceMul, Int.reduceMod, Int.reduceDiv, Int.reduceNeg, List.length_cons, List.length_nil, Nat.zero_add, fComp, compL, rg1_3, mInt, mAbs, mGcd, mMax2, mMin2, mMax3, mMin3, mIsqrt, isT, et]
  have wc := w_ceil bo1 (show to.natAbs < 2 ^ 400 by omega) (show bo.natAbs < 2 ^ 400 by omega)
  (refine Eq.trans (sSeq_eq (ρ' := ?_) ?_) ?_; rotate_left; ((conv => lhs; simp (config := {decide := true}) only [runD, List.map_cons, List.map_nil, List.replicate_zero, List.replicate_succ, List.cons_append, List.nil_append, List.append_nil, sRet, sRetN, sNx, sSeq, sSet, sSetF, sOwn, sTo, gsCons, gsNil, sPar, sPar3, eChain, sExp, sApp, sPut, sIf, sFrz, frz, frz1, List.foldl_cons, List.foldl_nil, eBin, eUn, eVar, eC, eAnd, eOr, eIf, eLend, flat, eIxO, eOfF, eTup, eAll, fAll, eCall, eIs, eSl, fSl, oNone, oSome, aNil, aCons, bVal, bAnd, bOr, bNot, bYes, blOf, gNot, iSeq, iRg1, iRg2, seq_l, seq_t, tup_l, tup_t, lst_l, lst_t, len_l, len_t, gIx_l, gIx_t, gNm, wipeR, List.getElem?_cons_zero, List.getElem?_cons_succ, List.set_cons_zero, List.set_cons_succ, Option.bind_some, Option.bind_none, Option.map_some, Option.map_none, if_true, if_false, decide_true, decide_false, Bool.not_true, Bool.not_false, Bool.false_eq_true, reduceIte, gAdd_i, gSub_i, gNeg_i, gLt_i, gLe_i, gGt_i, gGe_i, gEq_i, gNe_i, gMul_b, gMod_p, gFdiv_p, Nat.reduceAdd, Nat.reduceMul, Nat.reduceLeDiff, at0, at1, at2, at3, at4, at5, at6, at7, at8, at9, at10, at11, at12, at13, at14, at15, gSl_l, cut_pos, cut_from, cut_to, Int.reduceToNat, List.drop_succ_cons, List.drop_zero, List.take_succ_cons, List.take_zero, List.take_nil, Nat.reduceSub, Int.reduceAdd, Int.reduceSub, Int.reduceMul, Int.reduceMod, Int.reduceDiv, Int.reduceNeg, List.length_cons, List.length_nil, Nat.zero_add, fComp, compL, rg1_3, mInt, mAbs, mGcd, mMax2, mMin2, mMax3, mMin3, mIsqrt, isT, wc]); try rfl))
  (refine Eq.trans (sSeq_eq (ρ' := ?_) ?_) ?_; rotate_left; ((conv => lhs; simp (config := {decide := true}) only [runD, List.map_cons, List.map_nil, List.replicate_zero, List.replicate_succ, List.cons_append, List.nil_append, List.append_nil, sRet, sRetN, sNx, sSeq, sSet, sSetF, sOwn, sTo, gsCons, gsNil, sPar, sPar3, eChain, sExp, sApp, sPut, sIf, sFrz, frz, frz1, List.foldl_cons, List.foldl_nil, eBin, eUn, eVar, eC, eAnd, eOr, eIf, eLend, flat, eIxO, eOfF, eTup, eAll, fAll, eCall, eIs, eSl, fSl, oNone, oSome, aNil, aCons, bVal, bAnd, bOr, bNot, bYes, blOf, gNot, iSeq, iRg1, iRg2, seq_l, seq_t, tup_l, tup_t, lst_l, lst_t, len_l, len_t, gIx_l, gIx_t, gNm, wipeR, List.getElem?_cons_zero, List.getElem?_cons_succ, List.set_cons_zero, List.set_cons_succ, Option.bind_some, Option.bind_none, Option.map_some, Option.map_none, if_true, if_false, decide_true, decide_false, Bool.not_true, Bool.not_false, Bool.false_eq_true, reduceIte, gAdd_i, gSub_i, gNeg_i, gLt_i, gLe_i, gGt_i, gGe_i, gEq_i, gNe_i, gMul_b, gMod_p, gFdiv_p, Nat.reduceAdd, Nat.reduceMul, Nat.reduceLeDiff, at0, at1, at2, at3, at4, at5, at6, at7, at8, at9, at10, at11, at12, at13, at14, at15, gSl_l, cut_pos, cut_from, cut_to, Int.reduceToNat, List.drop_succ_cons, List.drop_zero, List.take_succ_cons, List.take_zero, List.take_nil, Nat.reduceSub, Int.reduceAdd, Int.reduceSub, Int.reduceMul, Int.reduceMod, Int.reduceDiv, Int.reduceNeg, List.length_cons, List.length_nil, Nat.zero_add, fComp, compL, rg1_3, mInt, mAbs, mGcd, mMax2, mMin2, mMax3, mMin3, mIsqrt, isT, wc]); try rfl))
  generalize hone : x3 * x5 = one
  have one2 : one.natAbs < 2 ^ 206 := by rw [← hone]; exact (inferInstance : Bd 206 (x3 * x5)).lt
  haveI : Bd 206 one := ⟨one2⟩
  obtain ⟨two, ht2, et2⟩ : ∃ two : Int, two.natAbs < 2 ^ 310 ∧ (atI [PyData.int (x4 * x5), .int x4, .int one, .int (-one), .int (one * x4), .int 0, .int x4, .int 0, .int x5] d2) = some (.int two) := by
    have bq : (x4 * x5).natAbs < 2 ^ 206 := (inferInstance : Bd 206 (x4 * x5)).lt
    have bq2 : (one * x4).natAbs < 2 ^ 309 := (inferInstance : Bd 309 (one * x4)).lt
    have b4 := k4.lt
    have b5 := k5.lt
    have hd : d2 = 0 ∨ d2 = 1 ∨ d2 = 2 ∨ d2 = 3 ∨ d2 = 4 ∨ d2 = 5 ∨ d2 = 6 ∨ d2 = 7 ∨ d2 = 8 := by omega
    rcases hd with rfl | rfl | rfl | rfl | rfl | rfl | rfl | rfl | rfl <;> exact ⟨_, by omega, rfl⟩
  refine Eq.trans (sSeq_eq (ρ' := [.va (.list (ns.map .int)), .va (.list [.int d0, .int d1, .int d2, .int d3, .int d4]), .va (.list [.int x0, .int x1, .int x2, .int x3, .int x4, .int x5, .int x6, .int x7, .int x8, .int x9, .int x10, .int x11, .int x12]), .va (.int base), .va (.int z), .va (.int bo), .va (.int to), .va (.int one), .va (.int two), .un, .un, .un, .un, .un]) ?_) ?_
  · simp (config := {decide := true}) only [runD, List.map_cons, List.map_nil, List.replicate_zero, List.replicate_succ, List.cons_append, List.nil_append, List.append_nil, sRet, sRetN, sNx, sSeq, sSet, sSetF, sOwn, sTo, gsCons, gsNil, sPar, sPar3, eChain, sExp, sApp, sPut, sIf, sFrz, frz, frz1, List.foldl_cons, List.foldl_nil, eBin, eUn, eVar, eC, eAnd, eOr, eIf, eLend, flat, eIxO, eOfF, eTup, eAll, fAll, eCall, eIs, eSl, fSl, oNone, oSome, aNil, aCons, bVal, bAnd, bOr, bNot, bYes, blOf, gNot, iSeq, iRg1, iRg2, seq_l, seq_t, tup_l, tup_t, lst_l, lst_t, len_l, len_t, gIx_l, gIx_t, gNm, wipeR, List.getElem?_cons_zero, List.getElem?_cons_succ, List.set_cons_zero, List.set_cons_succ, Option.bind_some, Option.bind_none, Option.map_some, Option.map_none, if_true, if_false, decide_true, decide_false, Bool.not_true, Bool.not_false, Bool.false_eq_true, reduceIte, gAdd_i, gSub_i, gNeg_i, gLt_i, gLe_i, gGt_i, gGe_i, gEq_i, gNe_i, gMul_b, gMod_p, gFdiv_p, Nat.reduceAdd, Nat.reduceMul, Nat.reduceLeDiff, at0, at1, at2, at3, at4, at5, at6, at7, at8, at9, at10, at11, at12, at13, at14, at15, gSl_l, cut_pos, cut_from, cut_to, Int.reduceToNat, List.drop_succ_cons, List.drop_zero, List.take_succ_cons, List.take_zero, List.take_nil, Nat.reduceSub, Int.reduceAdd, Int.reduceSub, Int.reduceMul, Int.reduceMod, Int.reduceDiv, Int.reduceNeg, List.length_cons, List.length_nil, Nat.zero_add, fComp, compL, rg1_3, mInt, mAbs, mGcd, mMax2, mMin2, mMax3, mMin3, mIsqrt, isT, et2]
  obtain ⟨one1, ho1, eo1⟩ : ∃ one1 : Int, one1.natAbs < 2 ^ 206 ∧ (if d2 = 6 ∨ d2 = 7 then 0 else one) = one1 := by
    by_cases c : d2 = 6 ∨ d2 = 7
    · exact ⟨0, by decide, if_pos c⟩
    · exact ⟨one, one2, if_neg c⟩
  refine Eq.trans (sSeq_eq (ρ' := [.va (.list (ns.map .int)), .va (.list [.int d0, .int d1, .int d2, .int d3, .int d4]), .va (.list [.int x0, .int x1, .int x2, .int x3, .int x4, .int x5, .int x6, .int x7, .int x8, .int x9, .int x10, .int x11, .int x12]), .va (.int base), .va (.int z), .va (.int bo), .va (.int to), .va (.int one1), .va (.int two), .un, .un, .un, .un, .un]) ?_) ?_
  · by_cases c : d2 = 6
    · rw [if_pos (.inl c)] at eo1
      subst eo1
      simp only [runD, List.map_cons, List.map_nil, List.replicate_zero, List.replicate_succ, List.cons_append, List.nil_append, List.append_nil, sRet, sRetN, sNx, sSeq, sSet, sSetF, sOwn, sTo, gsCons, gsNil, sPar, sPar3, eChain, sExp, sApp, sPut, sIf, sFrz, frz, frz1, List.foldl_cons, List.foldl_nil, eBin, eUn, eVar, eC, eAnd, eOr, eIf, eLend, flat, eIxO, eOfF, eTup, eAll, fAll, eCall, eIs, eSl, fSl, oNone, oSome, aNil, aCons, bVal, bAnd, bOr, bNot, bYes, blOf, gNot, iSeq, iRg1, iRg2, seq_l, seq_t, tup_l, tup_t, lst_l, lst_t, len_l, len_t, gIx_l, gIx_t, gNm, wipeR, List.getElem?_cons_zero, List.getElem?_cons_succ, List.set_cons_zero, List.set_cons_succ, Option.bind_some, Option.bind_none, Option.map_some, Option.map_none, if_true, if_false, decide_true, decide_false, Bool.not_true, Bool.not_false, Bool.false_eq_true, reduceIte, gAdd_i, gSub_i, gNeg_i, gLt_i, gLe_i, gGt_i, gGe_i, gEq_i, gNe_i, gMul_b, gMod_p, gFdiv_p, Nat.reduceAdd, Nat.reduceMul, Nat.reduceLeDiff, at0, at1, at2, at3, at4, at5, at6, at7, at8, at9, at10, at11, at12, at13, at14, at15, gSl_l, cut_pos, cut_from, cut_to, Int.reduceToNat, List.drop_succ_cons, List.drop_zero, List.take_succ_cons, List.take_zero, List.take_nil, Nat.reduceSub, Int.reduceAdd, Int.reduceSub, Int.reduceMul, Int.reduceMod, Int.reduceDiv, Int.reduceNeg, List.length_cons, List.length_nil, Nat.zero_add, fComp, compL, rg1_3, mInt, mAbs, mGcd, mMax2, mMin2, mMax3, mMin3, mIsqrt, isT, c]
    · by_cases c2 : d2 = 7
      · rw [if_pos (.inr c2)] at eo1
        subst eo1
        simp (config := {decide := true}) only [runD, List.map_cons, List.map_nil, List.replicate_zero, List.replicate_succ, List.cons_append, List.nil_append, List.append_nil, sRet, sRetN, sNx, sSeq, sSet, sSetF, sOwn, sTo, gsCons, gsNil, sPar, sPar3, eChain, sExp, sApp, sPut, sIf, sFrz, frz, frz1, List.foldl_cons, List.foldl_nil, eBin, eUn, eVar, eC, eAnd, eOr, eIf, eLend, flat, eIxO, eOfF, eTup, eAll, fAll, eCall, eIs, eSl, fSl, oNone, oSome, aNil, aCons, bVal, bAnd, bOr, bNot, bYes, blOf, gNot, iSeq, iRg1, iRg2, seq_l, seq_t, tup_l, tup_t, lst_l, lst_t, len_l, len_t, gIx_l, gIx_t, gNm, wipeR, List.getElem?_cons_zero, List.getElem?_cons_succ, List.set_cons_zero, List.set_cons_succ, Option.bind_some, Option.bind_none, Option.map_some, Option.map_none, if_true, if_false, decide_true, decide_false, Bool.not_true, Bool.not_false, Bool.false_eq_true, reduceIte, gAdd_i, gSub_i, gNeg_i, gLt_i, gLe_i, gGt_i, gGe_i, gEq_i, gNe_i, gMul_b, gMod_p, gFdiv_p, Nat.reduceAdd, Nat.reduceMul, Nat.reduceLeDiff, at0, at1, at2, at3, at4, at5, at6, at7, at8, at9, at10, at11, at12, at13, at14, at15, gSl_l, cut_pos, cut_from, cut_to, Int.reduceToNat, List.drop_succ_cons, List.drop_zero, List.take_succ_cons, List.take_zero, List.take_nil, Nat.reduceSub, Int.reduceAdd, Int.reduceSub, Int.reduceMul, Int.reduceMod, Int.reduceDiv, Int.reduceNeg, List.length_cons, List.length_nil, Nat.zero_add, fComp, compL, rg1_3, mInt, mAbs, mGcd, mMax2, mMin2, mMax3, mMin3, mIsqrt, isT, c2]
      · rw [if_neg (by omega)] at eo1
        subst eo1
        simp only [runD, List.map_cons, List.map_nil, List.replicate_zero, List.replicate_succ, List.cons_append, List.nil_append, List.append_nil, sRet, sRetN, sNx, sSeq, sSet, sSetF, sOwn, sTo, gsCons, gsNil, sPar, sPar3, eChain, sExp, sApp, sPut, sIf, sFrz, frz, frz1, List.foldl_cons, List.foldl_nil, eBin, eUn, eVar, eC, eAnd, eOr, eIf, eLend, flat, eIxO, eOfF, eTup, eAll, fAll, eCall, eIs, eSl, fSl, oNone, oSome, aNil, aCons, bVal, bAnd, bOr, bNot, bYes, blOf, gNot, iSeq, iRg1, iRg2, seq_l, seq_t, tup_l, tup_t, lst_l, lst_t, len_l, len_t, gIx_l, gIx_t, gNm, wipeR, List.getElem?_cons_zero, List.getElem?_cons_succ, List.set_cons_zero, List.set_cons_succ, Option.bind_some, Option.bind_none, Option.map_some, Option.map_none, if_true, if_false, decide_true, decide_false, Bool.not_true, Bool.not_false, Bool.false_eq_true, reduceIte, gAdd_i, gSub_i, gNeg_i, gLt_i, gLe_i, gGt_i, gGe_i, gEq_i, gNe_i, gMul_b, gMod_p, gFdiv_p, Nat.reduceAdd, Nat.reduceMul, Nat.reduceLeDiff, at0, at1, at2, at3, at4, at5, at6, at7, at8, at9, at10, at11, at12, at13, at14, at15, gSl_l, cut_pos, cut_from, cut_to, Int.reduceToNat, List.drop_succ_cons, List.drop_zero, List.take_succ_cons, List.take_zero, List.take_nil, Nat.reduceSub, Int.reduceAdd, Int.reduceSub, Int.reduceMul, Int.reduceMod, Int.reduceDiv, Int.reduceNeg, List.length_cons, List.length_nil, Nat.zero_add, fComp, compL, rg1_3, mInt, mAbs, mGcd, mMax2, mMin2, mMax3, mMin3, mIsqrt, isT, c, c2]
  have wb := w_bezout (a := one1) (b := two) (by omega) (by omega)
  (refine Eq.trans (sSeq_eq (ρ' := ?_) ?_) ?_; rotate_left; ((conv => lhs; simp (config := {decide := true}) only [runD, List.map_cons, List.map_nil, List.replicate_zero, List.replicate_succ, List.cons_append, List.nil_append, List.append_nil, sRet, sRetN, sNx, sSeq, sSet, sSetF, sOwn, sTo, gsCons, gsNil, sPar, sPar3, eChain, sExp, sApp, sPut, sIf, sFrz, frz, frz1, List.foldl_cons, List.foldl_nil, eBin, eUn, eVar, eC, eAnd, eOr, eIf, eLend, flat, eIxO, eOfF, eTup, eAll, fAll, eCall, eIs, eSl, fSl, oNone, oSome, aNil, aCons, bVal, bAnd, bOr, bNot, bYes, blOf, gNot, iSeq, iRg1, iRg2, seq_l, seq_t, tup_l, tup_t, lst_l, lst_t, len_l, len_t, gIx_l, gIx_t, gNm, wipeR, List.getElem?_cons_zero, List.getElem?_cons_succ, List.set_cons_zero, List.set_cons_succ, Option.bind_some, Option.bind_none, Option.map_some, Option.map_none, if_true, if_false, decide_true, decide_false, Bool.not_true, Bool.not_false, Bool.false_eq_true, reduceIte, gAdd_i, gSub_i, gNeg_i, gLt_i, gLe_i, gGt_i, gGe_i, gEq_i, gNe_i, gMul_b, gMod_p, gFdiv_p, Nat.reduceAdd, Nat.reduceMul, Nat.reduceLeDiff, at0, at1, at2, at3, at4, at5, at6, at7, at8, at9, at10, at11, at12, at13, at14, at15, gSl_l, cut_pos, cut_from, cut_to, Int.reduceToNat, List.drop_succ_cons, List.drop_zero, List.take_succ_cons, List.take_zero, List.take_nil, Nat.reduceSub, Int.reduceAdd, Int.reduceSub, Int.reduceMul, Int.reduceMod, Int.reduceDiv, Int.reduceNeg, List.length_cons, List.length_nil, Nat.zero_add, fComp, compL, rg1_3, mInt, mAbs, mGcd, mMax2, mMin2, mMax3, mMin3, mIsqrt, isT, wb, e14, p3, wp]); try rfl))
  (refine Eq.trans (sSeq_eq (ρ' := ?_) ?_) ?_; rotate_left; ((conv => lhs; simp (config := {decide := true}) only [runD, List.map_cons, List.map_nil, List.replicate_zero, List.replicate_succ, List.cons_append, List.nil_append, List.append_nil, sRet, sRetN, sNx, sSeq, sSet, sSetF, sOwn, sTo, gsCons, gsNil, sPar, sPar3, eChain, sExp, sApp, sPut, sIf, sFrz, frz, frz1, List.foldl_cons, List.foldl_nil, eBin, eUn, eVar, eC, eAnd, eOr, eIf, eLend, flat, eIxO, eOfF, eTup, eAll, fAll, eCall, eIs, eSl, fSl, oNone, oSome, aNil, aCons, bVal, bAnd, bOr, bNot, bYes, blOf, gNot, iSeq, iRg1, iRg2, seq_l, seq_t, tup_l, tup_t, lst_l, lst_t, len_l, len_t, gIx_l, gIx_t, gNm, wipeR, List.getElem?_cons_zero, List.getElem?_cons_succ, List.set_cons_zero, List.set_cons_succ, Option.bind_some, Option.bind_none, Option.map_some, Option.map_none, if_true, if_false, decide_true, decide_false, Bool.not_true, Bool.not_false, Bool.false_eq_true, reduceIte, gAdd_i, gSub_i, gNeg_i, gLt_i, gLe_i, gGt_i, gGe_i, gEq_i, gNe_i, gMul_b, gMod_p, gFdiv_p, Nat.reduceAdd, Nat.reduceMul, Nat.reduceLeDiff, at0, at1, at2, at3, at4, at5, at6, at7, at8, at9, at10, at11, at12, at13, at14, at15, gSl_l, cut_pos, cut_from, cut_to, Int.reduceToNat, List.drop_succ_cons, List.drop_zero, List.take_succ_cons, List.take_zero, List.take_nil, Nat.reduceSub, Int.reduceAdd, Int.reduceSub, Int.reduceMul, Int.reduceMod, Int.reduceDiv, Int.reduceNeg, List.length_cons, List.length_nil, Nat.zero_add, fComp, compL, rg1_3, mInt, mAbs, mGcd, mMax2, mMin2, mMax3, mMin3, mIsqrt, isT, e15, wv]); try rfl))
  (refine Eq.trans (sSeq_eq (ρ' := ?_) ?_) ?_; rotate_left; ((conv => lhs; simp (config := {decide := true}) only [runD, List.map_cons, List.map_nil, List.replicate_zero, List.replicate_succ, List.cons_append, List.nil_append, List.append_nil, sRet, sRetN, sNx, sSeq, sSet, sSetF, sOwn, sTo, gsCons, gsNil, sPar, sPar3, eChain, sExp, sApp, sPut, sIf, sFrz, frz, frz1, List.foldl_cons, List.foldl_nil, eBin, eUn, eVar, eC, eAnd, eOr, eIf, eLend, flat, eIxO, eOfF, eTup, eAll, fAll, eCall, eIs, eSl, fSl, oNone, oSome, aNil, aCons, bVal, bAnd, bOr, bNot, bYes, blOf, gNot, iSeq, iRg1, iRg2, seq_l, seq_t, tup_l, tup_t, lst_l, lst_t, len_l, len_t, gIx_l, gIx_t, gNm, wipeR, List.getElem?_cons_zero, List.getElem?_cons_succ, List.set_cons_zero, List.set_cons_succ, Option.bind_some, Option.bind_none, Option.map_some, Option.map_none, if_true, if_false, decide_true, decide_false, Bool.not_true, Bool.not_false, Bool.false_eq_true, reduceIte, gAdd_i, gSub_i, gNeg_i, gLt_i, gLe_i, gGt_i, gGe_i, gEq_i, gNe_i, gMul_b, gMod_p, gFdiv_p, Nat.reduceAdd, Nat.reduceMul, Nat.reduceLeDiff, at0, at1, at2, at3, at4, at5, at6, at7, at8, at9, at10, at11, at12, at13, at14, at15, gSl_l, cut_pos, cut_from, cut_to, Int.reduceToNat, List.drop_succ_cons, List.drop_zero, List.take_succ_cons, List.take_zero, List.take_nil, Nat.reduceSub, Int.reduceAdd, Int.reduceSub, Int.reduceMul, Int.reduceMod, Int.reduceDiv, Int.reduceNeg, List.length_cons, List.length_nil, Nat.zero_add, fComp, compL, rg1_3, mInt, mAbs, mGcd, mMax2, mMin2, mMax3, mMin3, mIsqrt, isT, wb]); try rfl))
  obtain ⟨co, co0, co1, eco⟩ : ∃ co : Int, co ≠ 0 ∧ co.natAbs < 2 ^ 103 ∧ (if x7 = 0 then 1 else x7) = co := by
    by_cases c : x7 = 0
    · exact ⟨1, by decide, by decide, if_pos c⟩
    · exact ⟨x7, c, k7.lt, if_neg c⟩
  refine Eq.trans (sSeq_eq (ρ' := [.va (.list (ns.map .int)), .va (.list [.int d0, .int d1, .int d2, .int d3, .int d4]), .va (.list [.int x0, .int x1, .int x2, .int x3, .int x4, .int x5, .int x6, .int x7, .int x8, .int x9, .int x10, .int x11, .int x12]), .va (.int base), .va (.int z), .va (.int bo), .va (.int to), .va (.int one1), .va (.int two), .va (.int co), .un, .un, .un, .un]) ?_) ?_
  · by_cases c : x7 = 0
    · rw [if_pos c] at eco
      subst eco
      simp only [runD, List.map_cons, List.map_nil, List.replicate_zero, List.replicate_succ, List.cons_append, List.nil_append, List.append_nil, sRet, sRetN, sNx, sSeq, sSet, sSetF, sOwn, sTo, gsCons, gsNil, sPar, sPar3, eChain, sExp, sApp, sPut, sIf, sFrz, frz, frz1, List.foldl_cons, List.foldl_nil, eBin, eUn, eVar, eC, eAnd, eOr, eIf, eLend, flat, eIxO, eOfF, eTup, eAll, fAll, eCall, eIs, eSl, fSl, oNone, oSome, aNil, aCons, bVal, bAnd, bOr, bNot, bYes, blOf, gNot, iSeq, iRg1, iRg2, seq_l, seq_t, tup_l, tup_t, lst_l, lst_t, len_l, len_t, gIx_l, gIx_t, gNm, wipeR, List.getElem?_cons_zero, List.getElem?_cons_succ, List.set_cons_zero, List.set_cons_succ, Option.bind_some, Option.bind_none, Option.map_some, Option.map_none, if_true, if_false, decide_true, decide_false, Bool.not_true, Bool.not_false, Bool.false_eq_true, reduceIte, gAdd_i, gSub_i, gNeg_i, gLt_i, gLe_i, gGt_i, gGe_i, gEq_i, gNe_i, gMul_b, gMod_p, gFdiv_p, Nat.reduceAdd, Nat.reduceMul, Nat.reduceLeDiff, at0, at1, at2, at3, at4, at5, at6, at7, at8, at9, at10, at11, at12, at13, at14, at15, gSl_l, cut_pos, cut_from, cut_to, Int.reduceToNat, List.drop_succ_cons, List.drop_zero, List.take_succ_cons, List.take_zero, List.take_nil, Nat.reduceSub, Int.reduceAdd, Int.reduceSub, Int.reduceMul, Int.reduceMod, Int.reduceDiv, Int.reduceNeg, List.length_cons, List.length_nil, Nat.zero_add, fComp, compL, rg1_3, mInt, mAbs, mGcd, mMax2, mMin2, mMax3, mMin3, mIsqrt, isT, c]
    · rw [if_neg c] at eco
      subst eco
      simp only [runD, List.map_cons, List.map_nil, List.replicate_zero, List.replicate_succ, List.cons_append, List.nil_append, List.append_nil, sRet, sRetN, sNx, sSeq, sSet, sSetF, sOwn, sTo, gsCons, gsNil, sPar, sPar3, eChain, sExp, sApp, sPut, sIf, sFrz, frz, frz1, List.foldl_cons, List.foldl_nil, eBin, eUn, eVar, eC, eAnd, eOr, eIf, eLend, flat, eIxO, eOfF, eTup, eAll, fAll, eCall, eIs, eSl, fSl, oNone, oSome, aNil, aCons, bVal, bAnd, bOr, bNot, bYes, blOf, gNot, iSeq, iRg1, iRg2, seq_l, seq_t, tup_l, tup_t, lst_l, lst_t, len_l, len_t, gIx_l, gIx_t, gNm, wipeR, List.getElem?_cons_zero, List.getElem?_cons_succ, List.set_cons_zero, List.set_cons_succ, Option.bind_some, Option.bind_none, Option.map_some, Option.map_none, if_true, if_false, decide_true, decide_false, Bool.not_true, Bool.not_false, Bool.false_eq_true, reduceIte, gAdd_i, gSub_i, gNeg_i, gLt_i, gLe_i, gGt_i, gGe_i, gEq_i, gNe_i, gMul_b, gMod_p, gFdiv_p, Nat.reduceAdd, Nat.reduceMul, Nat.reduceLeDiff, at0, at1, at2, at3, at4, at5, at6, at7, at8, at9, at10, at11, at12, at13, at14, at15, gSl_l, cut_pos, cut_from, cut_to, Int.reduceToNat, List.drop_succ_cons, List.drop_zero, List.take_succ_cons, List.take_zero, List.take_nil, Nat.reduceSub, Int.reduceAdd, Int.reduceSub, Int.reduceMul, Int.reduceMod, Int.reduceDiv, Int.reduceNeg, List.length_cons, List.length_nil, Nat.zero_add, fComp, compL, rg1_3, mInt, mAbs, mGcd, mMax2, mMin2, mMax3, mMin3, mIsqrt, isT, c]
  haveI : Bd 103 co := ⟨co1⟩
  have bot : ∀ x : Int, Bd 103 x → ∃ q : Int, q ≠ 0 ∧ q.natAbs < 2 ^ 207 ∧ co * x + (if decide (co * x = 0) = true then 1 else 0) = q := fun x hx => by
    have bq : (co * x).natAbs < 2 ^ 206 := (inferInstance : Bd 206 (co * x)).lt
    by_cases c : co * x = 0
    · exact ⟨1, by decide, by decide, by simp [c]⟩
    · exact ⟨co * x, c, by omega, by simp [c]⟩
  obtain ⟨q0, q00, q01, eq0⟩ := bot x9 k9
  obtain ⟨q1', q10, q11, eq1⟩ := bot x11 k11
  refine Eq.trans (sSeq_eq (ρ' := [.va (.list (ns.map .int)), .va (.list [.int d0, .int d1, .int d2, .int d3, .int d4]), .va (.list [.int x0, .int x1, .int x2, .int x3, .int x4, .int x5, .int x6, .int x7, .int x8, .int x9, .int x10, .int x11, .int x12]), .va (.int base), .va (.int z), .va (.int bo), .va (.int to), .va (.int one1), .va (.int two), .va (.int co), .va (.list [.int q0, .int q1']), .un, .un, .un]) ?_) ?_
  · simp (config := {decide := true}) only [runD, List.map_cons, List.map_nil, List.replicate_zero, List.replicate_succ, List.cons_append, List.nil_append, List.append_nil, sRet, sRetN, sNx, sSeq, sSet, sSetF, sOwn, sTo, gsCons, gsNil, sPar, sPar3, eChain, sExp, sApp, sPut, sIf, sFrz, frz, frz1, List.foldl_cons, List.foldl_nil, eBin, eUn, eVar, eC, eAnd, eOr, eIf, eLend, flat, eIxO, eOfF, eTup, eAll, fAll, eCall, eIs, eSl, fSl, oNone, oSome, aNil, aCons, bVal, bAnd, bOr, bNot, bYes, blOf, gNot, iSeq, iRg1, iRg2, seq_l, seq_t, tup_l, tup_t, lst_l, lst_t, len_l, len_t, gIx_l, gIx_t, gNm, wipeR, List.getElem?_cons_zero, List.getElem?_cons_succ, List.set_cons_zero, List.set_cons_succ, Option.bind_some, Option.bind_none, Option.map_some, Option.map_none, if_true, if_false, decide_true, decide_false, Bool.not_true, Bool.not_false, Bool.false_eq_true, reduceIte, gAdd_i, gSub_i, gNeg_i, gLt_i, gLe_i, gGt_i, gGe_i, gEq_i, gNe_i, gMul_b, gMod_p, gFdiv_p, Nat.reduceAdd, Nat.reduceMul, Nat.reduceLeDiff, at0, at1, at2, at3, at4, at5, at6, at7, at8, at9, at10, at11, at12, at13, at14, at15, gSl_l, cut_pos, cut_from, cut_to, Int.reduceToNat, List.drop_succ_cons, List.drop_zero, List.take_succ_cons, List.take_zero, List.take_nil, Nat.reduceSub, Int.reduceAdd, Int.reduceSub, Int.reduceMul, Int.reduceMod, Int.reduceDiv, Int.reduceNeg, List.length_cons, List.length_nil, Nat.zero_add, fComp, compL, rg1_3, mInt, mAbs, mGcd, mMax2, mMin2, mMax3, mMin3, mIsqrt, isT, eq0, eq1]
  have wrr := w_ratio_right (a := co * x8) (b := q0) q00 (Nat.lt_of_lt_of_le (inferInstance : Bd 206 (co * x8)).lt (Nat.pow_le_pow_right (by decide) (by decide))) (Nat.lt_of_lt_of_le q01 (Nat.pow_le_pow_right (by decide) (by decide)))
  (refine Eq.trans (sSeq_eq (ρ' := ?_) ?_) ?_; rotate_left; ((conv => lhs; simp (config := {decide := true}) only [runD, List.map_cons, List.map_nil, List.replicate_zero, List.replicate_succ, List.cons_append, List.nil_append, List.append_nil, sRet, sRetN, sNx, sSeq, sSet, sSetF, sOwn, sTo, gsCons, gsNil, sPar, sPar3, eChain, sExp, sApp, sPut, sIf, sFrz, frz, frz1, List.foldl_cons, List.foldl_nil, eBin, eUn, eVar, eC, eAnd, eOr, eIf, eLend, flat, eIxO, eOfF, eTup, eAll, fAll, eCall, eIs, eSl, fSl, oNone, oSome, aNil, aCons, bVal, bAnd, bOr, bNot, bYes, blOf, gNot, iSeq, iRg1, iRg2, seq_l, seq_t, tup_l, tup_t, lst_l, lst_t, len_l, len_t, gIx_l, gIx_t, gNm, wipeR, List.getElem?_cons_zero, List.getElem?_cons_succ, List.set_cons_zero, List.set_cons_succ, Option.bind_some, Option.bind_none, Option.map_some, Option.map_none, if_true, if_false, decide_true, decide_false, Bool.not_true, Bool.not_false, Bool.false_eq_true, reduceIte, gAdd_i, gSub_i, gNeg_i, gLt_i, gLe_i, gGt_i, gGe_i, gEq_i, gNe_i, gMul_b, gMod_p, gFdiv_p, Nat.reduceAdd, Nat.reduceMul, Nat.reduceLeDiff, at0, at1, at2, at3, at4, at5, at6, at7, at8, at9, at10, at11, at12, at13, at14, at15, gSl_l, cut_pos, cut_from, cut_to, Int.reduceToNat, List.drop_succ_cons, List.drop_zero, List.take_succ_cons, List.take_zero, List.take_nil, Nat.reduceSub, Int.reduceAdd, Int.reduceSub, Int.reduceMul, Int.reduceMod, Int.reduceDiv, Int.reduceNeg, List.length_cons, List.length_nil, Nat.zero_add, fComp, compL, rg1_3, mInt, mAbs, mGcd, mMax2, mMin2, mMax3, mMin3, mIsqrt, isT, wrr]); try rfl))
  have u207 : ∀ x : Int, x.natAbs < 2 ^ 207 → x.natAbs < 2 ^ 1000 := fun x h => Nat.lt_of_lt_of_le h (Nat.pow_le_pow_right (by decide) (by decide))
  obtain ⟨fx, fy, hl, _, el⟩ := v_low (a := x8) q00 (u207 _ q01)
  obtain ⟨sx, sy, hl2, _, el2⟩ := v_low (a := x10) q10 (u207 _ q11)
  have fb1 : fx.natAbs < 2 ^ 103 := Nat.lt_of_le_of_lt hl.bx k8.lt
  have fb2 : fy.natAbs < 2 ^ 207 := Nat.lt_of_le_of_lt hl.by' q01
  have sb1 : sx.natAbs < 2 ^ 103 := Nat.lt_of_le_of_lt hl2.bx k10.lt
  have sb2 : sy.natAbs < 2 ^ 207 := Nat.lt_of_le_of_lt hl2.by' q11
  have fy1 := hl.pos
  have sy1 := hl2.pos
  haveI : Bd 103 fx := ⟨fb1⟩
  haveI : Bd 207 fy := ⟨fb2⟩
  (refine Eq.trans (sSeq_eq (ρ' := ?_) ?_) ?_; rotate_left; ((conv => lhs; simp (config := {decide := true}) only [runD, List.map_cons, List.map_nil, List.replicate_zero, List.replicate_succ, List.cons_append, List.nil_append, List.append_nil, sRet, sRetN, sNx, sSeq, sSet, sSetF, sOwn, sTo, gsCons, gsNil, sPar, sPar3, eChain, sExp, sApp, sPut, sIf, sFrz, frz, frz1, List.foldl_cons, List.foldl_nil, eBin, eUn, eVar, eC, eAnd, eOr, eIf, eLend, flat, eIxO, eOfF, eTup, eAll, fAll, eCall, eIs, eSl, fSl, oNone, oSome, aNil, aCons, bVal, bAnd, bOr, bNot, bYes, blOf, gNot, iSeq, iRg1, iRg2, seq_l, seq_t, tup_l, tup_t, lst_l, lst_t, len_l, len_t, gIx_l, gIx_t, gNm, wipeR, List.getElem?_cons_zero, List.getElem?_cons_succ, List.set_cons_zero, List.set_cons_succ, Option.bind_some, Option.bind_none, Option.map_some, Option.map_none, if_true, if_false, decide_true, decide_false, Bool.not_true, Bool.not_false, Bool.false_eq_true, reduceIte, gAdd_i, gSub_i, gNeg_i, gLt_i, gLe_i, gGt_i, gGe_i, gEq_i, gNe_i, gMul_b, gMod_p, gFdiv_p, Nat.reduceAdd, Nat.reduceMul, Nat.reduceLeDiff, at0, at1, at2, at3, at4, at5, at6, at7, at8, at9, at10, at11, at12, at13, at14, at15, gSl_l, cut_pos, cut_from, cut_to, Int.reduceToNat, List.drop_succ_cons, List.drop_zero, List.take_succ_cons, List.take_zero, List.take_nil, Nat.reduceSub, Int.reduceAdd, Int.reduceSub, Int.reduceMul, Int.reduceMod, Int.reduceDiv, Int.reduceNeg, List.length_cons, List.length_nil, Nat.zero_add, fComp, compL, rg1_3, mInt, mAbs, mGcd, mMax2, mMin2, mMax3, mMin3, mIsqrt, isT, el]); try rfl))
  (refine Eq.trans (sSeq_eq (ρ' := ?_) ?_) ?_; rotate_left; ((conv => lhs; simp (config := {decide := true}) only [runD, List.map_cons, List.map_nil, List.replicate_zero, List.replicate_succ, List.cons_append, List.nil_append, List.append_nil, sRet, sRetN, sNx, sSeq, sSet, sSetF, sOwn, sTo, gsCons, gsNil, sPar, sPar3, eChain, sExp, sApp, sPut, sIf, sFrz, frz, frz1, List.foldl_cons, List.foldl_nil, eBin, eUn, eVar, eC, eAnd, eOr, eIf, eLend, flat, eIxO, eOfF, eTup, eAll, fAll, eCall, eIs, eSl, fSl, oNone, oSome, aNil, aCons, bVal, bAnd, bOr, bNot, bYes, blOf, gNot, iSeq, iRg1, iRg2, seq_l, seq_t, tup_l, tup_t, lst_l, lst_t, len_l, len_t, gIx_l, gIx_t, gNm, wipeR, List.getElem?_cons_zero, List.getElem?_cons_succ, List.set_cons_zero, List.set_cons_succ, Option.bind_some, Option.bind_none, Option.map_some, Option.map_none, if_true, if_false, decide_true, decide_false, Bool.not_true, Bool.not_false, Bool.false_eq_true, reduceIte, gAdd_i, gSub_i, gNeg_i, gLt_i, gLe_i, gGt_i, gGe_i, gEq_i, gNe_i, gMul_b, gMod_p, gFdiv_p, Nat.reduceAdd, Nat.reduceMul, Nat.reduceLeDiff, at0, at1, at2, at3, at4, at5, at6, at7, at8, at9, at10, at11, at12, at13, at14, at15, gSl_l, cut_pos, cut_from, cut_to, Int.reduceToNat, List.drop_succ_cons, List.drop_zero, List.take_succ_cons, List.take_zero, List.take_nil, Nat.reduceSub, Int.reduceAdd, Int.reduceSub, Int.reduceMul, Int.reduceMod, Int.reduceDiv, Int.reduceNeg, List.length_cons, List.length_nil, Nat.zero_add, fComp, compL, rg1_3, mInt, mAbs, mGcd, mMax2, mMin2, mMax3, mMin3, mIsqrt, isT, el2]); try rfl))
  obtain ⟨s1, hs1, hs1', es1⟩ : ∃ s1 : V2, BW 400 s1 ∧ 1 ≤ s1.y ∧ (sIf (bVal (eBin gEq (eBin gIx (eVar 1) (eC (.int 3))) (eC (.int 2)))) (sSet 12 (eCall m__law_reduced (aCons (eBin gIx (eVar 2) (eC (.int 10))) (aCons (eBin gMul (eBin gIx (eVar 11) (eC (.int 1))) (eBin gAdd (eC (.int 1)) (eAll mAbs (aCons (eBin gIx (eVar 2) (eC (.int 12))) aNil)))) aNil)))) sNx) [.va (.list (ns.map .int)), .va (.list [.int d0, .int d1, .int d2, .int d3, .int d4]), .va (.list [.int x0, .int x1, .int x2, .int x3, .int x4, .int x5, .int x6, .int x7, .int x8, .int x9, .int x10, .int x11, .int x12]), .va (.int base), .va (.int z), .va (.int bo), .va (.int to), .va (.int one1), .va (.int two), .va (.int co), .va (.list [.int q0, .int q1']), .va (r2 true ⟨fx, fy⟩), .va (r2 true ⟨sx, sy⟩), .un] = some (.nx [.va (.list (ns.map .int)), .va (.list [.int d0, .int d1, .int d2, .int d3, .int d4]), .va (.list [.int x0, .int x1, .int x2, .int x3, .int x4, .int x5, .int x6, .int x7, .int x8, .int x9, .int x10, .int x11, .int x12]), .va (.int base), .va (.int z), .va (.int bo), .va (.int to), .va (.int one1), .va (.int two), .va (.int co), .va (.list [.int q0, .int q1']), .va (r2 true ⟨fx, fy⟩), .va (r2 true s1), .un]) := by
    by_cases c : d3 = 2
    · have hn : 0 < 1 + ((x12.natAbs : Nat) : Int) := by omega
      haveI : Bd 104 (1 + ((x12.natAbs : Nat) : Int)) := ⟨by have := k12.lt; omega⟩
      have hm : fy * (1 + ((x12.natAbs : Nat) : Int)) ≠ 0 := Int.mul_ne_zero (by omega) (by omega)
      have bm : (fy * (1 + ((x12.natAbs : Nat) : Int))).natAbs < 2 ^ 311 := (inferInstance : Bd 311 (fy * (1 + ((x12.natAbs : Nat) : Int)))).lt
      obtain ⟨tx, ty, hl3, _, el3⟩ := v_low (a := x10) hm (Nat.lt_of_lt_of_le bm (Nat.pow_le_pow_right (by decide) (by decide)))
      refine ⟨⟨tx, ty⟩, ⟨Nat.lt_of_le_of_lt hl3.bx (Nat.lt_of_lt_of_le k10.lt (Nat.pow_le_pow_right (by decide) (by decide))), Nat.lt_of_le_of_lt hl3.by' (Nat.lt_of_lt_of_le bm (Nat.pow_le_pow_right (by decide) (by decide)))⟩, hl3.pos, ?_⟩
      simp (config := {decide := true}) only [runD, List.map_cons, List.map_nil, List.replicate_zero, List.replicate_succ, List.cons_append, List.nil_append, List.append_nil, sRet, sRetN, sNx, sSeq, sSet, sSetF, sOwn, sTo, gsCons, gsNil, sPar, sPar3, eChain, sExp, sApp, sPut, sIf, sFrz, frz, frz1, List.foldl_cons, List.foldl_nil, eBin, eUn, eVar, eC, eAnd, eOr, eIf, eLend, flat, eIxO, eOfF, eTup, eAll, fAll, eCall, eIs, eSl, fSl, oNone, oSome, aNil, aCons, bVal, bAnd, bOr, bNot, bYes, blOf, gNot, iSeq, iRg1, iRg2, seq_l, seq_t, tup_l, tup_t, lst_l, lst_t, len_l, len_t, gIx_l, gIx_t, gNm, wipeR, List.getElem?_cons_zero, List.getElem?_cons_succ, List.set_cons_zero, List.set_cons_succ, Option.bind_some, Option.bind_none, Option.map_some, Option.map_none, if_true, if_false, decide_true, decide_false, Bool.not_true, Bool.not_false, Bool.false_eq_true, reduceIte, gAdd_i, gSub_i, gNeg_i, gLt_i, gLe_i, gGt_i, gGe_i, gEq_i, gNe_i, gMul_b, gMod_p, gFdiv_p, Nat.reduceAdd, Nat.reduceMul, Nat.reduceLeDiff, at0, at1, at2, at3, at4, at5, at6, at7, at8, at9, at10, at11, at12, at13, at14, at15, gSl_l, cut_pos, cut_from, cut_to, Int.reduceToNat, List.drop_succ_cons, List.drop_zero, List.take_succ_cons, List.take_zero, List.take_nil, Nat.reduceSub, Int.reduceAdd, Int.reduceSub, Int.reduceMul, Int.reduceMod, Int.reduceDiv, Int.reduceNeg, List.length_cons, List.length_nil, Nat.zero_add, fComp, compL, rg1_3, mInt, mAbs, mGcd, mMax2, mMin2, mMax3, mMin3, mIsqrt, isT, c, ix_p1, abs_nat, el3]
    · refine ⟨⟨sx, sy⟩, ⟨Nat.lt_of_lt_of_le sb1 (Nat.pow_le_pow_right (by decide) (by decide)), Nat.lt_of_lt_of_le sb2 (Nat.pow_le_pow_right (by decide) (by decide))⟩, sy1, ?_⟩
      simp (config := {decide := true}) only [runD, List.map_cons, List.map_nil, List.replicate_zero, List.replicate_succ, List.cons_append, List.nil_append, List.append_nil, sRet, sRetN, sNx, sSeq, sSet, sSetF, sOwn, sTo, gsCons, gsNil, sPar, sPar3, eChain, sExp, sApp, sPut, sIf, sFrz, frz, frz1, List.foldl_cons, List.foldl_nil, eBin, eUn, eVar, eC, eAnd, eOr, eIf, eLend, flat, eIxO, eOfF, eTup, eAll, fAll, eCall, eIs, eSl, fSl, oNone, oSome, aNil, aCons, bVal, bAnd, bOr, bNot, bYes, blOf, gNot, iSeq, iRg1, iRg2, seq_l, seq_t, tup_l, tup_t, lst_l, lst_t, len_l, len_t, gIx_l, gIx_t, gNm, wipeR, List.getElem?_cons_zero, List.getElem?_cons_succ, List.set_cons_zero, List.set_cons_succ, Option.bind_some, Option.bind_none, Option.map_some, Option.map_none, if_true, if_false, decide_true, decide_false, Bool.not_true, Bool.not_false, Bool.false_eq_true, reduceIte, gAdd_i, gSub_i, gNeg_i, gLt_i, gLe_i, gGt_i, gGe_i, gEq_i, gNe_i, gMul_b, gMod_p, gFdiv_p, Nat.reduceAdd, Nat.reduceMul, Nat.reduceLeDiff, at0, at1, at2, at3, at4, at5, at6, at7, at8, at9, at10, at11, at12, at13, at14, at15, gSl_l, cut_pos, cut_from, cut_to, Int.reduceToNat, List.drop_succ_cons, List.drop_zero, List.take_succ_cons, List.take_zero, List.take_nil, Nat.reduceSub, Int.reduceAdd, Int.reduceSub, Int.reduceMul, Int.reduceMod, Int.reduceDiv, Int.reduceNeg, List.length_cons, List.length_nil, Nat.zero_add, fComp, compL, rg1_3, mInt, mAbs, mGcd, mMax2, mMin2, mMax3, mMin3, mIsqrt, isT, c]
  refine Eq.trans (sSeq_eq es1) ?_
  obtain ⟨s2, hs2, hs2', es2⟩ : ∃ s2 : V2, BW 400 s2 ∧ 1 ≤ s2.y ∧ (sIf (bAnd (bVal (eBin gEq (eBin gIx (eVar 1) (eC (.int 3))) (eC (.int 3)))) (bVal (eBin gNe (eBin gIx (eVar 11) (eC (.int 0))) (eC (.int 0))))) (sSet 12 (eCall m__law_reduced (aCons (eBin gIx (eVar 11) (eC (.int 1))) (aCons (eBin gIx (eVar 11) (eC (.int 0))) aNil)))) sNx) [.va (.list (ns.map .int)), .va (.list [.int d0, .int d1, .int d2, .int d3, .int d4]), .va (.list [.int x0, .int x1, .int x2, .int x3, .int x4, .int x5, .int x6, .int x7, .int x8, .int x9, .int x10, .int x11, .int x12]), .va (.int base), .va (.int z), .va (.int bo), .va (.int to), .va (.int one1), .va (.int two), .va (.int co), .va (.list [.int q0, .int q1']), .va (r2 true ⟨fx, fy⟩), .va (r2 true s1), .un] = some (.nx [.va (.list (ns.map .int)), .va (.list [.int d0, .int d1, .int d2, .int d3, .int d4]), .va (.list [.int x0, .int x1, .int x2, .int x3, .int x4, .int x5, .int x6, .int x7, .int x8, .int x9, .int x10, .int x11, .int x12]), .va (.int base), .va (.int z), .va (.int bo), .va (.int to), .va (.int one1), .va (.int two), .va (.int co), .va (.list [.int q0, .int q1']), .va (r2 true ⟨fx, fy⟩), .va (r2 true s2), .un]) := by
    by_cases c : d3 = 3
    · by_cases c2 : fx = 0
      · exact ⟨s1, hs1, hs1', by simp (config := {decide := true}) only [runD, List.map_cons, List.map_nil, List.replicate_zero, List.replicate_succ, List.cons_append, List.nil_append, List.append_nil, sRet, sRetN, sNx, sSeq, sSet, sSetF, sOwn, sTo, gsCons, gsNil, sPar, sPar3, eChain, sExp, sApp, sPut, sIf, sFrz, frz, frz1, List.foldl_cons, List.foldl_nil, eBin, eUn, eVar, eC, eAnd, eOr, eIf, eLend, flat, eIxO, eOfF, eTup, eAll, fAll, eCall, eIs, eSl, fSl, oNone, oSome, aNil, aCons, bVal, bAnd, bOr, bNot, bYes, blOf, gNot, iSeq, iRg1, iRg2, seq_l, seq_t, tup_l, tup_t, lst_l, lst_t, len_l, len_t, gIx_l, gIx_t, gNm, wipeR, List.getElem?_cons_zero, List.getElem?_cons_succ, List.set_cons_zero, List.set_cons_succ, Option.bind_some, Option.bind_none, Option.map_some, Option.map_none, if_true, if_false, decide_true, decide_false, Bool.not_true, Bool.not_false, Bool.false_eq_true, reduceIte, gAdd_i, gSub_i, gNeg_i, gLt_i, gLe_i, gGt_i, gGe_i, gEq_i, gNe_i, gMul_b, gMod_p, gFdiv_p, Nat.reduceAdd, Nat.reduceMul, Nat.reduceLeDiff, at0, at1, at2, at3, at4, at5, at6, at7, at8, at9, at10, at11, at12, at13, at14, at15, gSl_l, cut_pos, cut_from, cut_to, Int.reduceToNat, List.drop_succ_cons, List.drop_zero, List.take_succ_cons, List.take_zero, List.take_nil, Nat.reduceSub, Int.reduceAdd, Int.reduceSub, Int.reduceMul, Int.reduceMod, Int.reduceDiv, Int.reduceNeg, List.length_cons, List.length_nil, Nat.zero_add, fComp, compL, rg1_3, mInt, mAbs, mGcd, mMax2, mMin2, mMax3, mMin3, mIsqrt, isT, c, c2, ix_p0]⟩
      · obtain ⟨tx, ty, hl3, _, el3⟩ := v_low (a := fy) c2 (Nat.lt_of_lt_of_le fb1 (Nat.pow_le_pow_right (by decide) (by decide)))
        refine ⟨⟨tx, ty⟩, ⟨Nat.lt_of_le_of_lt hl3.bx (Nat.lt_of_lt_of_le fb2 (Nat.pow_le_pow_right (by decide) (by decide))), Nat.lt_of_le_of_lt hl3.by' (Nat.lt_of_lt_of_le fb1 (Nat.pow_le_pow_right (by decide) (by decide)))⟩, hl3.pos, ?_⟩
        simp (config := {decide := true}) only [runD, List.map_cons, List.map_nil, List.replicate_zero, List.replicate_succ, List.cons_append, List.nil_append, List.append_nil, sRet, sRetN, sNx, sSeq, sSet, sSetF, sOwn, sTo, gsCons, gsNil, sPar, sPar3, eChain, sExp, sApp, sPut, sIf, sFrz, frz, frz1, List.foldl_cons, List.foldl_nil, eBin, eUn, eVar, eC, eAnd, eOr, eIf, eLend, flat, eIxO, eOfF, eTup, eAll, fAll, eCall, eIs, eSl, fSl, oNone, oSome, aNil, aCons, bVal, bAnd, bOr, bNot, bYes, blOf, gNot, iSeq, iRg1, iRg2, seq_l, seq_t, tup_l, tup_t, lst_l, lst_t, len_l, len_t, gIx_l, gIx_t, gNm, wipeR, List.getElem?_cons_zero, List.getElem?_cons_succ, List.set_cons_zero, List.set_cons_succ, Option.bind_some, Option.bind_none, Option.map_some, Option.map_none, if_true, if_false, decide_true, decide_false, Bool.not_true, Bool.not_false, Bool.false_eq_true, reduceIte, gAdd_i, gSub_i, gNeg_i, gLt_i, gLe_i, gGt_i, gGe_i, gEq_i, gNe_i, gMul_b, gMod_p, gFdiv_p, Nat.reduceAdd, Nat.reduceMul, Nat.reduceLeDiff, at0, at1, at2, at3, at4, at5, at6, at7, at8, at9, at10, at11, at12, at13, at14, at15, gSl_l, cut_pos, cut_from, cut_to, Int.reduceToNat, List.drop_succ_cons, List.drop_zero, List.take_succ_cons, List.take_zero, List.take_nil, Nat.reduceSub, Int.reduceAdd, Int.reduceSub, Int.reduceMul, Int.reduceMod, Int.reduceDiv, Int.reduceNeg, List.length_cons, List.length_nil, Nat.zero_add, fComp, compL, rg1_3, mInt, mAbs, mGcd, mMax2, mMin2, mMax3, mMin3, mIsqrt, isT, c, c2, ix_p0, ix_p1, el3]
    · exact ⟨s1, hs1, hs1', by simp (config := {decide := true}) only [runD, List.map_cons, List.map_nil, List.replicate_zero, List.replicate_succ, List.cons_append, List.nil_append, List.append_nil, sRet, sRetN, sNx, sSeq, sSet, sSetF, sOwn, sTo, gsCons, gsNil, sPar, sPar3, eChain, sExp, sApp, sPut, sIf, sFrz, frz, frz1, List.foldl_cons, List.foldl_nil, eBin, eUn, eVar, eC, eAnd, eOr, eIf, eLend, flat, eIxO, eOfF, eTup, eAll, fAll, eCall, eIs, eSl, fSl, oNone, oSome, aNil, aCons, bVal, bAnd, bOr, bNot, bYes, blOf, gNot, iSeq, iRg1, iRg2, seq_l, seq_t, tup_l, tup_t, lst_l, lst_t, len_l, len_t, gIx_l, gIx_t, gNm, wipeR, List.getElem?_cons_zero, List.getElem?_cons_succ, List.set_cons_zero, List.set_cons_succ, Option.bind_some, Option.bind_none, Option.map_some, Option.map_none, if_true, if_false, decide_true, decide_false, Bool.not_true, Bool.not_false, Bool.false_eq_true, reduceIte, gAdd_i, gSub_i, gNeg_i, gLt_i, gLe_i, gGt_i, gGe_i, gEq_i, gNe_i, gMul_b, gMod_p, gFdiv_p, Nat.reduceAdd, Nat.reduceMul, Nat.reduceLeDiff, at0, at1, at2, at3, at4, at5, at6, at7, at8, at9, at10, at11, at12, at13, at14, at15, gSl_l, cut_pos, cut_from, cut_to, Int.reduceToNat, List.drop_succ_cons, List.drop_zero, List.take_succ_cons, List.take_zero, List.take_nil, Nat.reduceSub, Int.reduceAdd, Int.reduceSub, Int.reduceMul, Int.reduceMod, Int.reduceDiv, Int.reduceNeg, List.length_cons, List.length_nil, Nat.zero_add, fComp, compL, rg1_3, mInt, mAbs, mGcd, mMax2, mMin2, mMax3, mMin3, mIsqrt, isT, c]⟩
  refine Eq.trans (sSeq_eq es2) ?_
  have hf : BW 400 (⟨fx, fy⟩ : V2) := ⟨Nat.lt_of_lt_of_le fb1 (Nat.pow_le_pow_right (by decide) (by decide)), Nat.lt_of_lt_of_le fb2 (Nat.pow_le_pow_right (by decide) (by decide))⟩
  obtain ⟨s3, hs3, hs3', es3⟩ : ∃ s3 : V2, BW 400 s3 ∧ 1 ≤ s3.y ∧ (sIf (bVal (eBin gGt (eBin gIx (eVar 1) (eC (.int 3))) (eC (.int 3)))) (sSet 12 (eBin gIx (eOfF (aCons (eTup (aCons (eUn gNeg (eBin gIx (eVar 11) (eC (.int 0)))) (aCons (eBin gIx (eVar 11) (eC (.int 1))) aNil))) (aCons (eVar 11) (aCons (eTup (aCons (eC (.int 0)) (aCons (eC (.int 1)) aNil))) aNil)))) (eBin gSub (eBin gIx (eVar 1) (eC (.int 3))) (eC (.int 4))))) sNx) [.va (.list (ns.map .int)), .va (.list [.int d0, .int d1, .int d2, .int d3, .int d4]), .va (.list [.int x0, .int x1, .int x2, .int x3, .int x4, .int x5, .int x6, .int x7, .int x8, .int x9, .int x10, .int x11, .int x12]), .va (.int base), .va (.int z), .va (.int bo), .va (.int to), .va (.int one1), .va (.int two), .va (.int co), .va (.list [.int q0, .int q1']), .va (r2 true ⟨fx, fy⟩), .va (r2 true s2), .un] = some (.nx [.va (.list (ns.map .int)), .va (.list [.int d0, .int d1, .int d2, .int d3, .int d4]), .va (.list [.int x0, .int x1, .int x2, .int x3, .int x4, .int x5, .int x6, .int x7, .int x8, .int x9, .int x10, .int x11, .int x12]), .va (.int base), .va (.int z), .va (.int bo), .va (.int to), .va (.int one1), .va (.int two), .va (.int co), .va (.list [.int q0, .int q1']), .va (r2 true ⟨fx, fy⟩), .va (r2 true s3), .un]) := by
    have hd : d3 = 4 ∨ d3 = 5 ∨ d3 = 6 ∨ ¬ 3 < d3 := by omega
    rcases hd with rfl | rfl | rfl | c
    · exact ⟨⟨-fx, fy⟩, ⟨by rw [Int.natAbs_neg]; exact hf.x, hf.y⟩, fy1, by simp (config := {decide := true}) only [runD, List.map_cons, List.map_nil, List.replicate_zero, List.replicate_succ, List.cons_append, List.nil_append, List.append_nil, sRet, sRetN, sNx, sSeq, sSet, sSetF, sOwn, sTo, gsCons, gsNil, sPar, sPar3, eChain, sExp, sApp, sPut, sIf, sFrz, frz, frz1, List.foldl_cons, List.foldl_nil, eBin, eUn, eVar, eC, eAnd, eOr, eIf, eLend, flat, eIxO, eOfF, eTup, eAll, fAll, eCall, eIs, eSl, fSl, oNone, oSome, aNil, aCons, bVal, bAnd, bOr, bNot, bYes, blOf, gNot, iSeq, iRg1, iRg2, seq_l, seq_t, tup_l, tup_t, lst_l, lst_t, len_l, len_t, gIx_l, gIx_t, gNm, wipeR, List.getElem?_cons_zero, List.getElem?_cons_succ, List.set_cons_zero, List.set_cons_succ, Option.bind_some, Option.bind_none, Option.map_some, Option.map_none, if_true, if_false, decide_true, decide_false, Bool.not_true, Bool.not_false, Bool.false_eq_true, reduceIte, gAdd_i, gSub_i, gNeg_i, gLt_i, gLe_i, gGt_i, gGe_i, gEq_i, gNe_i, gMul_b, gMod_p, gFdiv_p, Nat.reduceAdd, Nat.reduceMul, Nat.reduceLeDiff, at0, at1, at2, at3, at4, at5, at6, at7, at8, at9, at10, at11, at12, at13, at14, at15, gSl_l, cut_pos, cut_from, cut_to, Int.reduceToNat, List.drop_succ_cons, List.drop_zero, List.take_succ_cons, List.take_zero, List.take_nil, Nat.reduceSub, Int.reduceAdd, Int.reduceSub, Int.reduceMul, Int.reduceMod, Int.reduceDiv, Int.reduceNeg, List.length_cons, List.length_nil, Nat.zero_add, fComp, compL, rg1_3, mInt, mAbs, mGcd, mMax2, mMin2, mMax3, mMin3, mIsqrt, isT, ix_p0, ix_p1, row2_t]⟩
    · exact ⟨⟨fx, fy⟩, hf, fy1, by simp (config := {decide := true}) only [runD, List.map_cons, List.map_nil, List.replicate_zero, List.replicate_succ, List.cons_append, List.nil_append, List.append_nil, sRet, sRetN, sNx, sSeq, sSet, sSetF, sOwn, sTo, gsCons, gsNil, sPar, sPar3, eChain, sExp, sApp, sPut, sIf, sFrz, frz, frz1, List.foldl_cons, List.foldl_nil, eBin, eUn, eVar, eC, eAnd, eOr, eIf, eLend, flat, eIxO, eOfF, eTup, eAll, fAll, eCall, eIs, eSl, fSl, oNone, oSome, aNil, aCons, bVal, bAnd, bOr, bNot, bYes, blOf, gNot, iSeq, iRg1, iRg2, seq_l, seq_t, tup_l, tup_t, lst_l, lst_t, len_l, len_t, gIx_l, gIx_t, gNm, wipeR, List.getElem?_cons_zero, List.getElem?_cons_succ, List.set_cons_zero, List.set_cons_succ, Option.bind_some, Option.bind_none, Option.map_some, Option.map_none, if_true, if_false, decide_true, decide_false, Bool.not_true, Bool.not_false, Bool.false_eq_true, reduceIte, gAdd_i, gSub_i, gNeg_i, gLt_i, gLe_i, gGt_i, gGe_i, gEq_i, gNe_i, gMul_b, gMod_p, gFdiv_p, Nat.reduceAdd, Nat.reduceMul, Nat.reduceLeDiff, at0, at1, at2, at3, at4, at5, at6, at7, at8, at9, at10, at11, at12, at13, at14, at15, gSl_l, cut_pos, cut_from, cut_to, Int.reduceToNat, List.drop_succ_cons, List.drop_zero, List.take_succ_cons, List.take_zero, List.take_nil, Nat.reduceSub, Int.reduceAdd, Int.reduceSub, Int.reduceMul, Int.reduceMod, Int.reduceDiv, Int.reduceNeg, List.length_cons, List.length_nil, Nat.zero_add, fComp, compL, rg1_3, mInt, mAbs, mGcd, mMax2, mMin2, mMax3, mMin3, mIsqrt, isT, ix_p0, ix_p1, row2_t]⟩
    · exact ⟨⟨0, 1⟩, ⟨by decide, by decide⟩, by decide, by simp (config := {decide := true}) only [runD, List.map_cons, List.map_nil, List.replicate_zero, List.replicate_succ, List.cons_append, List.nil_append, List.append_nil, sRet, sRetN, sNx, sSeq, sSet, sSetF, sOwn, sTo, gsCons, gsNil, sPar, sPar3, eChain, sExp, sApp, sPut, sIf, sFrz, frz, frz1, List.foldl_cons, List.foldl_nil, eBin, eUn, eVar, eC, eAnd, eOr, eIf, eLend, flat, eIxO, eOfF, eTup, eAll, fAll, eCall, eIs, eSl, fSl, oNone, oSome, aNil, aCons, bVal, bAnd, bOr, bNot, bYes, blOf, gNot, iSeq, iRg1, iRg2, seq_l, seq_t, tup_l, tup_t, lst_l, lst_t, len_l, len_t, gIx_l, gIx_t, gNm, wipeR, List.getElem?_cons_zero, List.getElem?_cons_succ, List.set_cons_zero, List.set_cons_succ, Option.bind_some, Option.bind_none, Option.map_some, Option.map_none, if_true, if_false, decide_true, decide_false, Bool.not_true, Bool.not_false, Bool.false_eq_true, reduceIte, gAdd_i, gSub_i, gNeg_i, gLt_i, gLe_i, gGt_i, gGe_i, gEq_i, gNe_i, gMul_b, gMod_p, gFdiv_p, Nat.reduceAdd, Nat.reduceMul, Nat.reduceLeDiff, at0, at1, at2, at3, at4, at5, at6, at7, at8, at9, at10, at11, at12, at13, at14, at15, gSl_l, cut_pos, cut_from, cut_to, Int.reduceToNat, List.drop_succ_cons, List.drop_zero, List.take_succ_cons, List.take_zero, List.take_nil, Nat.reduceSub, Int.reduceAdd, Int.reduceSub, Int.reduceMul, Int.reduceMod, Int.reduceDiv, Int.reduceNeg, List.length_cons, List.length_nil, Nat.zero_add, fComp, compL, rg1_3, mInt, mAbs, mGcd, mMax2, mMin2, mMax3, mMin3, mIsqrt, isT, ix_p0, ix_p1, row2_t]⟩
    · exact ⟨s2, hs2, hs2', by simp (config := {decide := true}) only [runD, List.map_cons, List.map_nil, List.replicate_zero, List.replicate_succ, List.cons_append, List.nil_append, List.append_nil, sRet, sRetN, sNx, sSeq, sSet, sSetF, sOwn, sTo, gsCons, gsNil, sPar, sPar3, eChain, sExp, sApp, sPut, sIf, sFrz, frz, frz1, List.foldl_cons, List.foldl_nil, eBin, eUn, eVar, eC, eAnd, eOr, eIf, eLend, flat, eIxO, eOfF, eTup, eAll, fAll, eCall, eIs, eSl, fSl, oNone, oSome, aNil, aCons, bVal, bAnd, bOr, bNot, bYes, blOf, gNot, iSeq, iRg1, iRg2, seq_l, seq_t, tup_l, tup_t, lst_l, lst_t, len_l, len_t, gIx_l, gIx_t, gNm, wipeR, List.getElem?_cons_zero, List.getElem?_cons_succ, List.set_cons_zero, List.set_cons_succ, Option.bind_some, Option.bind_none, Option.map_some, Option.map_none, if_true, if_false, decide_true, decide_false, Bool.not_true, Bool.not_false, Bool.false_eq_true, reduceIte, gAdd_i, gSub_i, gNeg_i, gLt_i, gLe_i, gGt_i, gGe_i, gEq_i, gNe_i, gMul_b, gMod_p, gFdiv_p, Nat.reduceAdd, Nat.reduceMul, Nat.reduceLeDiff, at0, at1, at2, at3, at4, at5, at6, at7, at8, at9, at10, at11, at12, at13, at14, at15, gSl_l, cut_pos, cut_from, cut_to, Int.reduceToNat, List.drop_succ_cons, List.drop_zero, List.take_succ_cons, List.take_zero, List.take_nil, Nat.reduceSub, Int.reduceAdd, Int.reduceSub, Int.reduceMul, Int.reduceMod, Int.reduceDiv, Int.reduceNeg, List.length_cons, List.length_nil, Nat.zero_add, fComp, compL, rg1_3, mInt, mAbs, mGcd, mMax2, mMin2, mMax3, mMin3, mIsqrt, isT, c]⟩
  refine Eq.trans (sSeq_eq es3) ?_
  have ws := w_sums (w := d4) hf hs3 fy1 hs3'
  simp (config := {decide := true}) only [runD, List.map_cons, List.map_nil, List.replicate_zero, List.replicate_succ, List.cons_append, List.nil_append, List.append_nil, sRet, sRetN, sNx, sSeq, sSet, sSetF, sOwn, sTo, gsCons, gsNil, sPar, sPar3, eChain, sExp, sApp, sPut, sIf, sFrz, frz, frz1, List.foldl_cons, List.foldl_nil, eBin, eUn, eVar, eC, eAnd, eOr, eIf, eLend, flat, eIxO, eOfF, eTup, eAll, fAll, eCall, eIs, eSl, fSl, oNone, oSome, aNil, aCons, bVal, bAnd, bOr, bNot, bYes, blOf, gNot, iSeq, iRg1, iRg2, seq_l, seq_t, tup_l, tup_t, lst_l, lst_t, len_l, len_t, gIx_l, gIx_t, gNm, wipeR, List.getElem?_cons_zero, List.getElem?_cons_succ, List.set_cons_zero, List.set_cons_succ, Option.bind_some, Option.bind_none, Option.map_some, Option.map_none, if_true, if_false, decide_true, decide_false, Bool.not_true, Bool.not_false, Bool.false_eq_true, reduceIte, gAdd_i, gSub_i, gNeg_i, gLt_i, gLe_i, gGt_i, gGe_i, gEq_i, gNe_i, gMul_b, gMod_p, gFdiv_p, Nat.reduceAdd, Nat.reduceMul, Nat.reduceLeDiff, at0, at1, at2, at3, at4, at5, at6, at7, at8, at9, at10, at11, at12, at13, at14, at15, gSl_l, cut_pos, cut_from, cut_to, Int.reduceToNat, List.drop_succ_cons, List.drop_zero, List.take_succ_cons, List.take_zero, List.take_nil, Nat.reduceSub, Int.reduceAdd, Int.reduceSub, Int.reduceMul, Int.reduceMod, Int.reduceDiv, Int.reduceNeg, List.length_cons, List.length_nil, Nat.zero_add, fComp, compL, rg1_3, mInt, mAbs, mGcd, mMax2, mMin2, mMax3, mMin3, mIsqrt, isT, ws]
end W

set_option Elab.async false
set_option linter.all false
set_option maxRecDepth 100000
set_option maxHeartbeats 0
namespace W
open PySem PySem.Spec PyProof.Rows L2 DL
abbrev i_ZeroBottom : Stmt := clsInit (top 11)
def hfa_0 : List Fct := [fFree "len", fFree "int", fFree "range", fFree "isinstance", fFree "bool", fFree "tuple", fFree "abs", fFree "ValueError", fFree "max", fBlt "isqrt" "math.isqrt", fBlt "gcd" "math.gcd", fGlo "NothingToRedo", fGlo "NothingToUndo", fGlo "BadQuestion", fGlo "BadPart", fGlo "BadModulus", fGlo "BadWorth", fGlo "BadText", fGlo "NoCycle", fGlo "NotPell", fGlo "NotIdle", fGlo "BadStep", fGlo "EndlessChamber", fGlo "MovesRest", fGlo "TooManyRests", fGlo "BadClaim", fGlo "NoRest", fGlo "NotHome", fGlo "NotKeeper", fGlo "BadWord"]
def hfa_1 : List Fct := [fGlo "OffSide", fGlo "NotInLand", fGlo "BadRay", fGlo "BadStart", fGlo "TooDeep", fGlo "NoMirror", fGlo "NotNull", fGlo "NotPositive", fGlo "NotNegative", fGlo "NotOneMinus", fGlo "BadForm", fGlo "NoInverse", fGlo "ZeroBottom", fGlo "FewError", fXc "ZeroBottom" "top", fEx "ZeroBottom", fKitA "ZeroBottom" ["NoInverse", "BadForm", "NotOneMinus", "NotNegative", "NotPositive", "NotNull", "NoMirror", "TooDeep", "BadStart", "BadRay", "NotInLand", "OffSide", "BadWord", "NotKeeper", "NotHome", "NoRest", "BadClaim", "TooManyRests", "MovesRest", "EndlessChamber", "BadStep", "NotIdle", "NotPell", "NoCycle", "BadText", "BadWorth", "BadModulus", "BadPart", "BadQuestion", "NothingToUndo", "NothingToRedo"] false, fKit1 "ZeroBottom" (.t "ValueError") true, fKit1 "ZeroBottom" (.c "ZeroBottom") true, fExm "ZeroBottom" "FewError"]
def hfa : List Fct := hfa_0 ++ hfa_1
def hfn_0 : List He.DefD := [dfn "_law_cell" s__law_cell, dfn "_law_digits" s__law_digits, dfn "_law_number" s__law_number, dfn "root" s_root, dfn "root_up" s_root_up, dfn "_law_whole" s__law_whole, dfn "_law_roots_right" s__law_roots_right, dfn "ceiling" s_ceiling, dfn "_law_ceiling_right" s__law_ceiling_right, dfn "_law_number_for_powers" s__law_number_for_powers, dfn "prime_powers" s_prime_powers, dfn "_law_is_row" s__law_is_row, dfn "_law_prime" s__law_prime, dfn "valuation" s_valuation, dfn "_law_powers_right" s__law_powers_right, dfn "bezout" s_bezout, dfn "_law_gcd" s__law_gcd, dfn "_law_bezout_right" s__law_bezout_right, dfn "_law_least_prime" s__law_least_prime, dfn "_law_valuation_right" s__law_valuation_right, dfn "ratio" s_ratio, dfn "_law_ratio" s__law_ratio, dfn "_law_lowest" s__law_lowest, dfn "_law_ratio_right" s__law_ratio_right, dfn "_law_reduced" s__law_reduced, dfn "_law_handed" s__law_handed, dfn "ratio_sum" s_ratio_sum, dfn "ratio_product" s_ratio_product, dfn "ratio_sign" s_ratio_sign, dfn "_law_sums_right" s__law_sums_right]
def hfn_1 : List He.DefD := [dfn "law" s_law, dini "ZeroBottom" "ZeroBottom.__init__" i_ZeroBottom]
def hfn : List He.DefD := hfn_0 ++ hfn_1
def hnm_0 : List Str := ["root", "root_up", "ceiling", "bezout", "prime_powers", "valuation", "FewError", "NoInverse", "ZeroBottom", "BadForm", "NotOneMinus", "NotNegative", "NotPositive", "NotNull", "NoMirror", "TooDeep", "BadStart", "BadRay", "NotInLand", "OffSide", "BadWord", "NotKeeper", "NotHome", "NoRest", "BadClaim", "TooManyRests", "MovesRest", "EndlessChamber", "BadStep", "NotIdle"]
def hnm_1 : List Str := ["NotPell", "NoCycle", "BadText", "BadWorth", "BadModulus", "BadPart", "BadQuestion", "NothingToUndo", "NothingToRedo", "ratio", "ratio_sum", "ratio_product", "ratio_sign", "_law_whole", "_law_is_row", "_law_cell", "_law_digits", "_law_number", "_law_gcd", "_law_handed", "_law_roots_right", "_law_ceiling_right", "_law_bezout_right", "_law_prime", "_law_powers_right", "_law_number_for_powers", "_law_least_prime", "_law_valuation_right", "_law_lowest", "_law_reduced"]
def hnm_2 : List Str := ["_law_ratio", "_law_ratio_right", "_law_sums_right"]
def hnm : List Str := hnm_0 ++ hnm_1 ++ hnm_2
abbrev R : PySem.W.OpenRow := PySem.W.OpenLaw.row PySem.Challenge.rw_fewfounders_k02_wholes_and_ratios
def has : List Addr := [3, 49, 48, 56, 55, 63, 62, 70, 69, 77, 76, 84, 83, 94, 93, 114, 113, 133, 132, 130, 129, 131, 152, 151, 171, 170, 190, 189, 209, 208, 228, 227, 247, 246, 266, 265, 285, 284, 304, 303, 323, 322, 342, 341, 361, 360, 380, 379, 399, 398, 418, 417, 437, 436, 456, 455, 475, 474, 494, 493, 513, 512, 532, 531, 551, 550, 570, 569, 589, 588, 608, 607, 627, 626, 646, 645, 665, 664, 677, 676, 689, 688, 698, 697, 705, 704, 712, 711, 719, 718, 726, 725, 733, 732, 740, 739, 747, 746, 754, 753, 761, 760, 766, 765, 773, 772, 780, 779, 787, 786, 794, 793, 801, 800, 806, 805, 813, 812, 820, 819, 827, 826, 834, 833, 841, 840, 848, 847, 855, 854, 860, 859]
abbrev hk : PySem.W.Hook := hookL has hfa hfn
def ob (s : PySem.W.SharedT) : He.AlD := obsL has hfa hfn (HandSHeadRun.getT s)
theorem ob_eq (s : PySem.W.SharedT) : ob s = hk.obs s.abs := obsL_eq (HandSHeadRun.getT_eq s)
theorem run (w : World) : HandSHeadRun.RunEqI R (PySem.W.view R.prog [0, 68]) hk ob 63160 hnm w := by
  unfold HandSHeadRun.RunEqI
  kernel_rfl
theorem facts {P : Program} {w : World} {K : PySem.W.Frag} {h : Heap} {mg : Str → Option Value} {f : Addr} (X : K.In h) (G : h.Ns mainGlobals mg) (hf0 : mg ("law" : Str) = some (.ref f)) (c : SaysX hfa hfn K) :
    ∃ fd : FuncData, (∀ (s : Shared) (v : Value), BindsTo s fd ⟨[v], []⟩ [("script", v)]) ∧ ∀ base : Heap, K.In base → base.Ns mainGlobals mg → FnOk P w K mg base CX0 6 f fd ["script"] (spD K 1 m_law) := by
  have z_len := c.free X G 0 "len"
  have z_int := c.free X G 1 "int"
  have z_range := c.free X G 2 "range"
  have z_isinstance := c.free X G 3 "isinstance"
  have z_bool := c.free X G 4 "bool"
  have z_tuple := c.free X G 5 "tuple"
  have z_abs := c.free X G 6 "abs"
  have z_ValueError := c.free X G 7 "ValueError"
  have z_max := c.free X G 8 "max"
  have g_isqrt := c.blt X G 9 "isqrt" "math.isqrt"
  have g_gcd := c.blt X G 10 "gcd" "math.gcd"
  have f__law_cell := c.fd X G 0 "_law_cell" s__law_cell
  have f__law_digits := c.fd X G 1 "_law_digits" s__law_digits
  have f__law_number := c.fd X G 2 "_law_number" s__law_number
  have f_root := c.fd X G 3 "root" s_root
  have f_root_up := c.fd X G 4 "root_up" s_root_up
  have f__law_whole := c.fd X G 5 "_law_whole" s__law_whole
  have f__law_roots_right := c.fd X G 6 "_law_roots_right" s__law_roots_right
  have f_ceiling := c.fd X G 7 "ceiling" s_ceiling
  have f__law_ceiling_right := c.fd X G 8 "_law_ceiling_right" s__law_ceiling_right
  have f__law_number_for_powers := c.fd X G 9 "_law_number_for_powers" s__law_number_for_powers
  have f_prime_powers := c.fd X G 10 "prime_powers" s_prime_powers
  have f__law_is_row := c.fd X G 11 "_law_is_row" s__law_is_row
  have f__law_prime := c.fd X G 12 "_law_prime" s__law_prime
  have f_valuation := c.fd X G 13 "valuation" s_valuation
  have f__law_powers_right := c.fd X G 14 "_law_powers_right" s__law_powers_right
  have f_bezout := c.fd X G 15 "bezout" s_bezout
  have f__law_gcd := c.fd X G 16 "_law_gcd" s__law_gcd
  have f__law_bezout_right := c.fd X G 17 "_law_bezout_right" s__law_bezout_right
  have f__law_least_prime := c.fd X G 18 "_law_least_prime" s__law_least_prime
  have f__law_valuation_right := c.fd X G 19 "_law_valuation_right" s__law_valuation_right
  have f_ratio := c.fd X G 20 "ratio" s_ratio
  have f__law_ratio := c.fd X G 21 "_law_ratio" s__law_ratio
  have f__law_lowest := c.fd X G 22 "_law_lowest" s__law_lowest
  have f__law_ratio_right := c.fd X G 23 "_law_ratio_right" s__law_ratio_right
  have f__law_reduced := c.fd X G 24 "_law_reduced" s__law_reduced
  have f__law_handed := c.fd X G 25 "_law_handed" s__law_handed
  have f_ratio_sum := c.fd X G 26 "ratio_sum" s_ratio_sum
  have f_ratio_product := c.fd X G 27 "ratio_product" s_ratio_product
  have f_ratio_sign := c.fd X G 28 "ratio_sign" s_ratio_sign
  have f__law_sums_right := c.fd X G 29 "_law_sums_right" s__law_sums_right
  obtain ⟨fd, F, e⟩ := c.fnP X G 30 "law" s_law
  have e2 := hf0.symm.trans e
  cases e2
  have b := FunD.bindsA (ps := ["script"]) F fun _ _ _ _ _ _ us hl => match us, hl with | [_], _ => rfl
  refine ⟨fd, fun s v => b s [v] rfl, fun base _ _ => ?_⟩
  have q_NothingToRedo := c.cls X G 11 "NothingToRedo"
  have q_NothingToUndo := c.cls X G 12 "NothingToUndo"
  have q_BadQuestion := c.cls X G 13 "BadQuestion"
  have q_BadPart := c.cls X G 14 "BadPart"
  have q_BadModulus := c.cls X G 15 "BadModulus"
  have q_BadWorth := c.cls X G 16 "BadWorth"
  have q_BadText := c.cls X G 17 "BadText"
  have q_NoCycle := c.cls X G 18 "NoCycle"
  have q_NotPell := c.cls X G 19 "NotPell"
  have q_NotIdle := c.cls X G 20 "NotIdle"
  have q_BadStep := c.cls X G 21 "BadStep"
  have q_EndlessChamber := c.cls X G 22 "EndlessChamber"
  have q_MovesRest := c.cls X G 23 "MovesRest"
  have q_TooManyRests := c.cls X G 24 "TooManyRests"
  have q_BadClaim := c.cls X G 25 "BadClaim"
  have q_NoRest := c.cls X G 26 "NoRest"
  have q_NotHome := c.cls X G 27 "NotHome"
  have q_NotKeeper := c.cls X G 28 "NotKeeper"
  have q_BadWord := c.cls X G 29 "BadWord"
  have q_OffSide := c.cls X G 30 "OffSide"
  have q_NotInLand := c.cls X G 31 "NotInLand"
  have q_BadRay := c.cls X G 32 "BadRay"
  have q_BadStart := c.cls X G 33 "BadStart"
  have q_TooDeep := c.cls X G 34 "TooDeep"
  have q_NoMirror := c.cls X G 35 "NoMirror"
  have q_NotNull := c.cls X G 36 "NotNull"
  have q_NotPositive := c.cls X G 37 "NotPositive"
  have q_NotNegative := c.cls X G 38 "NotNegative"
  have q_NotOneMinus := c.cls X G 39 "NotOneMinus"
  have q_BadForm := c.cls X G 40 "BadForm"
  have q_NoInverse := c.cls X G 41 "NoInverse"
  have q_ZeroBottom := c.cls X G 42 "ZeroBottom"
  have q_FewError := c.cls X G 43 "FewError"
  have x_ZeroBottom := c.xcls (P := P) (w := w) (base := base) X G 44 "ZeroBottom" "top" "ZeroBottom.__init__" 31 i_ZeroBottom ⟨rfl, rfl, rfl, by decide +kernel, rfl, by decide +kernel, by decide +kernel⟩ rfl rfl rfl (by decide) (by decide) (fun _ _ _ _ _ _ us hl => match us, hl with | [_, _], _ => rfl)
  have t__law_ratio_0 := (tabA_cons (c.fact 45 (f := fEx "ZeroBottom")) (c.fact 46 (f := fKitA "ZeroBottom" ["NoInverse", "BadForm", "NotOneMinus", "NotNegative", "NotPositive", "NotNull", "NoMirror", "TooDeep", "BadStart", "BadRay", "NotInLand", "OffSide", "BadWord", "NotKeeper", "NotHome", "NoRest", "BadClaim", "TooManyRests", "MovesRest", "EndlessChamber", "BadStep", "NotIdle", "NotPell", "NoCycle", "BadText", "BadWorth", "BadModulus", "BadPart", "BadQuestion", "NothingToUndo", "NothingToRedo"] false)) tabA_nil)
  have t__law_ratio_1 := (tab1_cons (c.fact 45 (f := fEx "ZeroBottom")) (c.fact 47 (f := fKit1 "ZeroBottom" (.t "ValueError") true)) tab1_nil)
  have t__law_ratio_2 := (tab1_cons (c.fact 45 (f := fEx "ZeroBottom")) (c.fact 48 (f := fKit1 "ZeroBottom" (.c "ZeroBottom") true)) tab1_nil)
  have e__law_ratio_0 := (tabE_cons (c.fact 49 (f := fExm "ZeroBottom" "FewError")) tabE_nil)
  have d__law_cell := ok__law_cell (P := P) (w := w) (base := base) f__law_cell z_len z_int
  have d__law_digits := ok__law_digits (P := P) (w := w) (base := base) f__law_digits z_int z_range z_len
  have d__law_number := ok__law_number (P := P) (w := w) (base := base) f__law_number d__law_digits z_int
  have d_root := ok_root (P := P) (w := w) (base := base) f_root g_isqrt
  have d_root_up := ok_root_up (P := P) (w := w) (base := base) f_root_up g_isqrt
  have d__law_whole := ok__law_whole (P := P) (w := w) (base := base) f__law_whole z_isinstance z_bool z_int
  have d__law_roots_right := ok__law_roots_right (P := P) (w := w) (base := base) f__law_roots_right d_root d_root_up d__law_whole
  have d_ceiling := ok_ceiling (P := P) (w := w) (base := base) f_ceiling 
  have d__law_ceiling_right := ok__law_ceiling_right (P := P) (w := w) (base := base) f__law_ceiling_right d_ceiling d__law_whole
  have d__law_number_for_powers := ok__law_number_for_powers (P := P) (w := w) (base := base) f__law_number_for_powers d__law_digits z_int z_range
  have d_prime_powers := ok_prime_powers (P := P) (w := w) (base := base) f_prime_powers z_tuple
  have d__law_is_row := ok__law_is_row (P := P) (w := w) (base := base) f__law_is_row d__law_whole z_len z_isinstance z_tuple
  have d__law_prime := ok__law_prime (P := P) (w := w) (base := base) f__law_prime z_range z_int
  have d_valuation := ok_valuation (P := P) (w := w) (base := base) f_valuation 
  have d__law_powers_right := ok__law_powers_right (P := P) (w := w) (base := base) f__law_powers_right d_prime_powers d__law_is_row d__law_prime d_valuation d__law_whole z_len z_isinstance z_tuple z_range
  have d_bezout := ok_bezout (P := P) (w := w) (base := base) f_bezout 
  have d__law_gcd := ok__law_gcd (P := P) (w := w) (base := base) f__law_gcd z_abs z_range z_int
  have d__law_bezout_right := ok__law_bezout_right (P := P) (w := w) (base := base) f__law_bezout_right d_bezout d__law_gcd d__law_is_row
  have d__law_least_prime := ok__law_least_prime (P := P) (w := w) (base := base) f__law_least_prime z_range z_int
  have d__law_valuation_right := ok__law_valuation_right (P := P) (w := w) (base := base) f__law_valuation_right d__law_digits d__law_least_prime d_valuation d__law_whole z_range z_int
  have dx_ratio := okx_ratio (P := P) (w := w) (base := base) f_ratio g_gcd x_ZeroBottom
  have d_ratio := dx_ratio.dat
  have d__law_ratio := ok__law_ratio (P := P) (w := w) (base := base) f__law_ratio dx_ratio z_isinstance z_ValueError q_NothingToRedo q_NothingToUndo q_BadQuestion q_BadPart q_BadModulus q_BadWorth q_BadText q_NoCycle q_NotPell q_NotIdle q_BadStep q_EndlessChamber q_MovesRest q_TooManyRests q_BadClaim q_NoRest q_NotHome q_NotKeeper q_BadWord q_OffSide q_NotInLand q_BadRay q_BadStart q_TooDeep q_NoMirror q_NotNull q_NotPositive q_NotNegative q_NotOneMinus q_BadForm q_NoInverse q_ZeroBottom q_FewError x_ZeroBottom t__law_ratio_0 t__law_ratio_1 t__law_ratio_2 e__law_ratio_0
  have d__law_lowest := ok__law_lowest (P := P) (w := w) (base := base) f__law_lowest d__law_gcd d__law_is_row
  have d__law_ratio_right := ok__law_ratio_right (P := P) (w := w) (base := base) f__law_ratio_right d__law_ratio d__law_whole d__law_lowest
  have d__law_reduced := ok__law_reduced (P := P) (w := w) (base := base) f__law_reduced d__law_gcd
  have d__law_handed := ok__law_handed (P := P) (w := w) (base := base) f__law_handed z_tuple
  have d_ratio_sum := ok_ratio_sum (P := P) (w := w) (base := base) f_ratio_sum d_ratio
  have d_ratio_product := ok_ratio_product (P := P) (w := w) (base := base) f_ratio_product d_ratio
  have d_ratio_sign := ok_ratio_sign (P := P) (w := w) (base := base) f_ratio_sign 
  have d__law_sums_right := ok__law_sums_right (P := P) (w := w) (base := base) f__law_sums_right d__law_handed d_ratio_sum d__law_lowest d_ratio_product d_ratio_sign d__law_whole z_int z_tuple
  exact fn_law F d__law_cell d__law_digits d__law_number d__law_roots_right d__law_ceiling_right d__law_number_for_powers d__law_powers_right d__law_bezout_right d__law_valuation_right d__law_ratio_right d__law_reduced d__law_sums_right z_range z_abs z_max z_int
end W
open PySem PySem.W PySem.Calls PyProof.Rows
set_option maxRecDepth 100000 in
set_option maxHeartbeats 0 in
theorem PySem.Challenge.cw_fewfounders_k02_wholes_and_ratios_holds : PySem.Challenge.rw_fewfounders_k02_wholes_and_ratios.Holds := by
  w_on; o_law
  refine HandSHeadRun.head_imp (r := OpenLaw.row PySem.Challenge.rw_fewfounders_k02_wholes_and_ratios) (q := view (OpenLaw.row PySem.Challenge.rw_fewfounders_k02_wholes_and_ratios).prog [0, 68]) (H := W.hk) (ob := W.ob) (M := 63160) (loose := W.hnm) (d := HandSHeadRun.topDef (OpenLaw.row PySem.Challenge.rw_fewfounders_k02_wholes_and_ratios).prog 68) (kwd := []) W.ob_eq
    W.run (by kernel_rfl) (by kernel_rfl) (by kernel_rfl) (by rfl) (by first | assumption | decide +kernel) (by decide +kernel) ⟨rfl, rfl, rfl, rfl, rfl, by decide +kernel⟩ ?hw ?hc
  case hw => w_witness2
  case hc =>
    refine DL.walk_law (l := PySem.Challenge.rw_fewfounders_k02_wholes_and_ratios) (k := 6) (x := "script") (m := W.m_law) rfl (by kernel_rfl) ⟨rfl, by decide, by decide⟩ ?F W.law_true
    intro w mg fa h Y G hmg0
    obtain ⟨K, KX, c⟩ := Y
    have hmg : mg ("law" : PySem.Str) = some (.ref fa) := by
      have e : (HandSHeadRun.topDef (OpenLaw.row PySem.Challenge.rw_fewfounders_k02_wholes_and_ratios).prog 68).name = ("law" : PySem.Str) := by kernel_rfl
      rw [← e]
      exact hmg0
    obtain ⟨fd, hb, hF⟩ := W.facts (P := (PySem.Challenge.rw_fewfounders_k02_wholes_and_ratios).prog) (w := w) KX G hmg c
    exact ⟨K, fd, KX, hb, hF⟩
