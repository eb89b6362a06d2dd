import PyProof.Rows.All
import Wide.All
import OpenK.AllK
import Wide.FinOn
import HandS.ForMost
import HandS.Deep
import HandS.Wide
import HandS.TupAny
import HandS.TupLe
import HandS.IsInst
import HandS.Style
import HandS.NoneIn
import PySem.Challenge.RW_pointwright_k42_whole_fractions
set_option Elab.async false
set_option linter.all false
set_option maxRecDepth 100000
set_option maxHeartbeats 4000000

namespace DL
open PySem L2

/-! ## data under a frozen part of the heap -/
theorem sameT {K : PySem.W.Frag} {H H' : Hp} {a : Addr} {xs : List V} (e : Same H H') (h : SqT K H a xs) : SqT K H' a xs := by
  rcases h with (h | ⟨o, h⟩) | h
  · exact .inl (.inl (e _ _ h))
  · exact .inl (.inr ⟨o, e _ _ h⟩)
  · exact .inr h
mutual
theorem Dp.mo {K : PySem.W.Frag} {G G' : Hp} (e : Same G G') : ∀ (d : PyData) (v : V), Dp K G v d → Dp K G' v d
  | .none, _, h => by cases h; exact .non
  | .bool b, _, h => by cases h; exact .bl b
  | .int i, _, h => by cases h; exact .int i
  | .str x, _, h => by cases h; exact .str x
  | .list ds, _, h => by
    cases h with
    | lst hs ha => exact .lst (e.seq hs) (DpAll.mo e ds _ ha)
  | .tuple ds, _, h => by
    cases h with
    | tup hs ha => exact .tup (sameT e hs) (DpAll.mo e ds _ ha)
  | .dict _, _, h => by cases h
theorem DpAll.mo {K : PySem.W.Frag} {G G' : Hp} (e : Same G G') : ∀ (ds : List PyData) (vs : List V), DpAll K G vs ds → DpAll K G' vs ds
  | [], _, h => by cases h; exact .nil
  | d :: ds, _, h => by
    cases h with
    | cons h1 h2 => exact .cons (Dp.mo e d _ h1) (DpAll.mo e ds _ h2)
end
theorem DpAll.len {K : PySem.W.Frag} {G : Hp} : ∀ {vs : List V} {ds : List PyData}, DpAll K G vs ds → vs.length = ds.length
  | _, _, .nil => rfl
  | _, _, .cons _ h => by rw [List.length_cons, List.length_cons, DpAll.len h]
theorem DpAll.get {K : PySem.W.Frag} {G : Hp} : ∀ {vs : List V} {ds : List PyData} {i : Nat} {d : PyData}, DpAll K G vs ds → ds[i]? = some d → ∃ v, vs[i]? = some v ∧ Dp K G v d
  | _, _, _, _, .nil, e => by simp at e
  | _, _, 0, _, .cons h _, e => by simp at e; subst e; exact ⟨_, rfl, h⟩
  | _, _, i + 1, _, .cons _ h, e => by
    obtain ⟨v, h1, h2⟩ := DpAll.get (i := i) h (by simpa using e)
    exact ⟨v, by simpa using h1, h2⟩
theorem DpAll.get' {K : PySem.W.Frag} {G : Hp} : ∀ {vs : List V} {ds : List PyData} {i : Nat} {v : V}, DpAll K G vs ds → vs[i]? = some v → ∃ d, ds[i]? = some d ∧ Dp K G v d
  | _, _, _, _, .nil, e => by simp at e
  | _, _, 0, _, .cons h _, e => by simp at e; subst e; exact ⟨_, rfl, h⟩
  | _, _, i + 1, _, .cons _ h, e => by
    obtain ⟨v, h1, h2⟩ := DpAll.get' (i := i) h (by simpa using e)
    exact ⟨v, by simpa using h1, h2⟩
theorem DpAll.app {K : PySem.W.Frag} {G : Hp} : ∀ {vs ws : List V} {ds es : List PyData}, DpAll K G vs ds → DpAll K G ws es → DpAll K G (vs ++ ws) (ds ++ es)
  | _, _, _, _, .nil, h => h
  | _, _, _, _, .cons h1 h2, h => .cons h1 (DpAll.app h2 h)
theorem DpAll.set {K : PySem.W.Frag} {G : Hp} : ∀ {vs : List V} {ds : List PyData} {v : V} {d : PyData} (i : Nat), DpAll K G vs ds → Dp K G v d → DpAll K G (vs.set i v) (ds.set i d)
  | _, _, _, _, _, .nil, _ => .nil
  | _, _, _, _, 0, .cons _ h2, h => .cons h h2
  | _, _, _, _, i + 1, .cons h1 h2, h => .cons h1 (DpAll.set i h2 h)
theorem DpAll.take {K : PySem.W.Frag} {G : Hp} : ∀ {vs : List V} {ds : List PyData} (n : Nat), DpAll K G vs ds → DpAll K G (vs.take n) (ds.take n)
  | _, _, 0, _ => by rw [List.take_zero, List.take_zero]; exact .nil
  | _, _, _ + 1, .nil => .nil
  | _, _, n + 1, .cons h1 h2 => .cons h1 (DpAll.take n h2)
theorem DpAll.drop {K : PySem.W.Frag} {G : Hp} : ∀ {vs : List V} {ds : List PyData} (n : Nat), DpAll K G vs ds → DpAll K G (vs.drop n) (ds.drop n)
  | _, _, 0, h => h
  | _, _, _ + 1, .nil => .nil
  | _, _, n + 1, .cons _ h2 => DpAll.drop n h2
theorem DpAll.ints {K : PySem.W.Frag} {G : Hp} : ∀ {ns : List Int}, DpAll K G (ns.map V.int) (ns.map PyData.int)
  | [] => .nil
  | n :: _ => .cons (.int n) DpAll.ints
theorem DpAll.ofInts {K : PySem.W.Frag} {G : Hp} : ∀ {ns : List Int} {vs : List V}, DpAll K G vs (ns.map PyData.int) → vs = ns.map V.int
  | [], _, h => by cases h; rfl
  | n :: ns, _, h => by
    cases h with
    | cons h1 h2 => cases h1; rw [DpAll.ofInts h2]; rfl

/-! ## the state as data -/
/-- a slot: shared data; a list of its own; a list lent by the caller -/
inductive Sl where
  | sh (d : PyData)
  | ow (ds : List PyData)
  | bo (ds : List PyData)
def Sl.mu : Sl → Bool
  | .sh _ => false
  | _ => true
abbrev DS := List (Option Sl)
/-- the frame's entry: the heap, its frozen part, the lent lists by slot -/
structure DC where
  H0 : Hp
  G0 : Hp
  β : List (Nat × Addr)
  /-- lists that are being made -/
  pr : List (Addr × List V)

def SlOk (K : PySem.W.Frag) (C : DC) (G H : Hp) (i : Nat) (v : V) : Sl → Prop
  | .sh d => Dp K G v d
  | .ow ds => ∃ a vs, v = .ref a ∧ H a = some (.lst vs) ∧ G a = none ∧ C.H0 a = none ∧ DpAll K G vs ds
  | .bo ds => ∃ a vs, v = .ref a ∧ (i, a) ∈ C.β ∧ H a = some (.lst vs) ∧ G a = none ∧ DpAll K G vs ds

structure Rel (K : PySem.W.Frag) (C : DC) (G : Hp) (ρ : DS) (σ : St) (H : Hp) : Prop where
  same : Same G H
  nw : ∀ b, C.G0 b = none → C.H0 b ≠ none → G b = none
  fr : ∀ b o, C.H0 b = some o → (∀ p ∈ C.β, p.2 ≠ b) → H b = some o
  be : ∀ p ∈ C.β, ∃ vs, H p.2 = some (.lst vs)
  bs : ∀ p ∈ C.β, σ[p.1]? = some (some (.ref p.2)) ∧ ∃ ds, ρ[p.1]? = some (some (.bo ds))
  len : σ.length = ρ.length
  slot : ∀ (i : Nat) (sl : Sl), ρ[i]? = some (some sl) → ∃ v, σ[i]? = some (some v) ∧ SlOk K C G H i v sl
  sep : ∀ (i j : Nat) (si sj : Sl) (a : Addr), i ≠ j → ρ[i]? = some (some si) → ρ[j]? = some (some sj) → si.mu = true → sj.mu = true → σ[i]? = some (some (.ref a)) → σ[j]? ≠ some (some (.ref a))
  prs : ∀ p ∈ C.pr, H p.1 = some (.lst p.2) ∧ G p.1 = none ∧ C.H0 p.1 = none ∧ ∀ (j : Nat) (sl : Sl), ρ[j]? = some (some sl) → sl.mu = true → σ[j]? ≠ some (some (.ref p.1))

/-- a list of this frame's own that no slot holds -/
structure Fresh (C : DC) (G : Hp) (ρ : DS) (σ : St) (H : Hp) (a : Addr) (vs : List V) : Prop where
  at_ : H a = some (.lst vs)
  g : G a = none
  h0 : C.H0 a = none
  ns : ∀ (j : Nat) (sl : Sl), ρ[j]? = some (some sl) → sl.mu = true → σ[j]? ≠ some (some (.ref a))
  np : ∀ p ∈ C.pr, p.1 ≠ a

section
variable {K : PySem.W.Frag} {C : DC} {G : Hp} {ρ : DS} {σ : St} {H : Hp}
theorem same_upd {p : Addr} {o : HO} (h : H p = none) : Same H (upd H p o) := fun b x e => by
  rw [upd_ne (ne_of_none e h)]
  exact e
theorem Rel.free (R : Rel K C G ρ σ H) {p : Addr} (h : H p = none) : G p = none := R.same.free h
theorem Rel.h0 (R : Rel K C G ρ σ H) {p : Addr} (h : H p = none) : C.H0 p = none := by
  cases q : C.H0 p with
  | none => rfl
  | some o =>
    exfalso
    by_cases hb : ∀ z ∈ C.β, z.2 ≠ p
    · rw [R.fr p o q hb] at h; cases h
    · refine hb fun z hz e => ?_
      obtain ⟨vs, hv⟩ := R.be z hz
      rw [e, h] at hv; cases hv
theorem SlOk.mo {G' H' : Hp} {i : Nat} {v : V} : ∀ {sl : Sl}, SlOk K C G H i v sl → Same G G' → (∀ a vs, H a = some (.lst vs) → sl.mu = true → v = .ref a → H' a = some (.lst vs) ∧ (G a = none → G' a = none)) → SlOk K C G' H' i v sl
  | .sh d, h, e, _ => Dp.mo e d v h
  | .ow ds, ⟨a, vs, h1, h2, h3, h4, h5⟩, e, k => ⟨a, vs, h1, (k a vs h2 rfl h1).1, (k a vs h2 rfl h1).2 h3, h4, DpAll.mo e ds vs h5⟩
  | .bo ds, ⟨a, vs, h1, h2, h3, h4, h5⟩, e, k => ⟨a, vs, h1, h2, (k a vs h3 rfl h1).1, (k a vs h3 rfl h1).2 h4, DpAll.mo e ds vs h5⟩
/-- a new frozen object -/
theorem Rel.new (R : Rel K C G ρ σ H) {p : Addr} {o : HO} (h : H p = none) : Rel K C (upd G p o) ρ σ (upd H p o) where
  same := fun b x e => by
    by_cases hb : b = p
    · subst hb
      rw [upd_same] at e ⊢
      exact e
    · rw [upd_ne hb] at e ⊢
      exact R.same b x e
  nw := fun b h1 h2 => by
    have hb : b ≠ p := fun e => h2 (by rw [e]; exact R.h0 h)
    rw [upd_ne hb]
    exact R.nw b h1 h2
  fr := fun b x e k => by
    have q := R.fr b x e k
    rw [upd_ne (ne_of_none q h)]
    exact q
  be := fun z hz => by
    obtain ⟨vs, q⟩ := R.be z hz
    exact ⟨vs, by rw [upd_ne (ne_of_none q h)]; exact q⟩
  bs := R.bs
  len := R.len
  slot := fun i sl e => by
    obtain ⟨v, e1, k⟩ := R.slot i sl e
    refine ⟨v, e1, k.mo (same_upd (R.free h)) fun a vs q _ _ => ?_⟩
    have ha : a ≠ p := ne_of_none q h
    rw [upd_ne ha, upd_ne ha]
    exact ⟨q, id⟩
  sep := R.sep
  prs := fun z hz => by
    obtain ⟨q1, q2, q3, q4⟩ := R.prs z hz
    have hb : z.1 ≠ p := ne_of_none q1 h
    exact ⟨by rw [upd_ne hb]; exact q1, by rw [upd_ne hb]; exact q2, q3, q4⟩
/-- a new object that is not frozen -/
theorem Rel.newH (R : Rel K C G ρ σ H) {p : Addr} {o : HO} (h : H p = none) : Rel K C G ρ σ (upd H p o) where
  same := R.same.trans (same_upd h)
  nw := R.nw
  fr := fun b x e k => by
    have q := R.fr b x e k
    rw [upd_ne (ne_of_none q h)]
    exact q
  be := fun z hz => by
    obtain ⟨vs, q⟩ := R.be z hz
    exact ⟨vs, by rw [upd_ne (ne_of_none q h)]; exact q⟩
  bs := R.bs
  len := R.len
  slot := fun i sl e => by
    obtain ⟨v, e1, k⟩ := R.slot i sl e
    refine ⟨v, e1, k.mo (Same.refl _) fun a vs q _ _ => ?_⟩
    have ha : a ≠ p := ne_of_none q h
    rw [upd_ne ha]
    exact ⟨q, id⟩
  sep := R.sep
  prs := fun z hz => by
    obtain ⟨q1, q2, q3, q4⟩ := R.prs z hz
    have hb : z.1 ≠ p := ne_of_none q1 h
    exact ⟨by rw [upd_ne hb]; exact q1, q2, q3, q4⟩
theorem Rel.newF (R : Rel K C G ρ σ H) {p : Addr} {vs : List V} (h : H p = none) : Fresh C G ρ σ (upd H p (.lst vs)) p vs where
  at_ := upd_same
  g := R.free h
  h0 := R.h0 h
  ns := fun j sl e hm q => by
    obtain ⟨v, e1, k⟩ := R.slot j sl e
    rw [e1] at q
    cases q
    cases sl with
    | sh d => cases hm
    | ow ds =>
      obtain ⟨a, vs, h1, h2, _⟩ := k
      cases h1
      rw [h] at h2; cases h2
    | bo ds =>
      obtain ⟨a, vs, h1, _, h2, _⟩ := k
      cases h1
      rw [h] at h2; cases h2
  np := fun z hz => ne_of_none (R.prs z hz).1 h
/-- a fresh list is frozen -/
theorem Rel.freeze (R : Rel K C G ρ σ H) {a : Addr} {vs : List V} (F : Fresh C G ρ σ H a vs) : Same G (upd G a (.lst vs)) ∧ Rel K C (upd G a (.lst vs)) ρ σ H := by
  have sg : Same G (upd G a (.lst vs)) := same_upd F.g
  refine ⟨sg, ⟨fun b x e => ?_, fun b h1 h2 => ?_, R.fr, R.be, R.bs, R.len, fun i sl e => ?_, R.sep, fun z hz => ?_⟩⟩
  · by_cases hb : b = a
    · subst hb
      rw [upd_same] at e
      cases e
      exact F.at_
    · rw [upd_ne hb] at e
      exact R.same b x e
  · have hb : b ≠ a := fun e => h2 (by rw [e]; exact F.h0)
    rw [upd_ne hb]
    exact R.nw b h1 h2
  · obtain ⟨v, e1, k⟩ := R.slot i sl e
    refine ⟨v, e1, k.mo sg fun b ws q hm hv => ⟨q, fun hg => ?_⟩⟩
    have hb : b ≠ a := fun z => F.ns i sl e hm (by rw [e1, hv, z])
    rw [upd_ne hb]
    exact hg
  · obtain ⟨q1, q2, q3, q4⟩ := R.prs z hz
    exact ⟨q1, by rw [upd_ne (F.np z hz)]; exact q2, q3, q4⟩
/-- slots that hold nothing lent -/
theorem Rel.notLent (R : Rel K C G ρ σ H) {i : Nat} (h : ∀ ds, ρ[i]? ≠ some (some (.bo ds))) : ∀ p ∈ C.β, p.1 ≠ i := fun p hp e => by
  obtain ⟨_, ds, q⟩ := R.bs p hp
  exact h ds (by rw [← e]; exact q)
/-- a slot takes shared data -/
theorem Rel.setSh (R : Rel K C G ρ σ H) {i : Nat} {v : V} {d : PyData} (h : ∀ ds, ρ[i]? ≠ some (some (.bo ds))) (hd : Dp K G v d) : Rel K C G (ρ.set i (some (.sh d))) (σ.set i (some v)) H where
  same := R.same
  nw := R.nw
  fr := R.fr
  be := R.be
  bs := fun p hp => by
    have ne := R.notLent h p hp
    rw [List.getElem?_set_ne (Ne.symm ne), List.getElem?_set_ne (Ne.symm ne)]
    exact R.bs p hp
  len := by rw [List.length_set, List.length_set, R.len]
  slot := fun j sl e => by
    by_cases hj : i = j
    · subst hj
      have hl : i < ρ.length := by
        have := (List.getElem?_eq_some_iff.mp e).1
        rwa [List.length_set] at this
      rw [List.getElem?_set_self hl] at e
      cases e
      exact ⟨v, List.getElem?_set_self (by rw [R.len]; exact hl), hd⟩
    · rw [List.getElem?_set_ne hj] at e ⊢
      exact R.slot j sl e
  sep := fun j k sj sk a njk ej ek mj mk qj => by
    by_cases hj : i = j
    · subst hj
      have hl : i < ρ.length := by
        have := (List.getElem?_eq_some_iff.mp ej).1
        rwa [List.length_set] at this
      rw [List.getElem?_set_self hl] at ej
      cases ej; cases mj
    · by_cases hk : i = k
      · subst hk
        have hl : i < ρ.length := by
          have := (List.getElem?_eq_some_iff.mp ek).1
          rwa [List.length_set] at this
        rw [List.getElem?_set_self hl] at ek
        cases ek; cases mk
      · rw [List.getElem?_set_ne hj] at ej qj
        rw [List.getElem?_set_ne hk] at ek ⊢
        exact R.sep j k sj sk a njk ej ek mj mk qj
  prs := fun z hz => by
    obtain ⟨q1, q2, q3, q4⟩ := R.prs z hz
    refine ⟨q1, q2, q3, fun j sl ej mj => ?_⟩
    by_cases hj : i = j
    · subst hj
      have hl : i < ρ.length := by
        have := (List.getElem?_eq_some_iff.mp ej).1
        rwa [List.length_set] at this
      rw [List.getElem?_set_self hl] at ej
      cases ej; cases mj
    · rw [List.getElem?_set_ne hj] at ej
      rw [List.getElem?_set_ne hj]
      exact q4 j sl ej mj
/-- a slot takes a fresh list as its own -/
theorem Rel.setOw (R : Rel K C G ρ σ H) {i : Nat} {a : Addr} {vs : List V} {ds : List PyData} (h : ∀ ds, ρ[i]? ≠ some (some (.bo ds))) (F : Fresh C G ρ σ H a vs) (hd : DpAll K G vs ds) : Rel K C G (ρ.set i (some (.ow ds))) (σ.set i (some (.ref a))) H where
  same := R.same
  nw := R.nw
  fr := R.fr
  be := R.be
  bs := fun p hp => by
    have ne := R.notLent h p hp
    rw [List.getElem?_set_ne (Ne.symm ne), List.getElem?_set_ne (Ne.symm ne)]
    exact R.bs p hp
  len := by rw [List.length_set, List.length_set, R.len]
  slot := fun j sl e => by
    by_cases hj : i = j
    · subst hj
      have hl : i < ρ.length := by
        have := (List.getElem?_eq_some_iff.mp e).1
        rwa [List.length_set] at this
      rw [List.getElem?_set_self hl] at e
      cases e
      exact ⟨_, List.getElem?_set_self (by rw [R.len]; exact hl), a, vs, rfl, F.at_, F.g, F.h0, hd⟩
    · rw [List.getElem?_set_ne hj] at e ⊢
      exact R.slot j sl e
  sep := fun j k sj sk b njk ej ek mj mk qj => by
    have inn : ∀ {m : Nat} {s : Sl}, (ρ.set i (some (.ow ds)))[m]? = some (some s) → m < ρ.length := fun {m s} e => by
      have := (List.getElem?_eq_some_iff.mp e).1
      rwa [List.length_set] at this
    by_cases hj : i = j
    · subst hj
      have hk : i ≠ k := njk
      rw [List.getElem?_set_self (by rw [R.len]; exact inn ej)] at qj
      cases qj
      rw [List.getElem?_set_ne hk] at ek ⊢
      exact F.ns k sk ek mk
    · rw [List.getElem?_set_ne hj] at ej qj
      by_cases hk : i = k
      · subst hk
        rw [List.getElem?_set_self (by rw [R.len]; exact inn ek)]
        intro z
        cases z
        exact F.ns j sj ej mj qj
      · rw [List.getElem?_set_ne hk] at ek ⊢
        exact R.sep j k sj sk b njk ej ek mj mk qj
  prs := fun z hz => by
    obtain ⟨q1, q2, q3, q4⟩ := R.prs z hz
    refine ⟨q1, q2, q3, fun j sl ej mj => ?_⟩
    by_cases hj : i = j
    · subst hj
      have hl : i < ρ.length := by
        have := (List.getElem?_eq_some_iff.mp ej).1
        rwa [List.length_set] at this
      rw [List.getElem?_set_self (by rw [R.len]; exact hl)]
      intro e
      cases e
      exact F.np z hz rfl
    · rw [List.getElem?_set_ne hj] at ej
      rw [List.getElem?_set_ne hj]
      exact q4 j sl ej mj
/-- a slot is forgotten -/
theorem Rel.drop (R : Rel K C G ρ σ H) {i : Nat} (h : ∀ ds, ρ[i]? ≠ some (some (.bo ds))) : Rel K C G (ρ.set i none) (σ.set i none) H where
  same := R.same
  nw := R.nw
  fr := R.fr
  be := R.be
  bs := fun p hp => by
    have ne := R.notLent h p hp
    rw [List.getElem?_set_ne (Ne.symm ne), List.getElem?_set_ne (Ne.symm ne)]
    exact R.bs p hp
  len := by rw [List.length_set, List.length_set, R.len]
  slot := fun j sl e => by
    by_cases hj : i = j
    · subst hj
      have hl : i < ρ.length := by
        have := (List.getElem?_eq_some_iff.mp e).1
        rwa [List.length_set] at this
      rw [List.getElem?_set_self hl] at e
      cases e
    · rw [List.getElem?_set_ne hj] at e ⊢
      exact R.slot j sl e
  sep := fun j k sj sk a njk ej ek mj mk qj => by
    by_cases hj : i = j
    · subst hj
      have hl : i < ρ.length := by
        have := (List.getElem?_eq_some_iff.mp ej).1
        rwa [List.length_set] at this
      rw [List.getElem?_set_self hl] at ej
      cases ej
    · by_cases hk : i = k
      · subst hk
        have hl : i < ρ.length := by
          have := (List.getElem?_eq_some_iff.mp ek).1
          rwa [List.length_set] at this
        rw [List.getElem?_set_self hl] at ek
        cases ek
      · rw [List.getElem?_set_ne hj] at ej qj
        rw [List.getElem?_set_ne hk] at ek ⊢
        exact R.sep j k sj sk a njk ej ek mj mk qj
  prs := fun z hz => by
    obtain ⟨q1, q2, q3, q4⟩ := R.prs z hz
    refine ⟨q1, q2, q3, fun j sl ej mj => ?_⟩
    by_cases hj : i = j
    · subst hj
      have hl : i < ρ.length := by
        have := (List.getElem?_eq_some_iff.mp ej).1
        rwa [List.length_set] at this
      rw [List.getElem?_set_self hl] at ej
      cases ej
    · rw [List.getElem?_set_ne hj] at ej
      rw [List.getElem?_set_ne hj]
      exact q4 j sl ej mj
/-- less is known of a slot -/
theorem Rel.forget (R : Rel K C G ρ σ H) {i : Nat} (h : ∀ ds, ρ[i]? ≠ some (some (.bo ds))) : Rel K C G (ρ.set i none) σ H where
  same := R.same
  nw := R.nw
  fr := R.fr
  be := R.be
  bs := fun p hp => by
    have ne := R.notLent h p hp
    rw [List.getElem?_set_ne (Ne.symm ne)]
    exact R.bs p hp
  len := by rw [List.length_set, R.len]
  slot := fun j sl e => by
    by_cases hj : i = j
    · subst hj
      have hl : i < ρ.length := by
        have := (List.getElem?_eq_some_iff.mp e).1
        rwa [List.length_set] at this
      rw [List.getElem?_set_self hl] at e
      cases e
    · rw [List.getElem?_set_ne hj] at e
      exact R.slot j sl e
  sep := fun j k sj sk a njk ej ek mj mk qj => by
    by_cases hj : i = j
    · subst hj
      have hl : i < ρ.length := by
        have := (List.getElem?_eq_some_iff.mp ej).1
        rwa [List.length_set] at this
      rw [List.getElem?_set_self hl] at ej
      cases ej
    · by_cases hk : i = k
      · subst hk
        have hl : i < ρ.length := by
          have := (List.getElem?_eq_some_iff.mp ek).1
          rwa [List.length_set] at this
        rw [List.getElem?_set_self hl] at ek
        cases ek
      · rw [List.getElem?_set_ne hj] at ej
        rw [List.getElem?_set_ne hk] at ek
        exact R.sep j k sj sk a njk ej ek mj mk qj
  prs := fun z hz => by
    obtain ⟨q1, q2, q3, q4⟩ := R.prs z hz
    refine ⟨q1, q2, q3, fun j sl ej mj => ?_⟩
    by_cases hj : i = j
    · subst hj
      have hl : i < ρ.length := by
        have := (List.getElem?_eq_some_iff.mp ej).1
        rwa [List.length_set] at this
      rw [List.getElem?_set_self hl] at ej
      cases ej
    · rw [List.getElem?_set_ne hj] at ej
      exact q4 j sl ej mj
/-- an own list becomes shared data -/
theorem Rel.own (R : Rel K C G ρ σ H) {i : Nat} {ds : List PyData} (h : ρ[i]? = some (some (.ow ds))) :
    ∃ a vs, σ[i]? = some (some (.ref a)) ∧ DpAll K G vs ds ∧ Fresh C G (ρ.set i none) σ H a vs ∧ Rel K C G (ρ.set i none) σ H := by
  obtain ⟨v, e1, a, vs, rfl, h2, h3, h4, h5⟩ := R.slot i _ h
  have R' := R.forget (i := i) fun ds' e => by rw [h] at e; cases e
  refine ⟨a, vs, e1, h5, ⟨h2, h3, h4, fun j sl ej mj qj => ?_, fun z hz e => (R.prs z hz).2.2.2 i _ h rfl (by rw [e1, e])⟩, R'⟩
  by_cases hj : i = j
  · subst hj
    have hl : i < ρ.length := by
      have := (List.getElem?_eq_some_iff.mp ej).1
      rwa [List.length_set] at this
    rw [List.getElem?_set_self hl] at ej
    cases ej
  · rw [List.getElem?_set_ne hj] at ej
    exact R.sep i j (.ow ds) sl a hj h ej rfl mj e1 qj
/-- a mutable list is written -/
theorem Rel.write (R : Rel K C G ρ σ H) {i : Nat} {sl sl' : Sl} {a : Addr} {vs vs' : List V} (h : ρ[i]? = some (some sl)) (hm : sl.mu = true) (hi : σ[i]? = some (some (.ref a))) (ha : H a = some (.lst vs)) (hg : G a = none)
    (h' : SlOk K C G (upd H a (.lst vs')) i (.ref a) sl') (hb : (∃ ds, sl = .bo ds) → ∃ ds, sl' = .bo ds) (hm' : sl'.mu = true) (h0 : C.H0 a = none ∨ (i, a) ∈ C.β) : Rel K C G (ρ.set i (some sl')) σ (upd H a (.lst vs')) where
  same := fun b x e => by
    have hb : b ≠ a := fun z => by rw [z, hg] at e; cases e
    rw [upd_ne hb]
    exact R.same b x e
  nw := R.nw
  fr := fun b x e k => by
    have hb : b ≠ a := fun z => by
      rcases h0 with q | q
      · rw [z, q] at e; cases e
      · exact k _ q z.symm
    rw [upd_ne hb]
    exact R.fr b x e k
  be := fun z hz => by
    by_cases hb : z.2 = a
    · exact ⟨vs', by rw [hb, upd_same]⟩
    · obtain ⟨ws, q⟩ := R.be z hz
      exact ⟨ws, by rw [upd_ne hb]; exact q⟩
  bs := fun p hp => by
    obtain ⟨q1, ds, q2⟩ := R.bs p hp
    refine ⟨q1, ?_⟩
    by_cases hj : i = p.1
    · rw [← hj] at q2 ⊢
      have hl : i < ρ.length := (List.getElem?_eq_some_iff.mp q2).1
      rw [h] at q2
      obtain ⟨ds', e⟩ := hb ⟨ds, by cases q2; rfl⟩
      exact ⟨ds', by rw [List.getElem?_set_self hl, e]⟩
    · exact ⟨ds, by rw [List.getElem?_set_ne hj]; exact q2⟩
  len := by rw [List.length_set, R.len]
  slot := fun j sl2 e => by
    by_cases hj : i = j
    · subst hj
      have hl : i < ρ.length := (List.getElem?_eq_some_iff.mp h).1
      rw [List.getElem?_set_self hl] at e
      cases e
      exact ⟨_, hi, h'⟩
    · rw [List.getElem?_set_ne hj] at e
      obtain ⟨v, e1, k⟩ := R.slot j sl2 e
      refine ⟨v, e1, k.mo (Same.refl _) fun b ws q hm2 hv => ⟨?_, id⟩⟩
      have hb : b ≠ a := fun z => R.sep i j sl sl2 a hj h e hm hm2 hi (by rw [e1, hv, z])
      rw [upd_ne hb]
      exact q
  sep := fun j k sj sk b njk ej ek mj mk qj => by
    have inn : i < ρ.length := (List.getElem?_eq_some_iff.mp h).1
    by_cases hj : i = j
    · subst hj
      rw [List.getElem?_set_ne njk] at ek
      exact R.sep i k sl sk b njk h ek hm mk qj
    · rw [List.getElem?_set_ne hj] at ej
      by_cases hk : i = k
      · subst hk
        exact R.sep j i sj sl b njk ej h mj hm qj
      · rw [List.getElem?_set_ne hk] at ek
        exact R.sep j k sj sk b njk ej ek mj mk qj
  prs := fun z hz => by
    obtain ⟨q1, q2, q3, q4⟩ := R.prs z hz
    have hb : z.1 ≠ a := fun e => q4 i sl h hm (by rw [hi, e])
    refine ⟨by rw [upd_ne hb]; exact q1, q2, q3, fun j sl2 ej mj => ?_⟩
    by_cases hj : i = j
    · subst hj
      rw [hi]
      intro e
      cases e
      exact hb rfl
    · rw [List.getElem?_set_ne hj] at ej
      exact q4 j sl2 ej mj
/-- a mutable slot: its list -/
def Sl.ds? : Sl → Option (List PyData)
  | .sh _ => none
  | .ow ds => some ds
  | .bo ds => some ds
def Sl.wr (ds : List PyData) : Sl → Sl
  | .sh d => .sh d
  | .ow _ => .ow ds
  | .bo _ => .bo ds
theorem Rel.mut (R : Rel K C G ρ σ H) {i : Nat} {sl : Sl} {ds : List PyData} (h : ρ[i]? = some (some sl)) (hd : sl.ds? = some ds) :
    ∃ a vs, σ[i]? = some (some (.ref a)) ∧ H a = some (.lst vs) ∧ G a = none ∧ DpAll K G vs ds ∧
      ∀ ds' vs', DpAll K G vs' ds' → Rel K C G (ρ.set i (some (sl.wr ds'))) σ (upd H a (.lst vs')) := by
  obtain ⟨v, e1, k⟩ := R.slot i sl h
  cases sl with
  | sh d => cases hd
  | ow es =>
    cases hd
    obtain ⟨a, vs, rfl, h2, h3, h4, h5⟩ := k
    exact ⟨a, vs, e1, h2, h3, h5, fun ds' vs' hd => R.write h rfl e1 h2 h3 ⟨a, vs', rfl, upd_same, h3, h4, hd⟩ (fun ⟨_, e⟩ => nomatch e) rfl (.inl h4)⟩
  | bo es =>
    cases hd
    obtain ⟨a, vs, rfl, h2, h3, h4, h5⟩ := k
    exact ⟨a, vs, e1, h3, h4, h5, fun ds' vs' hd => R.write h rfl e1 h3 h4 ⟨a, vs', rfl, h2, upd_same, h4, hd⟩ (fun _ => ⟨ds', rfl⟩) rfl (.inr h2)⟩
/-- a list that is being made: begun, grown, done -/
theorem Rel.prPush (R : Rel K C G ρ σ H) {a : Addr} {vs : List V} (F : Fresh C G ρ σ H a vs) : Rel K { C with pr := (a, vs) :: C.pr } G ρ σ H where
  same := R.same
  nw := R.nw
  fr := R.fr
  be := R.be
  bs := R.bs
  len := R.len
  slot := R.slot
  sep := R.sep
  prs := fun z hz => by
    rcases List.mem_cons.mp hz with e | hz
    · subst e
      exact ⟨F.at_, F.g, F.h0, F.ns⟩
    · exact R.prs z hz
theorem Rel.prPop {a : Addr} {vs : List V} (R : Rel K { C with pr := (a, vs) :: C.pr } G ρ σ H) (hn : ∀ p ∈ C.pr, p.1 ≠ a) : Rel K C G ρ σ H ∧ Fresh C G ρ σ H a vs :=
  ⟨⟨R.same, R.nw, R.fr, R.be, R.bs, R.len, R.slot, R.sep, fun z hz => R.prs z (List.mem_cons_of_mem _ hz)⟩,
    let q := R.prs (a, vs) List.mem_cons_self
    ⟨q.1, q.2.1, q.2.2.1, q.2.2.2, hn⟩⟩
theorem Rel.prGrow {a : Addr} {vs vs' : List V} (R : Rel K { C with pr := (a, vs) :: C.pr } G ρ σ H) (hn : ∀ p ∈ C.pr, p.1 ≠ a) : Rel K { C with pr := (a, vs') :: C.pr } G ρ σ (upd H a (.lst vs')) := by
  obtain ⟨q1, q2, q3, q4⟩ := R.prs (a, vs) List.mem_cons_self
  refine ⟨fun b x e => ?_, R.nw, fun b x e k => ?_, fun z hz => ?_, R.bs, R.len, fun i sl e => ?_, R.sep, fun z hz => ?_⟩
  · have hb : b ≠ a := fun z => by rw [z] at e; rw [show G a = none from q2] at e; cases e
    rw [upd_ne hb]
    exact R.same b x e
  · have hb : b ≠ a := fun z => by rw [z] at e; rw [show C.H0 a = none from q3] at e; cases e
    rw [upd_ne hb]
    exact R.fr b x e k
  · by_cases hb : z.2 = a
    · exact ⟨vs', by rw [hb, upd_same]⟩
    · obtain ⟨ws, q⟩ := R.be z hz
      exact ⟨ws, by rw [upd_ne hb]; exact q⟩
  · obtain ⟨v, e1, k⟩ := R.slot i sl e
    refine ⟨v, e1, SlOk.mo (C := { C with pr := (a, vs') :: C.pr }) (by cases sl <;> exact k) (Same.refl _) fun b ws q hm hv => ⟨?_, id⟩⟩
    have hb : b ≠ a := fun z => q4 i sl e hm (by rw [e1, hv, z])
    rw [upd_ne hb]
    exact q
  · rcases List.mem_cons.mp hz with e | hz
    · subst e
      exact ⟨upd_same, q2, q3, q4⟩
    · obtain ⟨k1, k2, k3, k4⟩ := R.prs z (List.mem_cons_of_mem _ hz)
      exact ⟨by rw [upd_ne (hn z hz)]; exact k1, k2, k3, k4⟩
end
end DL

namespace DL
open PySem L2

/-! ## judgements -/
abbrev DTE := DS → (PyData → DS → Prop) → Prop
abbrev DTT := DS → (Bool → DS → Prop) → Prop
abbrev DTL := DS → (List PyData → DS → Prop) → Prop
/-- a view: what a value shows as data at a later state -/
abbrev Vw := DS → Option PyData
abbrev DTO := DS → (Vw → DS → Prop) → Prop
abbrev DTOs := DS → (List Vw → DS → Prop) → Prop

/-- shared data, or a mutable list whose items are shared data -/
def Dv (K : PySem.W.Frag) (G H : Hp) (v : V) (d : PyData) : Prop :=
  Dp K G v d ∨ ∃ a vs ds, v = .ref a ∧ d = .list ds ∧ H a = some (.lst vs) ∧ DpAll K G vs ds
theorem Dv.dp {K : PySem.W.Frag} {G H : Hp} {v : V} {d : PyData} (s : Same G H) (h : Dv K G H v d) : Dp K H v d := by
  rcases h with h | ⟨a, vs, ds, rfl, rfl, h1, h2⟩
  · exact Dp.mo s d v h
  · exact .lst (.inl (.inl h1)) (DpAll.mo s ds vs h2)
/-- a list's items in a view -/
theorem Dv.lst {K : PySem.W.Frag} {G H : Hp} {v : V} {ds : List PyData} (s : Same G H) (h : Dv K G H v (.list ds)) : ∃ a vs, v = .ref a ∧ SqL K H a vs ∧ DpAll K G vs ds := by
  rcases h with h | ⟨a, vs, es, rfl, e, h1, h2⟩
  · cases h with
    | lst hs ha => exact ⟨_, _, rfl, s.seq hs, ha⟩
  · cases e
    exact ⟨a, vs, rfl, .inl (.inl h1), h2⟩
theorem Dv.tup {K : PySem.W.Frag} {G H : Hp} {v : V} {ds : List PyData} (s : Same G H) (h : Dv K G H v (.tuple ds)) : ∃ a vs, v = .ref a ∧ SqT K H a vs ∧ DpAll K G vs ds := by
  rcases h with h | ⟨a, vs, es, rfl, e, h1, h2⟩
  · cases h with
    | tup hs ha => exact ⟨_, _, rfl, sameT s hs, ha⟩
  · cases e
theorem Dv.int {K : PySem.W.Frag} {G H : Hp} {v : V} {i : Int} (h : Dv K G H v (.int i)) : v = .int i := by
  rcases h with h | ⟨a, vs, es, rfl, e, h1, h2⟩
  · cases h; rfl
  · cases e
theorem Dv.bl {K : PySem.W.Frag} {G H : Hp} {v : V} {i : Bool} (h : Dv K G H v (.bool i)) : v = .bl i := by
  rcases h with h | ⟨a, vs, es, rfl, e, h1, h2⟩
  · cases h; rfl
  · cases e
theorem Dv.str {K : PySem.W.Frag} {G H : Hp} {v : V} {i : Str} (h : Dv K G H v (.str i)) : v = .str i := by
  rcases h with h | ⟨a, vs, es, rfl, e, h1, h2⟩
  · cases h; rfl
  · cases e
theorem Dv.non {K : PySem.W.Frag} {G H : Hp} {v : V} (h : Dv K G H v .none) : v = .non := by
  rcases h with h | ⟨a, vs, es, rfl, e, h1, h2⟩
  · cases h; rfl
  · cases e

def VwOk (K : PySem.W.Frag) (C : DC) (G : Hp) (σ : St) (v : V) (w : Vw) : Prop :=
  ∀ G2 H2 ρ2, Same G G2 → Rel K C G2 ρ2 σ H2 → ∀ d, w ρ2 = some d → Dv K G2 H2 v d

def liftE (K : PySem.W.Frag) (C : DC) (t : DTE) : TE := fun σ H Q => ∃ G ρ, Rel K C G ρ σ H ∧ t ρ fun d ρ' => ∀ v G' H', Same G G' → Rel K C G' ρ' σ H' → Dp K G' v d → Q v H'
def liftO (K : PySem.W.Frag) (C : DC) (t : DTO) : TE := fun σ H Q => ∃ G ρ, Rel K C G ρ σ H ∧ t ρ fun w ρ' => ∀ v G' H', Same G G' → Rel K C G' ρ' σ H' → VwOk K C G' σ v w → Q v H'
def liftF (K : PySem.W.Frag) (C : DC) (t : DTL) : TE := fun σ H Q => ∃ G ρ, Rel K C G ρ σ H ∧ t ρ fun ds ρ' => ∀ a vs G' H', Same G G' → Rel K C G' ρ' σ H' → Fresh C G' ρ' σ H' a vs → DpAll K G' vs ds → Q (.ref a) H'
def liftT (K : PySem.W.Frag) (C : DC) (t : DTT) : TT := fun σ H Q => ∃ G ρ, Rel K C G ρ σ H ∧ t ρ fun b ρ' => ∀ G' H', Same G G' → Rel K C G' ρ' σ H' → Q b H'
def liftA (K : PySem.W.Frag) (C : DC) (t : DTL) : TA := fun σ H Q => ∃ G ρ, Rel K C G ρ σ H ∧ t ρ fun ds ρ' => ∀ vs G' H', Same G G' → Rel K C G' ρ' σ H' → DpAll K G' vs ds → Q vs H'
/-- values with views -/
inductive VwAll (K : PySem.W.Frag) (C : DC) (G : Hp) (σ : St) : List V → List Vw → Prop
  | nil : VwAll K C G σ [] []
  | cons {v vs w ws} : VwOk K C G σ v w → VwAll K C G σ vs ws → VwAll K C G σ (v :: vs) (w :: ws)
def liftOs (K : PySem.W.Frag) (C : DC) (t : DTOs) : TA := fun σ H Q => ∃ G ρ, Rel K C G ρ σ H ∧ t ρ fun ws ρ' => ∀ vs G' H', Same G G' → Rel K C G' ρ' σ H' → VwAll K C G' σ vs ws → Q vs H'

theorem VwOk.mo {K : PySem.W.Frag} {C : DC} {G G' : Hp} {σ : St} {v : V} {w : Vw} (h : VwOk K C G σ v w) (s : Same G G') : VwOk K C G' σ v w := fun G2 H2 ρ2 s2 r d e => h G2 H2 ρ2 (s.trans s2) r d e

structure DE (X : Cx) (e : Expr) (t : DTE) : Prop where
  run : ∀ C, PE X e (liftE X.K C t)
  mono : ∀ ρ Q Q', (∀ d ρ', Q d ρ' → Q' d ρ') → t ρ Q → t ρ Q'
structure DO (X : Cx) (e : Expr) (t : DTO) : Prop where
  run : ∀ C, PE X e (liftO X.K C t)
  mono : ∀ ρ Q Q', (∀ d ρ', Q d ρ' → Q' d ρ') → t ρ Q → t ρ Q'
structure DF (X : Cx) (e : Expr) (t : DTL) : Prop where
  run : ∀ C, PE X e (liftF X.K C t)
  mono : ∀ ρ Q Q', (∀ d ρ', Q d ρ' → Q' d ρ') → t ρ Q → t ρ Q'
structure DT (X : Cx) (e : Expr) (t : DTT) : Prop where
  run : ∀ C, PT X e (liftT X.K C t)
  mono : ∀ ρ Q Q', (∀ d ρ', Q d ρ' → Q' d ρ') → t ρ Q → t ρ Q'
structure DW (X : Cx) (e : Expr) (t : DTT) : Prop where
  run : ∀ C, PW X e (liftT X.K C t)
  mono : ∀ ρ Q Q', (∀ d ρ', Q d ρ' → Q' d ρ') → t ρ Q → t ρ Q'
structure DA (X : Cx) (es : List Expr) (t : DTL) : Prop where
  run : ∀ C, PA X es (liftA X.K C t)
  mono : ∀ ρ Q Q', (∀ d ρ', Q d ρ' → Q' d ρ') → t ρ Q → t ρ Q'
structure DOs (X : Cx) (es : List Expr) (t : DTOs) : Prop where
  run : ∀ C, PA X es (liftOs X.K C t)
  mono : ∀ ρ Q Q', (∀ d ρ', Q d ρ' → Q' d ρ') → t ρ Q → t ρ Q'

theorem PE.imp {X : Cx} {e : Expr} {t t0 : TE} (h : PE X e t0) (k : ∀ σ H Q, t σ H Q → t0 σ H Q) : PE X e t := ⟨fun pins s σ H Q I hw => h.run pins s σ H Q I (k _ _ _ hw)⟩
theorem PT.imp {X : Cx} {e : Expr} {t t0 : TT} (h : PT X e t0) (k : ∀ σ H Q, t σ H Q → t0 σ H Q) : PT X e t := ⟨fun pins s σ H Q I hw => h.run pins s σ H Q I (k _ _ _ hw)⟩
theorem PW.imp {X : Cx} {e : Expr} {t t0 : TT} (h : PW X e t0) (k : ∀ σ H Q, t σ H Q → t0 σ H Q) : PW X e t := ⟨fun wh pins s σ H Q I hw => h.run wh pins s σ H Q I (k _ _ _ hw)⟩
theorem PA.imp {X : Cx} {es : List Expr} {t t0 : TA} (h : PA X es t0) (k : ∀ σ H Q, t σ H Q → t0 σ H Q) : PA X es t := ⟨fun pos pins s σ H Q I hw => h.run pos pins s σ H Q I (k _ _ _ hw)⟩

section
variable {X : Cx} {e a b c : Expr} {es : List Expr} {C : DC} {G H : Hp} {ρ : DS} {σ : St} {pos : Pos}
/-! ### running a judgement and going on -/
theorem goE {t : DTE} (m : ∀ ρ Q Q', (∀ d ρ', Q d ρ' → Q' d ρ') → t ρ Q → t ρ Q') {K : PySem.W.Frag} {R : VK} {P : PyData → DS → Prop} (r : Rel K C G ρ σ H) (h : t ρ P)
    (k : ∀ d ρ' v G' H', P d ρ' → Same G G' → Rel K C G' ρ' σ H' → Dp K G' v d → R v H') : liftE K C t σ H R := ⟨G, ρ, r, m _ _ _ (fun d ρ' p v G' H' s r' q => k d ρ' v G' H' p s r' q) h⟩
theorem goO {t : DTO} (m : ∀ ρ Q Q', (∀ d ρ', Q d ρ' → Q' d ρ') → t ρ Q → t ρ Q') {K : PySem.W.Frag} {R : VK} {P : Vw → DS → Prop} (r : Rel K C G ρ σ H) (h : t ρ P)
    (k : ∀ d ρ' v G' H', P d ρ' → Same G G' → Rel K C G' ρ' σ H' → VwOk K C G' σ v d → R v H') : liftO K C t σ H R := ⟨G, ρ, r, m _ _ _ (fun d ρ' p v G' H' s r' q => k d ρ' v G' H' p s r' q) h⟩
theorem goF {t : DTL} (m : ∀ ρ Q Q', (∀ d ρ', Q d ρ' → Q' d ρ') → t ρ Q → t ρ Q') {K : PySem.W.Frag} {R : VK} {P : List PyData → DS → Prop} (r : Rel K C G ρ σ H) (h : t ρ P)
    (k : ∀ d ρ' a vs G' H', P d ρ' → Same G G' → Rel K C G' ρ' σ H' → Fresh C G' ρ' σ H' a vs → DpAll K G' vs d → R (.ref a) H') : liftF K C t σ H R := ⟨G, ρ, r, m _ _ _ (fun d ρ' p a vs G' H' s r' f q => k d ρ' a vs G' H' p s r' f q) h⟩
theorem goT {t : DTT} (m : ∀ ρ Q Q', (∀ d ρ', Q d ρ' → Q' d ρ') → t ρ Q → t ρ Q') {K : PySem.W.Frag} {R : Bool → Hp → Prop} {P : Bool → DS → Prop} (r : Rel K C G ρ σ H) (h : t ρ P)
    (k : ∀ d ρ' G' H', P d ρ' → Same G G' → Rel K C G' ρ' σ H' → R d H') : liftT K C t σ H R := ⟨G, ρ, r, m _ _ _ (fun d ρ' p G' H' s r' => k d ρ' G' H' p s r') h⟩
theorem goA {t : DTL} (m : ∀ ρ Q Q', (∀ d ρ', Q d ρ' → Q' d ρ') → t ρ Q → t ρ Q') {K : PySem.W.Frag} {R : List V → Hp → Prop} {P : List PyData → DS → Prop} (r : Rel K C G ρ σ H) (h : t ρ P)
    (k : ∀ d ρ' v G' H', P d ρ' → Same G G' → Rel K C G' ρ' σ H' → DpAll K G' v d → R v H') : liftA K C t σ H R := ⟨G, ρ, r, m _ _ _ (fun d ρ' p v G' H' s r' q => k d ρ' v G' H' p s r' q) h⟩
theorem goOs {t : DTOs} (m : ∀ ρ Q Q', (∀ d ρ', Q d ρ' → Q' d ρ') → t ρ Q → t ρ Q') {K : PySem.W.Frag} {R : List V → Hp → Prop} {P : List Vw → DS → Prop} (r : Rel K C G ρ σ H) (h : t ρ P)
    (k : ∀ d ρ' v G' H', P d ρ' → Same G G' → Rel K C G' ρ' σ H' → VwAll K C G' σ v d → R v H') : liftOs K C t σ H R := ⟨G, ρ, r, m _ _ _ (fun d ρ' p v G' H' s r' q => k d ρ' v G' H' p s r' q) h⟩

/-! ### changing the kind -/
/-- shared data as an operand -/
def oE (t : DTE) : DTO := fun ρ Q => t ρ fun d ρ' => Q (fun _ => some d) ρ'
theorem do_e {t : DTE} (h : DE X e t) : DO X e (oE t) where
  run C := PE.imp (h.run C) fun σ H Q ⟨G, ρ, r, q⟩ => goE h.mono r q fun d ρ' v G' H' p s r' dp => p v G' H' s r' fun G2 H2 ρ2 s2 r2 d2 e2 => by
    cases e2
    exact .inl (Dp.mo s2 d v dp)
  mono ρ Q Q' k q := h.mono _ _ _ (fun d ρ' => k _ ρ') q
/-- a fresh list, frozen -/
def eF (t : DTL) : DTE := fun ρ Q => t ρ fun ds ρ' => Q (.list ds) ρ'
theorem de_f {t : DTL} (h : DF X e t) : DE X e (eF t) where
  run C := PE.imp (h.run C) fun σ H Q ⟨G, ρ, r, q⟩ => goF h.mono r q fun ds ρ' a vs G' H' p s r' f dp => by
    obtain ⟨s2, r2⟩ := r'.freeze f
    exact p _ _ _ (s.trans s2) r2 (.lst (.inl (.inl upd_same)) (DpAll.mo s2 ds vs dp))
  mono ρ Q Q' k q := h.mono _ _ _ (fun d ρ' => k _ ρ') q
/-- a name, shared: an own list is frozen -/
def eN (i : Nat) : DTE := fun ρ Q => match ρ[i]? with
  | some (some (.sh d)) => Q d ρ
  | some (some (.ow ds)) => Q (.list ds) (ρ.set i (some (.sh (.list ds))))
  | _ => False
theorem de_n (i : Nat) {x : Str} (hN : X.N[i]? = some x := by rfl) (hv : Vis X.env.scope x := by first | exact Or.inl rfl | exact Or.inr (Or.inl rfl) | exact Or.inr (Or.inr rfl)) (hd : (x == ("__debug__" : Str)) = false := by decide)
    (hcd : (x == ("__classdict__" : Str)) = false := by decide) : DE X (.Name x pos) (eN i) where
  run C := PE.imp (pe_var hN hv hd hcd) fun σ H Q ⟨G, ρ, r, q⟩ => by
    unfold eN at q
    split at q
    · rename_i d e
      obtain ⟨v, e1, k⟩ := r.slot i _ e
      exact ⟨v, e1, q v G H (Same.refl _) r k⟩
    · rename_i ds e
      obtain ⟨a, vs, e1, hd2, f, r'⟩ := r.own e
      obtain ⟨s2, r2⟩ := r'.freeze f
      have hi : i < ρ.length := (List.getElem?_eq_some_iff.mp e).1
      have dd : Dp X.K (upd G a (.lst vs)) (.ref a) (.list ds) := .lst (.inl (.inl upd_same)) (DpAll.mo s2 ds vs hd2)
      have r3 := r2.setSh (i := i) (fun es z => by rw [List.getElem?_set_self hi] at z; cases z) dd
      rw [List.set_set] at r3
      have es : σ.set i (some (.ref a)) = σ := by
        obtain ⟨hl, e2⟩ := List.getElem?_eq_some_iff.mp e1
        rw [← e2]
        exact List.set_getElem_self hl
      rw [es] at r3
      exact ⟨_, e1, q _ _ _ s2 r3 dd⟩
    · exact q.elim
  mono ρ Q Q' k q := by
    unfold eN at q ⊢
    split
    · rename_i d e
      rw [e] at q
      exact k _ _ q
    · rename_i ds e
      rw [e] at q
      exact k _ _ q
    · rename_i h1 h2
      split at q
      · rename_i d e
        exact (h1 _ e).elim
      · rename_i d e
        exact (h2 _ e).elim
      · exact q
/-- a name as an operand: it is looked at when the operation is done -/
def vN (i : Nat) : Vw := fun ρ => match ρ[i]? with
  | some (some (.sh d)) => some d
  | some (some (.ow ds)) => some (.list ds)
  | some (some (.bo ds)) => some (.list ds)
  | _ => none
def oN (i : Nat) : DTO := fun ρ Q => (vN i ρ).isSome = true ∧ Q (vN i) ρ
theorem vN_ok {K : PySem.W.Frag} (r : Rel K C G ρ σ H) {i : Nat} {v : V} (e1 : σ[i]? = some (some v)) : VwOk K C G σ v (vN i) := fun G2 H2 ρ2 s2 r2 d e => by
  unfold vN at e
  split at e
  · rename_i d' e'
    cases e
    obtain ⟨v', e2, k⟩ := r2.slot i _ e'
    rw [e1] at e2; cases e2
    exact .inl k
  · rename_i ds e'
    cases e
    obtain ⟨v', e2, a, vs, h1, h2, h3, h4, h5⟩ := r2.slot i _ e'
    rw [e1] at e2; cases e2
    exact .inr ⟨a, vs, ds, h1, rfl, h2, h5⟩
  · rename_i ds e'
    cases e
    obtain ⟨v', e2, a, vs, h1, h2, h3, h4, h5⟩ := r2.slot i _ e'
    rw [e1] at e2; cases e2
    exact .inr ⟨a, vs, ds, h1, rfl, h3, h5⟩
  · cases e
theorem vN_there {K : PySem.W.Frag} (r : Rel K C G ρ σ H) {i : Nat} (h : (vN i ρ).isSome = true) : ∃ v, σ[i]? = some (some v) := by
  unfold vN at h
  split at h
  · rename_i d e
    obtain ⟨v, e1, _⟩ := r.slot i _ e
    exact ⟨v, e1⟩
  · rename_i d e
    obtain ⟨v, e1, _⟩ := r.slot i _ e
    exact ⟨v, e1⟩
  · rename_i d e
    obtain ⟨v, e1, _⟩ := r.slot i _ e
    exact ⟨v, e1⟩
  · cases h
theorem do_n (i : Nat) {x : Str} (hN : X.N[i]? = some x := by rfl) (hv : Vis X.env.scope x := by first | exact Or.inl rfl | exact Or.inr (Or.inl rfl) | exact Or.inr (Or.inr rfl)) (hd : (x == ("__debug__" : Str)) = false := by decide)
    (hcd : (x == ("__classdict__" : Str)) = false := by decide) : DO X (.Name x pos) (oN i) where
  run C := PE.imp (pe_var hN hv hd hcd) fun σ H Q ⟨G, ρ, r, h, q⟩ => by
    obtain ⟨v, e1⟩ := vN_there r h
    exact ⟨v, e1, q v G H (Same.refl _) r (vN_ok r e1)⟩
  mono ρ Q Q' k q := ⟨q.1, k _ _ q.2⟩

/-! ### constants -/
def eC (d : PyData) : DTE := fun ρ Q => Q d ρ
theorem de_int {i j} : DE X (.Constant (.int i) j pos) (eC (.int i)) := ⟨fun C => PE.imp pe_int fun σ H Q ⟨G, ρ, r, q⟩ => q _ G H (Same.refl _) r (.int i), fun _ _ _ k q => k _ _ q⟩
theorem de_bl {i j} : DE X (.Constant (.bool i) j pos) (eC (.bool i)) := ⟨fun C => PE.imp pe_bl fun σ H Q ⟨G, ρ, r, q⟩ => q _ G H (Same.refl _) r (.bl i), fun _ _ _ k q => k _ _ q⟩
theorem de_str {i j} : DE X (.Constant (.str i) j pos) (eC (.str i)) := ⟨fun C => PE.imp pe_str fun σ H Q ⟨G, ρ, r, q⟩ => q _ G H (Same.refl _) r (.str i), fun _ _ _ k q => k _ _ q⟩
theorem de_non {j} : DE X (.Constant .none j pos) (eC .none) := ⟨fun C => PE.imp pe_non fun σ H Q ⟨G, ρ, r, q⟩ => q _ G H (Same.refl _) r .non, fun _ _ _ k q => k _ _ q⟩

/-! ### lists of expressions -/
def aNil : DTL := fun ρ Q => Q [] ρ
def aCons (t : DTE) (u : DTL) : DTL := fun ρ Q => t ρ fun d ρ1 => u ρ1 fun ds ρ2 => Q (d :: ds) ρ2
theorem da_nil : DA X [] aNil := ⟨fun C => PA.imp pa_nil fun σ H Q ⟨G, ρ, r, q⟩ => q [] G H (Same.refl _) r .nil, fun _ _ _ k q => k _ _ q⟩
theorem da_cons {t : DTE} {u : DTL} (h1 : DE X e t) (h2 : DA X es u) (hs : starEach (e :: es) X.env = (false, eval e X.env) :: starEach es X.env := by rfl) : DA X (e :: es) (aCons t u) where
  run C := PA.imp (pa_cons (h1.run C) (h2.run C) hs) fun σ H Q ⟨G, ρ, r, q⟩ =>
    goE h1.mono r q fun d ρ1 v G1 H1 p s1 r1 d1 => goA h2.mono r1 p fun ds ρ2 vs G2 H2 p2 s2 r2 d2 => p2 (v :: vs) G2 H2 (s1.trans s2) r2 (.cons (Dp.mo s2 d v d1) d2)
  mono ρ Q Q' k q := h1.mono _ _ _ (fun d ρ1 p => h2.mono _ _ _ (fun ds ρ2 => k _ ρ2) p) q
def osNil : DTOs := fun ρ Q => Q [] ρ
def osCons (t : DTO) (u : DTOs) : DTOs := fun ρ Q => t ρ fun d ρ1 => u ρ1 fun ds ρ2 => Q (d :: ds) ρ2
theorem dos_nil : DOs X [] osNil := ⟨fun C => PA.imp pa_nil fun σ H Q ⟨G, ρ, r, q⟩ => q [] G H (Same.refl _) r .nil, fun _ _ _ k q => k _ _ q⟩
theorem dos_cons {t : DTO} {u : DTOs} (h1 : DO X e t) (h2 : DOs X es u) (hs : starEach (e :: es) X.env = (false, eval e X.env) :: starEach es X.env := by rfl) : DOs X (e :: es) (osCons t u) where
  run C := PA.imp (pa_cons (h1.run C) (h2.run C) hs) fun σ H Q ⟨G, ρ, r, q⟩ =>
    goO h1.mono r q fun d ρ1 v G1 H1 p s1 r1 d1 => goOs h2.mono r1 p fun ds ρ2 vs G2 H2 p2 s2 r2 d2 => p2 (v :: vs) G2 H2 (s1.trans s2) r2 (.cons (d1.mo s2) d2)
  mono ρ Q Q' k q := h1.mono _ _ _ (fun d ρ1 p => h2.mono _ _ _ (fun ds ρ2 => k _ ρ2) p) q

/-! ### displays -/
def eTup (t : DTL) : DTE := fun ρ Q => t ρ fun ds ρ' => ds.length ≤ sizeLine ∧ Q (.tuple ds) ρ'
theorem de_tup {t : DTL} {x1} (h : DA X es t) : DE X (.Tuple es x1 pos) (eTup t) where
  run C := PE.imp (pe_tup (h.run C)) fun σ H Q ⟨G, ρ, r, q⟩ => goA h.mono r q fun ds ρ1 vs G1 H1 p s1 r1 d1 =>
    ⟨by rw [DpAll.len d1]; exact p.1, fun a ha => p.2 (.ref a) _ _ (s1.trans (same_upd (r1.free ha))) (r1.new ha) (.tup (.inl (.inl upd_same)) (DpAll.mo (same_upd (r1.free ha)) _ _ d1))⟩
  mono ρ Q Q' k q := h.mono _ _ _ (fun ds ρ' p => ⟨p.1, k _ _ p.2⟩) q
def fLst (t : DTL) : DTL := fun ρ Q => t ρ fun ds ρ' => ds.length ≤ sizeLine ∧ Q ds ρ'
theorem df_lst {t : DTL} (h : DA X es t) : DF X (.List es pos) (fLst t) where
  run C := PE.imp (pe_lst (h.run C)) fun σ H Q ⟨G, ρ, r, q⟩ => goA h.mono r q fun ds ρ1 vs G1 H1 p s1 r1 d1 =>
    ⟨by rw [DpAll.len d1]; exact p.1, fun a ha => p.2 a vs G1 _ s1 (r1.newH ha) (r1.newF ha) d1⟩
  mono ρ Q Q' k q := h.mono _ _ _ (fun ds ρ' p => ⟨p.1, k _ _ p.2⟩) q
end
end DL

namespace DL
open PySem L2

/-! ## operations by data -/
/-- what an operation may end with: a value that shows data, a new list, a new tuple -/
structure Kon (K : PySem.W.Frag) (G H : Hp) (Qd : PyData → Prop) (Q : VK) : Prop where
  v : ∀ z w, Qd z → Dp K G w z → Q w H
  l : ∀ ds vs p, Qd (.list ds) → H p = none → DpAll K G vs ds → Q (.ref p) (upd H p (.lst vs))
  t : ∀ ds vs p, Qd (.tuple ds) → H p = none → DpAll K G vs ds → Q (.ref p) (upd H p (.tup vs))
theorem Kon.of {K : PySem.W.Frag} {C : DC} {G H : Hp} {ρ : DS} {σ : St} {P : PyData → DS → Prop} {Q : VK} (r : Rel K C G ρ σ H)
    (k : ∀ d, P d ρ → ∀ v G' H', Same G G' → Rel K C G' ρ σ H' → Dp K G' v d → Q v H') : Kon K G H (fun d => P d ρ) Q where
  v z w q d := k z q w G H (Same.refl _) r d
  l ds vs p q hp d := k _ q _ _ _ (same_upd (r.free hp)) (r.new hp) (.lst (.inl (.inl upd_same)) (DpAll.mo (same_upd (r.free hp)) _ _ d))
  t ds vs p q hp d := k _ q _ _ _ (same_upd (r.free hp)) (r.new hp) (.tup (.inl (.inl upd_same)) (DpAll.mo (same_upd (r.free hp)) _ _ d))

abbrev D1 := PyData → (PyData → Prop) → Prop
abbrev D2 := PyData → PyData → (PyData → Prop) → Prop
abbrev D2F := PyData → PyData → (List PyData → Prop) → Prop
abbrev DCl := List PyData → (PyData → Prop) → Prop
structure OpD (X : Cx) (f : Value → Value → Sem Value) (r : D2) : Prop where
  mono : ∀ d e Q Q', (∀ z, Q z → Q' z) → r d e Q → r d e Q'
  ok : ∃ r0 : R2, OpR X f r0 ∧ ∀ (G H : Hp) (x y : V) (d e : PyData) (Q : VK) (Qd : PyData → Prop), Same G H → Dv X.K G H x d → Dv X.K G H y e → r d e Qd → Kon X.K G H Qd Q → r0 x y H Q
structure UnD (X : Cx) (f : Value → Sem Value) (r : D1) : Prop where
  mono : ∀ d Q Q', (∀ z, Q z → Q' z) → r d Q → r d Q'
  ok : ∃ r0 : V → Hp → VK → Prop, UnR X f r0 ∧ ∀ (G H : Hp) (x : V) (d : PyData) (Q : VK) (Qd : PyData → Prop), Same G H → Dv X.K G H x d → r d Qd → Kon X.K G H Qd Q → r0 x H Q
structure IxD (X : Cx) (r : D2) : Prop where
  mono : ∀ d e Q Q', (∀ z, Q z → Q' z) → r d e Q → r d e Q'
  ok : ∃ r0 : R2, IxR X r0 ∧ ∀ (G H : Hp) (x y : V) (d e : PyData) (Q : VK) (Qd : PyData → Prop), Same G H → Dv X.K G H x d → Dv X.K G H y e → r d e Qd → Kon X.K G H Qd Q → r0 x y H Q
inductive DvAll (K : PySem.W.Frag) (G H : Hp) : List V → List PyData → Prop
  | nil : DvAll K G H [] []
  | cons {v vs d ds} : Dv K G H v d → DvAll K G H vs ds → DvAll K G H (v :: vs) (d :: ds)
structure ClD (X : Cx) (f : Value) (r : DCl) : Prop where
  mono : ∀ ds Q Q', (∀ z, Q z → Q' z) → r ds Q → r ds Q'
  ok : ∃ r0 : List V → Hp → VK → Prop, CallR X f r0 ∧ ∀ (G H : Hp) (vs : List V) (ds : List PyData) (Q : VK) (Qd : PyData → Prop), Same G H → DvAll X.K G H vs ds → r ds Qd → Kon X.K G H Qd Q → r0 vs H Q
/-- a call that gives a new list -/
structure ClF (X : Cx) (f : Value) (r : List PyData → (List PyData → Prop) → Prop) : Prop where
  mono : ∀ ds Q Q', (∀ z, Q z → Q' z) → r ds Q → r ds Q'
  ok : ∃ r0 : List V → Hp → VK → Prop, CallR X f r0 ∧ ∀ (G H : Hp) (vs : List V) (ds : List PyData) (Q : VK) (Qd : List PyData → Prop), Same G H → DvAll X.K G H vs ds → r ds Qd →
    (∀ ds vs p, Qd ds → H p = none → DpAll X.K G vs ds → Q (.ref p) (upd H p (.lst vs))) → r0 vs H Q
structure OpF (X : Cx) (f : Value → Value → Sem Value) (r : D2F) : Prop where
  mono : ∀ d e Q Q', (∀ z, Q z → Q' z) → r d e Q → r d e Q'
  ok : ∃ r0 : R2, OpR X f r0 ∧ ∀ (G H : Hp) (x y : V) (d e : PyData) (Q : VK) (Qd : List PyData → Prop), Same G H → Dv X.K G H x d → Dv X.K G H y e → r d e Qd →
    (∀ ds vs p, Qd ds → H p = none → DpAll X.K G vs ds → Q (.ref p) (upd H p (.lst vs))) → r0 x y H Q

section
variable {X : Cx} {e a b c : Expr} {es : List Expr} {pos : Pos}
def eOp (r : D2) (ta tb : DTO) : DTE := fun ρ Q => ta ρ fun w1 ρ1 => tb ρ1 fun w2 ρ2 => match w1 ρ2, w2 ρ2 with
  | some x, some y => r x y fun z => Q z ρ2
  | _, _ => False
theorem eOp_mono {r : D2} {ta tb : DTO} (hm : ∀ d e Q Q', (∀ z, Q z → Q' z) → r d e Q → r d e Q') (h1 : DO X a ta) (h2 : DO X b tb) : ∀ ρ Q Q', (∀ d ρ', Q d ρ' → Q' d ρ') → eOp r ta tb ρ Q → eOp r ta tb ρ Q' := fun ρ Q Q' k q =>
  h1.mono _ _ _ (fun w1 ρ1 p => h2.mono _ _ _ (fun w2 ρ2 p2 => by
    (try dsimp only at p2); (try dsimp only)
    split
    · rename_i x y e1 e2
      rw [e1, e2] at p2
      exact hm _ _ _ _ (fun z => k z ρ2) p2
    · rename_i hno
      split at p2
      · rename_i x y e1 e2
        exact (hno _ _ e1 e2).elim
      · exact p2) p) q
/-- the HandS form of an operation's reading, from the data form -/
theorem eOp_run {r : D2} {ta tb : DTO} {r0 : R2} {C : DC} (h1 : DO X a ta) (h2 : DO X b tb)
    (hk : ∀ (G H : Hp) (x y : V) (d e : PyData) (Q : VK) (Qd : PyData → Prop), Same G H → Dv X.K G H x d → Dv X.K G H y e → r d e Qd → Kon X.K G H Qd Q → r0 x y H Q) :
    ∀ σ H Q, liftE X.K C (eOp r ta tb) σ H Q → tOp r0 (liftO X.K C ta) (liftO X.K C tb) σ H Q := fun σ H Q ⟨G, ρ, rl, q⟩ =>
  goO h1.mono rl q fun w1 ρ1 v1 G1 H1 p1 s1 r1 o1 => goO h2.mono r1 p1 fun w2 ρ2 v2 G2 H2 p2 s2 r2 o2 => by
    (try dsimp only at p2)
    split at p2
    · rename_i x y e1 e2
      exact hk G2 H2 v1 v2 x y Q _ r2.same (o1 G2 H2 ρ2 s2 r2 x e1) (o2 G2 H2 ρ2 (Same.refl _) r2 y e2) p2
        (Kon.of (P := fun d ρ' => ∀ v G' H', Same G G' → Rel X.K C G' ρ' σ H' → Dp X.K G' v d → Q v H') r2 fun d p v G' H' s r' dd => p v G' H' ((s1.trans s2).trans s) r' dd)
    · exact p2.elim
theorem de_op {op : Operator} {r : D2} {ta tb : DTO} (ho : OpD X (binaryOp op) r) (h1 : DO X a ta) (h2 : DO X b tb) : DE X (.BinOp a op b pos) (eOp r ta tb) where
  run C := by
    obtain ⟨r0, h0, hk⟩ := ho.ok
    exact PE.imp (pe_op h0 (h1.run C) (h2.run C)) (eOp_run h1 h2 hk)
  mono := eOp_mono ho.mono h1 h2
theorem de_cmp {op : CmpOp} {r : D2} {ta tb : DTO} (ho : OpD X (compareOp op) r) (h1 : DO X a ta) (h2 : DO X b tb) (hm : behindInMarks op b = false := by first | exact nobehind _ (by decide) (by decide) | rfl) : DE X (.Compare a [op] [b] pos) (eOp r ta tb) where
  run C := by
    obtain ⟨r0, h0, hk⟩ := ho.ok
    exact PE.imp (pe_cmpR h0 (h1.run C) (h2.run C) hm) (eOp_run h1 h2 hk)
  mono := eOp_mono ho.mono h1 h2
/-- a value as a test: a bool -/
def tE (t : DTE) : DTT := fun ρ Q => t ρ fun d ρ' => match d with
  | .bool b => Q b ρ'
  | _ => False
theorem tE_mono {t : DTE} (h : ∀ ρ Q Q', (∀ d ρ', Q d ρ' → Q' d ρ') → t ρ Q → t ρ Q') : ∀ ρ Q Q', (∀ d ρ', Q d ρ' → Q' d ρ') → tE t ρ Q → tE t ρ Q' := fun ρ Q Q' k q => h _ _ _ (fun d ρ' p => by
  cases d <;> first | exact k _ _ p | exact p) q
theorem dt_cmp {op : CmpOp} {r : D2} {ta tb : DTO} (ho : OpD X (compareOp op) r) (h1 : DO X a ta) (h2 : DO X b tb) (hm : behindInMarks op b = false := by first | exact nobehind _ (by decide) (by decide) | rfl) : DT X (.Compare a [op] [b] pos) (tE (eOp r ta tb)) where
  run C := by
    obtain ⟨r0, h0, hk⟩ := ho.ok
    refine PT.imp (pt_cmpR h0 (h1.run C) (h2.run C) hm) fun σ H Q h => ?_
    refine eOp_run (C := C) h1 h2 hk σ H _ ?_
    obtain ⟨G, ρ, r, q⟩ := h
    refine goE (eOp_mono ho.mono h1 h2) r q fun d ρ' v G' H' p s r' dp => ?_
    cases d <;> first | exact p.elim | skip
    cases dp
    exact ⟨_, rfl, p G' H' s r'⟩
  mono := tE_mono (eOp_mono ho.mono h1 h2)
/-- an expression that gives a bool, as a test -/
theorem dt_e {t : DTE} (h : DE X e t) (he : ∀ whole, isTrue e X.env whole = (do let v ← whole; standAt e.pos; holding [v] (truthy v)) := by intro _; rfl) : DT X e (tE t) where
  run C := PT.imp (pt_val (h.run C) he) fun σ H Q ⟨G, ρ, r, q⟩ => goE h.mono r q fun d ρ' v G' H' p s r' dp => by
    cases d <;> first | exact p.elim | skip
    cases dp
    exact ⟨_, rfl, p G' H' s r'⟩
  mono := tE_mono h.mono
/-! ### not, and, or, if else -/
def tNo (t : DTT) : DTT := fun ρ Q => t ρ fun b ρ' => Q (!b) ρ'
theorem dt_not {t : DTT} (h : DT X a t) : DT X (.UnaryOp .Not a pos) (tNo t) where
  run C := PT.imp (pt_not (h.run C)) fun σ H Q ⟨G, ρ, r, q⟩ => goT h.mono r q fun d ρ' G' H' p s r' => p G' H' s r'
  mono ρ Q Q' k q := h.mono _ _ _ (fun d ρ' => k _ ρ') q
def tAn (t u : DTT) : DTT := fun ρ Q => t ρ fun b ρ' => if b = true then u ρ' Q else Q false ρ'
def tOr' (t u : DTT) : DTT := fun ρ Q => t ρ fun b ρ' => if b = true then Q true ρ' else u ρ' Q
theorem dw_and1 {t : DTT} (h : DT X a t) : DW X (.BoolOp .And [a] pos) t := ⟨fun C => pw_and1 (h.run C), h.mono⟩
theorem dw_or1 {t : DTT} (h : DT X a t) : DW X (.BoolOp .Or [a] pos) t := ⟨fun C => pw_or1 (h.run C), h.mono⟩
theorem dw_and {t u : DTT} {rest : List Expr} (h1 : DT X a t) (h2 : DW X (.BoolOp .And (b :: rest) pos) u) : DW X (.BoolOp .And (a :: b :: rest) pos) (tAn t u) where
  run C := PW.imp (pw_and (h1.run C) (h2.run C)) fun σ H Q ⟨G, ρ, r, q⟩ => goT h1.mono r q fun d ρ' G' H' p s r' => by
    cases d with
    | true => exact goT h2.mono r' p fun d2 ρ2 G2 H2 p2 s2 r2 => p2 G2 H2 (s.trans s2) r2
    | false => exact p G' H' s r'
  mono ρ Q Q' k q := h1.mono _ _ _ (fun d ρ' p => by
    cases d with
    | true => exact h2.mono _ _ _ k p
    | false => exact k _ _ p) q
theorem dw_or {t u : DTT} {rest : List Expr} (h1 : DT X a t) (h2 : DW X (.BoolOp .Or (b :: rest) pos) u) : DW X (.BoolOp .Or (a :: b :: rest) pos) (tOr' t u) where
  run C := PW.imp (pw_or (h1.run C) (h2.run C)) fun σ H Q ⟨G, ρ, r, q⟩ => goT h1.mono r q fun d ρ' G' H' p s r' => by
    cases d with
    | false => exact goT h2.mono r' p fun d2 ρ2 G2 H2 p2 s2 r2 => p2 G2 H2 (s.trans s2) r2
    | true => exact p G' H' s r'
  mono ρ Q Q' k q := h1.mono _ _ _ (fun d ρ' p => by
    cases d with
    | false => exact h2.mono _ _ _ k p
    | true => exact k _ _ p) q
theorem DW.dt {t : DTT} (h : DW X e t) : DT X e t := ⟨fun C => (h.run C).pt, h.mono⟩
/-- as values: all but the last are bools -/
def eAnd (t u : DTE) : DTE := fun ρ Q => t ρ fun d ρ' => match d with
  | .bool true => u ρ' Q
  | .bool false => Q (.bool false) ρ'
  | _ => False
def eOr (t u : DTE) : DTE := fun ρ Q => t ρ fun d ρ' => match d with
  | .bool true => Q (.bool true) ρ'
  | .bool false => u ρ' Q
  | _ => False
theorem de_one {op} {t : DTE} (h : DE X a t) : DE X (.BoolOp op [a] pos) t := ⟨fun C => pe_one (h.run C), h.mono⟩
theorem de_and {t u : DTE} {rest : List Expr} (h1 : DE X a t) (h2 : DE X (.BoolOp .And (b :: rest) pos) u) : DE X (.BoolOp .And (a :: b :: rest) pos) (eAnd t u) where
  run C := PE.imp (pe_and (h1.run C) (h2.run C)) fun σ H Q ⟨G, ρ, r, q⟩ => goE h1.mono r q fun d ρ' v G' H' p s r' dp => by
    cases d <;> first | exact p.elim | skip
    rename_i bb
    cases dp
    refine ⟨_, rfl, ?_⟩
    cases bb with
    | true => exact goE h2.mono r' p fun d2 ρ2 v2 G2 H2 p2 s2 r2 => p2 v2 G2 H2 (s.trans s2) r2
    | false => exact p _ G' H' s r' (.bl false)
  mono ρ Q Q' k q := h1.mono _ _ _ (fun d ρ' p => by
    cases d <;> first | exact p.elim | skip
    rename_i bb
    cases bb with
    | true => exact h2.mono _ _ _ k p
    | false => exact k _ _ p) q
theorem de_or {t u : DTE} {rest : List Expr} (h1 : DE X a t) (h2 : DE X (.BoolOp .Or (b :: rest) pos) u) : DE X (.BoolOp .Or (a :: b :: rest) pos) (eOr t u) where
  run C := PE.imp (pe_or (h1.run C) (h2.run C)) fun σ H Q ⟨G, ρ, r, q⟩ => goE h1.mono r q fun d ρ' v G' H' p s r' dp => by
    cases d <;> first | exact p.elim | skip
    rename_i bb
    cases dp
    refine ⟨_, rfl, ?_⟩
    cases bb with
    | false => exact goE h2.mono r' p fun d2 ρ2 v2 G2 H2 p2 s2 r2 => p2 v2 G2 H2 (s.trans s2) r2
    | true => exact p _ G' H' s r' (.bl true)
  mono ρ Q Q' k q := h1.mono _ _ _ (fun d ρ' p => by
    cases d <;> first | exact p.elim | skip
    rename_i bb
    cases bb with
    | false => exact h2.mono _ _ _ k p
    | true => exact k _ _ p) q
def eNot (t : DTE) : DTE := fun ρ Q => t ρ fun d ρ' => match d with
  | .bool b => Q (.bool (!b)) ρ'
  | _ => False
theorem de_not {t : DTE} (h : DE X a t) : DE X (.UnaryOp .Not a pos) (eNot t) where
  run C := PE.imp (pe_not (h.run C)) fun σ H Q ⟨G, ρ, r, q⟩ => goE h.mono r q fun d ρ' v G' H' p s r' dp => by
    cases d <;> first | exact p.elim | skip
    cases dp
    exact ⟨_, rfl, p _ G' H' s r' (.bl _)⟩
  mono ρ Q Q' k q := h.mono _ _ _ (fun d ρ' p => by cases d <;> first | exact p.elim | exact k _ _ p) q
def eIf (c : DTT) (t u : DTE) : DTE := fun ρ Q => c ρ fun b ρ' => if b = true then t ρ' Q else u ρ' Q
theorem de_if {tc : DTT} {t u : DTE} (hc : DT X c tc) (h1 : DE X a t) (h2 : DE X b u) : DE X (.IfExp c a b pos) (eIf tc t u) where
  run C := PE.imp (pe_ifExp (hc.run C) (h1.run C) (h2.run C)) fun σ H Q ⟨G, ρ, r, q⟩ => goT hc.mono r q fun d ρ' G' H' p s r' => by
    cases d with
    | true => exact goE h1.mono r' p fun d2 ρ2 v2 G2 H2 p2 s2 r2 => p2 v2 G2 H2 (s.trans s2) r2
    | false => exact goE h2.mono r' p fun d2 ρ2 v2 G2 H2 p2 s2 r2 => p2 v2 G2 H2 (s.trans s2) r2
  mono ρ Q Q' k q := hc.mono _ _ _ (fun d ρ' p => by
    cases d with
    | true => exact h1.mono _ _ _ k p
    | false => exact h2.mono _ _ _ k p) q
/-! ### one place -/
def eUn (r : D1) (t : DTO) : DTE := fun ρ Q => t ρ fun w ρ' => match w ρ' with
  | some x => r x fun z => Q z ρ'
  | none => False
theorem de_un {op : UnaryOp} {r : D1} {t : DTO} (ho : UnD X (unaryOp op) r) (h : DO X a t) : DE X (.UnaryOp op a pos) (eUn r t) where
  run C := by
    obtain ⟨r0, h0, hk⟩ := ho.ok
    exact PE.imp (pe_un h0 (h.run C)) fun σ H Q ⟨G, ρ, rl, q⟩ => goO h.mono rl q fun w ρ1 v G1 H1 p s1 r1 o1 => by
      (try dsimp only at p)
      split at p
      · rename_i x e1
        exact hk G1 H1 v x Q _ r1.same (o1 G1 H1 ρ1 (Same.refl _) r1 x e1) p
          (Kon.of (P := fun d ρ' => ∀ v G' H', Same G G' → Rel X.K C G' ρ' σ H' → Dp X.K G' v d → Q v H') r1 fun d p v G' H' s r' dd => p v G' H' (s1.trans s) r' dd)
      · exact p.elim
  mono ρ Q Q' k q := h.mono _ _ _ (fun w ρ' p => by
    (try dsimp only at p); (try dsimp only)
    split
    · rename_i x e1
      rw [e1] at p
      exact ho.mono _ _ _ (fun z => k z ρ') p
    · rename_i e1
      rw [e1] at p
      exact p) q
/-! ### subscripts -/
theorem de_ix {r : D2} {ta tb : DTO} (ho : IxD X r) (h1 : DO X a ta) (h2 : DO X b tb) (hs : PlainIx b := by intro _ _; rfl) : DE X (.Subscript a b pos) (eOp r ta tb) where
  run C := by
    obtain ⟨r0, h0, hk⟩ := ho.ok
    exact PE.imp (pe_ix h0 (h1.run C) (h2.run C) hs) (eOp_run h1 h2 hk)
  mono := eOp_mono ho.mono h1 h2
/-! ### calls of built-ins -/
def vws (ρ : DS) : List Vw → Option (List PyData)
  | [] => some []
  | w :: ws => match w ρ, vws ρ ws with
    | some d, some ds => some (d :: ds)
    | _, _ => none
theorem vws_ok {K : PySem.W.Frag} {C : DC} {G H : Hp} {ρ : DS} {σ : St} (r : Rel K C G ρ σ H) : ∀ {vs : List V} {ws : List Vw} {ds : List PyData}, VwAll K C G σ vs ws → vws ρ ws = some ds → DvAll K G H vs ds
  | _, _, _, .nil, e => by
    cases e
    exact .nil
  | _, _, _, .cons h1 h2, e => by
    unfold vws at e
    split at e
    · rename_i d ds e1 e2
      cases e
      exact .cons (h1 G H ρ (Same.refl _) r d e1) (vws_ok r h2 e2)
    · cases e
def eCl (r : DCl) (t : DTOs) : DTE := fun ρ Q => t ρ fun ws ρ' => match vws ρ' ws with
  | some ds => r ds fun z => Q z ρ'
  | none => False
theorem eCl_mono {r : DCl} {t : DTOs} (hm : ∀ ds Q Q', (∀ z, Q z → Q' z) → r ds Q → r ds Q') (h : DOs X es t) : ∀ ρ Q Q', (∀ d ρ', Q d ρ' → Q' d ρ') → eCl r t ρ Q → eCl r t ρ Q' := fun ρ Q Q' k q => h.mono _ _ _ (fun w ρ' p => by
    (try dsimp only at p); (try dsimp only)
    split
    · rename_i x e1
      rw [e1] at p
      exact hm _ _ _ (fun z => k z ρ') p
    · rename_i e1
      rw [e1] at p
      exact p) q
theorem eCl_run {r : DCl} {t : DTOs} {r0 : List V → Hp → VK → Prop} {C : DC} (h : DOs X es t)
    (hk : ∀ (G H : Hp) (vs : List V) (ds : List PyData) (Q : VK) (Qd : PyData → Prop), Same G H → DvAll X.K G H vs ds → r ds Qd → Kon X.K G H Qd Q → r0 vs H Q) :
    ∀ σ H Q, liftE X.K C (eCl r t) σ H Q → tCB r0 (liftOs X.K C t) σ H Q := fun σ H Q ⟨G, ρ, rl, q⟩ =>
  goOs h.mono rl q fun ws ρ1 vs G1 H1 p s1 r1 o1 => by
    (try dsimp only at p)
    split at p
    · rename_i x e1
      exact hk G1 H1 vs x Q _ r1.same (vws_ok r1 o1 e1) p
        (Kon.of (P := fun d ρ' => ∀ v G' H', Same G G' → Rel X.K C G' ρ' σ H' → Dp X.K G' v d → Q v H') r1 fun d p v G' H' s r' dd => p v G' H' (s1.trans s) r' dd)
    · exact p.elim
theorem de_callB {x : Str} {p : Pos} {id : String} {r : DCl} {t : DTOs} (hc : ClD X (.builtin id) r) (hg : Gl X x) (hm : X.mg x = none) (hv : bootBuiltins x = some (.builtin id)) (ha : DOs X (e :: es) t) (hn : x ≠ "__name__" := by decide) (hdb : (x == ("__debug__" : Str)) = false := by decide)
    (he : starEach (e :: es) X.env = (false, eval e X.env) :: starEach es X.env := by rfl) (hpl : (backTo pos (starEach es X.env)).any (·.1) = false := by rfl) : DE X (.Call (.Name x p) (e :: es) [] pos) (eCl r t) where
  run C := by
    obtain ⟨r0, h0, hk⟩ := hc.ok
    exact PE.imp (pe_callB h0 hg hm hv (ha.run C) hn hdb he hpl) (eCl_run ha hk)
  mono := eCl_mono hc.mono ha
theorem de_callTy {x : Str} {p : Pos} {id : String} {r : DCl} {t : DTOs} (hc : ClD X (.type id) r) (hg : Gl X x) (hm : X.mg x = none) (hv : bootBuiltins x = some (.type id)) (ha : DOs X (e :: es) t) (hn : x ≠ "__name__" := by decide) (hdb : (x == ("__debug__" : Str)) = false := by decide)
    (he : starEach (e :: es) X.env = (false, eval e X.env) :: starEach es X.env := by rfl) (hpl : (backTo pos (starEach es X.env)).any (·.1) = false := by rfl) : DE X (.Call (.Name x p) (e :: es) [] pos) (eCl r t) where
  run C := by
    obtain ⟨r0, h0, hk⟩ := hc.ok
    exact PE.imp (pe_callTy h0 hg hm hv (ha.run C) hn hdb he hpl) (eCl_run ha hk)
  mono := eCl_mono hc.mono ha
/-- .. that give a new list -/
def fCl (r : List PyData → (List PyData → Prop) → Prop) (t : DTOs) : DTL := fun ρ Q => t ρ fun ws ρ' => match vws ρ' ws with
  | some ds => r ds fun z => Q z ρ'
  | none => False
theorem fCl_mono {r : List PyData → (List PyData → Prop) → Prop} {t : DTOs} (hm : ∀ ds Q Q', (∀ z, Q z → Q' z) → r ds Q → r ds Q') (h : DOs X es t) : ∀ ρ Q Q', (∀ d ρ', Q d ρ' → Q' d ρ') → fCl r t ρ Q → fCl r t ρ Q' := fun ρ Q Q' k q => h.mono _ _ _ (fun w ρ' p => by
    (try dsimp only at p); (try dsimp only)
    split
    · rename_i x e1
      rw [e1] at p
      exact hm _ _ _ (fun z => k z ρ') p
    · rename_i e1
      rw [e1] at p
      exact p) q
theorem fCl_run {r : List PyData → (List PyData → Prop) → Prop} {t : DTOs} {r0 : List V → Hp → VK → Prop} {C : DC} (h : DOs X es t)
    (hk : ∀ (G H : Hp) (vs : List V) (ds : List PyData) (Q : VK) (Qd : List PyData → Prop), Same G H → DvAll X.K G H vs ds → r ds Qd → (∀ ds vs p, Qd ds → H p = none → DpAll X.K G vs ds → Q (.ref p) (upd H p (.lst vs))) → r0 vs H Q) :
    ∀ σ H Q, liftF X.K C (fCl r t) σ H Q → tCB r0 (liftOs X.K C t) σ H Q := fun σ H Q ⟨G, ρ, rl, q⟩ =>
  goOs h.mono rl q fun ws ρ1 vs G1 H1 p s1 r1 o1 => by
    (try dsimp only at p)
    split at p
    · rename_i x e1
      exact hk G1 H1 vs x Q _ r1.same (vws_ok r1 o1 e1) p fun ds us a q hp dd => q a us G1 _ s1 (r1.newH hp) (r1.newF hp) dd
    · exact p.elim
theorem df_callB {x : Str} {p : Pos} {id : String} {r : List PyData → (List PyData → Prop) → Prop} {t : DTOs} (hc : ClF X (.builtin id) r) (hg : Gl X x) (hm : X.mg x = none) (hv : bootBuiltins x = some (.builtin id)) (ha : DOs X (e :: es) t) (hn : x ≠ "__name__" := by decide) (hdb : (x == ("__debug__" : Str)) = false := by decide)
    (he : starEach (e :: es) X.env = (false, eval e X.env) :: starEach es X.env := by rfl) (hpl : (backTo pos (starEach es X.env)).any (·.1) = false := by rfl) : DF X (.Call (.Name x p) (e :: es) [] pos) (fCl r t) where
  run C := by
    obtain ⟨r0, h0, hk⟩ := hc.ok
    exact PE.imp (pe_callB h0 hg hm hv (ha.run C) hn hdb he hpl) (fCl_run ha hk)
  mono := fCl_mono hc.mono ha
theorem df_callTy {x : Str} {p : Pos} {id : String} {r : List PyData → (List PyData → Prop) → Prop} {t : DTOs} (hc : ClF X (.type id) r) (hg : Gl X x) (hm : X.mg x = none) (hv : bootBuiltins x = some (.type id)) (ha : DOs X (e :: es) t) (hn : x ≠ "__name__" := by decide) (hdb : (x == ("__debug__" : Str)) = false := by decide)
    (he : starEach (e :: es) X.env = (false, eval e X.env) :: starEach es X.env := by rfl) (hpl : (backTo pos (starEach es X.env)).any (·.1) = false := by rfl) : DF X (.Call (.Name x p) (e :: es) [] pos) (fCl r t) where
  run C := by
    obtain ⟨r0, h0, hk⟩ := hc.ok
    exact PE.imp (pe_callTy h0 hg hm hv (ha.run C) hn hdb he hpl) (fCl_run ha hk)
  mono := fCl_mono hc.mono ha
def fOp (r : D2F) (ta tb : DTO) : DTL := fun ρ Q => ta ρ fun w1 ρ1 => tb ρ1 fun w2 ρ2 => match w1 ρ2, w2 ρ2 with
  | some x, some y => r x y fun z => Q z ρ2
  | _, _ => False
theorem df_op {op : Operator} {r : D2F} {ta tb : DTO} (ho : OpF X (binaryOp op) r) (h1 : DO X a ta) (h2 : DO X b tb) : DF X (.BinOp a op b pos) (fOp r ta tb) where
  run C := by
    obtain ⟨r0, h0, hk⟩ := ho.ok
    refine PE.imp (pe_op h0 (h1.run C) (h2.run C)) fun σ H Q ⟨G, ρ, rl, q⟩ =>
      goO h1.mono rl q fun w1 ρ1 v1 G1 H1 p1 s1 r1 o1 => goO h2.mono r1 p1 fun w2 ρ2 v2 G2 H2 p2 s2 r2 o2 => ?_
    (try dsimp only at p2)
    split at p2
    · rename_i x y e1 e2
      exact hk G2 H2 v1 v2 x y Q _ r2.same (o1 G2 H2 ρ2 s2 r2 x e1) (o2 G2 H2 ρ2 (Same.refl _) r2 y e2) p2 fun ds us a q hp dd => q a us G2 _ (s1.trans s2) (r2.newH hp) (r2.newF hp) dd
    · exact p2.elim
  mono ρ Q Q' k q := h1.mono _ _ _ (fun w1 ρ1 p => h2.mono _ _ _ (fun w2 ρ2 p2 => by
    (try dsimp only at p2); (try dsimp only)
    split
    · rename_i x y e1 e2
      rw [e1, e2] at p2
      exact ho.mono _ _ _ _ (fun z => k z ρ2) p2
    · rename_i hno
      split at p2
      · rename_i x y e1 e2
        exact (hno _ _ e1 e2).elim
      · exact p2) p) q
end
end DL

namespace DL
open PySem L2

theorem OpR.or {X : Cx} {f : Value → Value → Sem Value} {r r' : R2} (h : OpR X f r) (h' : OpR X f r') : OpR X f (fun x y H Q => r x y H Q ∨ r' x y H Q) := by
  intro pins s σ H x y v u Q I rx ry q
  rcases q with q | q
  · exact h pins s σ H x y v u Q I rx ry q
  · exact h' pins s σ H x y v u Q I rx ry q

section
variable {X : Cx}
/-! ### arithmetic -/
def rCatL (K : PySem.W.Frag) : R2 := fun x y H Q => ∃ a b xs ys, x = .ref a ∧ y = .ref b ∧ SqL K H a xs ∧ SqL K H b ys ∧ xs.length + ys.length ≤ sizeLine ∧ ∀ p, H p = none → Q (.ref p) (upd H p (.lst (xs ++ ys)))
theorem op_catL : OpR X (binaryOp .Add) (rCatL X.K) := by
  intro pins s σ H x y v u Q I rx ry h
  obtain ⟨l, b, xs, zs, rfl, rfl, hH, hB, hz, q⟩ := h
  cases rx
  cases ry
  obtain ⟨vs, r, pl, z1⟩ := I.list hH
  obtain ⟨ws, r2, pl2, z2⟩ := I.list hB
  have e1 := r.length
  have e2 := r2.length
  obtain ⟨⟨cls, dd, data, sl⟩, n, ho, hc, _, hd⟩ := pl
  obtain ⟨⟨cls2, dd2, data2, sl2⟩, n2, ho2, hc2, _, hd2⟩ := pl2
  simp only at hc hd hc2 hd2
  subst hc hd hc2 hd2
  have e : vs.toArray ++ ws.toArray = (vs ++ ws).toArray := by simp
  refine concat_meets ⟨_, ho, rfl⟩ ⟨_, ho2, rfl⟩ noFill_list_add seq_list_add PySem.F.slot_list_add PySem.F.entry_list_add (PySem.F.args_list_add_2 _ _) (PyProof.Rows.list_addW l b vs.toArray ws.toArray n n2 dd dd2 sl sl2 (by rw [List.size_toArray, List.size_toArray]; omega)) ⟨ho, ho2, ?_⟩
  rw [e]
  exact ⟨.ref _, _, I.lnew (t' := s.toks) (r.append r2) (by rw [List.length_append]; omega), rfl, q _ I.fresh⟩

def dAdd : D2 := fun d e Q => match d, e with
  | .int i, .int j => Q (.int (i + j))
  | .str i, .str j => i.length + j.length ≤ sizeLine ∧ Q (.str (i ++ j))
  | .list xs, .list ys => xs.length + ys.length ≤ sizeLine ∧ Q (.list (xs ++ ys))
  | .tuple xs, .tuple ys => xs.length + ys.length ≤ sizeLine ∧ Q (.tuple (xs ++ ys))
  | _, _ => False
theorem od_add : OpD X (binaryOp .Add) dAdd where
  mono d e Q Q' k q := by
    unfold dAdd at q ⊢
    split at q <;> first | exact k _ q | exact ⟨q.1, k _ q.2⟩ | exact q.elim
  ok := ⟨_, OpR.or op_add (OpR.or op_add_str (OpR.or op_catL op_catA)), fun G H x y d e Q Qd s hx hy q K => by
    unfold dAdd at q
    split at q
    · rw [hx.int, hy.int]
      exact .inl ⟨_, _, rfl, rfl, K.v _ _ q (.int _)⟩
    · rw [hx.str, hy.str]
      exact .inr (.inl ⟨_, _, rfl, rfl, q.1, K.v _ _ q.2 (.str _)⟩)
    · obtain ⟨a, vs, rfl, h1, h2⟩ := hx.lst s
      obtain ⟨b, ws, rfl, h3, h4⟩ := hy.lst s
      exact .inr (.inr (.inl ⟨a, b, vs, ws, rfl, rfl, h1, h3, by rw [DpAll.len h2, DpAll.len h4]; exact q.1, fun p hp => K.l _ _ p q.2 hp (DpAll.app h2 h4)⟩))
    · rcases hx with hx | ⟨_, _, _, _, e, _⟩
      rcases hy with hy | ⟨_, _, _, _, e, _⟩
      · obtain ⟨a, vs, rfl, h1, h2⟩ := Dv.tup s (.inl hx)
        obtain ⟨b, ws, rfl, h3, h4⟩ := Dv.tup s (.inl hy)
        refine .inr (.inr (.inr ⟨a, b, vs, ws, rfl, rfl, h1, h3, by rw [DpAll.len h2, DpAll.len h4]; exact q.1, fun e => ?_, fun _ e => ?_, fun _ _ p hp => K.t _ _ p q.2 hp (DpAll.app h2 h4)⟩))
        · subst e
          cases h2
          exact K.v _ _ q.2 hy
        · subst e
          cases h4
          refine K.v _ _ q.2 ?_
          rw [List.append_nil]
          exact hx
      · cases e
      · cases e
    · exact q.elim⟩
def dSub : D2 := fun d e Q => match d, e with
  | .int i, .int j => Q (.int (i - j))
  | _, _ => False
theorem od_sub : OpD X (binaryOp .Sub) dSub where
  mono d e Q Q' k q := by
    unfold dSub at q ⊢
    split at q <;> first | exact k _ q | exact q.elim
  ok := ⟨_, op_sub, fun G H x y d e Q Qd s hx hy q K => by
    unfold dSub at q
    split at q
    · rw [hx.int, hy.int]
      exact ⟨_, _, rfl, rfl, K.v _ _ q (.int _)⟩
    · exact q.elim⟩
/-- what a product may be -/
def MulOk (i j : Int) : Prop := CMul i j ∨ CMulW i j
def dMul : D2 := fun d e Q => match d, e with
  | .int i, .int j => MulOk i j ∧ Q (.int (i * j))
  | .list xs, .int k => -(2 ^ 63) ≤ k ∧ k < 2 ^ 63 ∧ xs.length * k.toNat ≤ sizeLine ∧ False ∧ Q (.list (List.replicate k.toNat xs).flatten)
  | _, _ => False
theorem od_mul : OpD X (binaryOp .Mult) dMul where
  mono d e Q Q' k q := by
    unfold dMul at q ⊢
    split at q <;> first | exact ⟨q.1, k _ q.2⟩ | exact q.2.2.2.1.elim | exact q.elim
  ok := ⟨_, OpR.or op_mul op_mulW, fun G H x y d e Q Qd s hx hy q K => by
    unfold dMul at q
    split at q
    · rw [hx.int, hy.int]
      rcases q.1 with h | h
      · exact .inl ⟨_, _, rfl, rfl, h, K.v _ _ q.2 (.int _)⟩
      · exact .inr ⟨_, _, rfl, rfl, h, K.v _ _ q.2 (.int _)⟩
    · exact q.2.2.2.1.elim
    · exact q.elim⟩
/-- what a divisor may be -/
def DivOk (j : Int) : Prop := j ≠ 0 ∧ j.natAbs.log2 < 9000
def dFdiv : D2 := fun d e Q => match d, e with
  | .int i, .int j => DivOk j ∧ Q (.int (i.fdiv j))
  | _, _ => False
theorem op_fdivD : OpR X (binaryOp .FloorDiv) (rI (fun _ j => DivOk j) fun i j => .int (i.fdiv j)) := opI fun i j _ _ _ _ _ hc q => PyProof.Rows.floordiv_int hc.1 q (.inl (PyProof.noPylong_of_log2 hc.2))
theorem od_fdiv : OpD X (binaryOp .FloorDiv) dFdiv where
  mono d e Q Q' k q := by
    unfold dFdiv at q ⊢
    split at q <;> first | exact ⟨q.1, k _ q.2⟩ | exact q.elim
  ok := ⟨_, op_fdivD, fun G H x y d e Q Qd s hx hy q K => by
    unfold dFdiv at q
    split at q
    · rw [hx.int, hy.int]
      exact ⟨_, _, rfl, rfl, q.1, K.v _ _ q.2 (.int _)⟩
    · exact q.elim⟩
def dMod : D2 := fun d e Q => match d, e with
  | .int i, .int j => j ≠ 0 ∧ Q (.int (i.fmod j))
  | _, _ => False
theorem od_mod : OpD X (binaryOp .Mod) dMod where
  mono d e Q Q' k q := by
    unfold dMod at q ⊢
    split at q <;> first | exact ⟨q.1, k _ q.2⟩ | exact q.elim
  ok := ⟨_, op_modN, fun G H x y d e Q Qd s hx hy q K => by
    unfold dMod at q
    split at q
    · rw [hx.int, hy.int]
      exact ⟨_, _, rfl, rfl, q.1, K.v _ _ q.2 (.int _)⟩
    · exact q.elim⟩
def dPow : D2 := fun d e Q => match d, e with
  | .int i, .int j => CPow i j ∧ Q (.int (i ^ j.toNat))
  | _, _ => False
theorem od_pow : OpD X (binaryOp .Pow) dPow where
  mono d e Q Q' k q := by
    unfold dPow at q ⊢
    split at q <;> first | exact ⟨q.1, k _ q.2⟩ | exact q.elim
  ok := ⟨_, op_pow, fun G H x y d e Q Qd s hx hy q K => by
    unfold dPow at q
    split at q
    · rw [hx.int, hy.int]
      exact ⟨_, _, rfl, rfl, q.1, K.v _ _ q.2 (.int _)⟩
    · exact q.elim⟩
def dNeg : D1 := fun d Q => match d with
  | .int i => Q (.int (-i))
  | _ => False
theorem ud_neg : UnD X (unaryOp .USub) dNeg where
  mono d Q Q' k q := by
    unfold dNeg at q ⊢
    split at q <;> first | exact k _ q | exact q.elim
  ok := ⟨_, un_neg, fun G H x d Q Qd s hx q K => by
    unfold dNeg at q
    split at q
    · rw [hx.int]
      exact ⟨_, rfl, K.v _ _ q (.int _)⟩
    · exact q.elim⟩
/-! ### comparisons -/
/-- the ints of data -/
def intsOf : List PyData → Option (List Int)
  | [] => some []
  | .int i :: ds => (intsOf ds).map (i :: ·)
  | _ :: _ => none
theorem intsOf_map : ∀ {ds : List PyData} {ns : List Int}, intsOf ds = some ns → ds = ns.map PyData.int
  | [], _, e => by cases e; rfl
  | .int i :: ds, ns, e => by
    unfold intsOf at e
    cases h : intsOf ds with
    | none => rw [h] at e; cases e
    | some ms =>
      rw [h] at e
      cases e
      rw [intsOf_map h]
      rfl
  | .none :: _, _, e => by cases e
  | .bool _ :: _, _, e => by cases e
  | .str _ :: _, _, e => by cases e
  | .list _ :: _, _, e => by cases e
  | .tuple _ :: _, _, e => by cases e
  | .dict _ :: _, _, e => by cases e
theorem intsOf_ints : ∀ ns : List Int, intsOf (ns.map PyData.int) = some ns
  | [] => rfl
  | n :: ns => by
    show (intsOf (ns.map PyData.int)).map (n :: ·) = _
    rw [intsOf_ints ns]
    rfl
def dLt : D2 := fun d e Q => match d, e with
  | .int i, .int j => Q (.bool (decide (i < j)))
  | .tuple xs, .tuple ys => match intsOf xs, intsOf ys with
    | some ns, some ms => Q (.bool (HT.lexLt ns ms))
    | _, _ => False
  | _, _ => False
theorem od_lt (hu : X.A.units < cLine) : OpD X (compareOp .Lt) dLt where
  mono d e Q Q' k q := by
    unfold dLt at q ⊢
    split at q
    · exact k _ q
    · split at q <;> first | exact k _ q | exact q.elim
    · exact q.elim
  ok := ⟨_, OpR.or op_lt (op_ltT hu), fun G H x y d e Q Qd s hx hy q K => by
    unfold dLt at q
    split at q
    · rw [hx.int, hy.int]
      exact .inl ⟨_, _, rfl, rfl, K.v _ _ q (.bl _)⟩
    · split at q
      · rename_i xs ys ns ms e1 e2
        obtain ⟨a, vs, rfl, h1, h2⟩ := hx.tup s
        obtain ⟨b, ws, rfl, h3, h4⟩ := hy.tup s
        rw [intsOf_map e1] at h2
        rw [intsOf_map e2] at h4
        exact .inr ⟨a, b, ns, ms, rfl, rfl, by rw [← DpAll.ofInts h2]; exact h1, by rw [← DpAll.ofInts h4]; exact h3, K.v _ _ q (.bl _)⟩
      · exact q.elim
    · exact q.elim⟩
def dLe : D2 := fun d e Q => match d, e with
  | .int i, .int j => Q (.bool (decide (i ≤ j)))
  | _, _ => False
theorem od_le : OpD X (compareOp .LtE) dLe where
  mono d e Q Q' k q := by
    unfold dLe at q ⊢
    split at q <;> first | exact k _ q | exact q.elim
  ok := ⟨_, op_le, fun G H x y d e Q Qd s hx hy q K => by
    unfold dLe at q
    split at q
    · rw [hx.int, hy.int]
      exact ⟨_, _, rfl, rfl, K.v _ _ q (.bl _)⟩
    · exact q.elim⟩
def dGt : D2 := fun d e Q => match d, e with
  | .int i, .int j => Q (.bool (decide (j < i)))
  | _, _ => False
theorem od_gt : OpD X (compareOp .Gt) dGt where
  mono d e Q Q' k q := by
    unfold dGt at q ⊢
    split at q <;> first | exact k _ q | exact q.elim
  ok := ⟨_, op_gt, fun G H x y d e Q Qd s hx hy q K => by
    unfold dGt at q
    split at q
    · rw [hx.int, hy.int]
      exact ⟨_, _, rfl, rfl, K.v _ _ q (.bl _)⟩
    · exact q.elim⟩
def dGe : D2 := fun d e Q => match d, e with
  | .int i, .int j => Q (.bool (decide (j ≤ i)))
  | _, _ => False
theorem od_ge : OpD X (compareOp .GtE) dGe where
  mono d e Q Q' k q := by
    unfold dGe at q ⊢
    split at q <;> first | exact k _ q | exact q.elim
  ok := ⟨_, op_ge, fun G H x y d e Q Qd s hx hy q K => by
    unfold dGe at q
    split at q
    · rw [hx.int, hy.int]
      exact ⟨_, _, rfl, rfl, K.v _ _ q (.bl _)⟩
    · exact q.elim⟩
/-- == of data: both of a form that the model compares -/
def dEq : D2 := fun d e Q => SeqAt.shaped d = true ∧ SeqAt.shaped e = true ∧ Q (.bool (PyData.eqv d e))
def dNe : D2 := fun d e Q => SeqAt.shaped d = true ∧ SeqAt.shaped e = true ∧ Q (.bool (!PyData.eqv d e))
theorem od_eq (hu : X.A.units + 64 < cLine) : OpD X (compareOp .Eq) dEq where
  mono d e Q Q' k q := ⟨q.1, q.2.1, k _ q.2.2⟩
  ok := ⟨_, op_eqD hu, fun G H x y d e Q Qd s hx hy q K => ⟨d, e, hx.dp s, hy.dp s, q.1, q.2.1, K.v _ _ q.2.2 (.bl _)⟩⟩
theorem od_ne (hu : X.A.units + 64 < cLine) : OpD X (compareOp .NotEq) dNe where
  mono d e Q Q' k q := ⟨q.1, q.2.1, k _ q.2.2⟩
  ok := ⟨_, op_neD hu, fun G H x y d e Q Qd s hx hy q K => ⟨d, e, hx.dp s, hy.dp s, q.1, q.2.1, K.v _ _ q.2.2 (.bl _)⟩⟩
def dIn : D2 := fun d e Q => match e with
  | .list ds => SeqAt.shaped d = true ∧ SeqAt.shaped (.list ds) = true ∧ Q (.bool (ds.any fun z => PyData.eqv z d))
  | _ => False
def dNi : D2 := fun d e Q => match e with
  | .list ds => SeqAt.shaped d = true ∧ SeqAt.shaped (.list ds) = true ∧ Q (.bool (!ds.any fun z => PyData.eqv z d))
  | _ => False
theorem od_in (hu : X.A.units + 65 < cLine) : OpD X (compareOp .In) dIn where
  mono d e Q Q' k q := by
    unfold dIn at q ⊢
    split at q <;> first | exact ⟨q.1, q.2.1, k _ q.2.2⟩ | exact q.elim
  ok := ⟨_, op_inD hu, fun G H x y d e Q Qd s hx hy q K => by
    unfold dIn at q
    split at q
    · exact ⟨d, _, hx.dp s, hy.dp s, q.1, q.2.1, K.v _ _ q.2.2 (.bl _)⟩
    · exact q.elim⟩
theorem od_ni (hu : X.A.units + 65 < cLine) : OpD X (compareOp .NotIn) dNi where
  mono d e Q Q' k q := by
    unfold dNi at q ⊢
    split at q <;> first | exact ⟨q.1, q.2.1, k _ q.2.2⟩ | exact q.elim
  ok := ⟨_, op_notInD hu, fun G H x y d e Q Qd s hx hy q K => by
    unfold dNi at q
    split at q
    · exact ⟨d, _, hx.dp s, hy.dp s, q.1, q.2.1, K.v _ _ q.2.2 (.bl _)⟩
    · exact q.elim⟩
/-- is None; is True, is False of bools -/
def isNo : PyData → Bool
  | .none => true
  | _ => false
theorem isNo_iff {K : PySem.W.Frag} {G H : Hp} {v : V} {d : PyData} (h : Dv K G H v d) : decide (v = .non) = isNo d := by
  rcases h with h | ⟨a, vs, es, rfl, rfl, _, _⟩
  · cases h <;> simp [isNo]
  · simp [isNo]
def dIs : D2 := fun d e Q => match e with
  | .none => Q (.bool (isNo d))
  | .bool b => match d with
    | .bool a => Q (.bool (decide (a = b)))
    | _ => False
  | _ => False
def dIsn : D2 := fun d e Q => match e with
  | .none => Q (.bool (!isNo d))
  | .bool b => match d with
    | .bool a => Q (.bool (!decide (a = b)))
    | _ => False
  | _ => False
theorem od_is : OpD X (compareOp .Is) dIs where
  mono d e Q Q' k q := by
    unfold dIs at q ⊢
    split at q
    · exact k _ q
    · split at q <;> first | exact k _ q | exact q.elim
    · exact q.elim
  ok := ⟨_, OpR.or op_isN op_isBl, fun G H x y d e Q Qd s hx hy q K => by
    unfold dIs at q
    split at q
    · refine .inl ⟨hy.non, ?_⟩
      rw [isNo_iff hx]
      exact K.v _ _ q (.bl _)
    · split at q
      · exact .inr ⟨_, _, hx.bl, hy.bl, K.v _ _ q (.bl _)⟩
      · exact q.elim
    · exact q.elim⟩
theorem od_isn : OpD X (compareOp .IsNot) dIsn where
  mono d e Q Q' k q := by
    unfold dIsn at q ⊢
    split at q
    · exact k _ q
    · split at q <;> first | exact k _ q | exact q.elim
    · exact q.elim
  ok := ⟨_, OpR.or op_notN op_notBl, fun G H x y d e Q Qd s hx hy q K => by
    unfold dIsn at q
    split at q
    · refine .inl ⟨hy.non, ?_⟩
      rw [isNo_iff hx]
      exact K.v _ _ q (.bl _)
    · split at q
      · exact .inr ⟨_, _, hx.bl, hy.bl, K.v _ _ q (.bl _)⟩
      · exact q.elim
    · exact q.elim⟩
/-! ### subscripts -/
theorem atI_all {K : PySem.W.Frag} {G : Hp} {vs : List V} {ds : List PyData} {i : Int} {d : PyData} (h : DpAll K G vs ds) (e : atI ds i = some d) : ∃ v, atI vs i = some v ∧ Dp K G v d := by
  unfold atI at e ⊢
  rw [DpAll.len h]
  cases q : ixN ds.length i with
  | none => rw [q] at e; cases e
  | some j =>
    rw [q] at e
    exact DpAll.get h e
def dIx : D2 := fun d e Q => match d, e with
  | .list xs, .int i => match atI xs i with
    | some z => Q z
    | none => False
  | .tuple xs, .int i => match atI xs i with
    | some z => Q z
    | none => False
  | .str x, .int i => x.length ≤ sizeLine ∧ match atI x.cps.toList i with
    | some c => Q (.str ⟨#[c]⟩)
    | none => False
  | _, _ => False
theorem xd_ix : IxD X dIx where
  mono d e Q Q' k q := by
    unfold dIx at q ⊢
    split at q
    · split at q <;> first | exact k _ q | exact q.elim
    · split at q <;> first | exact k _ q | exact q.elim
    · refine ⟨q.1, ?_⟩
      have q2 := q.2
      split at q2 <;> first | exact k _ q2 | exact q2.elim
    · exact q.elim
  ok := ⟨_, ix_seq, fun G H x y d e Q Qd s hx hy q K => by
    unfold dIx at q
    split at q
    · split at q
      · rename_i e1
        obtain ⟨a, vs, rfl, h1, h2⟩ := hx.lst s
        obtain ⟨v, e2, dv⟩ := atI_all h2 e1
        exact .inl ⟨a, vs, _, v, rfl, hy.int, h1, e2, K.v _ _ q dv⟩
      · exact q.elim
    · split at q
      · rename_i e1
        obtain ⟨a, vs, rfl, h1, h2⟩ := hx.tup s
        obtain ⟨v, e2, dv⟩ := atI_all h2 e1
        exact .inr (.inl ⟨a, vs, _, v, rfl, hy.int, h1, e2, K.v _ _ q dv⟩)
      · exact q.elim
    · have q2 := q.2
      split at q2
      · rename_i e1
        exact .inr (.inr ⟨_, _, _, hx.str, hy.int, q.1, e1, K.v _ _ q2 (.str _)⟩)
      · exact q2.elim
    · exact q.elim⟩
/-! ### built-ins -/
theorem DvAll.one {K : PySem.W.Frag} {G H : Hp} {vs : List V} {d : PyData} (h : DvAll K G H vs [d]) : ∃ v, vs = [v] ∧ Dv K G H v d := by
  cases h with
  | cons h1 h2 => cases h2; exact ⟨_, rfl, h1⟩
theorem DvAll.two {K : PySem.W.Frag} {G H : Hp} {vs : List V} {d e : PyData} (h : DvAll K G H vs [d, e]) : ∃ v w, vs = [v, w] ∧ Dv K G H v d ∧ Dv K G H w e := by
  cases h with
  | cons h1 h2 =>
    obtain ⟨w, rfl, h3⟩ := h2.one
    exact ⟨_, _, rfl, h1, h3⟩
def cAbs : DCl := fun ds Q => match ds with
  | [.int i] => Q (.int (if i < 0 then -i else i))
  | _ => False
theorem cd_abs : ClD X (.builtin "abs") cAbs where
  mono ds Q Q' k q := by
    unfold cAbs at q ⊢
    split at q <;> first | exact k _ q | exact q.elim
  ok := ⟨_, call_abs, fun G H vs ds Q Qd s hv q K => by
    unfold cAbs at q
    split at q
    · obtain ⟨v, rfl, h⟩ := hv.one
      exact ⟨_, by rw [h.int], K.v _ _ q (.int _)⟩
    · exact q.elim⟩
def cLen : DCl := fun ds Q => match ds with
  | [.list xs] => Q (.int xs.length)
  | [.tuple xs] => Q (.int xs.length)
  | [.str x] => x.length ≤ sizeLine ∧ Q (.int x.length)
  | _ => False
theorem cd_len : ClD X (.builtin "len") cLen where
  mono ds Q Q' k q := by
    unfold cLen at q ⊢
    split at q <;> first | exact k _ q | exact ⟨q.1, k _ q.2⟩ | exact q.elim
  ok := ⟨_, call_len, fun G H vs ds Q Qd s hv q K => by
    unfold cLen at q
    split at q
    · obtain ⟨v, rfl, h⟩ := hv.one
      obtain ⟨a, ws, rfl, h1, h2⟩ := h.lst s
      exact ⟨_, _, rfl, .inl ⟨ws, h1, rfl⟩, by rw [DpAll.len h2]; exact K.v _ _ q (.int _)⟩
    · obtain ⟨v, rfl, h⟩ := hv.one
      obtain ⟨a, ws, rfl, h1, h2⟩ := h.tup s
      exact ⟨_, _, rfl, .inr ⟨ws, h1, rfl⟩, by rw [DpAll.len h2]; exact K.v _ _ q (.int _)⟩
    · obtain ⟨v, rfl, h⟩ := hv.one
      rw [h.str]
      exact ⟨.str _, _, rfl, ⟨q.1, rfl⟩, K.v _ _ q.2 (.int _)⟩
    · exact q.elim⟩
def cInt : DCl := fun ds Q => match ds with
  | [.int i] => Q (.int i)
  | [.bool b] => Q (.int (if b then 1 else 0))
  | _ => False
theorem cd_int : ClD X (.type "int") cInt where
  mono ds Q Q' k q := by
    unfold cInt at q ⊢
    split at q <;> first | exact k _ q | exact q.elim
  ok := ⟨_, call_int1, fun G H vs ds Q Qd s hv q K => by
    unfold cInt at q
    split at q
    · obtain ⟨v, rfl, h⟩ := hv.one
      exact .inl ⟨_, by rw [h.int], K.v _ _ q (.int _)⟩
    · obtain ⟨v, rfl, h⟩ := hv.one
      exact .inr ⟨_, by rw [h.bl], K.v _ _ q (.int _)⟩
    · exact q.elim⟩
/-- list(x) -/
def cList : List PyData → (List PyData → Prop) → Prop := fun ds Q => match ds with
  | [.list xs] => Q xs
  | [.tuple xs] => Q xs
  | _ => False
theorem cf_list : ClF X (.type "list") cList where
  mono ds Q Q' k q := by
    unfold cList at q ⊢
    split at q <;> first | exact k _ q | exact q.elim
  ok := ⟨_, call_list_of, fun G H vs ds Q Qd s hv q K => by
    unfold cList at q
    split at q
    · obtain ⟨v, rfl, h⟩ := hv.one
      obtain ⟨a, ws, rfl, h1, h2⟩ := h.lst s
      exact ⟨a, ws, rfl, .inl h1, fun p hp => K _ _ p q hp h2⟩
    · obtain ⟨v, rfl, h⟩ := hv.one
      obtain ⟨a, ws, rfl, h1, h2⟩ := h.tup s
      exact ⟨a, ws, rfl, .inr h1, fun p hp => K _ _ p q hp h2⟩
    · exact q.elim⟩
def cTuple : DCl := fun ds Q => match ds with
  | [.list xs] => Q (.tuple xs)
  | [.tuple xs] => Q (.tuple xs)
  | _ => False
theorem cd_tuple : ClD X (.type "tuple") cTuple where
  mono ds Q Q' k q := by
    unfold cTuple at q ⊢
    split at q <;> first | exact k _ q | exact q.elim
  ok := ⟨_, call_tuple_of, fun G H vs ds Q Qd s hv q K => by
    unfold cTuple at q
    split at q
    · obtain ⟨v, rfl, h⟩ := hv.one
      obtain ⟨a, ws, rfl, h1, h2⟩ := h.lst s
      exact ⟨a, ws, rfl, .inl ⟨h1, fun p hp => K.t _ _ p q hp h2⟩⟩
    · obtain ⟨v, rfl, h⟩ := hv.one
      rcases h with h | ⟨_, _, _, _, e, _⟩
      · obtain ⟨a, ws, rfl, h1, h2⟩ := Dv.tup s (.inl h)
        exact ⟨a, ws, rfl, .inr ⟨h1, K.v _ _ q h⟩⟩
      · cases e
    · exact q.elim⟩
/-- sum(x) of a list of ints -/
def cSum : DCl := fun ds Q => match ds with
  | [.list xs] => match intsOf xs with
    | some ns => Q (.int ns.sum)
    | none => False
  | _ => False
theorem cd_sum (hc : X.calm = true) : ClD X (.builtin "sum") cSum where
  mono ds Q Q' k q := by
    unfold cSum at q ⊢
    split at q
    · split at q <;> first | exact k _ q | exact q.elim
    · exact q.elim
  ok := ⟨_, cr_sum hc, fun G H vs ds Q Qd s hv q K => by
    unfold cSum at q
    split at q
    · split at q
      · rename_i e1
        obtain ⟨v, rfl, h⟩ := hv.one
        obtain ⟨a, ws, rfl, h1, h2⟩ := h.lst s
        rw [intsOf_map e1] at h2
        exact ⟨a, _, rfl, by rw [← DpAll.ofInts h2]; exact h1, K.v _ _ q (.int _)⟩
      · exact q.elim
    · exact q.elim⟩
/-- max, min: of a list of ints that is not empty; of two ints -/
def cMax : DCl := fun ds Q => match ds with
  | [.list xs] => match intsOf xs with
    | some ns => 0 < ns.length ∧ ∀ m, m ∈ ns → (∀ y, y ∈ ns → y ≤ m) → Q (.int m)
    | none => False
  | [.int i, .int j] => Q (.int (if j > i then j else i))
  | _ => False
def cMin : DCl := fun ds Q => match ds with
  | [.list xs] => match intsOf xs with
    | some ns => 0 < ns.length ∧ ∀ m, m ∈ ns → (∀ y, y ∈ ns → m ≤ y) → Q (.int m)
    | none => False
  | [.int i, .int j] => Q (.int (if j < i then j else i))
  | _ => False
theorem cd_max (hc : X.calm = true) : ClD X (.builtin "max") cMax where
  mono ds Q Q' k q := by
    unfold cMax at q ⊢
    split at q
    · split at q <;> first | exact ⟨q.1, fun m h1 h2 => k _ (q.2 m h1 h2)⟩ | exact q.elim
    · exact k _ q
    · exact q.elim
  ok := ⟨_, CallR.or (cr_max hc) (call_max2 hc), fun G H vs ds Q Qd s hv q K => by
    unfold cMax at q
    split at q
    · split at q
      · rename_i e1
        obtain ⟨v, rfl, h⟩ := hv.one
        obtain ⟨a, ws, rfl, h1, h2⟩ := h.lst s
        rw [intsOf_map e1] at h2
        exact .inl ⟨a, _, rfl, by rw [← DpAll.ofInts h2]; exact h1, q.1, fun m h3 h4 => K.v _ _ (q.2 m h3 h4) (.int _)⟩
      · exact q.elim
    · obtain ⟨v, w, rfl, h1, h2⟩ := hv.two
      exact .inr ⟨_, _, by rw [h1.int, h2.int], K.v _ _ q (.int _)⟩
    · exact q.elim⟩
theorem cd_min (hc : X.calm = true) : ClD X (.builtin "min") cMin where
  mono ds Q Q' k q := by
    unfold cMin at q ⊢
    split at q
    · split at q <;> first | exact ⟨q.1, fun m h1 h2 => k _ (q.2 m h1 h2)⟩ | exact q.elim
    · exact k _ q
    · exact q.elim
  ok := ⟨_, CallR.or (cr_min hc) (call_min2 hc), fun G H vs ds Q Qd s hv q K => by
    unfold cMin at q
    split at q
    · split at q
      · rename_i e1
        obtain ⟨v, rfl, h⟩ := hv.one
        obtain ⟨a, ws, rfl, h1, h2⟩ := h.lst s
        rw [intsOf_map e1] at h2
        exact .inl ⟨a, _, rfl, by rw [← DpAll.ofInts h2]; exact h1, q.1, fun m h3 h4 => K.v _ _ (q.2 m h3 h4) (.int _)⟩
      · exact q.elim
    · obtain ⟨v, w, rfl, h1, h2⟩ := hv.two
      exact .inr ⟨_, _, by rw [h1.int, h2.int], K.v _ _ q (.int _)⟩
    · exact q.elim⟩
/-- all, any of a list of bools -/
def boolsOf : List PyData → Option (List Bool)
  | [] => some []
  | .bool i :: ds => (boolsOf ds).map (i :: ·)
  | _ :: _ => none
theorem boolsOf_dp {K : PySem.W.Frag} {G : Hp} : ∀ {ds : List PyData} {vs : List V} {bs : List Bool}, boolsOf ds = some bs → DpAll K G vs ds → vs = bs.map V.bl
  | [], _, _, e, h => by cases e; cases h; rfl
  | .bool i :: ds, _, bs, e, h => by
    unfold boolsOf at e
    cases q : boolsOf ds with
    | none => rw [q] at e; cases e
    | some ms =>
      rw [q] at e
      cases e
      cases h with
      | cons h1 h2 =>
        cases h1
        rw [boolsOf_dp q h2]
        rfl
  | .none :: _, _, _, e, _ => by cases e
  | .int _ :: _, _, _, e, _ => by cases e
  | .str _ :: _, _, _, e, _ => by cases e
  | .list _ :: _, _, _, e, _ => by cases e
  | .tuple _ :: _, _, _, e, _ => by cases e
  | .dict _ :: _, _, _, e, _ => by cases e
theorem boolsOf_map : ∀ bs : List Bool, boolsOf (bs.map PyData.bool) = some bs
  | [] => rfl
  | n :: ns => by
    show (boolsOf (ns.map PyData.bool)).map (n :: ·) = _
    rw [boolsOf_map ns]
    rfl
def cAll : DCl := fun ds Q => match ds with
  | [.list xs] => match boolsOf xs with
    | some bs => Q (.bool (bs.all id))
    | none => False
  | _ => False
def cAny : DCl := fun ds Q => match ds with
  | [.list xs] => match boolsOf xs with
    | some bs => Q (.bool (bs.any id))
    | none => False
  | _ => False
theorem cd_all (hc : X.calm = true) : ClD X (.builtin "all") cAll where
  mono ds Q Q' k q := by
    unfold cAll at q ⊢
    split at q
    · split at q <;> first | exact k _ q | exact q.elim
    · exact q.elim
  ok := ⟨_, cr_all hc, fun G H vs ds Q Qd s hv q K => by
    unfold cAll at q
    split at q
    · split at q
      · rename_i e1
        obtain ⟨v, rfl, h⟩ := hv.one
        obtain ⟨a, ws, rfl, h1, h2⟩ := h.lst s
        exact ⟨a, _, rfl, by rw [← boolsOf_dp e1 h2]; exact h1, K.v _ _ q (.bl _)⟩
      · exact q.elim
    · exact q.elim⟩
theorem cd_any (hc : X.calm = true) : ClD X (.builtin "any") cAny where
  mono ds Q Q' k q := by
    unfold cAny at q ⊢
    split at q
    · split at q <;> first | exact k _ q | exact q.elim
    · exact q.elim
  ok := ⟨_, cr_any hc, fun G H vs ds Q Qd s hv q K => by
    unfold cAny at q
    split at q
    · split at q
      · rename_i e1
        obtain ⟨v, rfl, h⟩ := hv.one
        obtain ⟨a, ws, rfl, h1, h2⟩ := h.lst s
        exact ⟨a, _, rfl, by rw [← boolsOf_dp e1 h2]; exact h1, K.v _ _ q (.bl _)⟩
      · exact q.elim
    · exact q.elim⟩
end
end DL

namespace DL
open PySem L2

/-! ## statements -/
inductive RV where
  | sh (d : PyData)
  | ow (ds : List PyData)
structure DEn where
  nx : DS → Prop
  rt : RV → DS → Prop
  bk : DS → Prop := fun _ => False
  ct : DS → Prop := fun _ => False
structure DEn.le (D D' : DEn) : Prop where
  nx : ∀ ρ, D.nx ρ → D'.nx ρ
  rt : ∀ r ρ, D.rt r ρ → D'.rt r ρ
  bk : ∀ ρ, D.bk ρ → D'.bk ρ
  ct : ∀ ρ, D.ct ρ → D'.ct ρ
abbrev DTS := DEn → DS → Prop
def RvOk (K : PySem.W.Frag) (C : DC) (G : Hp) (ρ : DS) (σ : St) (H : Hp) (v : V) : RV → Prop
  | .sh d => Dp K G v d
  | .ow ds => ∃ a vs, v = .ref a ∧ Fresh C G ρ σ H a vs ∧ DpAll K G vs ds
structure EnOk (K : PySem.W.Frag) (C : DC) (G : Hp) (DD : DEn) (D : Ends) : Prop where
  nx : ∀ ρ' σ' G' H', DD.nx ρ' → Same G G' → Rel K C G' ρ' σ' H' → D.nx σ' H'
  rt : ∀ r ρ' σ' G' H' v, DD.rt r ρ' → Same G G' → Rel K C G' ρ' σ' H' → RvOk K C G' ρ' σ' H' v r → D.rt v H'
  bk : ∀ ρ' σ' G' H', DD.bk ρ' → Same G G' → Rel K C G' ρ' σ' H' → D.bk σ' H'
  ct : ∀ ρ' σ' G' H', DD.ct ρ' → Same G G' → Rel K C G' ρ' σ' H' → D.ct σ' H'
theorem EnOk.mo {K : PySem.W.Frag} {C : DC} {G G' : Hp} {DD : DEn} {D : Ends} (h : EnOk K C G DD D) (s : Same G G') : EnOk K C G' DD D where
  nx ρ' σ' G2 H' q s2 r := h.nx ρ' σ' G2 H' q (s.trans s2) r
  rt r ρ' σ' G2 H' v q s2 rl k := h.rt r ρ' σ' G2 H' v q (s.trans s2) rl k
  bk ρ' σ' G2 H' q s2 r := h.bk ρ' σ' G2 H' q (s.trans s2) r
  ct ρ' σ' G2 H' q s2 r := h.ct ρ' σ' G2 H' q (s.trans s2) r
def liftS (K : PySem.W.Frag) (C : DC) (t : DTS) : TS := fun D σ H => ∃ G ρ DD, Rel K C G ρ σ H ∧ EnOk K C G DD D ∧ t DD ρ

structure DSt (X : Cx) (st : Stmt) (t : DTS) : Prop where
  run : ∀ C, PS X st (liftS X.K C t)
  mono : ∀ DD DD' ρ, DEn.le DD DD' → t DD ρ → t DD' ρ
structure DSs (X : Cx) (st : List Stmt) (t : DTS) : Prop where
  run : ∀ C, PSs X st (liftS X.K C t)
  mono : ∀ DD DD' ρ, DEn.le DD DD' → t DD ρ → t DD' ρ
theorem PS.imp {X : Cx} {e : Stmt} {t t0 : TS} (h : PS X e t0) (k : ∀ D σ H, t D σ H → t0 D σ H) : PS X e t := ⟨fun pins s σ H D I hw => h.run pins s σ H D I (k _ _ _ hw)⟩
theorem PSs.imp {X : Cx} {e : List Stmt} {t t0 : TS} (h : PSs X e t0) (k : ∀ D σ H, t D σ H → t0 D σ H) : PSs X e t := ⟨fun pins s σ H D I hw => h.run pins s σ H D I (k _ _ _ hw)⟩
abbrev DTG := PyData → DS → (DS → Prop) → Prop
abbrev DTGs := List PyData → DS → (DS → Prop) → Prop
/-- but for the slots ws -/
def But (ws : List Nat) (σ σ' : St) : Prop := σ'.length = σ.length ∧ ∀ (j : Nat), j ∉ ws → σ'[j]? = σ[j]?
theorem But.refl {ws : List Nat} {σ : St} : But ws σ σ := ⟨rfl, fun _ _ => rfl⟩
theorem But.trans {ws us : List Nat} {σ σ' σ2 : St} (h : But ws σ σ') (k : But us σ' σ2) : But (ws ++ us) σ σ2 := ⟨k.1.trans h.1, fun j hj => (k.2 j fun z => hj (List.mem_append_right _ z)).trans (h.2 j fun z => hj (List.mem_append_left _ z))⟩
def liftG (K : PySem.W.Frag) (C : DC) (ws : List Nat) (g : DTG) : TG := fun v σ H Q => ∃ G ρ d, Rel K C G ρ σ H ∧ Dp K G v d ∧ g d ρ fun ρ' => ∀ σ' G' H', But ws σ σ' → Same G G' → Rel K C G' ρ' σ' H' → Q σ' H'
def liftGs (K : PySem.W.Frag) (C : DC) (ws : List Nat) (g : DTGs) : TGs := fun vs σ H Q => ∃ G ρ ds, Rel K C G ρ σ H ∧ DpAll K G vs ds ∧ g ds ρ fun ρ' => ∀ σ' G' H', But ws σ σ' → Same G G' → Rel K C G' ρ' σ' H' → Q σ' H'
structure DG (X : Cx) (tg : Expr) (ws : List Nat) (g : DTG) : Prop where
  run : ∀ C, PG X tg (liftG X.K C ws g)
  mono : ∀ d ρ Q Q', (∀ ρ', Q ρ' → Q' ρ') → g d ρ Q → g d ρ Q'
structure DGs (X : Cx) (tg : List Expr) (ws : List Nat) (g : DTGs) : Prop where
  run : ∀ C, PGs X tg (liftGs X.K C ws g)
  mono : ∀ d ρ Q Q', (∀ ρ', Q ρ' → Q' ρ') → g d ρ Q → g d ρ Q'
theorem PG.imp {X : Cx} {e : Expr} {t t0 : TG} (h : PG X e t0) (k : ∀ v σ H Q, t v σ H Q → t0 v σ H Q) : PG X e t := ⟨fun pins s σ H v u Q I r hw => h.run pins s σ H v u Q I r (k _ _ _ _ hw)⟩
theorem PGs.imp {X : Cx} {e : List Expr} {t t0 : TGs} (h : PGs X e t0) (k : ∀ v σ H Q, t v σ H Q → t0 v σ H Q) : PGs X e t := ⟨fun pins s σ H v u Q I r hw => h.run pins s σ H v u Q I r (k _ _ _ _ hw)⟩

section
variable {X : Cx} {e a b c : Expr} {es : List Expr} {st : Stmt} {sts : List Stmt} {pos pos' : Pos}
theorem goG {g : DTG} (m : ∀ d ρ Q Q', (∀ ρ', Q ρ' → Q' ρ') → g d ρ Q → g d ρ Q') {K : PySem.W.Frag} {C : DC} {G H : Hp} {ρ : DS} {σ : St} {R : St → Hp → Prop} {P : DS → Prop} {v : V} {d : PyData} (r : Rel K C G ρ σ H) (dp : Dp K G v d) (h : g d ρ P)
    {ws : List Nat} (k : ∀ ρ' σ' G' H', P ρ' → But ws σ σ' → Same G G' → Rel K C G' ρ' σ' H' → R σ' H') : liftG K C ws g v σ H R := ⟨G, ρ, d, r, dp, m _ _ _ _ (fun ρ' p σ' G' H' bu s r' => k ρ' σ' G' H' p bu s r') h⟩
theorem goGs {g : DTGs} (m : ∀ d ρ Q Q', (∀ ρ', Q ρ' → Q' ρ') → g d ρ Q → g d ρ Q') {K : PySem.W.Frag} {C : DC} {G H : Hp} {ρ : DS} {σ : St} {R : St → Hp → Prop} {P : DS → Prop} {v : List V} {d : List PyData} (r : Rel K C G ρ σ H) (dp : DpAll K G v d) (h : g d ρ P)
    {ws : List Nat} (k : ∀ ρ' σ' G' H', P ρ' → But ws σ σ' → Same G G' → Rel K C G' ρ' σ' H' → R σ' H') : liftGs K C ws g v σ H R := ⟨G, ρ, d, r, dp, m _ _ _ _ (fun ρ' p σ' G' H' bu s r' => k ρ' σ' G' H' p bu s r') h⟩
/-! ### targets -/
def isBo (ρ : DS) (i : Nat) : Bool := match ρ[i]? with
  | some (some (.bo _)) => true
  | _ => false
theorem isBo_no {ρ : DS} {i : Nat} (h : isBo ρ i = false) : ∀ ds, ρ[i]? ≠ some (some (.bo ds)) := fun ds e => by
  unfold isBo at h
  rw [e] at h
  cases h
def gN (i : Nat) : DTG := fun d ρ Q => isBo ρ i = false ∧ Q (ρ.set i (some (.sh d)))
theorem dg_n (i : Nat) {x : Str} (hN : X.N.Nodup) (hi : X.N[i]? = some x := by rfl) (hx : Loc X.env.scope x := by first | exact Or.inl rfl | exact Or.inr rfl) (hf : X.fn x = true ∨ X.env.scope.names.lookup x = some .local := by first | exact .inl rfl | exact .inr rfl | assumption) : DG X (.Name x pos) [i] (gN i) where
  run C := PG.imp (pg_name hN hi hx hf) fun v σ H Q ⟨G, ρ, d, r, dp, h, q⟩ => q _ G H ⟨List.length_set, fun j hj => List.getElem?_set_ne (fun e => hj (by rw [e]; exact List.mem_cons_self))⟩ (Same.refl _) (r.setSh (isBo_no h) dp)
  mono d ρ Q Q' k q := ⟨q.1, k _ q.2⟩
def gsNil : DTGs := fun ds ρ Q => ds = [] ∧ Q ρ
def gsCons (g : DTG) (u : DTGs) : DTGs := fun ds ρ Q => match ds with
  | d :: ds => g d ρ fun ρ' => u ds ρ' Q
  | [] => False
theorem dgs_nil : DGs X [] [] gsNil := ⟨fun C => PGs.imp pgs_nil fun v σ H Q ⟨G, ρ, ds, r, dp, h, q⟩ => by
  subst h
  cases dp
  exact ⟨rfl, q σ G H But.refl (Same.refl _) r⟩, fun d ρ Q Q' k q => ⟨q.1, k _ q.2⟩⟩
theorem dgs_cons {g : DTG} {u : DTGs} {ws us : List Nat} (h1 : DG X e ws g) (h2 : DGs X es us u) (hs : (assignEach (e :: es) X.env).map (·.2) = assign e X.env :: (assignEach es X.env).map (·.2) := by rfl) : DGs X (e :: es) (ws ++ us) (gsCons g u) where
  run C := PGs.imp (pgs_cons (h1.run C) (h2.run C) hs) fun vs σ H Q ⟨G, ρ, ds, r, dp, q⟩ => by
    cases dp with
    | nil => exact q.elim
    | cons p1 p2 => exact ⟨_, _, rfl, goG h1.mono r p1 q fun ρ' σ' G' H' p b1 s r' => goGs h2.mono r' (DpAll.mo s _ _ p2) p fun ρ2 σ2 G2 H2 p2 b2 s2 r2 => p2 σ2 G2 H2 (b1.trans b2) (s.trans s2) r2⟩
  mono ds ρ Q Q' k q := by
    cases ds with
    | nil => exact q
    | cons d ds => exact h1.mono _ _ _ _ (fun ρ' => h2.mono _ _ _ _ k) q
def gT (n : Nat) (t : DTGs) : DTG := fun d ρ Q => match d with
  | .tuple ds => ds.length = n ∧ t ds ρ Q
  | _ => False
theorem dg_t {k n : Nat} {t : DTGs} {ws : List Nat} (hc : X.calm = true) (h : DGs X es ws t)
    (hn : (assignEach es X.env).length = n := by rfl) (hst : (assignEach es X.env).findIdx? (·.1) = none := by rfl) : DG X (.Tuple es k pos) ws (gT n t) where
  run C := PG.imp (pg_tup hc (h.run C) hn hst) fun v σ H Q ⟨G, ρ, d, r, dp, q⟩ => by
    unfold gT at q
    split at q
    · obtain ⟨a, vs, rfl, h1, h2⟩ := Dv.tup (H := H) r.same (.inl dp)
      exact ⟨a, vs, rfl, h1, by rw [DpAll.len h2]; exact q.1, goGs h.mono r h2 q.2 fun ρ' σ' G' H' p bu s r' => p σ' G' H' bu s r'⟩
    · exact q.elim
  mono d ρ Q Q' k q := by
    unfold gT at q ⊢
    split at q
    · exact ⟨q.1, h.mono _ _ _ _ k q.2⟩
    · exact q.elim
/-! ### blocks -/
def sNx : DTS := fun DD ρ => DD.nx ρ
@[irreducible] def sSq (t u : DTS) : DTS := fun DD ρ => t { nx := u DD, rt := DD.rt, bk := DD.bk, ct := DD.ct } ρ
theorem sq_go {t u : DTS} {DD : DEn} {ρ : DS} (h : t { nx := u DD, rt := DD.rt, bk := DD.bk, ct := DD.ct } ρ) : sSq t u DD ρ := by unfold sSq; exact h
theorem sq_of {t u : DTS} {DD : DEn} {ρ : DS} (h : sSq t u DD ρ) : t { nx := u DD, rt := DD.rt, bk := DD.bk, ct := DD.ct } ρ := by unfold sSq at h; exact h
theorem DEn.le_refl (D : DEn) : DEn.le D D := ⟨fun _ h => h, fun _ _ h => h, fun _ h => h, fun _ h => h⟩
theorem dss_nil : DSs X [] sNx := ⟨fun C => PSs.imp pss_nil fun D σ H ⟨G, ρ, DD, r, k, q⟩ => k.nx ρ σ G H q (Same.refl _) r, fun DD DD' ρ l q => l.nx _ q⟩
theorem dss_one {t : DTS} (h : DSt X st t) : DSs X [st] t := ⟨fun C => pss_one (h.run C), h.mono⟩
theorem dss_cons {t u : DTS} (h1 : DSt X st t) (h2 : DSs X sts u) : DSs X (st :: sts) (sSq t u) where
  run C := PSs.imp (pss_cons (h1.run C) (h2.run C)) fun D σ H ⟨G, ρ, DD, r, k, q⟩ =>
    ⟨G, ρ, { nx := u DD, rt := DD.rt, bk := DD.bk, ct := DD.ct }, r, ⟨fun ρ' σ' G' H' q' s r' => ⟨G', ρ', DD, r', k.mo s, q'⟩, k.rt, k.bk, k.ct⟩, sq_of q⟩
  mono DD DD' ρ l q := sq_go (h1.mono { nx := u DD, rt := DD.rt, bk := DD.bk, ct := DD.ct } { nx := u DD', rt := DD'.rt, bk := DD'.bk, ct := DD'.ct } _ ⟨fun ρ' p => h2.mono _ _ _ l p, l.rt, l.bk, l.ct⟩ (sq_of q))
theorem ds_pass : DSt X (.Pass pos) sNx := ⟨fun C => PS.imp ps_pass fun D σ H ⟨G, ρ, DD, r, k, q⟩ => k.nx ρ σ G H q (Same.refl _) r, fun DD DD' ρ l q => l.nx _ q⟩
def sBk : DTS := fun DD ρ => DD.bk ρ
def sCt : DTS := fun DD ρ => DD.ct ρ
theorem ds_break : DSt X (.Break pos) sBk := ⟨fun C => PS.imp ps_break fun D σ H ⟨G, ρ, DD, r, k, q⟩ => k.bk ρ σ G H q (Same.refl _) r, fun DD DD' ρ l q => l.bk _ q⟩
theorem ds_continue : DSt X (.Continue pos) sCt := ⟨fun C => PS.imp ps_continue fun D σ H ⟨G, ρ, DD, r, k, q⟩ => k.ct ρ σ G H q (Same.refl _) r, fun DD DD' ρ l q => l.ct _ q⟩
theorem ds_doc {x j pos pos'} : DSt X (.Expr (.Constant (.str x) j pos) pos') sNx := ⟨fun C => PS.imp ps_doc fun D σ H ⟨G, ρ, DD, r, k, q⟩ => k.nx ρ σ G H q (Same.refl _) r, fun DD DD' ρ l q => l.nx _ q⟩
/-- an expression whose value is dropped -/
def sEx (t : DTE) : DTS := fun DD ρ => t ρ fun _ ρ' => DD.nx ρ'
theorem ds_expr {t : DTE} (h : DE X e t) (hs : swapsWith e none pos.line X.env = pure false := by rfl) : DSt X (.Expr e pos) (sEx t) where
  run C := PS.imp (ps_expr (h.run C) hs) fun D σ H ⟨G, ρ, DD, r, k, q⟩ => goE h.mono r q fun d ρ' v G' H' p s r' dp => k.nx ρ' σ G' H' p s r'
  mono DD DD' ρ l q := h.mono _ _ _ (fun _ ρ' p => l.nx _ p) q
def sRt (t : DTE) : DTS := fun DD ρ => t ρ fun d ρ' => DD.rt (.sh d) ρ'
theorem ds_ret {t : DTE} (h : DE X e t) : DSt X (.Return (some e) pos) (sRt t) where
  run C := PS.imp (ps_ret (h.run C)) fun D σ H ⟨G, ρ, DD, r, k, q⟩ => goE h.mono r q fun d ρ' v G' H' p s r' dp => k.rt (.sh d) ρ' σ G' H' v p s r' dp
  mono DD DD' ρ l q := h.mono _ _ _ (fun _ ρ' p => l.rt _ _ p) q
def sRtN : DTS := fun DD ρ => DD.rt (.sh .none) ρ
theorem ds_retN : DSt X (.Return none pos) sRtN := ⟨fun C => PS.imp ps_retN fun D σ H ⟨G, ρ, DD, r, k, q⟩ => k.rt (.sh .none) ρ σ G H .non q (Same.refl _) r .non, fun DD DD' ρ l q => l.rt _ _ q⟩
/-- a fresh list handed back as the caller's own -/
def sRtF (t : DTL) : DTS := fun DD ρ => t ρ fun ds ρ' => DD.rt (.ow ds) ρ'
theorem ds_retF {t : DTL} (h : DF X e t) : DSt X (.Return (some e) pos) (sRtF t) where
  run C := PS.imp (ps_ret (h.run C)) fun D σ H ⟨G, ρ, DD, r, k, q⟩ => goF h.mono r q fun ds ρ' a vs G' H' p s r' f dp => k.rt (.ow ds) ρ' σ G' H' (.ref a) p s r' ⟨a, vs, rfl, f, dp⟩
  mono DD DD' ρ l q := h.mono _ _ _ (fun _ ρ' p => l.rt _ _ p) q
/-- a name whose own list is given away -/
def fN (i : Nat) : DTL := fun ρ Q => match ρ[i]? with
  | some (some (.ow ds)) => Q ds (ρ.set i none)
  | _ => False
theorem df_n (i : Nat) {x : Str} (hN : X.N[i]? = some x := by rfl) (hv : Vis X.env.scope x := by first | exact Or.inl rfl | exact Or.inr (Or.inl rfl) | exact Or.inr (Or.inr rfl)) (hd : (x == ("__debug__" : Str)) = false := by decide)
    (hcd : (x == ("__classdict__" : Str)) = false := by decide) : DF X (.Name x pos) (fN i) where
  run C := PE.imp (pe_var hN hv hd hcd) fun σ H Q ⟨G, ρ, r, q⟩ => by
    unfold fN at q
    split at q
    · rename_i ds e
      obtain ⟨a, vs, e1, hd2, f, r'⟩ := r.own e
      exact ⟨_, e1, q a vs G H (Same.refl _) r' f hd2⟩
    · exact q.elim
  mono ρ Q Q' k q := by
    unfold fN at q ⊢
    split at q
    · exact k _ _ q
    · exact q.elim
def sIf (c : DTT) (t u : DTS) : DTS := fun DD ρ => c ρ fun b ρ' => if b = true then t DD ρ' else u DD ρ'
theorem ds_if {p q : List Stmt} {tc : DTT} {t u : DTS} (hc : DT X c tc) (h1 : DSs X p t) (h2 : DSs X q u) : DSt X (.If c p q pos) (sIf tc t u) where
  run C := PS.imp (ps_if (hc.run C) (h1.run C) (h2.run C)) fun D σ H ⟨G, ρ, DD, r, k, qq⟩ => goT hc.mono r qq fun b ρ' G' H' p s r' => by
    cases b with
    | true => exact ⟨G', ρ', DD, r', k.mo s, p⟩
    | false => exact ⟨G', ρ', DD, r', k.mo s, p⟩
  mono DD DD' ρ l q := hc.mono _ _ _ (fun b ρ' p => by
    cases b with
    | true => exact h1.mono _ _ _ l p
    | false => exact h2.mono _ _ _ l p) q
/-- code that is never reached -/
def sNv : DTS := fun _ _ => False
theorem ds_never : DSt X st sNv := ⟨fun C => PS.imp (ps_never) fun D σ H ⟨G, ρ, DD, r, k, q⟩ => q, fun _ _ _ _ q => q⟩
/-! ### assignments -/
def sAs (t : DTE) (g : DTG) : DTS := fun DD ρ => t ρ fun d ρ' => g d ρ' DD.nx
theorem ds_asg {tg : Expr} {t : DTE} {g : DTG} {ws : List Nat} (h : DE X e t) (hg : DG X tg ws g) (hs : swapsWithSole [tg] e pos.line X.env = pure false := by rfl) (hw : swappedStores [tg] e X.env = pure none := by rfl)
    (h1 : (assignEach [tg] X.env).map (·.2) = [assign tg X.env] := by rfl) : DSt X (.Assign [tg] e pos) (sAs t g) where
  run C := PS.imp (ps_asg (h.run C) (hg.run C) hs hw h1) fun D σ H ⟨G, ρ, DD, r, k, q⟩ => goE h.mono r q fun d ρ' v G' H' p s r' dp => goG hg.mono r' dp p fun ρ2 σ2 G2 H2 p2 _ s2 r2 => k.nx ρ2 σ2 G2 H2 p2 (s.trans s2) r2
  mono DD DD' ρ l q := h.mono _ _ _ (fun d ρ' p => hg.mono _ _ _ _ l.nx p) q
theorem ds_set (i : Nat) {x : Str} {t : DTE} (h : DE X e t) (hN : X.N.Nodup) (hi : X.N[i]? = some x := by rfl) (hx : Loc X.env.scope x := by first | exact Or.inl rfl | exact Or.inr rfl) (hs : swapsWith e (some (.Name x pos')) pos.line X.env = pure false := by rfl) (hf : X.fn x = true ∨ X.env.scope.names.lookup x = some .local := by first | exact .inl rfl | exact .inr rfl | assumption) :
    DSt X (.Assign [.Name x pos'] e pos) (sAs t (gN i)) where
  run C := PS.imp (ps_set hN hi hx (h.run C) hs hf) fun D σ H ⟨G, ρ, DD, r, k, q⟩ => goE h.mono r q fun d ρ' v G' H' p s r' dp => k.nx _ _ G' H' p.2 s (r'.setSh (isBo_no p.1) dp)
  mono DD DD' ρ l q := h.mono _ _ _ (fun d ρ' p => ⟨p.1, l.nx _ p.2⟩) q
/-- name = a fresh list, its own -/
def sOw (t : DTL) (i : Nat) : DTS := fun DD ρ => t ρ fun ds ρ' => isBo ρ' i = false ∧ DD.nx (ρ'.set i (some (.ow ds)))
theorem ds_own (i : Nat) {x : Str} {t : DTL} (h : DF X e t) (hN : X.N.Nodup) (hi : X.N[i]? = some x := by rfl) (hx : Loc X.env.scope x := by first | exact Or.inl rfl | exact Or.inr rfl) (hs : swapsWith e (some (.Name x pos')) pos.line X.env = pure false := by rfl) (hf : X.fn x = true ∨ X.env.scope.names.lookup x = some .local := by first | exact .inl rfl | exact .inr rfl | assumption) :
    DSt X (.Assign [.Name x pos'] e pos) (sOw t i) where
  run C := PS.imp (ps_set hN hi hx (h.run C) hs hf) fun D σ H ⟨G, ρ, DD, r, k, q⟩ => goF h.mono r q fun ds ρ' a vs G' H' p s r' f dp => k.nx _ _ G' H' p.2 s (r'.setOw (isBo_no p.1) f dp)
  mono DD DD' ρ l q := h.mono _ _ _ (fun d ρ' p => ⟨p.1, l.nx _ p.2⟩) q
/-- a, b = x, y with plain local names -/
def sPar (i j : Nat) (t : DTL) : DTS := fun DD ρ => t ρ fun ds ρ' => match ds with
  | [d, e] => isBo ρ' i = false ∧ isBo ρ' j = false ∧ DD.nx ((ρ'.set i (some (.sh d))).set j (some (.sh e)))
  | _ => False
theorem isBo_set {ρ : DS} {i j : Nat} {d : PyData} (h : isBo ρ j = false) : isBo (ρ.set i (some (.sh d))) j = false := by
  unfold isBo at h ⊢
  by_cases e : i = j
  · subst e
    by_cases hl : i < ρ.length
    · rw [List.getElem?_set_self hl]
    · rw [List.getElem?_eq_none (by rw [List.length_set]; omega)]
  · rw [List.getElem?_set_ne e]
    exact h
theorem ds_par (i j : Nat) {x y : Str} {t : DTL} {px py pt : Pos} {kt k2 pt2} (hc : X.calm = true) (hN : X.N.Nodup) (h : DA X [a, b] t) (hi : X.N[i]? = some x := by rfl) (hj : X.N[j]? = some y := by rfl) (hij : i ≠ j := by decide)
    (hx : X.env.scope.names.lookup x = some .local := by rfl) (hy : X.env.scope.names.lookup y = some .local := by rfl)
    (hw : swappedStores [.Tuple [.Name x px, .Name y py] kt pt] (.Tuple [a, b] k2 pt2) X.env = pure (some [x, y]) := by rfl)
    (hs : swapsWithSole [.Tuple [.Name x px, .Name y py] kt pt] (.Tuple [a, b] k2 pt2) pos.line X.env = pure false := by rfl) :
    DSt X (.Assign [.Tuple [.Name x px, .Name y py] kt pt] (.Tuple [a, b] k2 pt2) pos) (sPar i j t) where
  run C := PS.imp (ps_par hc hN hi hj hij hx hy (h.run C) hw hs) fun D σ H ⟨G, ρ, DD, r, k, q⟩ => goA h.mono r q fun ds ρ' vs G' H' p s r' dp => by
    unfold sPar at q
    (try dsimp only at p)
    split at p
    · cases dp with
      | cons d1 d2 =>
        cases d2 with
        | cons d2 d3 =>
          cases d3
          exact ⟨_, _, rfl, k.nx _ _ G' H' p.2.2 s ((r'.setSh (isBo_no p.1) d1).setSh (isBo_no (isBo_set p.2.1)) d2)⟩
    · exact p.elim
  mono DD DD' ρ l q := h.mono _ _ _ (fun d ρ' p => by
    (try dsimp only at p); (try dsimp only)
    split at p
    · exact ⟨p.1, p.2.1, l.nx _ p.2.2⟩
    · exact p.elim) q
/-- name op= e -/
structure IpD (X : Cx) (op : Operator) (r : D2) : Prop where
  mono : ∀ d e Q Q', (∀ z, Q z → Q' z) → r d e Q → r d e Q'
  ok : ∃ r0 : TIp, PIp X op r0 ∧ ∀ (G H : Hp) (x y : V) (d e : PyData) (Q : VK) (Qd : PyData → Prop), Same G H → Dv X.K G H x d → Dv X.K G H y e → r d e Qd → Kon X.K G H Qd Q → r0 x y H Q
def sAu (i : Nat) (r : D2) (t : DTE) : DTS := fun DD ρ => (vN i ρ).isSome = true ∧ t ρ fun d ρ' => match vN i ρ' with
  | some x => r x d fun z => isBo ρ' i = false ∧ DD.nx (ρ'.set i (some (.sh z)))
  | none => False
theorem ds_aug (i : Nat) {x : Str} {op : Operator} {r : D2} {t : DTE} (ho : IpD X op r) (h : DE X e t) (hN : X.N.Nodup) (hi : X.N[i]? = some x := by rfl) (hx : Loc X.env.scope x := by first | exact Or.inl rfl | exact Or.inr rfl) (hf : X.fn x = true ∨ X.env.scope.names.lookup x = some .local := by first | exact .inl rfl | exact .inr rfl | assumption) :
    DSt X (.AugAssign (.Name x pos') op e pos) (sAu i r t) where
  run C := by
    obtain ⟨r0, h0, hk⟩ := ho.ok
    refine PS.imp (ps_aug hN hi hx (h.run C) h0 hf) fun D σ H ⟨G, ρ, DD, rl, k, q1, q⟩ => ?_
    obtain ⟨v, e1⟩ := vN_there rl q1
    refine ⟨v, e1, goE h.mono rl q fun d ρ' v' G' H' p s r' dp => ?_⟩
    (try dsimp only at p)
    split at p
    · rename_i z e2
      exact hk G' H' v v' z d _ _ r'.same (vN_ok r' e1 G' H' ρ' (Same.refl _) r' z e2) (.inl dp) p
        (Kon.of (P := fun z ρ2 => isBo ρ2 i = false ∧ DD.nx (ρ2.set i (some (.sh z)))) r' fun d p v G2 H2 s2 r2 dd => k.nx _ _ G2 H2 p.2 (s.trans s2) (r2.setSh (isBo_no p.1) dd))
    · exact p.elim
  mono DD DD' ρ l q := ⟨q.1, h.mono _ _ _ (fun d ρ' p => by
    (try dsimp only at p); (try dsimp only)
    split
    · rename_i z e2
      rw [e2] at p
      exact ho.mono _ _ _ _ (fun z h => ⟨h.1, l.nx _ h.2⟩) p
    · rename_i e2
      rw [e2] at p
      exact p) q.2⟩
/-! ### a mutable list at a name -/
/-- the mutable list of a slot -/
def muN (i : Nat) (ρ : DS) : Option (List PyData) := match ρ[i]? with
  | some (some (.ow ds)) => some ds
  | some (some (.bo ds)) => some ds
  | _ => none
def wrN (i : Nat) (ds : List PyData) (ρ : DS) : DS := match ρ[i]? with
  | some (some (.ow _)) => ρ.set i (some (.ow ds))
  | some (some (.bo _)) => ρ.set i (some (.bo ds))
  | _ => ρ
theorem muN_ok {K : PySem.W.Frag} {C : DC} {G H : Hp} {ρ : DS} {σ : St} (r : Rel K C G ρ σ H) {i : Nat} {ds : List PyData} (h : muN i ρ = some ds) :
    ∃ a vs, σ[i]? = some (some (.ref a)) ∧ H a = some (.lst vs) ∧ G a = none ∧ DpAll K G vs ds ∧ ∀ ds' vs', DpAll K G vs' ds' → Rel K C G (wrN i ds' ρ) σ (upd H a (.lst vs')) := by
  unfold muN at h
  split at h
  · rename_i es e
    cases h
    obtain ⟨a, vs, h1, h2, h3, h4, h5⟩ := r.mut e rfl
    refine ⟨a, vs, h1, h2, h3, h4, fun ds' vs' hd => ?_⟩
    have q := h5 ds' vs' hd
    unfold wrN
    rw [e]
    exact q
  · rename_i es e
    cases h
    obtain ⟨a, vs, h1, h2, h3, h4, h5⟩ := r.mut e rfl
    refine ⟨a, vs, h1, h2, h3, h4, fun ds' vs' hd => ?_⟩
    have q := h5 ds' vs' hd
    unfold wrN
    rw [e]
    exact q
  · cases h
theorem ld_n {X : Cx} (i : Nat) {x : Str} (hN : X.N[i]? = some x := by rfl) (hv : Vis X.env.scope x := by first | exact Or.inl rfl | exact Or.inr (Or.inl rfl) | exact Or.inr (Or.inr rfl)) (hd : (x == ("__debug__" : Str)) = false := by decide)
    (hcd : (x == ("__classdict__" : Str)) = false := by decide) : PE X (.Name x pos) (tVar i) := pe_var hN hv hd hcd
/-- xs.append(e) -/
def eApp (i : Nat) (t : DTE) : DTE := fun ρ Q => (muN i ρ).isSome = true ∧ t ρ fun d ρ' => match muN i ρ' with
  | some ds => ds.length < sizeLine ∧ Q .none (wrN i (ds ++ [d]) ρ')
  | none => False
theorem tyV_lst {K : PySem.W.Frag} {H : Hp} {a : Addr} {vs : List V} (h : H a = some (.lst vs)) : tyV K "list" (.ref a) H := .inl ⟨rfl, _, .inl (.inl h)⟩
theorem de_append (i : Nat) {x : Str} {t : DTE} {px pa pos} (h : DE X e t) (hN : X.N[i]? = some x := by rfl) (hv : Vis X.env.scope x := by first | exact Or.inl rfl | exact Or.inr (Or.inl rfl) | exact Or.inr (Or.inr rfl)) (hd : (x == ("__debug__" : Str)) = false := by decide)
    (hcd : (x == ("__classdict__" : Str)) = false := by decide) (hst : starEach [e] X.env = (false, eval e X.env) :: starEach [] X.env := by rfl)
    (hb : ∀ {to : TE} {t : TA}, PE X (.Name x px) to → PA X [e] t → PE X (.Call (.Attribute (.Name x px) "append" pa) [e] [] pos) (tBM X.K "list" rAppend to t) := by intro _ _ h1 h2; exact pe_bm PySem.F.plainAttrs_list PySem.F.slot_list_append PySem.F.type_list_append mt_append h1 h2) :
    DE X (.Call (.Attribute (.Name x px) "append" pa) [e] [] pos) (eApp i t) where
  run C := PE.imp (hb (pe_var hN hv hd hcd) (pa_cons (h.run C) pa_nil hst)) fun σ H Q ⟨G, ρ, r, q1, q⟩ => by
    obtain ⟨ds0, e0⟩ := Option.isSome_iff_exists.mp q1
    obtain ⟨a, vs, h1, h2, _⟩ := muN_ok r e0
    refine ⟨_, h1, tyV_lst h2, goE h.mono r q fun d ρ' v G' H' p s r' dp => ?_⟩
    (try dsimp only at p)
    split at p
    · rename_i ds e1
      obtain ⟨a', vs', k1, k2, k3, k4, k5⟩ := muN_ok r' e1
      rw [h1] at k1
      cases k1
      exact ⟨a, vs', v, rfl, rfl, k2, by rw [DpAll.len k4]; exact p.1, p.2 .non G' _ s (k5 _ _ (DpAll.app k4 (.cons dp .nil))) .non⟩
    · exact p.elim
  mono ρ Q Q' k q := ⟨q.1, h.mono _ _ _ (fun d ρ' p => by
    (try dsimp only at p); (try dsimp only)
    split
    · rename_i z e2
      rw [e2] at p
      exact ⟨p.1, k _ _ p.2⟩
    · rename_i e2
      rw [e2] at p
      exact p) q.2⟩
/-- xs[k] = e -/
def sSt (i : Nat) (t tk : DTE) : DTS := fun DD ρ => t ρ fun d ρ1 => (muN i ρ1).isSome = true ∧ tk ρ1 fun k ρ' => match muN i ρ', k with
  | some ds, .int z => match ixN ds.length z with
    | some j => DD.nx (wrN i (ds.set j d) ρ')
    | none => False
  | _, _ => False
theorem ds_store (i : Nat) {x : Str} {k : Expr} {px ps : Pos} {t tk : DTE} (h : DE X e t) (hk : DE X k tk) (hN : X.N[i]? = some x := by rfl) (hv : Vis X.env.scope x := by first | exact Or.inl rfl | exact Or.inr (Or.inl rfl) | exact Or.inr (Or.inr rfl)) (hd : (x == ("__debug__" : Str)) = false := by decide)
    (hcd : (x == ("__classdict__" : Str)) = false := by decide)
    (hb : ∀ {te to ti : TE}, PE X e te → PE X (.Name x px) to → PE X k ti → PS X (.Assign [.Subscript (.Name x px) k ps] e pos) (tAsg te (gSub to ti rSetL)) := by intro _ _ _ h1 h2 h3; exact ps_asg h1 (pg_sub h2 h3 set_list)) :
    DSt X (.Assign [.Subscript (.Name x px) k ps] e pos) (sSt i t tk) where
  run C := PS.imp (hb (h.run C) (pe_var hN hv hd hcd) (hk.run C)) fun D σ H ⟨G, ρ, DD, r, kk, q⟩ => goE h.mono r q fun d ρ1 v G1 H1 p1 s1 r1 d1 => by
    obtain ⟨ds0, e0⟩ := Option.isSome_iff_exists.mp p1.1
    obtain ⟨a, vs, h1, h2, _⟩ := muN_ok r1 e0
    refine ⟨_, h1, goE hk.mono r1 p1.2 fun z ρ2 w G2 H2 p2 s2 r2 d2 => ?_⟩
    (try dsimp only at p2)
    split at p2
    · rename_i ds zi e1
      split at p2
      · rename_i j ej
        cases d2
        obtain ⟨a', vs', k1, k2, k3, k4, k5⟩ := muN_ok r2 e1
        rw [h1] at k1
        cases k1
        exact ⟨a, vs', zi, j, rfl, rfl, k2, by rw [DpAll.len k4]; exact ej, kk.nx _ _ G2 _ p2 (s1.trans s2) (k5 _ _ (DpAll.set j k4 (Dp.mo s2 d v d1)))⟩
      · exact p2.elim
    · exact p2.elim
  mono DD DD' ρ l q := h.mono _ _ _ (fun d ρ1 p => ⟨p.1, hk.mono _ _ _ (fun z ρ2 p2 => by
    (try dsimp only at p2); (try dsimp only)
    split
    · rename_i ds zi e1
      rw [e1] at p2
      (try dsimp only at p2)
      split
      · rename_i j ej
        rw [ej] at p2
        exact l.nx _ p2
      · rename_i ej
        rw [ej] at p2
        exact p2
    · rename_i hno
      split at p2
      · rename_i ds zi e1
        exact (hno _ _ e1 rfl).elim
      · exact p2) p.2⟩) q
end
end DL

namespace DL
open PySem L2

section
variable {X : Cx} {e a b c tg iter : Expr} {es ifs : List Expr} {st : Stmt} {sts body : List Stmt} {pos pos' : Pos}
/-! ## while -/
def whN (c : DTT) (tb : DTS) (DD : DEn) : Nat → DS → Prop
  | 0, _ => False
  | n + 1, ρ => c ρ fun b ρ1 => if b = true then tb { nx := whN c tb DD n, rt := DD.rt, bk := DD.nx, ct := whN c tb DD n } ρ1 else DD.nx ρ1
def sWh (c : DTT) (tb : DTS) : DTS := fun DD ρ => ∃ n, whN c tb DD n ρ
theorem ds_while {tc : DTT} {tb : DTS} (hp : PassesOwn (model X.prog X.w) X.A X.env X.xe) (hc : DT X c tc) (hb : DSs X body tb) : DSt X (.While c body [] pos) (sWh tc tb) where
  run C := PS.imp (ps_while hp (hc.run C) (hb.run C)) fun D σ H ⟨G, ρ, DD, r, k, n, q⟩ => by
    refine ⟨fun m σ H => ∃ G ρ, Rel X.K C G ρ σ H ∧ EnOk X.K C G DD D ∧ whN tc tb DD m ρ, ⟨n, G, ρ, r, k, q⟩, ?_⟩
    rintro m σ H ⟨G, ρ, r, k, q⟩
    cases m with
    | zero => exact q.elim
    | succ m =>
      refine goT hc.mono r q fun b ρ' G' H' p s r' => ?_
      cases b with
      | true =>
        refine ⟨fun σ' H' => ∃ G ρ, Rel X.K C G ρ σ' H' ∧ EnOk X.K C G DD D ∧ whN tc tb DD m ρ, fun σ' H' h => ⟨m, Nat.lt_succ_self m, h⟩, G', ρ', _, r', ?_, p⟩
        have k' := k.mo s
        exact ⟨fun ρ2 σ2 G2 H2 q2 s2 r2 => ⟨G2, ρ2, r2, k'.mo s2, q2⟩, k'.rt, k'.nx, fun ρ2 σ2 G2 H2 q2 s2 r2 => ⟨G2, ρ2, r2, k'.mo s2, q2⟩⟩
      | false => exact k.nx ρ' σ G' H' p s r'
  mono DD DD' ρ l := fun ⟨n, q⟩ => ⟨n, by
    have key : ∀ n ρ, whN tc tb DD n ρ → whN tc tb DD' n ρ := by
      intro n
      induction n with
      | zero => exact fun _ h => h
      | succ n ih =>
        intro ρ h
        refine hc.mono _ _ _ (fun b ρ1 p => ?_) h
        cases b with
        | true => exact hb.mono { nx := whN tc tb DD n, rt := DD.rt, bk := DD.nx, ct := whN tc tb DD n } { nx := whN tc tb DD' n, rt := DD'.rt, bk := DD'.nx, ct := whN tc tb DD' n } _ ⟨fun ρ => ih ρ, l.rt, l.nx, fun ρ => ih ρ⟩ p
        | false => exact l.nx _ p
    exact key n ρ q⟩
/-- a while by an invariant and a measure -/
theorem sWh_by {tc : DTT} {tb : DTS} {DD : DEn} {ρ : DS} (W : DS → Prop) (μ : DS → Nat) (hc : ∀ ρ Q Q', (∀ d ρ', Q d ρ' → Q' d ρ') → tc ρ Q → tc ρ Q') (hb : ∀ DD DD' ρ, DEn.le DD DD' → tb DD ρ → tb DD' ρ) (h0 : W ρ)
    (hs : ∀ ρ, W ρ → tc ρ fun b ρ1 => if b = true then tb { nx := fun ρ' => W ρ' ∧ μ ρ' < μ ρ, rt := DD.rt, bk := DD.nx, ct := fun ρ' => W ρ' ∧ μ ρ' < μ ρ } ρ1 else DD.nx ρ1) : sWh tc tb DD ρ := by
  have key : ∀ n ρ, W ρ → μ ρ < n → whN tc tb DD n ρ := by
    intro n
    induction n with
    | zero => exact fun _ _ h => absurd h (Nat.not_lt_zero _)
    | succ n ih =>
      intro ρ w h
      refine hc _ _ _ (fun b ρ1 p => ?_) (hs ρ w)
      cases b with
      | true => exact hb { nx := fun ρ' => W ρ' ∧ μ ρ' < μ ρ, rt := DD.rt, bk := DD.nx, ct := fun ρ' => W ρ' ∧ μ ρ' < μ ρ } { nx := whN tc tb DD n, rt := DD.rt, bk := DD.nx, ct := whN tc tb DD n } _ ⟨fun ρ' q => ih ρ' q.1 (by have := q.2; omega), fun _ _ q => q, fun _ q => q, fun ρ' q => ih ρ' q.1 (by have := q.2; omega)⟩ p
      | false => exact p
  exact ⟨μ ρ + 1, key _ ρ h0 (Nat.lt_succ_self _)⟩

/-! ## what is walked -/
structure Wk (K : PySem.W.Frag) (G : Hp) (J : It) (items : List PyData) : Prop where
  go : ∀ (i : Nat) (d : PyData) (H : Hp), items[i]? = some d → Same G H → J.go i H
  yld : ∀ (i : Nat) (d : PyData) (G2 H : Hp) (x : V) (H' : Hp), items[i]? = some d → Same G G2 → Same G2 H → J.yld i H x H' → (H' = H ∧ Dp K G2 x d) ∨ ∃ p vs ds, H p = none ∧ H' = upd H p (.tup vs) ∧ x = .ref p ∧ d = .tuple ds ∧ DpAll K G2 vs ds
  stop : ∀ (i : Nat) (H : Hp), items.length ≤ i → Same G H → J.stop i H
theorem Wk.mo {K : PySem.W.Frag} {G G' : Hp} {J : It} {items : List PyData} (h : Wk K G J items) (s : Same G G') : Wk K G' J items :=
  ⟨fun i d H e s2 => h.go i d H e (s.trans s2), fun i d G2 H x H' e s2 s3 y => h.yld i d G2 H x H' e (s.trans s2) s3 y, fun i H e s2 => h.stop i H e (s.trans s2)⟩
/-- behind a turn's item: the state and the item -/
theorem Wk.item {K : PySem.W.Frag} {C : DC} {G G2 H H' : Hp} {ρ : DS} {σ : St} {J : It} {items : List PyData} (h : Wk K G J items) (s : Same G G2) (r : Rel K C G2 ρ σ H) {i : Nat} {d : PyData} {x : V} (e : items[i]? = some d) (y : J.yld i H x H') :
    ∃ G', Same G2 G' ∧ Rel K C G' ρ σ H' ∧ Dp K G' x d := by
  rcases h.yld i d G2 H x H' e s r.same y with ⟨rfl, dp⟩ | ⟨p, vs, ds, hp, rfl, rfl, rfl, da⟩
  · exact ⟨G2, Same.refl _, r, dp⟩
  · have sg := same_upd (o := .tup vs) (r.free hp)
    exact ⟨_, sg, r.new hp, .tup (.inl (.inl upd_same)) (DpAll.mo sg _ _ da)⟩
def liftI (K : PySem.W.Frag) (C : DC) (t : DTL) : TI := fun σ H R => ∃ G ρ, Rel K C G ρ σ H ∧ t ρ fun items ρ' => ∀ J G' H', Same G G' → Rel K C G' ρ' σ H' → Wk K G' J items → R J H'
structure DI (X : Cx) (tg iter : Expr) (t : DTL) : Prop where
  run : ∀ C, PI X tg iter (liftI X.K C t)
  mono : ∀ ρ Q Q', (∀ d ρ', Q d ρ' → Q' d ρ') → t ρ Q → t ρ Q'
theorem PI.imp {t t0 : TI} (h : PI X tg iter t0) (k : ∀ σ H Q, t σ H Q → t0 σ H Q) : PI X tg iter t := ⟨fun pins s σ H Q I hw => h.run pins s σ H Q I (k _ _ _ hw)⟩
theorem goI {t : DTL} (m : ∀ ρ Q Q', (∀ d ρ', Q d ρ' → Q' d ρ') → t ρ Q → t ρ Q') {K : PySem.W.Frag} {C : DC} {G H : Hp} {ρ : DS} {σ : St} {R : It → Hp → Prop} {P : List PyData → DS → Prop} (r : Rel K C G ρ σ H) (h : t ρ P)
    (k : ∀ d ρ' J G' H', P d ρ' → Same G G' → Rel K C G' ρ' σ H' → Wk K G' J d → R J H') : liftI K C t σ H R := ⟨G, ρ, r, m _ _ _ (fun d ρ' p J G' H' s r' q => k d ρ' J G' H' p s r' q) h⟩
/-- a list or a tuple -/
def iSq (K : PySem.W.Frag) (tl : TE) : TI := fun σ H R => tl σ H fun x H1 => ∃ a, x = .ref a ∧ (((∃ xs, SqL K H1 a xs) ∧ R (Itl K a) H1) ∨ ((∃ xs, SqT K H1 a xs) ∧ R (Itt K a) H1))
theorem pi_sq {l : Expr} {tl : TE} (hl : PE X l tl) : PI X tg l (iSq X.K tl) := by
  refine ⟨fun pins s σ H R I h => ?_⟩
  refine thn (hl.run pins s σ H _ I h) fun v s1 ⟨x, H1, I1, r1, q1⟩ => ?_
  obtain ⟨a, e, q1⟩ := q1
  subst e
  cases r1
  rcases q1 with ⟨⟨xs, hq⟩, q⟩ | ⟨⟨xs, hq⟩, q⟩
  · obtain ⟨its, rv, p, hz⟩ := I1.list hq
    refine wpAny_pyIter_list p.isList ?_
    refine ⟨s1.heap.objs.size, [s1.heap.objs.size], _, _, H1, rfl, I1.kept (t' := s1.toks) fun b o e => Heap.get?_push_of_some _ e, turn_list a _, ⟨_, Heap.get?_push_size _ rfl, rfl, rfl⟩, fun b hb => ?_, q⟩
    have e : b = s1.heap.objs.size := by simpa using hb
    subst e
    exact I1.fpOk (Nat.le_refl _) (I1.hok.fresh (Nat.le_refl _))
  · obtain ⟨its, rv, p, hz⟩ := I1.tuple hq
    refine wpAny_pyIter_tuple (show s1.heap.IsTuple a its.toArray from p) ?_
    refine ⟨s1.heap.objs.size, [s1.heap.objs.size], _, _, H1, rfl, I1.kept (t' := s1.toks) fun b o e => Heap.get?_push_of_some _ e, turn_tuple a _, ⟨_, Heap.get?_push_size _ rfl, rfl, rfl⟩, fun b hb => ?_, q⟩
    have e : b = s1.heap.objs.size := by simpa using hb
    subst e
    exact I1.fpOk (Nat.le_refl _) (I1.hok.fresh (Nat.le_refl _))
end
end DL

namespace DL
open PySem L2

section
variable {X : Cx} {e a b c tg iter elt : Expr} {es ifs : List Expr} {st : Stmt} {sts body : List Stmt} {pos pos' : Pos}
/-! ## sources -/
theorem wk_list {K : PySem.W.Frag} {G : Hp} {a : Addr} {vs : List V} {ds : List PyData} (h : SqL K G a vs) (hd : DpAll K G vs ds) : Wk K G (Itl K a) ds where
  go i d H e s := by
    obtain ⟨v, e1, _⟩ := DpAll.get hd e
    exact ⟨vs, v, s.seq h, e1⟩
  yld i d G2 H x H' e s s2 y := by
    obtain ⟨rfl, y⟩ := y
    obtain ⟨d', e1, dp⟩ := DpAll.get' hd (y vs ((s.trans s2).seq h))
    rw [e] at e1
    cases e1
    exact .inl ⟨rfl, Dp.mo s _ _ dp⟩
  stop i H e s := ⟨vs, s.seq h, by rw [DpAll.len hd]; exact e⟩
theorem wk_tup {K : PySem.W.Frag} {G : Hp} {a : Addr} {vs : List V} {ds : List PyData} (h : SqT K G a vs) (hd : DpAll K G vs ds) : Wk K G (Itt K a) ds where
  go i d H e s := by
    obtain ⟨v, e1, _⟩ := DpAll.get hd e
    exact ⟨vs, v, sameT s h, e1⟩
  yld i d G2 H x H' e s s2 y := by
    obtain ⟨rfl, y⟩ := y
    obtain ⟨d', e1, dp⟩ := DpAll.get' hd (y vs (sameT (s.trans s2) h))
    rw [e] at e1
    cases e1
    exact .inl ⟨rfl, Dp.mo s _ _ dp⟩
  stop i H e s := ⟨vs, sameT s h, by rw [DpAll.len hd]; exact e⟩
/-- a list or a tuple that stands -/
def iE (t : DTE) : DTL := fun ρ Q => t ρ fun d ρ' => match d with
  | .list ds => Q ds ρ'
  | .tuple ds => Q ds ρ'
  | _ => False
theorem di_e {t : DTE} (h : DE X iter t) : DI X tg iter (iE t) where
  run C := PI.imp (pi_sq (h.run C)) fun σ H R ⟨G, ρ, r, q⟩ => goE h.mono r q fun d ρ' v G' H' p s r' dp => by
    (try dsimp only at p)
    split at p
    · cases dp with
      | lst hs ha => exact ⟨_, rfl, .inl ⟨⟨_, r'.same.seq hs⟩, p _ G' H' s r' (wk_list hs ha)⟩⟩
    · cases dp with
      | tup hs ha => exact ⟨_, rfl, .inr ⟨⟨_, sameT r'.same hs⟩, p _ G' H' s r' (wk_tup hs ha)⟩⟩
    · exact p.elim
  mono ρ Q Q' k q := h.mono _ _ _ (fun d ρ' p => by
    (try dsimp only at p); (try dsimp only)
    split
    · exact k _ _ p
    · exact k _ _ p
    · rename_i h1 h2
      split at p
      · exact (h1 _ rfl).elim
      · exact (h2 _ rfl).elim
      · exact p) q
/-- the ints of a range -/
def rngD (lo : Int) (n : Nat) : List PyData := (List.range n).map fun (i : Nat) => PyData.int (lo + i)
theorem rngD_len (lo : Int) (n : Nat) : (rngD lo n).length = n := by unfold rngD; rw [List.length_map, List.length_range]
theorem rngD_get {lo : Int} {n i : Nat} (h : i < n) : (rngD lo n)[i]? = some (.int (lo + i)) := by
  unfold rngD
  rw [List.getElem?_map, List.getElem?_range h]
  rfl
theorem wk_rng {K : PySem.W.Frag} {G : Hp} (lo : Int) (n : Nat) : Wk K G (Itr lo n) (rngD lo n) where
  go i d H e s := by
    have := (List.getElem?_eq_some_iff.mp e).1
    rw [rngD_len] at this
    exact this
  yld i d G2 H x H' e s s2 y := by
    obtain ⟨rfl, rfl⟩ := y
    have := (List.getElem?_eq_some_iff.mp e).1
    rw [rngD_len] at this
    rw [rngD_get this] at e
    cases e
    exact .inl ⟨rfl, .int _⟩
  stop i H e s := by
    rw [rngD_len] at e
    exact e
def iR1 (t : DTL) : DTL := fun ρ Q => t ρ fun ds ρ' => match ds with
  | [.int j] => -(2 ^ 62) ≤ j ∧ j < 2 ^ 62 ∧ Q (rngD 0 j.toNat) ρ'
  | _ => False
theorem di_r1 {t : DTL} {p : Pos} (hg : Gl X "range") (hm : X.mg "range" = none) (h : DA X [a] t) (hs : starEach [a] X.env = [(false, eval a X.env)] := by rfl) : DI X tg (.Call (.Name "range" p) [a] [] pos) (iR1 t) where
  run C := PI.imp (pi_range1 hg hm (h.run C) hs) fun σ H R ⟨G, ρ, r, q⟩ => goA h.mono r q fun ds ρ' vs G' H' p s r' dp => by
    (try dsimp only at p)
    split at p
    · cases dp with
      | cons d1 d2 =>
        cases d1
        cases d2
        exact ⟨_, rfl, p.1, p.2.1, p.2.2 _ G' H' s r' (wk_rng _ _)⟩
    · exact p.elim
  mono ρ Q Q' k q := h.mono _ _ _ (fun d ρ' p => by
    (try dsimp only at p); (try dsimp only)
    split at p
    · exact ⟨p.1, p.2.1, k _ _ p.2.2⟩
    · exact p.elim) q
def iR2 (t : DTL) : DTL := fun ρ Q => t ρ fun ds ρ' => match ds with
  | [.int i, .int j] => (-(2 ^ 62) ≤ i ∧ i < 2 ^ 62 ∧ -(2 ^ 62) ≤ j ∧ j < 2 ^ 62) ∧ Q (rngD i (j - i).toNat) ρ'
  | _ => False
theorem di_r2 {t : DTL} {p : Pos} (hg : Gl X "range") (hm : X.mg "range" = none) (h : DA X [a, b] t) (hs : starEach [a, b] X.env = [(false, eval a X.env), (false, eval b X.env)] := by rfl) (hs2 : starEach [b] X.env = [(false, eval b X.env)] := by rfl) : DI X tg (.Call (.Name "range" p) [a, b] [] pos) (iR2 t) where
  run C := PI.imp (pi_range2 hg hm (h.run C) hs hs2) fun σ H R ⟨G, ρ, r, q⟩ => goA h.mono r q fun ds ρ' vs G' H' p s r' dp => by
    (try dsimp only at p)
    split at p
    · cases dp with
      | cons d1 d2 =>
        cases d1
        cases d2 with
        | cons d2 d3 =>
          cases d2
          cases d3
          exact ⟨_, _, rfl, p.1, p.2 _ G' H' s r' (wk_rng _ _)⟩
    · exact p.elim
  mono ρ Q Q' k q := h.mono _ _ _ (fun d ρ' p => by
    (try dsimp only at p); (try dsimp only)
    split at p
    · exact ⟨p.1, k _ _ p.2⟩
    · exact p.elim) q
/-! ## for -/
def foD (g : DTG) (tb : DTS) (DD : DEn) : List PyData → DS → Prop
  | [], ρ => DD.nx ρ
  | x :: xs, ρ => g x ρ fun ρ' => tb { nx := foD g tb DD xs, rt := DD.rt, bk := DD.nx, ct := foD g tb DD xs } ρ'
@[irreducible] def foX (g : DTG) (tb : DTS) (DD : DEn) (items : List PyData) (ρ : DS) : Prop := foD g tb DD items ρ
theorem fo_in {g : DTG} {tb : DTS} {DD : DEn} {items : List PyData} {ρ : DS} (h : foD g tb DD items ρ) : foX g tb DD items ρ := by unfold foX; exact h
theorem fo_out {g : DTG} {tb : DTS} {DD : DEn} {items : List PyData} {ρ : DS} (h : foX g tb DD items ρ) : foD g tb DD items ρ := by unfold foX at h; exact h
def sFo (ti : DTL) (g : DTG) (tb : DTS) : DTS := fun DD ρ => ti ρ fun items ρ' => foX g tb DD items ρ'
theorem foD_mono {g : DTG} {tb : DTS} {DD DD' : DEn} (l : DEn.le DD DD') (hg : ∀ d ρ Q Q', (∀ ρ', Q ρ' → Q' ρ') → g d ρ Q → g d ρ Q') (hb : ∀ DD DD' ρ, DEn.le DD DD' → tb DD ρ → tb DD' ρ) : ∀ (xs : List PyData) (ρ : DS), foD g tb DD xs ρ → foD g tb DD' xs ρ
  | [], ρ, h => l.nx ρ h
  | x :: xs, ρ, h => hg _ _ _ _ (fun ρ' p => hb { nx := foD g tb DD xs, rt := DD.rt, bk := DD.nx, ct := foD g tb DD xs } { nx := foD g tb DD' xs, rt := DD'.rt, bk := DD'.nx, ct := foD g tb DD' xs } ρ' ⟨fun ρ2 q => foD_mono l hg hb xs ρ2 q, l.rt, l.nx, fun ρ2 q => foD_mono l hg hb xs ρ2 q⟩ p) h
theorem drop_at {α : Type} {l : List α} {i : Nat} {d : α} (e : l[i]? = some d) : l.drop i = d :: l.drop (i + 1) := by
  obtain ⟨h, e2⟩ := List.getElem?_eq_some_iff.mp e
  rw [← e2]
  exact List.drop_eq_getElem_cons h
theorem ds_for {ti : DTL} {g : DTG} {tb : DTS} {ws : List Nat} (hp : PassesOwn (model X.prog X.w) X.A X.env X.xe) (hc : X.calm = true) (hi : DI X tg iter ti) (hg : DG X tg ws g) (hb : DSs X body tb)
    (hs : ∀ x, foldedSetIterable iter X.env x = pure x := by intro _; rfl) : DSt X (.For tg iter body [] pos) (sFo ti g tb) where
  run C := PS.imp (ps_for hp hc (hi.run C) (hg.run C) (hb.run C) hs) fun D σ H ⟨G, ρ, DD, r, k, q⟩ => goI hi.mono r q fun items ρ' J G' H' p s r' wk => by
    have p := fo_out p
    refine ⟨fun i m σ H => ∃ G2 ρ, Same G' G2 ∧ Rel X.K C G2 ρ σ H ∧ EnOk X.K C G2 DD D ∧ m = items.length - i ∧ i ≤ items.length ∧ foD g tb DD (items.drop i) ρ, ⟨items.length, G', ρ', Same.refl _, r', k.mo s, by omega, Nat.zero_le _, by rw [List.drop_zero]; exact p⟩, ?_⟩
    rintro i m σ H ⟨G2, ρ, s2, r2, k2, rfl, hi, q2⟩
    by_cases hlt : i < items.length
    · obtain ⟨d, ed⟩ : ∃ d, items[i]? = some d := ⟨_, List.getElem?_eq_getElem hlt⟩
      rw [drop_at ed] at q2
      refine .inr ⟨wk.go i d H ed (s2.trans r2.same), fun σ H => ∃ G3 ρ, Same G' G3 ∧ Rel X.K C G3 ρ σ H ∧ EnOk X.K C G3 DD D ∧ foD g tb DD (items.drop (i + 1)) ρ,
        fun σ' H' ⟨G3, ρ, s3, r3, k3, q3⟩ => ⟨items.length - (i + 1), by omega, G3, ρ, s3, r3, k3, rfl, hlt, q3⟩, fun x H' y => ?_⟩
      obtain ⟨G3, s3, r3, dp⟩ := wk.item s2 r2 ed y
      refine goG hg.mono r3 dp q2 fun ρ4 σ4 G4 H4 p4 _ s4 r4 => ?_
      have k4 := (k2.mo s3).mo s4
      have s5 := (s2.trans s3).trans s4
      exact ⟨G4, ρ4, { nx := foD g tb DD (items.drop (i + 1)), rt := DD.rt, bk := DD.nx, ct := foD g tb DD (items.drop (i + 1)) }, r4, ⟨fun ρ5 σ5 G5 H5 q5 s6 r5 => ⟨G5, ρ5, s5.trans s6, r5, k4.mo s6, q5⟩, k4.rt, k4.nx, fun ρ5 σ5 G5 H5 q5 s6 r5 => ⟨G5, ρ5, s5.trans s6, r5, k4.mo s6, q5⟩⟩, p4⟩
    · have e : i = items.length := by omega
      subst e
      rw [List.drop_length] at q2
      exact .inl ⟨wk.stop _ H (Nat.le_refl _) (s2.trans r2.same), k2.nx ρ σ G2 H q2 (Same.refl _) r2⟩
  mono DD DD' ρ l q := hi.mono _ _ _ (fun items ρ' p => fo_in (foD_mono l hg.mono hb.mono items ρ' (fo_out p))) q
/-- a for by an invariant over the turn's number -/
theorem foD_by {g : DTG} {tb : DTS} {DD : DEn} {items : List PyData} {ρ : DS} (W : Nat → DS → Prop) (hg : ∀ d ρ Q Q', (∀ ρ', Q ρ' → Q' ρ') → g d ρ Q → g d ρ Q') (hb : ∀ DD DD' ρ, DEn.le DD DD' → tb DD ρ → tb DD' ρ) (h0 : W 0 ρ)
    (hs : ∀ i d ρ, items[i]? = some d → W i ρ → g d ρ fun ρ' => tb { nx := W (i + 1), rt := DD.rt, bk := DD.nx, ct := W (i + 1) } ρ') (hd : ∀ ρ, W items.length ρ → DD.nx ρ) : foD g tb DD items ρ := by
  have key : ∀ n i ρ, i + n = items.length → W i ρ → foD g tb DD (items.drop i) ρ := by
    intro n
    induction n with
    | zero =>
      intro i ρ e w
      have e : i = items.length := by omega
      subst e
      rw [List.drop_length]
      exact hd ρ w
    | succ n ih =>
      intro i ρ e w
      have hlt : i < items.length := by omega
      obtain ⟨d, ed⟩ : ∃ d, items[i]? = some d := ⟨_, List.getElem?_eq_getElem hlt⟩
      rw [drop_at ed]
      exact hg _ _ _ _ (fun ρ' p => hb { nx := W (i + 1), rt := DD.rt, bk := DD.nx, ct := W (i + 1) } { nx := foD g tb DD (items.drop (i + 1)), rt := DD.rt, bk := DD.nx, ct := foD g tb DD (items.drop (i + 1)) } ρ'
        ⟨fun ρ2 q => ih (i + 1) ρ2 (by omega) q, fun _ _ q => q, fun _ q => q, fun ρ2 q => ih (i + 1) ρ2 (by omega) q⟩ p) (hs i d ρ ed w)
  have q := key items.length 0 ρ (by omega) h0
  rw [List.drop_zero] at q
  exact q
/-! ## list comprehensions -/
structure DTs (X : Cx) (ifs : List Expr) (t : DTT) : Prop where
  run : ∀ C, PTs X ifs (liftT X.K C t)
  mono : ∀ ρ Q Q', (∀ d ρ', Q d ρ' → Q' d ρ') → t ρ Q → t ρ Q'
theorem PTs.imp {t t0 : TT} (h : PTs X ifs t0) (k : ∀ σ H Q, t σ H Q → t0 σ H Q) : PTs X ifs t := ⟨fun pins s σ H Q I hw => h.run pins s σ H Q I (k _ _ _ hw)⟩
def tYs : DTT := fun ρ Q => Q true ρ
theorem dts_nil : DTs X [] tYs := ⟨fun C => PTs.imp pts_nil fun σ H Q ⟨G, ρ, r, q⟩ => q G H (Same.refl _) r, fun ρ Q Q' k q => k _ _ q⟩
theorem dts_one {t : DTT} (h : DT X c t) : DTs X [c] t := ⟨fun C => pts_one (h.run C), h.mono⟩
def wipeD (ρ : DS) : List Nat → DS
  | [] => ρ
  | v :: vs => (wipeD ρ vs).set v none
def noBo (ρ : DS) (vs : List Nat) : Bool := vs.all fun v => !isBo ρ v
theorem wipeD_bo {ρ : DS} {i : Nat} {ds : List PyData} : ∀ {vs : List Nat}, (wipeD ρ vs)[i]? = some (some (.bo ds)) → ρ[i]? = some (some (.bo ds))
  | [], h => h
  | v :: vs, h => by
    unfold wipeD at h
    by_cases e : v = i
    · subst e
      by_cases hl : v < (wipeD ρ vs).length
      · rw [List.getElem?_set_self hl] at h; cases h
      · rw [List.getElem?_eq_none (by rw [List.length_set]; omega)] at h; cases h
    · rw [List.getElem?_set_ne e] at h
      exact wipeD_bo h
theorem Rel.wiped {K : PySem.W.Frag} {C : DC} {G H : Hp} {ρ : DS} {σ : St} (R : Rel K C G ρ σ H) : ∀ {vs : List Nat}, (∀ v ∈ vs, ∀ ds, ρ[v]? ≠ some (some (.bo ds))) → Rel K C G (wipeD ρ vs) (wipe σ vs) H
  | [], _ => R
  | v :: vs, h => Rel.drop (Rel.wiped R fun u hu => h u (List.mem_cons_of_mem _ hu)) fun ds e => h v List.mem_cons_self ds (wipeD_bo e)
/-- slots that are no lent ones -/
theorem Rel.noBoOf {K : PySem.W.Frag} {C : DC} {G H : Hp} {ρ : DS} {σ : St} (R : Rel K C G ρ σ H) {vs : List Nat} (h : ∀ p ∈ C.β, p.1 ∉ vs) : ∀ v ∈ vs, ∀ ds, ρ[v]? ≠ some (some (.bo ds)) := fun v hv ds e => by
  obtain ⟨_, _, a, ws, _, hb, _⟩ := R.slot v _ e
  exact h _ hb hv
theorem Rel.lentOut {K : PySem.W.Frag} {C : DC} {G H : Hp} {ρ : DS} {σ : St} (R : Rel K C G ρ σ H) {vs : List Nat} (h : noBo ρ vs = true) : ∀ p ∈ C.β, p.1 ∉ vs := fun p hp hv => by
  obtain ⟨_, ds, e⟩ := R.bs p hp
  have q := List.all_eq_true.mp h _ hv
  unfold isBo at q
  rw [e] at q
  cases q
theorem wipe_but {vs ws : List Nat} {σ σ' : St} (hw : ∀ i ∈ ws, i ∈ vs) (h : But ws (wipe σ vs) σ') : wipe σ' vs = wipe σ vs := by
  have hl : σ'.length = σ.length := h.1.trans (wipe_length _ _)
  apply List.ext_getElem?
  intro i
  have wn : ∀ (σ : St) (vs : List Nat), i ∈ vs → (wipe σ vs)[i]? = if i < σ.length then some none else none := by
    intro σ vs
    induction vs with
    | nil => intro h; cases h
    | cons v vs ih =>
      intro h
      unfold wipe
      by_cases e : v = i
      · subst e
        by_cases hl : v < σ.length
        · rw [List.getElem?_set_self (by rw [wipe_length]; exact hl), if_pos hl]
        · rw [List.getElem?_eq_none (by rw [List.length_set, wipe_length]; omega), if_neg hl]
      · rw [List.getElem?_set_ne e]
        rcases List.mem_cons.mp h with h | h
        · exact absurd h.symm e
        · exact ih h
  by_cases hi : i ∈ vs
  · rw [wn σ' vs hi, wn σ vs hi, hl]
  · rw [wipe_out hi, h.2 i fun z => hi (hw i z)]
theorem wipeD_len (ρ : DS) : ∀ vs : List Nat, (wipeD ρ vs).length = ρ.length
  | [] => rfl
  | v :: vs => by unfold wipeD; rw [List.length_set, wipeD_len ρ vs]
def cmD (g : DTG) (tt : DTT) (te : DTE) (vs : List Nat) (Q : List PyData → DS → Prop) : List PyData → List PyData → DS → Prop
  | [], acc, ρ => Q acc ρ
  | x :: xs, acc, ρ => g x ρ fun ρ1 => tt ρ1 fun b ρ2 => if b = true then te ρ2 fun y ρ3 => cmD g tt te vs Q xs (acc ++ [y]) (wipeD ρ3 vs) else cmD g tt te vs Q xs acc (wipeD ρ2 vs)
@[irreducible] def cmX (g : DTG) (tt : DTT) (te : DTE) (vs : List Nat) (Q : List PyData → DS → Prop) (items acc : List PyData) (ρ : DS) : Prop := cmD g tt te vs Q items acc ρ
theorem cm_in {g : DTG} {tt : DTT} {te : DTE} {vs : List Nat} {Q : List PyData → DS → Prop} {items acc : List PyData} {ρ : DS} (h : cmD g tt te vs Q items acc ρ) : cmX g tt te vs Q items acc ρ := by unfold cmX; exact h
theorem cm_out {g : DTG} {tt : DTT} {te : DTE} {vs : List Nat} {Q : List PyData → DS → Prop} {items acc : List PyData} {ρ : DS} (h : cmX g tt te vs Q items acc ρ) : cmD g tt te vs Q items acc ρ := by unfold cmX at h; exact h
/-- the block's own slots are as they were ahead (where they held shared data) -/
def backD (ρ ρe : DS) : List Nat → DS
  | [] => ρe
  | v :: vs => (backD ρ ρe vs).set v (match ρ[v]? with
    | some (some (.sh d)) => some (.sh d)
    | _ => none)
def fLc (ti : DTL) (g : DTG) (tt : DTT) (te : DTE) (vs : List Nat) : DTL := fun ρ Q => ti ρ fun items ρ' => items.length ≤ sizeLine ∧ noBo ρ' vs = true ∧ cmX g tt te vs (fun out ρe => Q out (backD ρ' ρe vs)) items [] (wipeD ρ' vs)
theorem cmD_mono {g : DTG} {tt : DTT} {te : DTE} {vs : List Nat} {Q Q' : List PyData → DS → Prop} (k : ∀ d ρ, Q d ρ → Q' d ρ) (hg : ∀ d ρ Q Q', (∀ ρ', Q ρ' → Q' ρ') → g d ρ Q → g d ρ Q') (ht : ∀ ρ Q Q', (∀ d ρ', Q d ρ' → Q' d ρ') → tt ρ Q → tt ρ Q')
    (he : ∀ ρ Q Q', (∀ d ρ', Q d ρ' → Q' d ρ') → te ρ Q → te ρ Q') : ∀ (xs acc : List PyData) (ρ : DS), cmD g tt te vs Q xs acc ρ → cmD g tt te vs Q' xs acc ρ
  | [], acc, ρ, h => k _ _ h
  | x :: xs, acc, ρ, h => hg _ _ _ _ (fun ρ1 p => ht _ _ _ (fun b ρ2 p2 => by
    cases b with
    | true => exact he _ _ _ (fun y ρ3 p3 => cmD_mono k hg ht he xs _ _ p3) p2
    | false => exact cmD_mono k hg ht he xs _ _ p2) p) h
/-- going back to the slots ahead of the block -/
theorem Rel.back {K : PySem.W.Frag} {C : DC} {G0 G H0 H : Hp} {ρ0 ρ : DS} {σ : St} (R0 : Rel K C G0 ρ0 σ H0) (s : Same G0 G) : ∀ {vs : List Nat}, (∀ p ∈ C.β, p.1 ∉ vs) → Rel K C G ρ (wipe σ vs) H → ρ.length = σ.length → Rel K C G (backD ρ0 ρ vs) σ H
  | vs, hv, R, hl => by
    -- slot by slot
    have bk : ∀ (us : List Nat) (i : Nat), i ∈ us → i < ρ.length → (backD ρ0 ρ us)[i]? = some (match ρ0[i]? with
        | some (some (.sh d)) => some (.sh d)
        | _ => none) := by
      have ln : ∀ us : List Nat, (backD ρ0 ρ us).length = ρ.length := by
        intro us
        induction us with
        | nil => rfl
        | cons u us ih => unfold backD; rw [List.length_set, ih]
      intro us
      induction us with
      | nil => intro i h; cases h
      | cons u us ih =>
        intro i h hlt
        unfold backD
        by_cases e : u = i
        · subst e
          rw [List.getElem?_set_self (by rw [ln]; exact hlt)]
        · rw [List.getElem?_set_ne e]
          rcases List.mem_cons.mp h with h | h
          · exact absurd h.symm e
          · exact ih i h hlt
    have bo : ∀ (us : List Nat) (i : Nat), i ∉ us → (backD ρ0 ρ us)[i]? = ρ[i]? := by
      intro us
      induction us with
      | nil => intro i _; rfl
      | cons u us ih =>
        intro i h
        unfold backD
        rw [List.getElem?_set_ne fun e => h (by rw [e]; exact List.mem_cons_self)]
        exact ih i fun z => h (List.mem_cons_of_mem _ z)
    have ln : (backD ρ0 ρ vs).length = ρ.length := by
      have : ∀ us : List Nat, (backD ρ0 ρ us).length = ρ.length := by
        intro us
        induction us with
        | nil => rfl
        | cons u us ih => unfold backD; rw [List.length_set, ih]
      exact this vs
    have inn : ∀ {i : Nat} {sl : Sl}, (backD ρ0 ρ vs)[i]? = some (some sl) → i < ρ.length := fun {i sl} e => by
      have := (List.getElem?_eq_some_iff.mp e).1
      rw [ln] at this
      exact this
    have muq : ∀ {i : Nat} {sl : Sl}, (backD ρ0 ρ vs)[i]? = some (some sl) → sl.mu = true → i ∉ vs ∧ ρ[i]? = some (some sl) := fun {i sl} e hm => by
      by_cases hi : i ∈ vs
      · rw [bk vs i hi (inn e)] at e
        split at e
        · cases e; cases hm
        · cases e
      · rw [bo vs i hi] at e
        exact ⟨hi, e⟩
    refine ⟨R.same, R.nw, R.fr, R.be, fun p hp => ?_, by rw [ln, hl], fun i sl e => ?_, fun i j si sj a ne ei ej mi mj qi => ?_, fun z hz => ?_⟩
    · obtain ⟨q1, ds, q2⟩ := R.bs p hp
      rw [wipe_out (hv p hp)] at q1
      exact ⟨q1, ds, by rw [bo vs _ (hv p hp)]; exact q2⟩
    · by_cases hi : i ∈ vs
      · rw [bk vs i hi (inn e)] at e
        split at e
        · rename_i d e0
          cases e
          obtain ⟨v, e1, k⟩ := R0.slot i _ e0
          exact ⟨v, e1, Dp.mo s d v k⟩
        · cases e
      · rw [bo vs i hi] at e
        obtain ⟨v, e1, k⟩ := R.slot i sl e
        rw [wipe_out hi] at e1
        exact ⟨v, e1, k⟩
    · obtain ⟨hi, ei⟩ := muq ei mi
      obtain ⟨hj, ej⟩ := muq ej mj
      have q := R.sep i j si sj a ne ei ej mi mj (by rw [wipe_out hi]; exact qi)
      rw [wipe_out hj] at q
      exact q
    · obtain ⟨q1, q2, q3, q4⟩ := R.prs z hz
      refine ⟨q1, q2, q3, fun j sl ej mj => ?_⟩
      obtain ⟨hj, ej⟩ := muq ej mj
      have q := q4 j sl ej mj
      rw [wipe_out hj] at q
      exact q
theorem backD_len (ρ0 ρ : DS) : ∀ vs : List Nat, (backD ρ0 ρ vs).length = ρ.length
  | [] => rfl
  | v :: vs => by unfold backD; rw [List.length_set, backD_len ρ0 ρ vs]
theorem backD_mu {ρ0 ρ : DS} {i : Nat} {sl : Sl} (hm : sl.mu = true) : ∀ {vs : List Nat}, (backD ρ0 ρ vs)[i]? = some (some sl) → i ∉ vs ∧ ρ[i]? = some (some sl)
  | [], e => ⟨by simp, e⟩
  | v :: vs, e => by
    unfold backD at e
    by_cases h : v = i
    · subst h
      by_cases hl : v < (backD ρ0 ρ vs).length
      · rw [List.getElem?_set_self hl] at e
        split at e
        · cases e; cases hm
        · cases e
      · rw [List.getElem?_eq_none (by rw [List.length_set]; omega)] at e; cases e
    · rw [List.getElem?_set_ne h] at e
      obtain ⟨h1, h2⟩ := backD_mu hm e
      exact ⟨fun z => (List.mem_cons.mp z).elim (fun z => h z.symm) h1, h2⟩
theorem backD_fresh {C : DC} {G H : Hp} {ρ0 ρ : DS} {σ : St} {vs : List Nat} {a : Addr} {us : List V} (f : Fresh C G ρ (wipe σ vs) H a us) (_hl : ρ.length = σ.length) {j : Nat} {sl : Sl} (ej : (backD ρ0 ρ vs)[j]? = some (some sl)) (mj : sl.mu = true) : σ[j]? ≠ some (some (.ref a)) := by
  obtain ⟨h1, h2⟩ := backD_mu mj ej
  have q := f.ns j sl h2 mj
  rw [wipe_out h1] at q
  exact q
/-- the reading of a comprehension, for a continuation that takes a fresh list -/
theorem lc_run {ti : DTL} {g : DTG} {tt : DTT} {te : DTE} {ws vs : List Nat} {C : DC} {K : PySem.W.Frag} (hti : ∀ ρ Q Q', (∀ d ρ', Q d ρ' → Q' d ρ') → ti ρ Q → ti ρ Q')
    (hg : ∀ d ρ Q Q', (∀ ρ', Q ρ' → Q' ρ') → g d ρ Q → g d ρ Q') (ht : ∀ ρ Q Q', (∀ d ρ', Q d ρ' → Q' d ρ') → tt ρ Q → tt ρ Q') (he : ∀ ρ Q Q', (∀ d ρ', Q d ρ' → Q' d ρ') → te ρ Q → te ρ Q') (hw : ∀ i ∈ ws, i ∈ vs)
    {σ : St} {H : Hp} {Q : VK} {G : Hp} {ρ : DS} {P : List PyData → DS → Prop} (rl : Rel K C G ρ σ H) (q : fLc ti g tt te vs ρ P)
    (k : ∀ ds ρ' a us G' H', P ds ρ' → Same G G' → Rel K C G' ρ' σ H' → Fresh C G' ρ' σ H' a us → DpAll K G' us ds → Q (.ref a) H') :
    tLc (fun σ H R => liftI K C ti σ H R) (fun v σ H R => ∃ C', liftG K C' ws g v σ H R) (fun σ H R => ∃ C', liftT K C' tt σ H R) (fun σ H R => ∃ C', liftE K C' te σ H R) vs σ H Q := by
  refine goI hti rl q fun items ρ' J G' H' p s r' wk => ?_
  obtain ⟨hz, hnb, p⟩ := p
  have p := cm_out p
  intro D hD
  have hβ := r'.lentOut hnb
  -- the state of a turn
  refine ⟨fun i m H => ∃ G2 ρ2 us acc, Same G' G2 ∧ Rel K { C with pr := (D, us) :: C.pr } G2 ρ2 (wipe σ vs) H ∧ DpAll K G2 us acc ∧ acc.length ≤ i ∧ m = items.length - i ∧ i ≤ items.length ∧ ρ2.length = σ.length ∧
      cmD g tt te vs (fun out ρe => P out (backD ρ' ρe vs)) (items.drop i) acc ρ2, ?_, ?_⟩
  · have rw0 := Rel.wiped r' (r'.noBoOf hβ)
    have f0 := rw0.newF (vs := []) hD
    exact ⟨items.length, G', wipeD ρ' vs, [], [], Same.refl _, (rw0.newH hD).prPush f0, .nil, Nat.zero_le _, by omega, Nat.zero_le _, by rw [← rw0.len, wipe_length], by rw [List.drop_zero]; exact p⟩
  · rintro i m H ⟨G2, ρ2, us, acc, s2, r2, da, hacc, rfl, hi, hl, q2⟩
    have hnp : ∀ z ∈ C.pr, z.1 ≠ D := fun z hz => ne_of_none (r'.prs z hz).1 hD
    by_cases hlt : i < items.length
    · obtain ⟨d, ed⟩ : ∃ d, items[i]? = some d := ⟨_, List.getElem?_eq_getElem hlt⟩
      rw [drop_at ed] at q2
      refine .inr ⟨wk.go i d H ed (s2.trans r2.same), fun H => ∃ G2 ρ2 us acc, Same G' G2 ∧ Rel K { C with pr := (D, us) :: C.pr } G2 ρ2 (wipe σ vs) H ∧ DpAll K G2 us acc ∧ acc.length ≤ i + 1 ∧ ρ2.length = σ.length ∧
        cmD g tt te vs (fun out ρe => P out (backD ρ' ρe vs)) (items.drop (i + 1)) acc ρ2, fun H' ⟨G3, ρ3, us3, acc3, a1, a2, a3, a4, a5, a6⟩ => ⟨items.length - (i + 1), by omega, G3, ρ3, us3, acc3, a1, a2, a3, a4, rfl, hlt, a5, a6⟩, fun x H' y => ?_⟩
      obtain ⟨G3, s3, r3, dp⟩ := wk.item s2 r2 ed y
      refine ⟨_, goG hg r3 dp q2 fun ρ4 σ4 G4 H4 p4 bu s4 r4 => ?_⟩
      have hl4 : σ4.length = σ.length := bu.1.trans (wipe_length _ _)
      have hwp : wipe σ4 vs = wipe σ vs := wipe_but hw bu
      refine ⟨hwp, _, goT ht r4 p4 fun b ρ5 G5 H5 p5 s5 r5 => ?_⟩
      have s05 := ((s2.trans s3).trans s4).trans s5
      have hl5 : ρ5.length = σ.length := by rw [← r5.len, hl4]
      cases b with
      | false =>
        refine ⟨G5, wipeD ρ5 vs, us, acc, s05, ?_, DpAll.mo ((s3.trans s4).trans s5) _ _ da, Nat.le_succ_of_le hacc, ?_, p5⟩
        · have r6 := Rel.wiped r5 (r5.noBoOf (show ∀ p ∈ C.β, p.1 ∉ vs from hβ))
          rw [hwp] at r6
          exact r6
        · rw [wipeD_len, hl5]
      | true =>
        refine ⟨_, goE he r5 p5 fun y' ρ6 v6 G6 H6 p6 s6 r6 d6 => ?_⟩
        have s06 := s05.trans s6
        obtain ⟨q1, q2, q3, q4⟩ := r6.prs (D, us) List.mem_cons_self
        have hlen : us.length < sizeLine := by rw [DpAll.len da]; omega
        refine ⟨us, q1, hlen, G6, wipeD ρ6 vs, us ++ [v6], acc ++ [y'], s06, ?_, DpAll.app (DpAll.mo (((s3.trans s4).trans s5).trans s6) _ _ da) (.cons d6 .nil), by rw [List.length_append, List.length_singleton]; omega, ?_, p6⟩
        · have r7 := Rel.prGrow (C := C) (vs' := us ++ [v6]) r6 hnp
          have r8 := Rel.wiped r7 (r7.noBoOf (show ∀ p ∈ C.β, p.1 ∉ vs from hβ))
          rw [hwp] at r8
          exact r8
        · rw [wipeD_len, ← r6.len, hl4]
    · have e : i = items.length := by omega
      subst e
      rw [List.drop_length] at q2
      obtain ⟨r3, f3⟩ := Rel.prPop (C := C) r2 hnp
      have r4 := Rel.back r' s2 hβ r3 hl
      refine .inl ⟨wk.stop _ H (Nat.le_refl _) (s2.trans r2.same), k acc _ D us G2 H q2 (s.trans s2) r4 ⟨f3.at_, f3.g, f3.h0, fun j sl ej mj => ?_, f3.np⟩ da⟩
      exact backD_fresh f3 hl ej mj
/-- as a list of its own; as shared data by de_f -/
theorem df_lc {ti : DTL} {g : DTG} {tt : DTT} {te : DTE} {ws : List Nat} {scope : Scope} {own : List (Str × Nat)} (hc : X.calm = true) (hN : X.N.Nodup) (hi : DI X tg iter ti) (ok : blkC X.N X.env.scope scope own = true) (hw : ∀ i ∈ ws, i ∈ own.map (·.2))
    (hg : ∀ (s : Shared) (H : Hp) (C : Addr) (cl : List (Str × Addr)) (fp : List Addr), DG (X.blk s H scope (compEnvC scope cl C X.env) fp) tg ws g) (ht : ∀ (s : Shared) (H : Hp) (C : Addr) (cl : List (Str × Addr)) (fp : List Addr), DTs (X.blk s H scope (compEnvC scope cl C X.env) fp) ifs tt)
    (he : ∀ (s : Shared) (H : Hp) (C : Addr) (cl : List (Str × Addr)) (fp : List Addr), DE (X.blk s H scope (compEnvC scope cl C X.env) fp) elt te) (hs : ∀ x, foldedSetIterable iter X.env x = pure x := by intro _; rfl) :
    DF X (.ListComp elt [⟨tg, iter, ifs, 0⟩] scope pos) (fLc ti g tt te (own.map (·.2))) where
  run C := PE.imp (pe_lc hc hN (hi.run C) (blkOk_by ok) (fun s H c cl fp => ⟨fun pins s2 σ H2 v u Q I r ⟨C', h⟩ => ((hg s H c cl fp).run C').run pins s2 σ H2 v u Q I r h⟩) (fun s H c cl fp => ⟨fun pins s2 σ H2 Q I ⟨C', h⟩ => ((ht s H c cl fp).run C').run pins s2 σ H2 Q I h⟩)
      (fun s H c cl fp => ⟨fun pins s2 σ H2 Q I ⟨C', h⟩ => ((he s H c cl fp).run C').run pins s2 σ H2 Q I h⟩) hs) fun σ H Q ⟨G, ρ, r, q⟩ =>
    lc_run hi.mono (hg X.s_0 H 0 [] []).mono (ht X.s_0 H 0 [] []).mono (he X.s_0 H 0 [] []).mono hw r q fun ds ρ' a us G' H' p s r' f d => p a us G' H' s r' f d
  mono ρ Q Q' k q := hi.mono _ _ _ (fun items ρ' p => ⟨p.1, p.2.1, cm_in (cmD_mono (fun d ρ2 => k _ _) (hg X.s_0 (fun _ => none) 0 [] []).mono (ht X.s_0 (fun _ => none) 0 [] []).mono (he X.s_0 (fun _ => none) 0 [] []).mono _ _ _ (cm_out p.2.2))⟩) q
end
end DL

namespace DL
open PySem L2

section
variable {X : Cx} {e a b c tg iter elt : Expr} {es ifs : List Expr} {st : Stmt} {sts body : List Stmt} {pos pos' : Pos}
theorem ds_setLc (i : Nat) {y : Str} {py spos : Pos} {ti : DTL} {g : DTG} {tt : DTT} {te : DTE} {ws : List Nat} {scope : Scope} {own : List (Str × Nat)} (hc : X.calm = true) (hN : X.N.Nodup) (hi : DI X tg iter ti) (ok : blkC X.N X.env.scope scope own = true) (hw : ∀ i ∈ ws, i ∈ own.map (·.2))
    (hg : ∀ (s : Shared) (H : Hp) (C : Addr) (cl : List (Str × Addr)) (fp : List Addr), DG (X.blk s H scope (compEnvC scope cl C X.env) fp) tg ws g) (ht : ∀ (s : Shared) (H : Hp) (C : Addr) (cl : List (Str × Addr)) (fp : List Addr), DTs (X.blk s H scope (compEnvC scope cl C X.env) fp) ifs tt)
    (he : ∀ (s : Shared) (H : Hp) (C : Addr) (cl : List (Str × Addr)) (fp : List Addr), DE (X.blk s H scope (compEnvC scope cl C X.env) fp) elt te)
    (hy : X.N[i]? = some y := by rfl) (hyl : X.env.scope.names.lookup y = some .local := by rfl) (hsw : swapsWith (.ListComp elt [⟨tg, iter, ifs, 0⟩] scope pos) (some (.Name y py)) spos.line X.env = pure true := by exact sw_true rfl rfl rfl (by decide +kernel))
    (hs : ∀ x, foldedSetIterable iter X.env x = pure x := by intro _; rfl) : DSt X (.Assign [.Name y py] (.ListComp elt [⟨tg, iter, ifs, 0⟩] scope pos) spos) (sAs (eF (fLc ti g tt te (own.map (·.2)))) (gN i)) where
  run C := PS.imp (ps_setLc (i := i) hc hN hy hyl hsw (hi.run C) (blkOk_by ok) (fun s H c cl fp => ⟨fun pins s2 σ H2 v u Q I r ⟨C', h⟩ => ((hg s H c cl fp).run C').run pins s2 σ H2 v u Q I r h⟩) (fun s H c cl fp => ⟨fun pins s2 σ H2 Q I ⟨C', h⟩ => ((ht s H c cl fp).run C').run pins s2 σ H2 Q I h⟩)
      (fun s H c cl fp => ⟨fun pins s2 σ H2 Q I ⟨C', h⟩ => ((he s H c cl fp).run C').run pins s2 σ H2 Q I h⟩) hs) fun D σ H ⟨G, ρ, DD, r, k, q⟩ =>
    lc_run hi.mono (hg X.s_0 H 0 [] []).mono (ht X.s_0 H 0 [] []).mono (he X.s_0 H 0 [] []).mono hw r q fun ds ρ' a us G' H' p s r' f d => by
      obtain ⟨s2, r2⟩ := r'.freeze f
      exact k.nx _ _ _ _ p.2 (s.trans s2) (r2.setSh (isBo_no p.1) (.lst (.inl (.inl upd_same)) (DpAll.mo s2 _ _ d)))
  mono DD DD' ρ l q := hi.mono _ _ _ (fun items ρ' p => ⟨p.1, p.2.1, cm_in (cmD_mono (fun d ρ2 q => ⟨q.1, l.nx _ q.2⟩) (hg X.s_0 (fun _ => none) 0 [] []).mono (ht X.s_0 (fun _ => none) 0 [] []).mono (he X.s_0 (fun _ => none) 0 [] []).mono _ _ _ (cm_out p.2.2))⟩) q
theorem ds_ownLc (i : Nat) {y : Str} {py spos : Pos} {ti : DTL} {g : DTG} {tt : DTT} {te : DTE} {ws : List Nat} {scope : Scope} {own : List (Str × Nat)} (hc : X.calm = true) (hN : X.N.Nodup) (hi : DI X tg iter ti) (ok : blkC X.N X.env.scope scope own = true) (hw : ∀ i ∈ ws, i ∈ own.map (·.2))
    (hg : ∀ (s : Shared) (H : Hp) (C : Addr) (cl : List (Str × Addr)) (fp : List Addr), DG (X.blk s H scope (compEnvC scope cl C X.env) fp) tg ws g) (ht : ∀ (s : Shared) (H : Hp) (C : Addr) (cl : List (Str × Addr)) (fp : List Addr), DTs (X.blk s H scope (compEnvC scope cl C X.env) fp) ifs tt)
    (he : ∀ (s : Shared) (H : Hp) (C : Addr) (cl : List (Str × Addr)) (fp : List Addr), DE (X.blk s H scope (compEnvC scope cl C X.env) fp) elt te)
    (hy : X.N[i]? = some y := by rfl) (hyl : X.env.scope.names.lookup y = some .local := by rfl) (hsw : swapsWith (.ListComp elt [⟨tg, iter, ifs, 0⟩] scope pos) (some (.Name y py)) spos.line X.env = pure true := by exact sw_true rfl rfl rfl (by decide +kernel))
    (hs : ∀ x, foldedSetIterable iter X.env x = pure x := by intro _; rfl) : DSt X (.Assign [.Name y py] (.ListComp elt [⟨tg, iter, ifs, 0⟩] scope pos) spos) (sOw (fLc ti g tt te (own.map (·.2))) i) where
  run C := PS.imp (ps_setLc (i := i) hc hN hy hyl hsw (hi.run C) (blkOk_by ok) (fun s H c cl fp => ⟨fun pins s2 σ H2 v u Q I r ⟨C', h⟩ => ((hg s H c cl fp).run C').run pins s2 σ H2 v u Q I r h⟩) (fun s H c cl fp => ⟨fun pins s2 σ H2 Q I ⟨C', h⟩ => ((ht s H c cl fp).run C').run pins s2 σ H2 Q I h⟩)
      (fun s H c cl fp => ⟨fun pins s2 σ H2 Q I ⟨C', h⟩ => ((he s H c cl fp).run C').run pins s2 σ H2 Q I h⟩) hs) fun D σ H ⟨G, ρ, DD, r, k, q⟩ =>
    lc_run hi.mono (hg X.s_0 H 0 [] []).mono (ht X.s_0 H 0 [] []).mono (he X.s_0 H 0 [] []).mono hw r q fun ds ρ' a us G' H' p s r' f d => k.nx _ _ _ _ p.2 s (r'.setOw (isBo_no p.1) f d)
  mono DD DD' ρ l q := hi.mono _ _ _ (fun items ρ' p => ⟨p.1, p.2.1, cm_in (cmD_mono (fun d ρ2 q => ⟨q.1, l.nx _ q.2⟩) (hg X.s_0 (fun _ => none) 0 [] []).mono (ht X.s_0 (fun _ => none) 0 [] []).mono (he X.s_0 (fun _ => none) 0 [] []).mono _ _ _ (cm_out p.2.2))⟩) q
end

/-! ## defs -/
/-- a def that takes shared data: arguments, what follows -/
abbrev DSp := List PyData → (RV → Prop) → Prop
/-- .. whose first argument is a list lent to it -/
abbrev DSp1 := List PyData → List PyData → (RV → List PyData → Prop) → Prop
/-- what a call hands back -/
def RvC (K : PySem.W.Frag) (G H : Hp) (G' H' : Hp) (v : V) : RV → Prop
  | .sh d => Dp K G' v d
  | .ow ds => ∃ a vs, v = .ref a ∧ H' a = some (.lst vs) ∧ G' a = none ∧ H a = none ∧ DpAll K G' vs ds
def toSp (K : PySem.W.Frag) (n : Nat) (p : DSp) : Sp := fun vs H Q _ => vs.length = n ∧ ∃ G ds, Same G H ∧ DpAll K G vs ds ∧ p ds fun r => ∀ v G' H', Same G G' → Same G' H' → Same H H' → (∀ b, G b = none → H b ≠ none → G' b = none) → RvC K G H G' H' v r → Q v H'
def toSp1 (K : PySem.W.Frag) (n : Nat) (p : DSp1) : Sp := fun vs H Q _ => vs.length = n ∧ ∃ G a us ws cs ds, vs = .ref a :: us ∧ Same G H ∧ H a = some (.lst ws) ∧ G a = none ∧ DpAll K G ws cs ∧ DpAll K G us ds ∧
  p cs ds fun r cs' => ∀ v G' H', Same G G' → Same G' H' → (∀ b o, b ≠ a → H b = some o → H' b = some o) → (∀ b, G b = none → H b ≠ none → G' b = none) → (∃ ws', H' a = some (.lst ws') ∧ DpAll K G' ws' cs') → RvC K G H G' H' v r → Q v H'

section
variable {P : Program} {w : World} {K : PySem.W.Frag} {mg : Str → Option Value} {base : Heap}
/-- the slots at the entry -/
def startD (n : Nat) (ds : List PyData) : DS := ds.map (fun d => some (.sh d)) ++ List.replicate (n - ds.length) none
theorem start_get {N : List Str} {vs : List V} {i : Nat} {v : V} (h : vs[i]? = some v) : (L2.start N vs)[i]? = some (some v) := by
  unfold L2.start
  have hi : i < vs.length := (List.getElem?_eq_some_iff.mp h).1
  rw [List.getElem?_append_left (by rw [List.length_map]; exact hi), List.getElem?_map, h]
  rfl
theorem startD_get {n : Nat} {ds : List PyData} {i : Nat} {sl : Sl} (h : (startD n ds)[i]? = some (some sl)) : ∃ d, ds[i]? = some d ∧ sl = .sh d := by
  unfold startD at h
  by_cases hi : i < ds.length
  · rw [List.getElem?_append_left (by rw [List.length_map]; exact hi), List.getElem?_map, List.getElem?_eq_getElem hi] at h
    cases h
    exact ⟨_, List.getElem?_eq_getElem hi, rfl⟩
  · rw [List.getElem?_append_right (by rw [List.length_map]; omega), List.getElem?_replicate] at h
    split at h <;> cases h
theorem rel_start {N : List Str} {G H : Hp} {vs : List V} {ds : List PyData} (hl : vs.length ≤ N.length) (s : Same G H) (d : DpAll K G vs ds) : Rel K ⟨H, G, [], []⟩ G (startD N.length ds) (L2.start N vs) H where
  same := s
  nw b h1 _ := h1
  fr b o e _ := e
  be p hp := by cases hp
  bs p hp := by cases hp
  len := by
    unfold L2.start startD
    rw [List.length_append, List.length_append, List.length_map, List.length_map, List.length_replicate, List.length_replicate, DpAll.len d]
  slot i sl e := by
    obtain ⟨x, e1, rfl⟩ := startD_get e
    obtain ⟨v, e2, dp⟩ := DpAll.get d e1
    exact ⟨v, start_get e2, dp⟩
  sep i j si sj a _ ei _ mi := by
    obtain ⟨x, e1, rfl⟩ := startD_get ei
    cases mi
  prs p hp := by cases hp
/-- with a lent list in the first slot -/
def startD1 (n : Nat) (cs ds : List PyData) : DS := some (.bo cs) :: (ds.map (fun d => some (.sh d)) ++ List.replicate (n - 1 - ds.length) none)
theorem rel_start1 {N : List Str} {G H : Hp} {a : Addr} {us ws : List V} {cs ds : List PyData} (hl : us.length + 1 ≤ N.length) (s : Same G H) (ha : H a = some (.lst ws)) (hg : G a = none) (dc : DpAll K G ws cs) (d : DpAll K G us ds) :
    Rel K ⟨H, G, [(0, a)], []⟩ G (startD1 N.length cs ds) (L2.start N (.ref a :: us)) H where
  same := s
  nw b h1 _ := h1
  fr b o e _ := e
  be p hp := by
    cases (List.mem_singleton.mp hp)
    exact ⟨ws, ha⟩
  bs p hp := by
    cases (List.mem_singleton.mp hp)
    exact ⟨rfl, cs, rfl⟩
  len := by
    unfold L2.start startD1
    have e := DpAll.len d
    simp only [List.length_append, List.length_cons, List.length_map, List.length_replicate]
    omega
  slot i sl e := by
    cases i with
    | zero =>
      unfold startD1 at e
      cases e
      exact ⟨.ref a, rfl, a, ws, rfl, List.mem_singleton.mpr rfl, ha, hg, dc⟩
    | succ i =>
      have e : (ds.map (fun d => some (Sl.sh d)) ++ List.replicate (N.length - 1 - ds.length) none)[i]? = some (some sl) := e
      have e2 : (startD (N.length - 1) ds)[i]? = some (some sl) := e
      obtain ⟨x, e1, rfl⟩ := startD_get e2
      obtain ⟨v, e3, dp⟩ := DpAll.get d e1
      exact ⟨v, start_get (vs := .ref a :: us) (i := i + 1) e3, dp⟩
  sep i j si sj b ne ei ej mi mj := by
    cases i with
    | succ i =>
      have e2 : (startD (N.length - 1) ds)[i]? = some (some si) := ei
      obtain ⟨x, e1, rfl⟩ := startD_get e2
      cases mi
    | zero =>
      cases j with
      | zero => exact absurd rfl ne
      | succ j =>
        have e2 : (startD (N.length - 1) ds)[j]? = some (some sj) := ej
        obtain ⟨x, e1, rfl⟩ := startD_get e2
        cases mj
  prs p hp := by cases hp

/-- THE RULE for a def over data: its body, and the body's reading -/
theorem okD {x qual : Str} {st : Stmt} {f : Addr} {fd : FuncData} {N ps : List Str} {k : Nat} {p : DSp} (F : Fun K x qual st f fd) (S : FnScope N ps (defScope st))
    (hbody : ∀ (cdv : Value) (A : Around) (outer : List Env) (s : Shared) (H : Hp) (E : XK), Room k (A.deeper (PyProof.Rows.envOfC qual (defScope st) s.heap.objs.size f cdv)) →
      ∃ t, DSs (cxOf CX0 P w K mg base N qual (defScope st) f cdv A outer s H E).nox (defBody st) t ∧ ∀ ds Q, ds.length = ps.length → p ds Q → t { nx := fun _ => Q (.sh .none), rt := fun r _ => Q r } (startD N.length ds)) : FnOk P w K mg base CX0 (k + 1) f fd ps (toSp K ps.length p) := by
  have hpl : ps.length ≤ N.length := by have := congrArg List.length S.pre; rw [List.length_take] at this; omega
  refine F.ok S (fun vs H Q E h => h.1) (fun cdv A outer s H vs Q E hr h => ?_)
  obtain ⟨hl, G, ds, sG, dp, hp⟩ := h
  obtain ⟨t, ht, hq⟩ := hbody cdv A outer s H E hr
  refine ⟨_, ht.run ⟨H, G, [], []⟩, G, startD N.length ds, _, rel_start (by rw [hl]; exact hpl) sG dp, ?_, hq ds _ (by rw [← DpAll.len dp]; exact hl) hp⟩
  have sH : ∀ {G' : Hp} {ρ' : DS} {σ' : St} {H' : Hp}, Rel K ⟨H, G, [], []⟩ G' ρ' σ' H' → Same H H' := fun r b o e => r.fr b o e fun p hp => by cases hp
  refine ⟨fun ρ' σ' G' H' q s r => q .non G' H' s r.same (sH r) r.nw .non, fun rv ρ' σ' G' H' v q s r k => q v G' H' s r.same (sH r) r.nw ?_, fun _ _ _ _ h => h.elim, fun _ _ _ _ h => h.elim⟩
  cases rv with
  | sh d => exact k
  | ow es =>
    obtain ⟨a, us, rfl, fr, d⟩ := k
    exact ⟨a, us, rfl, fr.at_, fr.g, fr.h0, d⟩
theorem okD1 {x qual : Str} {st : Stmt} {f : Addr} {fd : FuncData} {N ps : List Str} {k : Nat} {p : DSp1} (F : Fun K x qual st f fd) (S : FnScope N ps (defScope st))
    (hbody : ∀ (cdv : Value) (A : Around) (outer : List Env) (s : Shared) (H : Hp) (E : XK), Room k (A.deeper (PyProof.Rows.envOfC qual (defScope st) s.heap.objs.size f cdv)) →
      ∃ t, DSs (cxOf CX0 P w K mg base N qual (defScope st) f cdv A outer s H E).nox (defBody st) t ∧ ∀ cs ds Q, ds.length + 1 = ps.length → p cs ds Q →
        t { nx := fun ρ => ∀ cs', ρ[0]? = some (some (.bo cs')) → Q (.sh .none) cs', rt := fun r ρ => ∀ cs', ρ[0]? = some (some (.bo cs')) → Q r cs' } (startD1 N.length cs ds)) : FnOk P w K mg base CX0 (k + 1) f fd ps (toSp1 K ps.length p) := by
  have hpl : ps.length ≤ N.length := by have := congrArg List.length S.pre; rw [List.length_take] at this; omega
  refine F.ok S (fun vs H Q E h => h.1) (fun cdv A outer s H vs Q E hr h => ?_)
  obtain ⟨hl, G, a, us, ws, cs, ds, rfl, sG, ha, hg, dc, dp, hp⟩ := h
  obtain ⟨t, ht, hq⟩ := hbody cdv A outer s H E hr
  rw [List.length_cons] at hl
  refine ⟨_, ht.run ⟨H, G, [(0, a)], []⟩, G, startD1 N.length cs ds, _, rel_start1 (by omega) sG ha hg dc dp, ?_, hq cs ds _ (by rw [← DpAll.len dp]; exact hl) hp⟩
  have sH : ∀ {G' : Hp} {ρ' : DS} {σ' : St} {H' : Hp}, Rel K ⟨H, G, [(0, a)], []⟩ G' ρ' σ' H' → ∀ b o, b ≠ a → H b = some o → H' b = some o := fun r b o hb e => r.fr b o e fun p hp => by
    cases (List.mem_singleton.mp hp)
    exact fun z => hb z.symm
  have bS : ∀ {G' : Hp} {ρ' : DS} {σ' : St} {H' : Hp}, Rel K ⟨H, G, [(0, a)], []⟩ G' ρ' σ' H' → ∃ cs', ρ'[0]? = some (some (.bo cs')) ∧ ∃ ws', H' a = some (.lst ws') ∧ DpAll K G' ws' cs' := fun r => by
    obtain ⟨q1, cs', q2⟩ := r.bs (0, a) List.mem_cons_self
    obtain ⟨v, e1, a', ws', rfl, _, k3, _, k5⟩ := r.slot 0 _ q2
    rw [q1] at e1
    cases e1
    exact ⟨cs', q2, ws', k3, k5⟩
  refine ⟨fun ρ' σ' G' H' q s r => ?_, fun rv ρ' σ' G' H' v q s r k => ?_, fun _ _ _ _ h => h.elim, fun _ _ _ _ h => h.elim⟩
  · obtain ⟨cs', e1, e2⟩ := bS r
    exact q cs' e1 .non G' H' s r.same (sH r) r.nw e2 .non
  · obtain ⟨cs', e1, e2⟩ := bS r
    refine q cs' e1 v G' H' s r.same (sH r) r.nw e2 ?_
    cases rv with
    | sh d => exact k
    | ow es =>
      obtain ⟨b, us, rfl, fr, d⟩ := k
      exact ⟨b, us, rfl, fr.at_, fr.g, fr.h0, d⟩
end

/-! ## calls of defs -/
section
variable {X : Cx} {e a b c : Expr} {es : List Expr} {pos pos' : Pos}
/-- behind a call that lent nothing: the state is as it was, what came is there -/
theorem Rel.called {K : PySem.W.Frag} {C : DC} {G H G' H' : Hp} {ρ : DS} {σ : St} (R : Rel K C G ρ σ H) (s1 : Same G G') (s2 : Same G' H') (s3 : Same H H') (nw : ∀ b, G b = none → H b ≠ none → G' b = none) : Rel K C G' ρ σ H' where
  same := s2
  nw b h1 h2 := nw b (R.nw b h1 h2) fun e => by
    rcases q : C.H0 b with _ | o
    · exact h2 q
    · by_cases hb : ∀ p ∈ C.β, p.2 ≠ b
      · rw [R.fr b o q hb] at e; cases e
      · refine hb fun z hz ez => ?_
        obtain ⟨vs, hv⟩ := R.be z hz
        rw [ez, e] at hv; cases hv
  fr b o e k := s3 _ _ (R.fr b o e k)
  be p hp := by
    obtain ⟨vs, q⟩ := R.be p hp
    exact ⟨vs, s3 _ _ q⟩
  bs := R.bs
  len := R.len
  slot i sl e := by
    obtain ⟨v, e1, k⟩ := R.slot i sl e
    exact ⟨v, e1, k.mo s1 fun a vs q _ _ => ⟨s3 _ _ q, fun hg => nw a hg (by rw [q]; exact fun z => by cases z)⟩⟩
  sep := R.sep
  prs p hp := by
    obtain ⟨q1, q2, q3, q4⟩ := R.prs p hp
    exact ⟨s3 _ _ q1, nw _ q2 (by rw [q1]; exact fun z => by cases z), q3, q4⟩
/-- what came, as shared data -/
def RV.d : RV → PyData
  | .sh d => d
  | .ow ds => .list ds
theorem Rel.freshOf {K : PySem.W.Frag} {C : DC} {G H G' H' : Hp} {ρ : DS} {σ : St} (R : Rel K C G ρ σ H) (R' : Rel K C G' ρ σ H') {a : Addr} {vs : List V} (h1 : H' a = some (.lst vs)) (h2 : G' a = none) (h3 : H a = none) : Fresh C G' ρ σ H' a vs where
  at_ := h1
  g := h2
  h0 := R.h0 h3
  ns j sl e hm q := by
    obtain ⟨v, e1, k⟩ := R.slot j sl e
    rw [e1] at q
    cases q
    cases sl with
    | sh d => cases hm
    | ow ds =>
      obtain ⟨b, us, k1, k2, _⟩ := k
      cases k1
      rw [h3] at k2; cases k2
    | bo ds =>
      obtain ⟨b, us, k1, _, k2, _⟩ := k
      cases k1
      rw [h3] at k2; cases k2
  np p hp := ne_of_none (R.prs p hp).1 h3
def eCall (n : Nat) (p : DSp) (t : DTL) : DTE := fun ρ Q => t ρ fun ds ρ' => ds.length = n ∧ p ds fun r => Q r.d ρ'
structure SpMo (p : DSp) : Prop where
  mono : ∀ ds Q Q', (∀ r, Q r → Q' r) → p ds Q → p ds Q'
structure SpMo1 (p : DSp1) : Prop where
  mono : ∀ cs ds Q Q', (∀ r c, Q r c → Q' r c) → p cs ds Q → p cs ds Q'
theorem de_call {p : DSp} {t : DTL} {k n : Nat} {f : Addr} {fd : FuncData} {ps : List Str} {x : Str} {px : Pos} (F : FnOk X.prog X.w X.K X.mg X.base CX0 k f fd ps (toSp X.K n p)) (hm' : SpMo p) (hr : Room k X.A) (hg : Gl X x) (hm : X.mg x = some (.ref f)) (hk : PySem.W.keepIn X.K (.ref f) = true) (hb : Binds X.K fd ps [])
    (h : DA X (e :: es) t) (hdb : (x == ("__debug__" : Str)) = false := by decide) (he : starEach (e :: es) X.env = (false, eval e X.env) :: starEach es X.env := by rfl) (hpl : (backTo pos (starEach es X.env)).any (·.1) = false := by rfl) :
    DE X (.Call (.Name x px) (e :: es) [] pos) (eCall n p t) where
  run C := PE.imp (pe_call F hr hg hm hk hb .nil pass0 (h.run C) hdb he hpl) fun σ H Q ⟨G, ρ, r, q⟩ => goA h.mono r q fun ds ρ' vs G' H' p1 s r' dp => by
    rw [List.append_nil]
    refine ⟨by rw [DpAll.len dp]; exact p1.1, G', ds, r'.same, dp, hm'.mono _ _ _ (fun rv q v G2 H2 s1 s2 s3 nw rc => ?_) p1.2⟩
    have r2 := r'.called s1 s2 s3 nw
    cases rv with
    | sh d => exact q v G2 H2 (s.trans s1) r2 rc
    | ow es =>
      obtain ⟨a, us, rfl, k1, k2, k3, d⟩ := rc
      obtain ⟨s4, r4⟩ := r2.freeze (r'.freshOf r2 k1 k2 k3)
      exact q _ _ _ ((s.trans s1).trans s4) r4 (.lst (.inl (.inl upd_same)) (DpAll.mo s4 _ _ d))
  mono ρ Q Q' k q := h.mono _ _ _ (fun ds ρ' p1 => ⟨p1.1, hm'.mono _ _ _ (fun r => k _ _) p1.2⟩) q
/-- .. the list it hands back as one's own -/
def fCall (n : Nat) (p : DSp) (t : DTL) : DTL := fun ρ Q => t ρ fun ds ρ' => ds.length = n ∧ p ds fun r => match r with
  | .ow es => Q es ρ'
  | .sh _ => False
theorem df_call {p : DSp} {t : DTL} {k n : Nat} {f : Addr} {fd : FuncData} {ps : List Str} {x : Str} {px : Pos} (F : FnOk X.prog X.w X.K X.mg X.base CX0 k f fd ps (toSp X.K n p)) (hm' : SpMo p) (hr : Room k X.A) (hg : Gl X x) (hm : X.mg x = some (.ref f)) (hk : PySem.W.keepIn X.K (.ref f) = true) (hb : Binds X.K fd ps [])
    (h : DA X (e :: es) t) (hdb : (x == ("__debug__" : Str)) = false := by decide) (he : starEach (e :: es) X.env = (false, eval e X.env) :: starEach es X.env := by rfl) (hpl : (backTo pos (starEach es X.env)).any (·.1) = false := by rfl) :
    DF X (.Call (.Name x px) (e :: es) [] pos) (fCall n p t) where
  run C := PE.imp (pe_call F hr hg hm hk hb .nil pass0 (h.run C) hdb he hpl) fun σ H Q ⟨G, ρ, r, q⟩ => goA h.mono r q fun ds ρ' vs G' H' p1 s r' dp => by
    rw [List.append_nil]
    refine ⟨by rw [DpAll.len dp]; exact p1.1, G', ds, r'.same, dp, hm'.mono _ _ _ (fun rv q v G2 H2 s1 s2 s3 nw rc => ?_) p1.2⟩
    have r2 := r'.called s1 s2 s3 nw
    cases rv with
    | sh d => exact q.elim
    | ow es =>
      obtain ⟨a, us, rfl, k1, k2, k3, d⟩ := rc
      exact q _ _ _ _ (s.trans s1) r2 (r'.freshOf r2 k1 k2 k3) d
  mono ρ Q Q' k q := h.mono _ _ _ (fun ds ρ' p1 => ⟨p1.1, hm'.mono _ _ _ (fun r h => by cases r with | sh d => exact h | ow es => exact k _ _ h) p1.2⟩) q
/-- f() -/
theorem de_call0 {p : DSp} {k : Nat} {f : Addr} {fd : FuncData} {ps : List Str} {x : Str} {px : Pos} (F : FnOk X.prog X.w X.K X.mg X.base CX0 k f fd ps (toSp X.K 0 p)) (hm' : SpMo p) (hr : Room k X.A) (hg : Gl X x) (hm : X.mg x = some (.ref f)) (hk : PySem.W.keepIn X.K (.ref f) = true) (hb : Binds X.K fd ps [])
    (hdb : (x == ("__debug__" : Str)) = false := by decide) :
    DE X (.Call (.Name x px) [] [] pos) (eCall 0 p aNil) where
  run C := PE.imp (pe_call0 F hr hg hm hk hb .nil pass0 hdb) fun σ H Q ⟨G, ρ, r, q⟩ => by
    refine ⟨rfl, G, [], r.same, .nil, hm'.mono _ _ _ (fun rv q v G2 H2 s1 s2 s3 nw rc => ?_) q.2⟩
    have r2 := r.called s1 s2 s3 nw
    cases rv with
    | sh d => exact q v G2 H2 s1 r2 rc
    | ow es =>
      obtain ⟨a, us, rfl, k1, k2, k3, d⟩ := rc
      obtain ⟨s4, r4⟩ := r2.freeze (r.freshOf r2 k1 k2 k3)
      exact q _ _ _ (s1.trans s4) r4 (.lst (.inl (.inl upd_same)) (DpAll.mo s4 _ _ d))
  mono ρ Q Q' k q := ⟨q.1, hm'.mono _ _ _ (fun r => k _ _) q.2⟩
/-- behind a call that lent the list of the slot i -/
theorem Rel.lent {K : PySem.W.Frag} {C : DC} {G H G' H' : Hp} {ρ : DS} {σ : St} (R : Rel K C G ρ σ H) {i : Nat} {cs cs' : List PyData} {a : Addr} {ws' : List V} (hi : muN i ρ = some cs) (ea : σ[i]? = some (some (.ref a)))
    (s1 : Same G G') (s2 : Same G' H') (s3 : ∀ b o, b ≠ a → H b = some o → H' b = some o) (nw : ∀ b, G b = none → H b ≠ none → G' b = none) (ha : H' a = some (.lst ws')) (da : DpAll K G' ws' cs') : Rel K C G' (wrN i cs' ρ) σ H' := by
  obtain ⟨a', ws, k1, k2, k3, k4, k5⟩ := muN_ok R hi
  rw [ea] at k1
  cases k1
  -- the heap as it would be without the write at a
  have R1 : Rel K C G ρ σ H := R
  -- go over H'' = upd H' a (.lst ws), which keeps all of H
  have hH : Same H (upd H' a (.lst ws)) := fun b o e => by
    by_cases hb : b = a
    · subst hb
      rw [k2] at e
      cases e
      exact upd_same
    · rw [upd_ne hb]
      exact s3 b o hb e
  have ga : G' a = none := nw a k3 (by rw [k2]; exact fun z => by cases z)
  have hG : Same G' (upd H' a (.lst ws)) := fun b o e => by
    have hb : b ≠ a := fun z => by rw [z, ga] at e; cases e
    rw [upd_ne hb]
    exact s2 b o e
  have R2 : Rel K C G' ρ σ (upd H' a (.lst ws)) := R.called s1 hG hH nw
  obtain ⟨a', ws2, m1, m2, m3, m4, m5⟩ := muN_ok R2 hi
  rw [ea] at m1
  cases m1
  have R3 := m5 cs' ws' da
  rw [upd_upd] at R3
  have e : upd H' a (.lst ws') = H' := by
    funext b
    unfold upd
    split
    · rename_i hb
      rw [hb, ha]
    · rfl
  rw [e] at R3
  exact R3
def eCall1 (n : Nat) (p : DSp1) (i : Nat) (t : DTL) : DTE := fun ρ Q => (muN i ρ).isSome = true ∧ t ρ fun ds ρ' => ds.length + 1 = n ∧ match muN i ρ' with
  | some cs => p cs ds fun r cs' => Q r.d (wrN i cs' ρ')
  | none => False
theorem wrN_mu {i : Nat} {cs cs' : List PyData} {ρ : DS} (h : muN i ρ = some cs) : muN i (wrN i cs' ρ) = some cs' := by
  unfold muN at h
  split at h
  · rename_i e
    have hl : i < ρ.length := (List.getElem?_eq_some_iff.mp e).1
    unfold wrN
    rw [e]
    show muN i (ρ.set i (some (.ow cs'))) = _
    unfold muN
    rw [List.getElem?_set_self hl]
  · rename_i e
    have hl : i < ρ.length := (List.getElem?_eq_some_iff.mp e).1
    unfold wrN
    rw [e]
    show muN i (ρ.set i (some (.bo cs'))) = _
    unfold muN
    rw [List.getElem?_set_self hl]
  · cases h
theorem de_call1 (i : Nat) {p : DSp1} {t : DTL} {k n : Nat} {f : Addr} {fd : FuncData} {ps : List Str} {x y : Str} {px py : Pos} (F : FnOk X.prog X.w X.K X.mg X.base CX0 k f fd ps (toSp1 X.K n p)) (hm' : SpMo1 p) (hr : Room k X.A) (hg : Gl X x) (hm : X.mg x = some (.ref f)) (hk : PySem.W.keepIn X.K (.ref f) = true) (hb : Binds X.K fd ps [])
    (h : DA X es t) (hN : X.N[i]? = some y := by rfl) (hv : Vis X.env.scope y := by first | exact Or.inl rfl | exact Or.inr (Or.inl rfl) | exact Or.inr (Or.inr rfl)) (hd : (y == ("__debug__" : Str)) = false := by decide)
    (hcd : (y == ("__classdict__" : Str)) = false := by decide) (hst : starEach (.Name y py :: es) X.env = (false, eval (.Name y py) X.env) :: starEach es X.env := by rfl)
    (hdb : (x == ("__debug__" : Str)) = false := by decide) (hpl : (backTo pos (starEach es X.env)).any (·.1) = false := by rfl) :
    DE X (.Call (.Name x px) (.Name y py :: es) [] pos) (eCall1 n p i t) where
  run C := PE.imp (pe_call F hr hg hm hk hb .nil pass0 (pa_cons (pe_var hN hv hd hcd) (h.run C) hst) hdb hst hpl) fun σ H Q ⟨G, ρ, r, q1, q⟩ => by
    obtain ⟨cs0, e0⟩ := Option.isSome_iff_exists.mp q1
    obtain ⟨a, ws0, h1, h2, _⟩ := muN_ok r e0
    refine ⟨_, h1, goA h.mono r q fun ds ρ' vs G' H' p1 s r' dp => ?_⟩
    obtain ⟨pl, p1⟩ := p1
    (try dsimp only at p1)
    split at p1
    · rename_i cs e1
      obtain ⟨a', ws, k1, k2, k3, k4, k5⟩ := muN_ok r' e1
      rw [h1] at k1
      cases k1
      rw [List.append_nil]
      refine ⟨by rw [List.length_cons, DpAll.len dp]; exact pl, G', a, vs, ws, cs, ds, rfl, r'.same, k2, k3, k4, dp, hm'.mono _ _ _ _ (fun rv cs' q v G2 H2 s1 s2 s3 nw hw rc => ?_) p1⟩
      obtain ⟨ws', ha, da⟩ := hw
      have r2 := r'.lent e1 h1 s1 s2 s3 nw ha da
      cases rv with
      | sh d => exact q v G2 H2 (s.trans s1) r2 rc
      | ow es =>
        obtain ⟨b, us, rfl, m1, m2, m3, d⟩ := rc
        have f : Fresh C G2 (wrN i cs' ρ') σ H2 b us := by
          refine ⟨m1, m2, r'.h0 m3, fun j sl e hmu qj => ?_, fun p hp => ne_of_none (r'.prs p hp).1 m3⟩
          have hba : b ≠ a := (ne_of_none k2 m3).symm
          by_cases hj : j = i
          · subst hj
            rw [h1] at qj
            cases qj
            exact hba rfl
          · have e2 : ρ'[j]? = some (some sl) := by
              unfold wrN at e
              split at e <;> first | (rw [List.getElem?_set_ne (Ne.symm hj)] at e; exact e) | exact e
            obtain ⟨v, e3, kk⟩ := r'.slot j sl e2
            rw [e3] at qj
            cases qj
            cases sl with
            | sh d => cases hmu
            | ow ds =>
              obtain ⟨c, us2, k6, k7, _⟩ := kk
              cases k6
              rw [m3] at k7; cases k7
            | bo ds =>
              obtain ⟨c, us2, k6, _, k7, _⟩ := kk
              cases k6
              rw [m3] at k7; cases k7
        obtain ⟨s4, r4⟩ := r2.freeze f
        exact q _ _ _ ((s.trans s1).trans s4) r4 (.lst (.inl (.inl upd_same)) (DpAll.mo s4 _ _ d))
    · exact p1.elim
  mono ρ Q Q' k q := ⟨q.1, h.mono _ _ _ (fun ds ρ' p1 => ⟨p1.1, by
    have p1 := p1.2
    (try dsimp only at p1); (try dsimp only)
    split
    · rename_i cs e1
      rw [e1] at p1
      exact hm'.mono _ _ _ _ (fun r c => k _ _) p1
    · rename_i e1
      rw [e1] at p1
      exact p1⟩) q.2⟩
end
end DL

namespace DL
open PySem L2

/-! ## isinstance -/
def tyD : PyData → String
  | .none => "NoneType"
  | .bool _ => "bool"
  | .int _ => "int"
  | .str _ => "str"
  | .list _ => "list"
  | .tuple _ => "tuple"
  | .dict _ => "dict"
theorem ty_of {K : PySem.W.Frag} {G H : Hp} {v : V} {d : PyData} (s : Same G H) (h : Dv K G H v d) : TyX K H v (.type (tyD d)) := by
  rcases h with h | ⟨a, vs, es, rfl, rfl, h1, h2⟩
  · cases h with
    | non => exact .base .non
    | bl b => exact .base (.bl b)
    | int i => exact .base (.int i)
    | str x => exact .base (.str x)
    | lst hs ha =>
      rcases hs with (hs | ⟨o, hs⟩) | ⟨o, its, n, hk, hc, _⟩
      · exact .base (.lst (s _ _ hs))
      · exact .base (.frz (s _ _ hs))
      · exact .kList hk hc
    | tup hs ha =>
      rcases hs with (hs | ⟨o, hs⟩) | ⟨o, its, n, hk, hc, _⟩
      · exact .base (.tup (s _ _ hs))
      · exact .fTuple (s _ _ hs)
      · exact .kTuple hk hc
  · exact .base (.lst h1)
/-- isinstance by the type's name -/
def isiD (T : String) (d : PyData) : Bool := tyD d == T || (tyD d == "bool" && T == "int")
theorem kit_names : ∀ T ∈ ["int", "bool", "str", "list", "tuple"], ∀ a ∈ ["NoneType", "bool", "int", "str", "list", "tuple"], kitB a T = some (a == T || (a == "bool" && T == "int")) := by decide +kernel
theorem kit_D {K : PySem.W.Frag} {T : String} (hT : T ∈ ["int", "bool", "str", "list", "tuple"]) (d : PyData) (hd : ∀ k, d ≠ .dict k) : PySem.W.kitOne K (.type (tyD d)) (.type T) = some (isiD T d) := by
  refine kit_ty (kit_names T hT (tyD d) ?_)
  cases d <;> first
    | exact absurd rfl (hd _)
    | simp [tyD]
section
variable {X : Cx} {e a b c tg iter elt : Expr} {es ifs : List Expr} {pos pos' : Pos}
def eIsi (T : String) (t : DTO) : DTE := fun ρ Q => t ρ fun w ρ' => match w ρ' with
  | some d => Q (.bool (isiD T d)) ρ'
  | none => False
theorem Dv.ndict {K : PySem.W.Frag} {G H : Hp} {v : V} {d : PyData} (h : Dv K G H v d) : ∀ k, d ≠ .dict k := fun k e => by
  subst e
  rcases h with h | ⟨a, vs, es, rfl, e, h1, h2⟩
  · cases h
  · cases e
theorem de_isi {T : String} {t : DTO} {p p2 : Pos} (hT : T ∈ ["int", "bool", "str", "list", "tuple"]) {Tn : Str} (h : DO X e t) (hg : Gl X "isinstance") (hm : X.mg "isinstance" = none) (hgT : Gl X Tn) (hmT : X.mg Tn = none) (hvT : bootBuiltins Tn = some (.type T))
    (hnT : Tn ≠ "__name__") (hdT : (Tn == ("__debug__" : Str)) = false) (hv : bootBuiltins "isinstance" = some (.builtin "isinstance"))
    (he : starEach [e, .Name Tn p2] X.env = (false, eval e X.env) :: starEach [.Name Tn p2] X.env := by rfl) (he2 : starEach [.Name Tn p2] X.env = (false, eval (.Name Tn p2) X.env) :: starEach [] X.env := by rfl) (hpl : (backTo pos (starEach [.Name Tn p2] X.env)).any (·.1) = false := by rfl) :
    DE X (.Call (.Name "isinstance" p) [e, .Name Tn p2] [] pos) (eIsi T t) where
  run C := PE.imp (pe_callB call_isi hg hm hv (pa_cons (h.run C) (pa_cons (pe_bltn (v := .ty T) hgT hmT hvT rfl hnT hdT) pa_nil he2) he) (by decide) (by decide) he hpl) fun σ H Q ⟨G, ρ, r, q⟩ => goO h.mono r q fun w ρ' v G' H' p1 s r' o => by
    (try dsimp only at p1)
    split at p1
    · rename_i d e1
      have dv := o G' H' ρ' (Same.refl _) r' d e1
      exact ⟨v, .ty T, _, _, _, rfl, .ty T, ty_of r'.same dv, kit_D hT d dv.ndict, p1 _ G' H' s r' (.bl _)⟩
    · exact p1.elim
  mono ρ Q Q' k q := h.mono _ _ _ (fun w ρ' p => by
    (try dsimp only at p); (try dsimp only)
    split
    · rename_i x e1
      rw [e1] at p
      exact k _ _ p
    · rename_i e1
      rw [e1] at p
      exact p) q
/-! ## in-place operators -/
theorem ip_of {op : Operator} {r : R2} (h : OpR X (inplaceOp op) r) : PIp X op r := fun pins s σ H x y v u Q I rx ry q => h pins s σ H x y v u Q I rx ry q
def dAddI : D2 := fun d e Q => match d, e with
  | .int i, .int j => Q (.int (i + j))
  | .str i, .str j => i.length + j.length ≤ sizeLine ∧ Q (.str (i ++ j))
  | _, _ => False
theorem ip_add' : IpD X .Add dAddI where
  mono d e Q Q' k q := by
    unfold dAddI at q ⊢
    split at q <;> first | exact k _ q | exact ⟨q.1, k _ q.2⟩ | exact q.elim
  ok := ⟨_, ip_of (OpR.or iop_add iop_add_str), fun G H x y d e Q Qd s hx hy q K => by
    unfold dAddI at q
    split at q
    · rw [hx.int, hy.int]
      exact .inl ⟨_, _, rfl, rfl, K.v _ _ q (.int _)⟩
    · rw [hx.str, hy.str]
      exact .inr ⟨_, _, rfl, rfl, q.1, K.v _ _ q.2 (.str _)⟩
    · exact q.elim⟩
theorem ip_sub' : IpD X .Sub dSub where
  mono d e Q Q' k q := by
    unfold dSub at q ⊢
    split at q <;> first | exact k _ q | exact q.elim
  ok := ⟨_, ip_of iop_sub, fun G H x y d e Q Qd s hx hy q K => by
    unfold dSub at q
    split at q
    · rw [hx.int, hy.int]
      exact ⟨_, _, rfl, rfl, K.v _ _ q (.int _)⟩
    · exact q.elim⟩
/-! ## unpacking a tuple or a list -/
def gU (n : Nat) (t : DTGs) : DTG := fun d ρ Q => match d with
  | .tuple ds => ds.length = n ∧ t ds ρ Q
  | .list ds => ds.length = n ∧ t ds ρ Q
  | _ => False
theorem PG.or {tg : Expr} {g g' : TG} (h : PG X tg g) (h' : PG X tg g') : PG X tg (fun v σ H Q => g v σ H Q ∨ g' v σ H Q) := ⟨fun pins s σ H v u Q I r hw => hw.elim (h.run pins s σ H v u Q I r) (h'.run pins s σ H v u Q I r)⟩
theorem dg_u {k n : Nat} {t : DTGs} {ws : List Nat} (hc : X.calm = true) (h : DGs X es ws t)
    (hn : (assignEach es X.env).length = n := by rfl) (hst : (assignEach es X.env).findIdx? (·.1) = none := by rfl) : DG X (.Tuple es k pos) ws (gU n t) where
  run C := PG.imp (PG.or (pg_tup hc (h.run C) hn hst) (pg_unl hc (h.run C) hn hst)) fun v σ H Q ⟨G, ρ, d, r, dp, q⟩ => by
    unfold gU at q
    split at q
    · obtain ⟨a, vs, rfl, h1, h2⟩ := Dv.tup (H := H) r.same (.inl dp)
      exact .inl ⟨a, vs, rfl, h1, by rw [DpAll.len h2]; exact q.1, goGs h.mono r h2 q.2 fun ρ' σ' G' H' p bu s r' => p σ' G' H' bu s r'⟩
    · obtain ⟨a, vs, rfl, h1, h2⟩ := Dv.lst (H := H) r.same (.inl dp)
      exact .inr ⟨a, vs, rfl, h1, by rw [DpAll.len h2]; exact q.1, goGs h.mono r h2 q.2 fun ρ' σ' G' H' p bu s r' => p σ' G' H' bu s r'⟩
    · exact q.elim
  mono d ρ Q Q' k q := by
    unfold gU at q ⊢
    split at q
    · exact ⟨q.1, h.mono _ _ _ _ k q.2⟩
    · exact ⟨q.1, h.mono _ _ _ _ k q.2⟩
    · exact q.elim
end
end DL

namespace DL
open PySem L2
theorem units65 {k : Nat} {A : Around} (r : Room k A) : A.units + 65 < cLine := by have := r.un; omega
theorem SpMo.of {p : DSp} (h : ∀ ds Q Q', (∀ r, Q r → Q' r) → p ds Q → p ds Q') : SpMo p := ⟨h⟩
theorem SpMo1.of {p : DSp1} (h : ∀ cs ds Q Q', (∀ r c, Q r c → Q' r c) → p cs ds Q → p cs ds Q') : SpMo1 p := ⟨h⟩
/-! loops, the continuation a letter -/
theorem whBy {tc : DTT} {tb : DTS} {DD : DEn} {ρ : DS} (W : DS → Prop) (μ : DS → Nat) (h0 : W ρ)
    (hs : ∀ ρ (K : DS → Prop), W ρ → (∀ ρ', W ρ' → μ ρ' < μ ρ → K ρ') → tc ρ fun b ρ1 => if b = true then tb { nx := K, rt := DD.rt, bk := DD.nx, ct := K } ρ1 else DD.nx ρ1) : sWh tc tb DD ρ := by
  have key : ∀ n ρ, W ρ → μ ρ < n → whN tc tb DD n ρ := by
    intro n
    induction n with
    | zero => exact fun _ _ h => absurd h (Nat.not_lt_zero _)
    | succ n ih => exact fun ρ w h => hs ρ (whN tc tb DD n) w fun ρ' w' l => ih ρ' w' (by omega)
  exact ⟨μ ρ + 1, key _ ρ h0 (Nat.lt_succ_self _)⟩
theorem foBy {g : DTG} {tb : DTS} {DD : DEn} {items : List PyData} {ρ : DS} (W : Nat → DS → Prop) (h0 : W 0 ρ)
    (hs : ∀ i d ρ (K : DS → Prop), items[i]? = some d → W i ρ → (∀ ρ', W (i + 1) ρ' → K ρ') → g d ρ fun ρ' => tb { nx := K, rt := DD.rt, bk := DD.nx, ct := K } ρ') (hd : ∀ ρ, W items.length ρ → DD.nx ρ) : foX g tb DD items ρ := by
  refine fo_in ?_
  have key : ∀ n i ρ, i + n = items.length → W i ρ → foD g tb DD (items.drop i) ρ := by
    intro n
    induction n with
    | zero =>
      intro i ρ e w
      have e : i = items.length := by omega
      subst e
      rw [List.drop_length]
      exact hd ρ w
    | succ n ih =>
      intro i ρ e w
      have hlt : i < items.length := by omega
      obtain ⟨d, ed⟩ : ∃ d, items[i]? = some d := ⟨_, List.getElem?_eq_getElem hlt⟩
      rw [drop_at ed]
      exact hs i d ρ (foD g tb DD (items.drop (i + 1))) ed w fun ρ' w' => ih (i + 1) ρ' (by omega) w'
  have q := key items.length 0 ρ (by omega) h0
  rw [List.drop_zero] at q
  exact q
theorem cmBy {g : DTG} {tt : DTT} {te : DTE} {vs : List Nat} {Q : List PyData → DS → Prop} {items : List PyData} {ρ : DS} (W : Nat → List PyData → DS → Prop) (h0 : W 0 [] ρ)
    (hs : ∀ i d acc ρ (K : List PyData → DS → Prop), items[i]? = some d → W i acc ρ → (∀ acc' ρ', W (i + 1) acc' ρ' → K acc' ρ') → g d ρ fun ρ1 => tt ρ1 fun b ρ2 => if b = true then te ρ2 fun y ρ3 => K (acc ++ [y]) (wipeD ρ3 vs) else K acc (wipeD ρ2 vs))
    (hd : ∀ acc ρ, W items.length acc ρ → Q acc ρ) : cmX g tt te vs Q items [] ρ := by
  refine cm_in ?_
  have key : ∀ n i acc ρ, i + n = items.length → W i acc ρ → cmD g tt te vs Q (items.drop i) acc ρ := by
    intro n
    induction n with
    | zero =>
      intro i acc ρ e w
      have e : i = items.length := by omega
      subst e
      rw [List.drop_length]
      exact hd acc ρ w
    | succ n ih =>
      intro i acc ρ e w
      have hlt : i < items.length := by omega
      obtain ⟨d, ed⟩ : ∃ d, items[i]? = some d := ⟨_, List.getElem?_eq_getElem hlt⟩
      rw [drop_at ed]
      exact hs i d acc ρ (fun acc ρ => cmD g tt te vs Q (items.drop (i + 1)) acc ρ) ed w fun acc' ρ' w' => ih (i + 1) acc' ρ' (by omega) w'
  have q := key items.length 0 [] ρ (by omega) h0
  rw [List.drop_zero] at q
  exact q
/-- a comprehension that changes nothing -/
theorem cmFm0 {g : DTG} {tt : DTT} {te : DTE} {vs : List Nat} {Q : List PyData → DS → Prop} (f : PyData → Option PyData) (ρ0 : DS) : ∀ {items : List PyData} {acc : List PyData},
    (∀ d, d ∈ items → ∀ (KT : PyData → DS → Prop) (KF : DS → Prop), (∀ y, f d = some y → KT y ρ0) → (f d = none → KF ρ0) → g d ρ0 fun ρ1 => tt ρ1 fun b ρ2 => if b = true then te ρ2 fun y ρ3 => KT y (wipeD ρ3 vs) else KF (wipeD ρ2 vs)) →
    Q (acc ++ items.filterMap f) ρ0 → cmD g tt te vs Q items acc ρ0
  | [], acc, _, hQ => by
    rw [List.filterMap_nil, List.append_nil] at hQ
    exact hQ
  | x :: xs, acc, hs, hQ => hs x List.mem_cons_self (fun y ρ => cmD g tt te vs Q xs (acc ++ [y]) ρ) (fun ρ => cmD g tt te vs Q xs acc ρ)
      (fun y e => cmFm0 f ρ0 (fun d hd => hs d (List.mem_cons_of_mem _ hd)) (by
        rw [List.filterMap_cons, e] at hQ
        rw [List.append_assoc]
        exact hQ))
      (fun e => cmFm0 f ρ0 (fun d hd => hs d (List.mem_cons_of_mem _ hd)) (by
        rw [List.filterMap_cons, e] at hQ
        exact hQ))
theorem cmFm {g : DTG} {tt : DTT} {te : DTE} {vs : List Nat} {Q : List PyData → DS → Prop} (f : PyData → Option PyData) (ρ0 : DS) {items : List PyData} {acc : List PyData}
    (hs : ∀ d, d ∈ items → ∀ (KT : PyData → DS → Prop) (KF : DS → Prop), (∀ y, f d = some y → KT y ρ0) → (f d = none → KF ρ0) → g d ρ0 fun ρ1 => tt ρ1 fun b ρ2 => if b = true then te ρ2 fun y ρ3 => KT y (wipeD ρ3 vs) else KF (wipeD ρ2 vs))
    (hQ : Q (acc ++ items.filterMap f) ρ0) : cmX g tt te vs Q items acc ρ0 := cm_in (cmFm0 f ρ0 hs hQ)
/-- a comprehension's one turn; its end -/
theorem cm_cons {g : DTG} {tt : DTT} {te : DTE} {vs : List Nat} {Q : List PyData → DS → Prop} {x : PyData} {xs acc : List PyData} {ρ : DS}
    (h : g x ρ fun ρ1 => tt ρ1 fun b ρ2 => if b = true then te ρ2 fun y ρ3 => cmX g tt te vs Q xs (acc ++ [y]) (wipeD ρ3 vs) else cmX g tt te vs Q xs acc (wipeD ρ2 vs)) : cmX g tt te vs Q (x :: xs) acc ρ := by
  have e : @cmX = @cmD := by unfold cmX; rfl
  rw [e] at h ⊢
  exact h
theorem cm_nil {g : DTG} {tt : DTT} {te : DTE} {vs : List Nat} {Q : List PyData → DS → Prop} {acc : List PyData} {ρ : DS} (h : Q acc ρ) : cmX g tt te vs Q [] acc ρ := cm_in h
theorem fo_cons {g : DTG} {tb : DTS} {DD : DEn} {x : PyData} {xs : List PyData} {ρ : DS} (h : g x ρ fun ρ' => tb { nx := fun ρ => foX g tb DD xs ρ, rt := DD.rt, bk := DD.nx, ct := fun ρ => foX g tb DD xs ρ } ρ') : foX g tb DD (x :: xs) ρ := by
  have e : @foX = @foD := by unfold foX; rfl
  rw [e] at h ⊢
  exact h
theorem fo_nil {g : DTG} {tb : DTS} {DD : DEn} {ρ : DS} (h : DD.nx ρ) : foX g tb DD [] ρ := fo_in h
/-! ### statements in a row -/
theorem sSq_cut {t u : DTS} {DD : DEn} {ρ : DS} (M : DS → Prop) (hu : ∀ ρ', M ρ' → u DD ρ') (ht : ∀ K : DS → Prop, (∀ ρ', M ρ' → K ρ') → t { nx := K, rt := DD.rt, bk := DD.bk, ct := DD.ct } ρ) : sSq t u DD ρ := sq_go (ht (u DD) hu)
theorem rdT {b : Bool} (h : b = true) : b = true := h
end DL

namespace Lw
open PySem L2 DL
/-! ### fractions in least terms -/
def nf (a b : Int) : Int × Int := if b < 0 then ((-a) / (Int.gcd a b : Int), (-b) / (Int.gcd a b : Int)) else (a / (Int.gcd a b : Int), b / (Int.gcd a b : Int))
theorem g_pos {a b : Int} (h : b ≠ 0) : 0 < (Int.gcd a b : Int) := by
  have : 0 < Int.gcd a b := Int.gcd_pos_of_ne_zero_right a h
  omega
theorem fd_ex {a g : Int} (hg : 0 < g) (h : g ∣ a) : a.fdiv g = a / g ∧ a.fdiv (-g) = (-a) / g ∧ (-a).fdiv g = (-a) / g := by
  obtain ⟨x, rfl⟩ := h
  have h1 : (g * x) / g = x := Int.mul_ediv_cancel_left x (by omega)
  have h2 : (-(g * x)) / g = -x := by
    rw [← Int.mul_neg]
    exact Int.mul_ediv_cancel_left _ (by omega)
  refine ⟨?_, ?_, ?_⟩
  · rw [Int.fdiv_eq_ediv_of_nonneg _ (by omega)]
  · rw [h2]
    have e : g * x = (-g) * (-x) := by grind
    rw [e]
    exact Int.mul_fdiv_cancel_left _ (by omega)
  · rw [Int.fdiv_eq_ediv_of_nonneg _ (by omega)]
theorem nf_frac {a b : Int} (h : b ≠ 0) (hb : b < 0) : (a.fdiv (0 - (Int.gcd a b : Int)), b.fdiv (0 - (Int.gcd a b : Int))) = nf a b := by
  have hg := g_pos (a := a) h
  have e1 := fd_ex hg (Int.gcd_dvd_left a b)
  have e2 := fd_ex hg (Int.gcd_dvd_right a b)
  unfold nf
  rw [if_pos hb, Int.zero_sub, e1.2.1, e2.2.1]
theorem nf_frac' {a b : Int} (h : b ≠ 0) (hb : ¬ b < 0) : (a.fdiv (Int.gcd a b : Int), b.fdiv (Int.gcd a b : Int)) = nf a b := by
  have hg := g_pos (a := a) h
  have e1 := fd_ex hg (Int.gcd_dvd_left a b)
  have e2 := fd_ex hg (Int.gcd_dvd_right a b)
  unfold nf
  rw [if_neg hb, e1.1, e2.1]
theorem gcd_neg2 (a b : Int) : Int.gcd (0 - a) (0 - b) = Int.gcd a b := by
  rw [Int.zero_sub, Int.zero_sub]
  simp [Int.gcd]
theorem nf_less {a b : Int} (h : b ≠ 0) (hb : b < 0) : ((0 - a).fdiv (Int.gcd (0 - a) (0 - b) : Int), (0 - b).fdiv (Int.gcd (0 - a) (0 - b) : Int)) = nf a b := by
  have hg := g_pos (a := a) h
  have e1 := fd_ex hg (Int.gcd_dvd_left a b)
  have e2 := fd_ex hg (Int.gcd_dvd_right a b)
  unfold nf
  rw [if_pos hb, gcd_neg2, Int.zero_sub, Int.zero_sub, e1.2.2, e2.2.2]
/-- its facts -/
theorem nf_spec {a b : Int} (h : b ≠ 0) : 0 < (nf a b).2 ∧ a * (nf a b).2 = (nf a b).1 * b ∧ Int.gcd (nf a b).1 (nf a b).2 = 1 ∧ (nf a b).1.natAbs ≤ a.natAbs ∧ (nf a b).2.natAbs ≤ b.natAbs := by
  have hg := g_pos (a := a) h
  obtain ⟨x, hx⟩ := Int.gcd_dvd_left a b
  obtain ⟨y, hy⟩ := Int.gcd_dvd_right a b
  have cop : Int.gcd x y = 1 := by
    have e : Int.gcd a b = Int.gcd a b * Int.gcd x y := by
      have := Int.gcd_mul_left (Int.gcd a b : Int) x y
      rw [← hx, ← hy, Int.natAbs_natCast] at this
      exact this
    have hg' : 0 < Int.gcd a b := by omega
    have e2 : Int.gcd a b * 1 = Int.gcd a b * Int.gcd x y := by rw [Nat.mul_one]; exact e
    exact (Nat.eq_of_mul_eq_mul_left hg' e2).symm
  generalize hgg : (Int.gcd a b : Int) = g at hg hx hy
  have ex : a / g = x := by rw [hx]; exact Int.mul_ediv_cancel_left x (by omega)
  have ey : b / g = y := by rw [hy]; exact Int.mul_ediv_cancel_left y (by omega)
  have exn : (-a) / g = -x := by
    rw [hx, ← Int.mul_neg]
    exact Int.mul_ediv_cancel_left _ (by omega)
  have eyn : (-b) / g = -y := by
    rw [hy, ← Int.mul_neg]
    exact Int.mul_ediv_cancel_left _ (by omega)
  have hax : x.natAbs ≤ a.natAbs := by
    rw [hx, Int.natAbs_mul]
    exact Nat.le_mul_of_pos_left _ (by omega)
  have hby : y.natAbs ≤ b.natAbs := by
    rw [hy, Int.natAbs_mul]
    exact Nat.le_mul_of_pos_left _ (by omega)
  unfold nf
  rw [hgg]
  by_cases hb : b < 0
  · rw [if_pos hb, exn, eyn]
    have hyn : y < 0 := by
      refine Int.lt_of_not_ge fun hy0 => ?_
      have : 0 ≤ g * y := Int.mul_nonneg (by omega) hy0
      omega
    refine ⟨by show 0 < -y; omega, ?_, ?_, by show (-x).natAbs ≤ _; omega, by show (-y).natAbs ≤ _; omega⟩
    · show a * (-y) = (-x) * b
      rw [hx, hy]; grind
    · show Int.gcd (-x) (-y) = 1
      rw [← cop]; simp [Int.gcd]
  · rw [if_neg hb, ex, ey]
    have hyn : 0 < y := by
      refine Int.lt_of_not_ge fun hy0 => ?_
      have : g * y ≤ 0 := Int.mul_nonpos_of_nonneg_of_nonpos (by omega) hy0
      omega
    refine ⟨hyn, ?_, cop, hax, hby⟩
    show a * y = x * b
    rw [hx, hy]; grind
theorem dvd_cop {a b c : Int} (h : a ∣ b * c) (g : Int.gcd a b = 1) : a ∣ c := Int.natAbs_dvd_natAbs.mp (Nat.Coprime.dvd_of_dvd_mul_left (k := a.natAbs) (m := b.natAbs) g (by rw [← Int.natAbs_mul]; exact Int.natAbs_dvd_natAbs.mpr h))
theorem log2_mono {a b : Nat} (h : a ≤ b) : a.log2 ≤ b.log2 := by
  by_cases ha : a = 0
  · subst ha; exact Nat.zero_le _
  · exact (Nat.le_log2 (by omega)).mpr (Nat.le_trans ((Nat.le_log2 ha).mp (Nat.le_refl _)) h)
theorem low_one {x y p q : Int} (hy : 0 < y) (hq : 0 < q) (h1 : Int.gcd x y = 1) (h2 : Int.gcd p q = 1) (e : x * q = p * y) : x = p ∧ y = q := by
  have d1 : y ∣ q := by
    have : y ∣ x * q := ⟨p, by rw [e, Int.mul_comm]⟩
    exact dvd_cop this (by rw [Int.gcd_comm]; exact h1)
  have d2 : q ∣ y := by
    have : q ∣ p * y := ⟨x, by rw [← e, Int.mul_comm]⟩
    exact dvd_cop this (by rw [Int.gcd_comm]; exact h2)
  have eyq : y = q := Int.dvd_antisymm (by omega) (by omega) d1 d2
  subst eyq
  exact ⟨Int.eq_of_mul_eq_mul_right (by omega) e, rfl⟩
theorem nf_eq {a b c d : Int} (hb : b ≠ 0) (hd : d ≠ 0) (e : a * d = c * b) : nf a b = nf c d := by
  obtain ⟨p1, p2, p3, _, _⟩ := nf_spec (a := a) hb
  obtain ⟨q1, q2, q3, _, _⟩ := nf_spec (a := c) hd
  have k : (nf a b).1 * (nf c d).2 = (nf c d).1 * (nf a b).2 := by
    have hbd : b * d ≠ 0 := Int.mul_ne_zero hb hd
    refine Int.eq_of_mul_eq_mul_right hbd ?_
    have t1 : (nf a b).1 * (nf c d).2 * (b * d) = a * d * ((nf a b).2 * (nf c d).2) := by grind
    have t2 : (nf c d).1 * (nf a b).2 * (b * d) = c * b * ((nf a b).2 * (nf c d).2) := by grind
    rw [t1, t2, e]
  obtain ⟨e1, e2⟩ := low_one p1 q1 p3 q3 k
  exact Prod.ext e1 e2
/-! ### bounds -/
def Lim (x : Int) : Prop := x.natAbs.log2 < 9000
theorem Lim.of {x : Int} {n : Nat} (h : x.natAbs < 2 ^ n) (h0 : 0 < n) (hn : n ≤ 9000) : Lim x := Nat.lt_of_lt_of_le (PySem.Flt.log2_lt_of h0 h) hn
theorem Lim.gcd {a b : Int} (h : b ≠ 0) (l : Lim b) : DivOk (Int.gcd a b : Int) := by
  have hg := g_pos (a := a) h
  refine ⟨by omega, ?_⟩
  have hle : (Int.gcd a b : Int).natAbs ≤ b.natAbs := by
    rw [Int.natAbs_natCast]
    exact Nat.le_of_dvd (by omega) (Int.gcd_dvd_natAbs_right a b)
  exact Nat.lt_of_le_of_lt (log2_mono hle) l
theorem DivOk.neg {x : Int} (h : DivOk x) : DivOk (0 - x) := ⟨by have := h.1; omega, by
  have e : (0 - x).natAbs = x.natAbs := by omega
  rw [e]; exact h.2⟩
theorem Lim.neg {x : Int} (h : Lim x) : Lim (0 - x) := by
  have e : (0 - x).natAbs = x.natAbs := by omega
  unfold Lim; rw [e]; exact h
/-- both parts below 2^400, what is under not 0 -/
def Bd (p : Int × Int) : Prop := p.2 ≠ 0 ∧ p.1.natAbs < 2 ^ 400 ∧ p.2.natAbs < 2 ^ 400
theorem mo4 {a b : Int} (h1 : a.natAbs < 2 ^ 400) (h2 : b.natAbs < 2 ^ 400) : MulOk a b := .inr (wide_mul h1 h2 (by decide) (by decide) (by decide))
theorem l4 {a b : Int} (h1 : a.natAbs < 2 ^ 400) (h2 : b.natAbs < 2 ^ 400) : Lim (a * b) := Lim.of (wide_lt h1 h2) (by decide) (by decide)
def enc2 (p : Int × Int) : PyData := .tuple [.int p.1, .int p.2]
theorem enc2_sh (p : Int × Int) : SeqAt.shaped (enc2 p) = true := rfl
theorem eqv2 (p q : Int × Int) : PyData.eqv (enc2 p) (enc2 q) = (p.1 == q.1 && (p.2 == q.2 && true)) := rfl
theorem abs_if (i : Int) : (if i < 0 then -i else i) = (i.natAbs : Int) := by split <;> omega
theorem gcd_step {x y : Int} (hx : 0 ≤ x) (hy : 0 < y) : Int.gcd y (x.fmod y) = Int.gcd x y := by
  rw [Int.fmod_eq_emod_of_nonneg x (by omega)]
  obtain ⟨m, rfl⟩ := Int.eq_ofNat_of_zero_le hx
  obtain ⟨n, rfl⟩ := Int.eq_ofNat_of_zero_le (Int.le_of_lt hy)
  show Int.gcd (n : Int) ((m : Int) % (n : Int)) = Int.gcd (m : Int) (n : Int)
  rw [← Int.natCast_emod]
  show Nat.gcd n (m % n) = Nat.gcd m n
  rw [Nat.gcd_comm n, ← Nat.gcd_rec, Nat.gcd_comm]
/-! ### the least common multiple of a row -/
theorem lcm_step {c d : Int} (hc : 0 < c) (hd : 0 < d) : (c * d).fdiv (Int.gcd c d : Int) = ((Nat.lcm c.toNat d.toNat : Nat) : Int) := by
  obtain ⟨m, rfl⟩ := Int.eq_ofNat_of_zero_le (Int.le_of_lt hc)
  obtain ⟨n, rfl⟩ := Int.eq_ofNat_of_zero_le (Int.le_of_lt hd)
  rw [Int.fdiv_eq_ediv_of_nonneg _ (by omega)]
  show ((m : Int) * (n : Int)) / ((Nat.gcd m n : Nat) : Int) = ((Nat.lcm m n : Nat) : Int)
  unfold Nat.lcm
  rw [← Int.natCast_mul, ← Int.natCast_ediv]
/-- a row's fractions -/
def Rw (p : Int × Int) : Prop := 0 < p.2 ∧ p.2 ≤ 12 ∧ p.1.natAbs ≤ 15
def lcmR (row : List (Int × Int)) : Int := row.foldl (fun c p => (c * p.2).fdiv (Int.gcd c p.2 : Int)) 1
theorem lcmR_snoc (row : List (Int × Int)) (p : Int × Int) : lcmR (row ++ [p]) = (lcmR row * p.2).fdiv (Int.gcd (lcmR row) p.2 : Int) := by
  unfold lcmR
  rw [List.foldl_append]
  rfl
def lcmN (row : List (Int × Int)) : Nat := row.foldl (fun c p => Nat.lcm c p.2.toNat) 1
theorem lcm_both (row : List (Int × Int)) (h : ∀ p ∈ row, Rw p) : lcmR row = (lcmN row : Int) ∧ lcmN row ∣ 27720 ∧ (∀ p ∈ row, p.2.toNat ∣ lcmN row) ∧ ∀ m, (∀ p ∈ row, p.2.toNat ∣ m) → lcmN row ∣ m := by
  have key : ∀ (row : List (Int × Int)) (c : Nat), (∀ p ∈ row, Rw p) → c ∣ 27720 →
      row.foldl (fun c p => (c * p.2).fdiv (Int.gcd c p.2 : Int)) (c : Int) = ((row.foldl (fun c p => Nat.lcm c p.2.toNat) c : Nat) : Int) ∧ row.foldl (fun c p => Nat.lcm c p.2.toNat) c ∣ 27720 ∧
        c ∣ row.foldl (fun c p => Nat.lcm c p.2.toNat) c ∧ (∀ p ∈ row, p.2.toNat ∣ row.foldl (fun c p => Nat.lcm c p.2.toNat) c) ∧ ∀ m, c ∣ m → (∀ p ∈ row, p.2.toNat ∣ m) → row.foldl (fun c p => Nat.lcm c p.2.toNat) c ∣ m := by
    intro row
    induction row with
    | nil => exact fun c _ hc => ⟨rfl, hc, Nat.dvd_refl c, (fun p hp => by cases hp), fun m hm _ => hm⟩
    | cons p r ih =>
      intro c hr hc
      have hp := hr p List.mem_cons_self
      have hd : p.2.toNat ∣ 27720 := by
        have h1 : p.2.toNat ≤ 12 := by have := hp.2.1; omega
        have h2 : 0 < p.2.toNat := by have := hp.1; omega
        have all : ∀ k, k ≤ 12 → 0 < k → k ∣ 27720 := by decide
        exact all _ h1 h2
      have hcp : 0 < c := Nat.pos_of_dvd_of_pos hc (by decide)
      have e : ((c : Int) * p.2).fdiv (Int.gcd (c : Int) p.2 : Int) = ((Nat.lcm c p.2.toNat : Nat) : Int) := lcm_step (by omega) hp.1
      rw [List.foldl_cons, List.foldl_cons, e]
      obtain ⟨a1, a2, a3, a4, a5⟩ := ih (Nat.lcm c p.2.toNat) (fun q hq => hr q (List.mem_cons_of_mem _ hq)) (Nat.lcm_dvd hc hd)
      refine ⟨a1, a2, Nat.dvd_trans (Nat.dvd_lcm_left _ _) a3, fun q hq => ?_, fun m hm hq => a5 m (Nat.lcm_dvd hm (hq p List.mem_cons_self)) fun q h => hq q (List.mem_cons_of_mem _ h)⟩
      rcases List.mem_cons.mp hq with e | hq
      · subst e
        exact Nat.dvd_trans (Nat.dvd_lcm_right _ _) a3
      · exact a4 q hq
  obtain ⟨a1, a2, _, a4, a5⟩ := key row 1 h (by decide)
  exact ⟨a1, a2, a4, fun m hm => a5 m (Nat.one_dvd m) hm⟩
theorem lcmR_bounds {row : List (Int × Int)} (h : ∀ p ∈ row, Rw p) : 0 < lcmR row ∧ lcmR row ≤ 27720 ∧ ∀ p ∈ row, p.2 ∣ lcmR row := by
  obtain ⟨a1, a2, a3, _⟩ := lcm_both row h
  have hp : 0 < lcmN row := Nat.pos_of_dvd_of_pos a2 (by decide)
  have hl : lcmN row ≤ 27720 := Nat.le_of_dvd (by decide) a2
  refine ⟨by omega, by omega, fun p hp => ?_⟩
  have hq := a3 p hp
  have hp0 := (h p hp).1
  rw [a1]
  have e : p.2 = ((p.2.toNat : Nat) : Int) := by omega
  rw [e]
  exact Int.natCast_dvd_natCast.mpr hq
/-- no smaller number will do -/
theorem lcmR_least {row : List (Int × Int)} (h : ∀ p ∈ row, Rw p) {m : Int} (hm : 0 < m) (hd : ∀ p ∈ row, p.2 ∣ m) : lcmR row ≤ m := by
  obtain ⟨a1, a2, a3, a4⟩ := lcm_both row h
  have q := a4 m.toNat fun p hp => by
    have e : p.2 = ((p.2.toNat : Nat) : Int) := by have := (h p hp).1; omega
    have e2 : m = ((m.toNat : Nat) : Int) := by omega
    have := hd p hp
    rw [e, e2] at this
    exact Int.natCast_dvd_natCast.mp this
  have := Nat.le_of_dvd (by omega) q
  omega
def wrow (L : Int) (row : List (Int × Int)) : List Int := row.map fun p => p.1 * L.fdiv p.2
theorem wrow_abs {L : Int} (hL : 0 < L) (h2 : L ≤ 27720) : ∀ row : List (Int × Int), (∀ p ∈ row, Rw p) → (wrow L row).sum.natAbs ≤ row.length * 415800
  | [], _ => by simp [wrow]
  | p :: r, h => by
    have ih := wrow_abs hL h2 r fun q hq => h q (List.mem_cons_of_mem _ hq)
    obtain ⟨h3, h4, h5⟩ := h p List.mem_cons_self
    have e : (wrow L (p :: r)).sum = p.1 * L.fdiv p.2 + (wrow L r).sum := by simp [wrow]
    rw [e, List.length_cons]
    have hq : (L.fdiv p.2).natAbs ≤ 27720 := by
      rw [Int.fdiv_eq_ediv_of_nonneg L (by omega)]
      have g1 : 0 ≤ L / p.2 := Int.ediv_nonneg (by omega) (by omega)
      have g2 : L / p.2 ≤ L := Int.ediv_le_self _ (by omega)
      omega
    have hm : (p.1 * L.fdiv p.2).natAbs ≤ 415800 := by
      rw [Int.natAbs_mul]
      calc p.1.natAbs * (L.fdiv p.2).natAbs ≤ 15 * 27720 := Nat.mul_le_mul h5 hq
        _ = 415800 := by decide
    have := Int.natAbs_add_le (p.1 * L.fdiv p.2) (wrow L r).sum
    omega
def plusR (p q : Int × Int) : Int × Int := nf (p.1 * q.2 + q.1 * p.2) (p.2 * q.2)
theorem plus_step {s L n d : Int} (hL : 0 < L) (hd : 0 < d) (hdv : d ∣ L) : plusR (nf s L) (n, d) = nf (s + n * L.fdiv d) L := by
  obtain ⟨p1, p2, p3, _, _⟩ := nf_spec (a := s) (show L ≠ 0 by omega)
  obtain ⟨e, he⟩ := hdv
  have hf : L.fdiv d = e := by
    rw [Int.fdiv_eq_ediv_of_nonneg L (by omega), he]
    exact Int.mul_ediv_cancel_left e (by omega)
  unfold plusR
  generalize hx : (nf s L).1 = x at p2
  generalize hy : (nf s L).2 = y at p1 p2
  refine nf_eq (Int.mul_ne_zero (by omega) (by show d ≠ 0; omega)) (by omega) ?_
  show (x * d + n * y) * L = (s + n * L.fdiv d) * (y * d)
  rw [hf]
  have : s * y * d = x * L * d := by rw [p2]
  rw [he] at this ⊢
  grind
theorem nf_zero {L : Int} (hL : 0 < L) : nf 0 L = (0, 1) := by
  have e := nf_eq (a := 0) (b := L) (c := 0) (d := 1) (by omega) (by decide) (by grind)
  rw [e]
  rfl
end Lw

namespace Lw
open PySem L2 DL
local macro_rules | `(tactic| walk_at "go") => `(tactic| repeat (first | refine ⟨rfl, ?_⟩ | refine ⟨Nat.le_of_ble_eq_true rfl, ?_⟩ | refine sq_go ?_))
local macro_rules | `(tactic| walk_at "st") => `(tactic| repeat (first | refine ⟨rfl, ?_⟩ | refine ⟨Nat.le_of_ble_eq_true rfl, ?_⟩))

def topS (i : Nat) : Stmt := PySem.Challenge.pw_pointwright_k42_whole_fractions.main.body.getD i (.Pass ⟨0, 0, 0, 0⟩)
abbrev s_divisor : Stmt := topS 1
abbrev s_fraction : Stmt := topS 2
abbrev s_whole_of : Stmt := topS 3
abbrev s_is_fraction : Stmt := topS 4
abbrev s_plus : Stmt := topS 5
abbrev s_minus : Stmt := topS 6
abbrev s_times : Stmt := topS 7
abbrev s_part : Stmt := topS 8
abbrev s_fraction_sign : Stmt := topS 9
abbrev s_is_less : Stmt := topS 10
abbrev s_total : Stmt := topS 11
abbrev s_cleared : Stmt := topS 12
abbrev s__law_draw : Stmt := topS 14
abbrev s__law_common : Stmt := topS 15
abbrev s__law_less : Stmt := topS 16
abbrev s__law_number : Stmt := topS 17
abbrev s__law_fractions_hold : Stmt := topS 18
abbrev s_law : Stmt := topS 19
structure Tx (K : PySem.W.Frag) (mg : Str → Option Value) where
  f_divisor : Addr
  d_divisor : FuncData
  F_divisor : Fun K "divisor" "divisor" s_divisor f_divisor d_divisor
  b_divisor : Binds K d_divisor ["first", "second"] []
  g_divisor : mg "divisor" = some (.ref f_divisor)
  f_fraction : Addr
  d_fraction : FuncData
  F_fraction : Fun K "fraction" "fraction" s_fraction f_fraction d_fraction
  b_fraction : Binds K d_fraction ["over", "under"] []
  g_fraction : mg "fraction" = some (.ref f_fraction)
  f_whole_of : Addr
  d_whole_of : FuncData
  F_whole_of : Fun K "whole_of" "whole_of" s_whole_of f_whole_of d_whole_of
  b_whole_of : Binds K d_whole_of ["number"] []
  g_whole_of : mg "whole_of" = some (.ref f_whole_of)
  f_is_fraction : Addr
  d_is_fraction : FuncData
  F_is_fraction : Fun K "is_fraction" "is_fraction" s_is_fraction f_is_fraction d_is_fraction
  b_is_fraction : Binds K d_is_fraction ["value"] []
  g_is_fraction : mg "is_fraction" = some (.ref f_is_fraction)
  f_plus : Addr
  d_plus : FuncData
  F_plus : Fun K "plus" "plus" s_plus f_plus d_plus
  b_plus : Binds K d_plus ["first", "second"] []
  g_plus : mg "plus" = some (.ref f_plus)
  f_minus : Addr
  d_minus : FuncData
  F_minus : Fun K "minus" "minus" s_minus f_minus d_minus
  b_minus : Binds K d_minus ["first", "second"] []
  g_minus : mg "minus" = some (.ref f_minus)
  f_times : Addr
  d_times : FuncData
  F_times : Fun K "times" "times" s_times f_times d_times
  b_times : Binds K d_times ["first", "second"] []
  g_times : mg "times" = some (.ref f_times)
  f_part : Addr
  d_part : FuncData
  F_part : Fun K "part" "part" s_part f_part d_part
  b_part : Binds K d_part ["first", "second"] []
  g_part : mg "part" = some (.ref f_part)
  f_fraction_sign : Addr
  d_fraction_sign : FuncData
  F_fraction_sign : Fun K "fraction_sign" "fraction_sign" s_fraction_sign f_fraction_sign d_fraction_sign
  b_fraction_sign : Binds K d_fraction_sign ["one"] []
  g_fraction_sign : mg "fraction_sign" = some (.ref f_fraction_sign)
  f_is_less : Addr
  d_is_less : FuncData
  F_is_less : Fun K "is_less" "is_less" s_is_less f_is_less d_is_less
  b_is_less : Binds K d_is_less ["first", "second"] []
  g_is_less : mg "is_less" = some (.ref f_is_less)
  f_total : Addr
  d_total : FuncData
  F_total : Fun K "total" "total" s_total f_total d_total
  b_total : Binds K d_total ["row"] []
  g_total : mg "total" = some (.ref f_total)
  f_cleared : Addr
  d_cleared : FuncData
  F_cleared : Fun K "cleared" "cleared" s_cleared f_cleared d_cleared
  b_cleared : Binds K d_cleared ["row"] []
  g_cleared : mg "cleared" = some (.ref f_cleared)
  f__law_draw : Addr
  d__law_draw : FuncData
  F__law_draw : Fun K "_law_draw" "_law_draw" s__law_draw f__law_draw d__law_draw
  b__law_draw : Binds K d__law_draw ["state", "script", "size"] []
  g__law_draw : mg "_law_draw" = some (.ref f__law_draw)
  f__law_common : Addr
  d__law_common : FuncData
  F__law_common : Fun K "_law_common" "_law_common" s__law_common f__law_common d__law_common
  b__law_common : Binds K d__law_common ["one", "two"] []
  g__law_common : mg "_law_common" = some (.ref f__law_common)
  f__law_less : Addr
  d__law_less : FuncData
  F__law_less : Fun K "_law_less" "_law_less" s__law_less f__law_less d__law_less
  b__law_less : Binds K d__law_less ["over", "under"] []
  g__law_less : mg "_law_less" = some (.ref f__law_less)
  f__law_number : Addr
  d__law_number : FuncData
  F__law_number : Fun K "_law_number" "_law_number" s__law_number f__law_number d__law_number
  b__law_number : Binds K d__law_number ["state", "script"] []
  g__law_number : mg "_law_number" = some (.ref f__law_number)
  f__law_fractions_hold : Addr
  d__law_fractions_hold : FuncData
  F__law_fractions_hold : Fun K "_law_fractions_hold" "_law_fractions_hold" s__law_fractions_hold f__law_fractions_hold d__law_fractions_hold
  b__law_fractions_hold : Binds K d__law_fractions_hold ["state", "script"] []
  g__law_fractions_hold : mg "_law_fractions_hold" = some (.ref f__law_fractions_hold)
  f_law : Addr
  d_law : FuncData
  F_law : Fun K "law" "law" s_law f_law d_law
  b_law : Binds K d_law ["script"] []
  g_law : mg "law" = some (.ref f_law)
  z_abs : mg "abs" = none
  z_all : mg "all" = none
  z_bool : mg "bool" = none
  z_int : mg "int" = none
  z_isinstance : mg "isinstance" = none
  z_len : mg "len" = none
  z_list : mg "list" = none
  z_range : mg "range" = none
  z_sum : mg "sum" = none
  z_tuple : mg "tuple" = none
theorem sc_divisor : FnScope ["first", "second"] ["first", "second"] (defScope s_divisor) := ⟨rfl, rfl, rfl, by decide +kernel, rfl, by decide +kernel, by decide +kernel⟩
theorem sc_fraction : FnScope ["over", "under", "common"] ["over", "under"] (defScope s_fraction) := ⟨rfl, rfl, rfl, by decide +kernel, rfl, by decide +kernel, by decide +kernel⟩
theorem sc_whole_of : FnScope ["number"] ["number"] (defScope s_whole_of) := ⟨rfl, rfl, rfl, by decide +kernel, rfl, by decide +kernel, by decide +kernel⟩
theorem sc_is_fraction : FnScope ["value", "part"] ["value"] (defScope s_is_fraction) := ⟨rfl, rfl, rfl, by decide +kernel, rfl, by decide +kernel, by decide +kernel⟩
theorem sc_plus : FnScope ["first", "second"] ["first", "second"] (defScope s_plus) := ⟨rfl, rfl, rfl, by decide +kernel, rfl, by decide +kernel, by decide +kernel⟩
theorem sc_minus : FnScope ["first", "second"] ["first", "second"] (defScope s_minus) := ⟨rfl, rfl, rfl, by decide +kernel, rfl, by decide +kernel, by decide +kernel⟩
theorem sc_times : FnScope ["first", "second"] ["first", "second"] (defScope s_times) := ⟨rfl, rfl, rfl, by decide +kernel, rfl, by decide +kernel, by decide +kernel⟩
theorem sc_part : FnScope ["first", "second"] ["first", "second"] (defScope s_part) := ⟨rfl, rfl, rfl, by decide +kernel, rfl, by decide +kernel, by decide +kernel⟩
theorem sc_fraction_sign : FnScope ["one"] ["one"] (defScope s_fraction_sign) := ⟨rfl, rfl, rfl, by decide +kernel, rfl, by decide +kernel, by decide +kernel⟩
theorem sc_is_less : FnScope ["first", "second"] ["first", "second"] (defScope s_is_less) := ⟨rfl, rfl, rfl, by decide +kernel, rfl, by decide +kernel, by decide +kernel⟩
theorem sc_total : FnScope ["row", "found", "one"] ["row"] (defScope s_total) := ⟨rfl, rfl, rfl, by decide +kernel, rfl, by decide +kernel, by decide +kernel⟩
theorem sc_cleared : FnScope ["row", "common", "one"] ["row"] (defScope s_cleared) := ⟨rfl, rfl, rfl, by decide +kernel, rfl, by decide +kernel, by decide +kernel⟩
theorem sc__law_draw : FnScope ["state", "script", "size", "cell", "mixed", "digit"] ["state", "script", "size"] (defScope s__law_draw) := ⟨rfl, rfl, rfl, by decide +kernel, rfl, by decide +kernel, by decide +kernel⟩
theorem sc__law_common : FnScope ["one", "two"] ["one", "two"] (defScope s__law_common) := ⟨rfl, rfl, rfl, by decide +kernel, rfl, by decide +kernel, by decide +kernel⟩
theorem sc__law_less : FnScope ["over", "under", "common"] ["over", "under"] (defScope s__law_less) := ⟨rfl, rfl, rfl, by decide +kernel, rfl, by decide +kernel, by decide +kernel⟩
theorem sc__law_number : FnScope ["state", "script", "wide"] ["state", "script"] (defScope s__law_number) := ⟨rfl, rfl, rfl, by decide +kernel, rfl, by decide +kernel, by decide +kernel⟩
theorem sc__law_fractions_hold : FnScope ["state", "script", "a", "b", "under", "c", "d", "one", "two", "row", "least", "wrong", "k", "over", "value"] ["state", "script"] (defScope s__law_fractions_hold) := ⟨rfl, rfl, rfl, by decide +kernel, rfl, by decide +kernel, by decide +kernel⟩
theorem sc_law : FnScope ["script", "state", "turn"] ["script"] (defScope s_law) := ⟨rfl, rfl, rfl, by decide +kernel, rfl, by decide +kernel, by decide +kernel⟩

def encs (row : List (Int × Int)) : PyData := .list (row.map enc2)
def lns (ns : List Int) : PyData := .list (ns.map PyData.int)
def isFr : PyData → Bool
  | .tuple [.int a, .int b] => decide (0 < b) && decide (Int.gcd a b = 1)
  | _ => false
def p_divisor : DSp := fun ds Q => ∃ a b : Int, ds = [.int a, .int b] ∧ Q (.sh (.int (Int.gcd a b : Int)))
theorem mo_divisor : SpMo p_divisor := .of fun ds Q Q' k ⟨a, b, e, q⟩ => ⟨a, b, e, k _ q⟩
def p__law_common : DSp := p_divisor
theorem mo__law_common : SpMo p__law_common := mo_divisor
def p_fraction : DSp := fun ds Q => ∃ a b : Int, ds = [.int a, .int b] ∧ b ≠ 0 ∧ Lim b ∧ Q (.sh (enc2 (nf a b)))
theorem mo_fraction : SpMo p_fraction := .of fun ds Q Q' k ⟨a, b, e, h1, h2, q⟩ => ⟨a, b, e, h1, h2, k _ q⟩
def p__law_less : DSp := p_fraction
theorem mo__law_less : SpMo p__law_less := mo_fraction
def p_whole_of : DSp := fun ds Q => ∃ x, ds = [x] ∧ Q (.sh (.tuple [x, .int 1]))
theorem mo_whole_of : SpMo p_whole_of := .of fun ds Q Q' k ⟨a, e, q⟩ => ⟨a, e, k _ q⟩
def p_is_fraction : DSp := fun ds Q => ∃ d, ds = [d] ∧ Q (.sh (.bool (isFr d)))
theorem mo_is_fraction : SpMo p_is_fraction := .of fun ds Q Q' k ⟨a, e, q⟩ => ⟨a, e, k _ q⟩
def p_two (f : Int × Int → Int × Int → Int × Int) (c : Int × Int → Int × Int → Prop) : DSp := fun ds Q => ∃ p q : Int × Int, ds = [enc2 p, enc2 q] ∧ Bd p ∧ Bd q ∧ c p q ∧ Q (.sh (enc2 (f p q)))
theorem mo_two {f c} : SpMo (p_two f c) := .of fun ds Q Q' k ⟨a, b, e, h1, h2, h3, q⟩ => ⟨a, b, e, h1, h2, h3, k _ q⟩
def p_plus : DSp := p_two plusR fun _ _ => True
theorem mo_plus : SpMo p_plus := mo_two
def p_minus : DSp := p_two (fun p q => nf (p.1 * q.2 - q.1 * p.2) (p.2 * q.2)) fun _ _ => True
theorem mo_minus : SpMo p_minus := mo_two
def p_times : DSp := p_two (fun p q => nf (p.1 * q.1) (p.2 * q.2)) fun _ _ => True
theorem mo_times : SpMo p_times := mo_two
def p_part : DSp := p_two (fun p q => nf (p.1 * q.2) (p.2 * q.1)) fun _ q => q.1 ≠ 0
theorem mo_part : SpMo p_part := mo_two
def sgn (x : Int) : Int := (if decide (0 < x) = true then 1 else 0) - (if decide (x < 0) = true then 1 else 0)
def p_fraction_sign : DSp := fun ds Q => ∃ p : Int × Int, ds = [enc2 p] ∧ Q (.sh (.int (sgn p.1)))
theorem mo_fraction_sign : SpMo p_fraction_sign := .of fun ds Q Q' k ⟨a, e, q⟩ => ⟨a, e, k _ q⟩
def p_is_less : DSp := fun ds Q => ∃ p q : Int × Int, ds = [enc2 p, enc2 q] ∧ Bd p ∧ Bd q ∧ Q (.sh (.bool (decide (p.1 * q.2 < q.1 * p.2))))
theorem mo_is_less : SpMo p_is_less := .of fun ds Q Q' k ⟨a, b, e, h1, h2, q⟩ => ⟨a, b, e, h1, h2, k _ q⟩
def p_total : DSp := fun ds Q => ∃ (row : List (Int × Int)) (L : Int), ds = [encs row] ∧ (∀ p ∈ row, Rw p) ∧ row.length ≤ 5 ∧ 0 < L ∧ L ≤ 27720 ∧ (∀ p ∈ row, p.2 ∣ L) ∧ Q (.sh (enc2 (nf (wrow L row).sum L)))
theorem mo_total : SpMo p_total := .of fun ds Q Q' k ⟨a, b, e, h1, h2, h3, h4, h5, q⟩ => ⟨a, b, e, h1, h2, h3, h4, h5, k _ q⟩
def p_cleared : DSp := fun ds Q => ∃ row : List (Int × Int), ds = [encs row] ∧ (∀ p ∈ row, Rw p) ∧ row.length ≤ 5 ∧ Q (.sh (.tuple [.int (lcmR row), lns (wrow (lcmR row) row)]))
theorem mo_cleared : SpMo p_cleared := .of fun ds Q Q' k ⟨a, e, h1, h2, q⟩ => ⟨a, e, h1, h2, k _ q⟩
/-- the law's own state: two numbers from 0 on -/
def St2 (cs : List PyData) : Prop := ∃ a b : Int, cs = [.int a, .int b] ∧ 0 ≤ a ∧ 0 ≤ b
def p__law_draw : DSp1 := fun cs ds Q => St2 cs ∧ ∃ (ns : List Int) (size : Int), ds = [lns ns, .int size] ∧ ns.length ≤ 63 ∧ 0 < size ∧ Lim size ∧ ∀ r cs', 0 ≤ r → r < size → St2 cs' → Q (.sh (.int r)) cs'
theorem mo__law_draw : SpMo1 p__law_draw := .of fun cs ds Q Q' k ⟨s, a, b, e, h0, h1, h2, q⟩ => ⟨s, a, b, e, h0, h1, h2, fun r c h3 h4 h5 => k _ _ (q r c h3 h4 h5)⟩
def p__law_number : DSp1 := fun cs ds Q => St2 cs ∧ ∃ ns : List Int, ds = [lns ns] ∧ ns.length ≤ 63 ∧ ∀ r cs', r.natAbs ≤ 10 ^ 20 → St2 cs' → Q (.sh (.int r)) cs'
theorem mo__law_number : SpMo1 p__law_number := .of fun cs ds Q Q' k ⟨s, a, e, h1, q⟩ => ⟨s, a, e, h1, fun r c h3 h4 => k _ _ (q r c h3 h4)⟩
def p__law_fractions_hold : DSp1 := fun cs ds Q => St2 cs ∧ ∃ ns : List Int, ds = [lns ns] ∧ ns.length ≤ 63 ∧ ∀ cs', St2 cs' → Q (.sh (.bool true)) cs'
theorem mo__law_fractions_hold : SpMo1 p__law_fractions_hold := .of fun cs ds Q Q' k ⟨s, a, e, h1, q⟩ => ⟨s, a, e, h1, fun c h3 => k _ _ (q c h3)⟩
def p_law : DSp := fun ds Q => ∃ ns : List Int, ds = [lns ns] ∧ ns.length ≤ 63 ∧ Q (.sh (.bool true))
theorem mo_law : SpMo p_law := .of fun ds Q Q' k ⟨a, e, h1, q⟩ => ⟨a, e, h1, k _ q⟩
def i1 : DS → Nat
  | [_, some (.sh (.int b))] => b.toNat
  | _ => 0

def t_divisor : DTS := (sSq (sPar 0 1 (aCons (eCl cAbs (osCons (oN 0) osNil)) (aCons (eCl cAbs (osCons (oN 1) osNil)) aNil)))
  (sSq (sWh (tE (eOp dGt (oN 1) (oE (eC (.int 0))))) (sPar 0 1 (aCons (eN 1) (aCons (eOp dMod (oE (eCl cInt (osCons (oN 0) osNil))) (oN 1)) aNil))))
  (sRt (eN 0))))

theorem rd_divisor (ds : List PyData) (Q : RV → Prop) (hl : ds.length = 2) (h : p_divisor ds Q) : t_divisor { nx := fun _ => Q (.sh .none), rt := fun r _ => Q r } (startD 2 ds) := by
  obtain ⟨a, b, rfl, q⟩ := h
  walk_at "go"
  refine whBy (fun ρ => ∃ x y : Int, ρ = [some (.sh (.int x)), some (.sh (.int y))] ∧ 0 ≤ x ∧ 0 ≤ y ∧ Int.gcd x y = Int.gcd a b) i1 ⟨_, _, rfl, ?_, ?_, ?_⟩ ?_
  · rw [abs_if]; omega
  · rw [abs_if]; omega
  · rw [abs_if, abs_if]; simp [Int.gcd]
  · rintro ρ K ⟨x, y, rfl, hx, hy, hg⟩ hK
    walk_at "go"
    refine ite2 (fun h => ?_) (fun h => ?_)
    · have hy1 : 0 < y := of_decide_eq_true h
      walk_at "go"
      refine ⟨by omega, ?_⟩
      walk_at "go"
      refine hK _ ⟨y, x.fmod y, rfl, hy, ?_, by rw [gcd_step hx hy1, hg]⟩ ?_
      · rw [Int.fmod_eq_emod_of_nonneg x hy]; exact Int.emod_nonneg x (by omega)
      · show (x.fmod y).toNat < y.toNat
        rw [Int.fmod_eq_emod_of_nonneg x hy]
        have := Int.emod_lt_of_pos x hy1
        omega
    · have hy1 : ¬ 0 < y := of_decide_eq_false (by simpa using h)
      walk_at "go"
      have : y = 0 := by omega
      subst this
      have e : x = (Int.gcd a b : Int) := by rw [← hg]; simp [Int.gcd]; omega
      rw [e]
      exact q

theorem der_divisor {P : Program} {w : World} {base : Heap} {K : PySem.W.Frag} {mg : Str → Option Value} (T : Tx K mg) (cdv : Value) (A : Around) (outer : List Env) (s : Shared) (H : Hp) (E : XK) (hr : Room 0 (A.deeper (PyProof.Rows.envOfC "divisor" (defScope s_divisor) s.heap.objs.size T.f_divisor cdv))) :
    DSs (cxOf CX0 P w K mg base ["first", "second"] "divisor" (defScope s_divisor) T.f_divisor cdv A outer s H E).nox (defBody s_divisor) t_divisor :=
  (dss_cons (ds_par 0 1 rfl sc_divisor.nd (da_cons (de_callB cd_abs (by rfl) T.z_abs (by decide +kernel) (dos_cons (do_n 0) dos_nil)) (da_cons (de_callB cd_abs (by rfl) T.z_abs (by decide +kernel) (dos_cons (do_n 1) dos_nil)) da_nil)))
  (dss_cons (ds_while PassesOwn.never (dt_cmp od_gt (do_n 1) (do_e de_int)) (dss_one (ds_par 0 1 rfl sc_divisor.nd (da_cons (de_n 1) (da_cons (de_op od_mod (do_e (de_callTy cd_int (by rfl) T.z_int (by decide +kernel) (dos_cons (do_n 0) dos_nil))) (do_n 1)) da_nil)))))
  (dss_one (ds_ret (de_n 0)))))
theorem ok_divisor {P : Program} {w : World} {base : Heap} {K : PySem.W.Frag} {mg : Str → Option Value} (T : Tx K mg) : FnOk P w K mg base CX0 1 T.f_divisor T.d_divisor ["first", "second"] (toSp K 2 p_divisor) :=
  okD T.F_divisor sc_divisor fun cdv A outer s H E hr => ⟨t_divisor, der_divisor T cdv A outer s H E hr, rd_divisor⟩

def t_fraction : DTS := (sSq (sAs (eCall 2 p_divisor (aCons (eN 0) (aCons (eN 1) aNil))) (gN 2))
  (sSq (sIf (tE (eOp dLt (oN 1) (oE (eC (.int 0))))) (sAs (eOp dSub (oE (eC (.int 0))) (oN 2)) (gN 2)) sNx)
  (sRt (eTup (aCons (eOp dFdiv (oN 0) (oN 2)) (aCons (eOp dFdiv (oN 1) (oN 2)) aNil))))))

theorem rd_fraction (ds : List PyData) (Q : RV → Prop) (hl : ds.length = 2) (h : p_fraction ds Q) : t_fraction { nx := fun _ => Q (.sh .none), rt := fun r _ => Q r } (startD 3 ds) := by
  obtain ⟨a, b, rfl, hb, hL, q⟩ := h
  walk_at "go"
  refine ⟨a, b, rfl, ?_⟩
  walk_at "go"
  have dk := Lim.gcd (a := a) hb hL
  refine ite2 (fun h => ?_) (fun h => ?_)
  · have hy1 : b < 0 := of_decide_eq_true h
    walk_at "go"
    refine ⟨DivOk.neg dk, ?_⟩
    walk_at "go"
    refine ⟨DivOk.neg dk, ?_⟩
    walk_at "go"
    show Q (.sh (enc2 (a.fdiv (0 - (Int.gcd a b : Int)), b.fdiv (0 - (Int.gcd a b : Int)))))
    rw [nf_frac hb hy1]
    exact q
  · have hy1 : ¬ b < 0 := of_decide_eq_false (by simpa using h)
    walk_at "go"
    refine ⟨dk, ?_⟩
    walk_at "go"
    refine ⟨dk, ?_⟩
    walk_at "go"
    show Q (.sh (enc2 (a.fdiv (Int.gcd a b : Int), b.fdiv (Int.gcd a b : Int))))
    rw [nf_frac' hb hy1]
    exact q

theorem der_fraction {P : Program} {w : World} {base : Heap} {K : PySem.W.Frag} {mg : Str → Option Value} (T : Tx K mg) (cdv : Value) (A : Around) (outer : List Env) (s : Shared) (H : Hp) (E : XK) (hr : Room 1 (A.deeper (PyProof.Rows.envOfC "fraction" (defScope s_fraction) s.heap.objs.size T.f_fraction cdv))) :
    DSs (cxOf CX0 P w K mg base ["over", "under", "common"] "fraction" (defScope s_fraction) T.f_fraction cdv A outer s H E).nox (defBody s_fraction) t_fraction :=
  (dss_cons (ds_set 2 (de_call (n := 2) (ok_divisor T) mo_divisor (hr.mono (by decide)) (by rfl) T.g_divisor T.F_divisor.kp T.b_divisor (da_cons (de_n 0) (da_cons (de_n 1) da_nil))) sc_fraction.nd)
  (dss_cons (ds_if (dt_cmp (od_lt hr.units0) (do_n 1) (do_e de_int)) (dss_one (ds_set 2 (de_op od_sub (do_e de_int) (do_n 2)) sc_fraction.nd)) dss_nil)
  (dss_one (ds_ret (de_tup (da_cons (de_op od_fdiv (do_n 0) (do_n 2)) (da_cons (de_op od_fdiv (do_n 1) (do_n 2)) da_nil)))))))
theorem ok_fraction {P : Program} {w : World} {base : Heap} {K : PySem.W.Frag} {mg : Str → Option Value} (T : Tx K mg) : FnOk P w K mg base CX0 2 T.f_fraction T.d_fraction ["over", "under"] (toSp K 2 p_fraction) :=
  okD T.F_fraction sc_fraction fun cdv A outer s H E hr => ⟨t_fraction, der_fraction T cdv A outer s H E hr, rd_fraction⟩

def t_whole_of : DTS := (sRt (eTup (aCons (eN 0) (aCons (eC (.int 1)) aNil))))

theorem rd_whole_of (ds : List PyData) (Q : RV → Prop) (hl : ds.length = 1) (h : p_whole_of ds Q) : t_whole_of { nx := fun _ => Q (.sh .none), rt := fun r _ => Q r } (startD 1 ds) := by
  obtain ⟨x, rfl, q⟩ := h
  walk_at "go"
  exact q

theorem der_whole_of {P : Program} {w : World} {base : Heap} {K : PySem.W.Frag} {mg : Str → Option Value} (T : Tx K mg) (cdv : Value) (A : Around) (outer : List Env) (s : Shared) (H : Hp) (E : XK) (hr : Room 0 (A.deeper (PyProof.Rows.envOfC "whole_of" (defScope s_whole_of) s.heap.objs.size T.f_whole_of cdv))) :
    DSs (cxOf CX0 P w K mg base ["number"] "whole_of" (defScope s_whole_of) T.f_whole_of cdv A outer s H E).nox (defBody s_whole_of) t_whole_of :=
  (dss_one (ds_ret (de_tup (da_cons (de_n 0) (da_cons de_int da_nil)))))
theorem ok_whole_of {P : Program} {w : World} {base : Heap} {K : PySem.W.Frag} {mg : Str → Option Value} (T : Tx K mg) : FnOk P w K mg base CX0 1 T.f_whole_of T.d_whole_of ["number"] (toSp K 1 p_whole_of) :=
  okD T.F_whole_of sc_whole_of fun cdv A outer s H E hr => ⟨t_whole_of, der_whole_of T cdv A outer s H E hr, rd_whole_of⟩

def t_is_fraction : DTS := (sSq (sIf (tOr' (tNo (tE (eIsi "tuple" (oN 0)))) (tE (eOp dNe (oE (eCl cLen (osCons (oN 0) osNil))) (oE (eC (.int 2)))))) (sRt (eC (.bool false))) sNx)
  (sSq (sIf (tNo (tE (eCl cAll (osCons (oE (eF (fLc (iE (eN 0)) (gN 1) tYs (eAnd (eIsi "int" (oN 1)) (eNot (eIsi "bool" (oN 1)))) [1]))) osNil)))) (sRt (eC (.bool false))) sNx)
  (sRt (eAnd (eOp dGt (oE (eOp dIx (oN 0) (oE (eC (.int 1))))) (oE (eC (.int 0)))) (eOp dEq (oE (eCall 2 p_divisor (aCons (eOp dIx (oN 0) (oE (eC (.int 0)))) (aCons (eOp dIx (oN 0) (oE (eC (.int 1)))) aNil)))) (oE (eC (.int 1))))))))

def isI : PyData → Bool
  | .int _ => true
  | _ => false
theorem elt_isI {ρ : DS} {Q : PyData → DS → Prop} {d : PyData} (h : ρ[1]? = some (some (.sh d))) (q : Q (.bool (isI d)) ρ) : eAnd (eIsi "int" (oN 1)) (eNot (eIsi "bool" (oN 1))) ρ Q := by
  have e : vN 1 ρ = some d := by unfold vN; rw [h]
  show (vN 1 ρ).isSome = true ∧ _
  refine ⟨by rw [e]; rfl, ?_⟩
  show match vN 1 ρ with
    | some d => (fun (d : PyData) (ρ' : DS) => match d with
      | .bool true => eNot (eIsi "bool" (oN 1)) ρ' Q
      | .bool false => Q (.bool false) ρ'
      | _ => False) (.bool (isiD "int" d)) ρ
    | none => False
  rw [e]
  cases d with
  | int i =>
    show (vN 1 ρ).isSome = true ∧ _
    refine ⟨by rw [e]; rfl, ?_⟩
    show match vN 1 ρ with
      | some d => (fun (d : PyData) (ρ' : DS) => match d with
        | .bool b => Q (.bool (!b)) ρ'
        | _ => False) (.bool (isiD "bool" d)) ρ
      | none => False
    rw [e]
    exact q
  | bool i =>
    show (vN 1 ρ).isSome = true ∧ _
    refine ⟨by rw [e]; rfl, ?_⟩
    show match vN 1 ρ with
      | some d => (fun (d : PyData) (ρ' : DS) => match d with
        | .bool b => Q (.bool (!b)) ρ'
        | _ => False) (.bool (isiD "bool" d)) ρ
      | none => False
    rw [e]
    exact q
  | none => exact q
  | str x => exact q
  | list x => exact q
  | tuple x => exact q
  | dict x => exact q
theorem isI_int {d : PyData} (h : isI d = true) : ∃ i, d = .int i := by
  cases d <;> first
    | exact ⟨_, rfl⟩
    | cases h
theorem rd_is_fraction (ds : List PyData) (Q : RV → Prop) (hl : ds.length = 1) (h : p_is_fraction ds Q) : t_is_fraction { nx := fun _ => Q (.sh .none), rt := fun r _ => Q r } (startD 2 ds) := by
  obtain ⟨d, rfl, q⟩ := h
  by_cases ht : ∃ xs, d = .tuple xs
  · obtain ⟨xs, rfl⟩ := ht
    walk_at "go"
    by_cases h2 : xs.length = 2
    · have e0 : ((xs.length : Int) == 2) = true := by rw [h2]; rfl
      refine ite2 (fun h => ?_) (fun h => ?_)
      · exact absurd (show (!((xs.length : Int) == 2)) = true from h) (by rw [e0]; decide)
      refine sq_go ?_
      refine ⟨by rw [h2]; exact Nat.le_of_ble_eq_true rfl, rfl, ?_⟩
      refine cmFm (fun d => some (.bool (isI d))) [some (.sh (.tuple xs)), none] (fun d _ KT KF hT _ => ⟨rfl, elt_isI (ρ := [some (.sh (.tuple xs)), some (.sh d)]) rfl (hT _ rfl)⟩) ?_
      obtain ⟨x, y, rfl⟩ : ∃ x y, xs = [x, y] := by
        match xs, h2 with
        | [x, y], _ => exact ⟨x, y, rfl⟩
      rw [show ([] ++ List.filterMap (fun d => some (PyData.bool (isI d))) [x, y]) = [PyData.bool (isI x), PyData.bool (isI y)] from rfl]
      cases hx : isI x with
      | false =>
        have e : isFr (.tuple [x, y]) = false := by
          cases x <;> first | rfl | cases hx
        rw [e] at q
        exact q
      | true =>
        cases hy : isI y with
        | false =>
          have e : isFr (.tuple [x, y]) = false := by
            cases x <;> cases y <;> first | rfl | cases hy
          rw [e] at q
          exact q
        | true =>
          obtain ⟨a, rfl⟩ := isI_int hx
          obtain ⟨b, rfl⟩ := isI_int hy
          walk_at "go"
          by_cases hb : 0 < b
          · have e0 : decide (0 < b) = true := decide_eq_true hb
            show (fun (d : PyData) (ρ' : DS) => match d with
              | .bool true => eOp dEq (oE (eCall 2 p_divisor (aCons (eOp dIx (oN 0) (oE (eC (.int 0)))) (aCons (eOp dIx (oN 0) (oE (eC (.int 1)))) aNil)))) (oE (eC (.int 1))) ρ' (fun d ρ' => Q (.sh d))
              | .bool false => Q (.sh (.bool false))
              | _ => False) (.bool (decide (0 < b))) [some (.sh (.tuple [.int a, .int b])), none]
            rw [e0]
            walk_at "go"
            refine ⟨a, b, rfl, ?_⟩
            walk_at "go"
            have e : isFr (.tuple [.int a, .int b]) = ((Int.gcd a b : Int) == 1) := by
              show (decide (0 < b) && decide (Int.gcd a b = 1)) = _
              rw [e0, Bool.true_and]
              by_cases hg : Int.gcd a b = 1
              · rw [hg]; rfl
              · rw [decide_eq_false hg]
                exact (beq_eq_false_iff_ne.mpr (by omega)).symm
            rw [e] at q
            exact q
          · have e0 : decide (0 < b) = false := decide_eq_false hb
            show (fun (d : PyData) (ρ' : DS) => match d with
              | .bool true => eOp dEq (oE (eCall 2 p_divisor (aCons (eOp dIx (oN 0) (oE (eC (.int 0)))) (aCons (eOp dIx (oN 0) (oE (eC (.int 1)))) aNil)))) (oE (eC (.int 1))) ρ' (fun d ρ' => Q (.sh d))
              | .bool false => Q (.sh (.bool false))
              | _ => False) (.bool (decide (0 < b))) [some (.sh (.tuple [.int a, .int b])), none]
            rw [e0]
            have e : isFr (.tuple [.int a, .int b]) = false := by
              show (decide (0 < b) && decide (Int.gcd a b = 1)) = _
              rw [e0, Bool.false_and]
            rw [e] at q
            exact q
    · have e0 : ((xs.length : Int) == 2) = false := beq_eq_false_iff_ne.mpr (by omega)
      refine ite2 (fun h => ?_) (fun h => ?_)
      · walk_at "go"
        have e : isFr (.tuple xs) = false := by
          match xs, h2 with
          | [], _ => rfl
          | [x], _ => cases x <;> rfl
          | x :: y :: z :: r, _ => cases x <;> cases y <;> rfl
          | [x, y], h2 => exact absurd rfl h2
        rw [e] at q
        exact q
      · exact absurd (show (!((xs.length : Int) == 2)) = true by rw [e0]; rfl) h
  · have e : isFr d = false := by
      cases d <;> first | rfl | exact absurd ⟨_, rfl⟩ ht
    have e2 : isiD "tuple" d = false := by
      cases d <;> first | rfl | exact absurd ⟨_, rfl⟩ ht
    walk_at "go"
    rw [e] at q
    cases d <;> first
      | exact absurd ⟨_, rfl⟩ ht
      | exact q

theorem der_is_fraction {P : Program} {w : World} {base : Heap} {K : PySem.W.Frag} {mg : Str → Option Value} (T : Tx K mg) (cdv : Value) (A : Around) (outer : List Env) (s : Shared) (H : Hp) (E : XK) (hr : Room 1 (A.deeper (PyProof.Rows.envOfC "is_fraction" (defScope s_is_fraction) s.heap.objs.size T.f_is_fraction cdv))) :
    DSs (cxOf CX0 P w K mg base ["value", "part"] "is_fraction" (defScope s_is_fraction) T.f_is_fraction cdv A outer s H E).nox (defBody s_is_fraction) t_is_fraction :=
  (dss_cons (ds_if (DW.dt (dw_or (dt_not (dt_e (de_isi (T := "tuple") (by decide) (do_n 0) (by rfl) T.z_isinstance (by rfl) T.z_tuple (by decide +kernel) (by decide) (by decide) (by decide +kernel)))) (dw_or1 (dt_cmp (od_ne hr.units) (do_e (de_callB cd_len (by rfl) T.z_len (by decide +kernel) (dos_cons (do_n 0) dos_nil))) (do_e de_int))))) (dss_one (ds_ret de_bl)) dss_nil)
  (dss_cons (ds_if (dt_not (dt_e (de_callB (cd_all rfl) (by rfl) T.z_all (by decide +kernel) (dos_cons (do_e (de_f (df_lc (own := [("part", 1)]) rfl sc_is_fraction.nd (di_e (de_n 0)) (by kernel_rfl) (by decide) (fun _ _ _ _ _ => (dg_n 1 sc_is_fraction.nd)) (fun _ _ _ _ _ => dts_nil) (fun _ _ _ _ _ => (de_and (de_isi (T := "int") (by decide) (do_n 1) (by rfl) T.z_isinstance (by rfl) T.z_int (by decide +kernel) (by decide) (by decide) (by decide +kernel)) (de_one (de_not (de_isi (T := "bool") (by decide) (do_n 1) (by rfl) T.z_isinstance (by rfl) T.z_bool (by decide +kernel) (by decide) (by decide) (by decide +kernel))))))))) dos_nil)))) (dss_one (ds_ret de_bl)) dss_nil)
  (dss_one (ds_ret (de_and (de_cmp od_gt (do_e (de_ix xd_ix (do_n 0) (do_e de_int))) (do_e de_int)) (de_one (de_cmp (od_eq hr.units) (do_e (de_call (n := 2) (ok_divisor T) mo_divisor (hr.mono (by decide)) (by rfl) T.g_divisor T.F_divisor.kp T.b_divisor (da_cons (de_ix xd_ix (do_n 0) (do_e de_int)) (da_cons (de_ix xd_ix (do_n 0) (do_e de_int)) da_nil)))) (do_e de_int))))))))
theorem ok_is_fraction {P : Program} {w : World} {base : Heap} {K : PySem.W.Frag} {mg : Str → Option Value} (T : Tx K mg) : FnOk P w K mg base CX0 2 T.f_is_fraction T.d_is_fraction ["value"] (toSp K 1 p_is_fraction) :=
  okD T.F_is_fraction sc_is_fraction fun cdv A outer s H E hr => ⟨t_is_fraction, der_is_fraction T cdv A outer s H E hr, rd_is_fraction⟩

def t_plus : DTS := (sRt (eCall 2 p_fraction (aCons (eOp dAdd (oE (eOp dMul (oE (eOp dIx (oN 0) (oE (eC (.int 0))))) (oE (eOp dIx (oN 1) (oE (eC (.int 1))))))) (oE (eOp dMul (oE (eOp dIx (oN 1) (oE (eC (.int 0))))) (oE (eOp dIx (oN 0) (oE (eC (.int 1)))))))) (aCons (eOp dMul (oE (eOp dIx (oN 0) (oE (eC (.int 1))))) (oE (eOp dIx (oN 1) (oE (eC (.int 1)))))) aNil))))

theorem rd_plus (ds : List PyData) (Q : RV → Prop) (hl : ds.length = 2) (h : p_plus ds Q) : t_plus { nx := fun _ => Q (.sh .none), rt := fun r _ => Q r } (startD 2 ds) := by
  obtain ⟨p, q, rfl, ⟨b1, b2, b3⟩, ⟨c1, c2, c3⟩, _, k⟩ := h
  walk_at "go"
  refine ⟨mo4 b2 c3, ?_⟩
  walk_at "go"
  refine ⟨mo4 c2 b3, ?_⟩
  walk_at "go"
  refine ⟨mo4 b3 c3, ?_⟩
  walk_at "go"
  exact ⟨_, _, rfl, Int.mul_ne_zero b1 c1, l4 b3 c3, k⟩

theorem der_plus {P : Program} {w : World} {base : Heap} {K : PySem.W.Frag} {mg : Str → Option Value} (T : Tx K mg) (cdv : Value) (A : Around) (outer : List Env) (s : Shared) (H : Hp) (E : XK) (hr : Room 2 (A.deeper (PyProof.Rows.envOfC "plus" (defScope s_plus) s.heap.objs.size T.f_plus cdv))) :
    DSs (cxOf CX0 P w K mg base ["first", "second"] "plus" (defScope s_plus) T.f_plus cdv A outer s H E).nox (defBody s_plus) t_plus :=
  (dss_one (ds_ret (de_call (n := 2) (ok_fraction T) mo_fraction (hr.mono (by decide)) (by rfl) T.g_fraction T.F_fraction.kp T.b_fraction (da_cons (de_op od_add (do_e (de_op od_mul (do_e (de_ix xd_ix (do_n 0) (do_e de_int))) (do_e (de_ix xd_ix (do_n 1) (do_e de_int))))) (do_e (de_op od_mul (do_e (de_ix xd_ix (do_n 1) (do_e de_int))) (do_e (de_ix xd_ix (do_n 0) (do_e de_int)))))) (da_cons (de_op od_mul (do_e (de_ix xd_ix (do_n 0) (do_e de_int))) (do_e (de_ix xd_ix (do_n 1) (do_e de_int)))) da_nil)))))
theorem ok_plus {P : Program} {w : World} {base : Heap} {K : PySem.W.Frag} {mg : Str → Option Value} (T : Tx K mg) : FnOk P w K mg base CX0 3 T.f_plus T.d_plus ["first", "second"] (toSp K 2 p_plus) :=
  okD T.F_plus sc_plus fun cdv A outer s H E hr => ⟨t_plus, der_plus T cdv A outer s H E hr, rd_plus⟩

def t_minus : DTS := (sRt (eCall 2 p_fraction (aCons (eOp dSub (oE (eOp dMul (oE (eOp dIx (oN 0) (oE (eC (.int 0))))) (oE (eOp dIx (oN 1) (oE (eC (.int 1))))))) (oE (eOp dMul (oE (eOp dIx (oN 1) (oE (eC (.int 0))))) (oE (eOp dIx (oN 0) (oE (eC (.int 1)))))))) (aCons (eOp dMul (oE (eOp dIx (oN 0) (oE (eC (.int 1))))) (oE (eOp dIx (oN 1) (oE (eC (.int 1)))))) aNil))))

theorem rd_minus (ds : List PyData) (Q : RV → Prop) (hl : ds.length = 2) (h : p_minus ds Q) : t_minus { nx := fun _ => Q (.sh .none), rt := fun r _ => Q r } (startD 2 ds) := by
  obtain ⟨p, q, rfl, ⟨b1, b2, b3⟩, ⟨c1, c2, c3⟩, _, k⟩ := h
  walk_at "go"
  refine ⟨mo4 b2 c3, ?_⟩
  walk_at "go"
  refine ⟨mo4 c2 b3, ?_⟩
  walk_at "go"
  refine ⟨mo4 b3 c3, ?_⟩
  walk_at "go"
  exact ⟨_, _, rfl, Int.mul_ne_zero b1 c1, l4 b3 c3, k⟩

theorem der_minus {P : Program} {w : World} {base : Heap} {K : PySem.W.Frag} {mg : Str → Option Value} (T : Tx K mg) (cdv : Value) (A : Around) (outer : List Env) (s : Shared) (H : Hp) (E : XK) (hr : Room 2 (A.deeper (PyProof.Rows.envOfC "minus" (defScope s_minus) s.heap.objs.size T.f_minus cdv))) :
    DSs (cxOf CX0 P w K mg base ["first", "second"] "minus" (defScope s_minus) T.f_minus cdv A outer s H E).nox (defBody s_minus) t_minus :=
  (dss_one (ds_ret (de_call (n := 2) (ok_fraction T) mo_fraction (hr.mono (by decide)) (by rfl) T.g_fraction T.F_fraction.kp T.b_fraction (da_cons (de_op od_sub (do_e (de_op od_mul (do_e (de_ix xd_ix (do_n 0) (do_e de_int))) (do_e (de_ix xd_ix (do_n 1) (do_e de_int))))) (do_e (de_op od_mul (do_e (de_ix xd_ix (do_n 1) (do_e de_int))) (do_e (de_ix xd_ix (do_n 0) (do_e de_int)))))) (da_cons (de_op od_mul (do_e (de_ix xd_ix (do_n 0) (do_e de_int))) (do_e (de_ix xd_ix (do_n 1) (do_e de_int)))) da_nil)))))
theorem ok_minus {P : Program} {w : World} {base : Heap} {K : PySem.W.Frag} {mg : Str → Option Value} (T : Tx K mg) : FnOk P w K mg base CX0 3 T.f_minus T.d_minus ["first", "second"] (toSp K 2 p_minus) :=
  okD T.F_minus sc_minus fun cdv A outer s H E hr => ⟨t_minus, der_minus T cdv A outer s H E hr, rd_minus⟩

def t_times : DTS := (sRt (eCall 2 p_fraction (aCons (eOp dMul (oE (eOp dIx (oN 0) (oE (eC (.int 0))))) (oE (eOp dIx (oN 1) (oE (eC (.int 0)))))) (aCons (eOp dMul (oE (eOp dIx (oN 0) (oE (eC (.int 1))))) (oE (eOp dIx (oN 1) (oE (eC (.int 1)))))) aNil))))

theorem rd_times (ds : List PyData) (Q : RV → Prop) (hl : ds.length = 2) (h : p_times ds Q) : t_times { nx := fun _ => Q (.sh .none), rt := fun r _ => Q r } (startD 2 ds) := by
  obtain ⟨p, q, rfl, ⟨b1, b2, b3⟩, ⟨c1, c2, c3⟩, _, k⟩ := h
  walk_at "go"
  refine ⟨mo4 b2 c2, ?_⟩
  walk_at "go"
  refine ⟨mo4 b3 c3, ?_⟩
  walk_at "go"
  exact ⟨_, _, rfl, Int.mul_ne_zero b1 c1, l4 b3 c3, k⟩

theorem der_times {P : Program} {w : World} {base : Heap} {K : PySem.W.Frag} {mg : Str → Option Value} (T : Tx K mg) (cdv : Value) (A : Around) (outer : List Env) (s : Shared) (H : Hp) (E : XK) (hr : Room 2 (A.deeper (PyProof.Rows.envOfC "times" (defScope s_times) s.heap.objs.size T.f_times cdv))) :
    DSs (cxOf CX0 P w K mg base ["first", "second"] "times" (defScope s_times) T.f_times cdv A outer s H E).nox (defBody s_times) t_times :=
  (dss_one (ds_ret (de_call (n := 2) (ok_fraction T) mo_fraction (hr.mono (by decide)) (by rfl) T.g_fraction T.F_fraction.kp T.b_fraction (da_cons (de_op od_mul (do_e (de_ix xd_ix (do_n 0) (do_e de_int))) (do_e (de_ix xd_ix (do_n 1) (do_e de_int)))) (da_cons (de_op od_mul (do_e (de_ix xd_ix (do_n 0) (do_e de_int))) (do_e (de_ix xd_ix (do_n 1) (do_e de_int)))) da_nil)))))
theorem ok_times {P : Program} {w : World} {base : Heap} {K : PySem.W.Frag} {mg : Str → Option Value} (T : Tx K mg) : FnOk P w K mg base CX0 3 T.f_times T.d_times ["first", "second"] (toSp K 2 p_times) :=
  okD T.F_times sc_times fun cdv A outer s H E hr => ⟨t_times, der_times T cdv A outer s H E hr, rd_times⟩

def t_part : DTS := (sRt (eCall 2 p_fraction (aCons (eOp dMul (oE (eOp dIx (oN 0) (oE (eC (.int 0))))) (oE (eOp dIx (oN 1) (oE (eC (.int 1)))))) (aCons (eOp dMul (oE (eOp dIx (oN 0) (oE (eC (.int 1))))) (oE (eOp dIx (oN 1) (oE (eC (.int 0)))))) aNil))))

theorem rd_part (ds : List PyData) (Q : RV → Prop) (hl : ds.length = 2) (h : p_part ds Q) : t_part { nx := fun _ => Q (.sh .none), rt := fun r _ => Q r } (startD 2 ds) := by
  obtain ⟨p, q, rfl, ⟨b1, b2, b3⟩, ⟨c1, c2, c3⟩, h0, k⟩ := h
  walk_at "go"
  refine ⟨mo4 b2 c3, ?_⟩
  walk_at "go"
  refine ⟨mo4 b3 c2, ?_⟩
  walk_at "go"
  exact ⟨_, _, rfl, Int.mul_ne_zero b1 h0, l4 b3 c2, k⟩

theorem der_part {P : Program} {w : World} {base : Heap} {K : PySem.W.Frag} {mg : Str → Option Value} (T : Tx K mg) (cdv : Value) (A : Around) (outer : List Env) (s : Shared) (H : Hp) (E : XK) (hr : Room 2 (A.deeper (PyProof.Rows.envOfC "part" (defScope s_part) s.heap.objs.size T.f_part cdv))) :
    DSs (cxOf CX0 P w K mg base ["first", "second"] "part" (defScope s_part) T.f_part cdv A outer s H E).nox (defBody s_part) t_part :=
  (dss_one (ds_ret (de_call (n := 2) (ok_fraction T) mo_fraction (hr.mono (by decide)) (by rfl) T.g_fraction T.F_fraction.kp T.b_fraction (da_cons (de_op od_mul (do_e (de_ix xd_ix (do_n 0) (do_e de_int))) (do_e (de_ix xd_ix (do_n 1) (do_e de_int)))) (da_cons (de_op od_mul (do_e (de_ix xd_ix (do_n 0) (do_e de_int))) (do_e (de_ix xd_ix (do_n 1) (do_e de_int)))) da_nil)))))
theorem ok_part {P : Program} {w : World} {base : Heap} {K : PySem.W.Frag} {mg : Str → Option Value} (T : Tx K mg) : FnOk P w K mg base CX0 3 T.f_part T.d_part ["first", "second"] (toSp K 2 p_part) :=
  okD T.F_part sc_part fun cdv A outer s H E hr => ⟨t_part, der_part T cdv A outer s H E hr, rd_part⟩

def t_fraction_sign : DTS := (sRt (eOp dSub (oE (eCl cInt (osCons (oE (eOp dGt (oE (eOp dIx (oN 0) (oE (eC (.int 0))))) (oE (eC (.int 0))))) osNil))) (oE (eCl cInt (osCons (oE (eOp dLt (oE (eOp dIx (oN 0) (oE (eC (.int 0))))) (oE (eC (.int 0))))) osNil)))))

theorem rd_fraction_sign (ds : List PyData) (Q : RV → Prop) (hl : ds.length = 1) (h : p_fraction_sign ds Q) : t_fraction_sign { nx := fun _ => Q (.sh .none), rt := fun r _ => Q r } (startD 1 ds) := by
  obtain ⟨p, rfl, k⟩ := h
  walk_at "go"
  exact k

theorem der_fraction_sign {P : Program} {w : World} {base : Heap} {K : PySem.W.Frag} {mg : Str → Option Value} (T : Tx K mg) (cdv : Value) (A : Around) (outer : List Env) (s : Shared) (H : Hp) (E : XK) (hr : Room 0 (A.deeper (PyProof.Rows.envOfC "fraction_sign" (defScope s_fraction_sign) s.heap.objs.size T.f_fraction_sign cdv))) :
    DSs (cxOf CX0 P w K mg base ["one"] "fraction_sign" (defScope s_fraction_sign) T.f_fraction_sign cdv A outer s H E).nox (defBody s_fraction_sign) t_fraction_sign :=
  (dss_one (ds_ret (de_op od_sub (do_e (de_callTy cd_int (by rfl) T.z_int (by decide +kernel) (dos_cons (do_e (de_cmp od_gt (do_e (de_ix xd_ix (do_n 0) (do_e de_int))) (do_e de_int))) dos_nil))) (do_e (de_callTy cd_int (by rfl) T.z_int (by decide +kernel) (dos_cons (do_e (de_cmp (od_lt hr.units0) (do_e (de_ix xd_ix (do_n 0) (do_e de_int))) (do_e de_int))) dos_nil))))))
theorem ok_fraction_sign {P : Program} {w : World} {base : Heap} {K : PySem.W.Frag} {mg : Str → Option Value} (T : Tx K mg) : FnOk P w K mg base CX0 1 T.f_fraction_sign T.d_fraction_sign ["one"] (toSp K 1 p_fraction_sign) :=
  okD T.F_fraction_sign sc_fraction_sign fun cdv A outer s H E hr => ⟨t_fraction_sign, der_fraction_sign T cdv A outer s H E hr, rd_fraction_sign⟩

def t_is_less : DTS := (sRt (eOp dLt (oE (eOp dMul (oE (eOp dIx (oN 0) (oE (eC (.int 0))))) (oE (eOp dIx (oN 1) (oE (eC (.int 1))))))) (oE (eOp dMul (oE (eOp dIx (oN 1) (oE (eC (.int 0))))) (oE (eOp dIx (oN 0) (oE (eC (.int 1)))))))))

theorem rd_is_less (ds : List PyData) (Q : RV → Prop) (hl : ds.length = 2) (h : p_is_less ds Q) : t_is_less { nx := fun _ => Q (.sh .none), rt := fun r _ => Q r } (startD 2 ds) := by
  obtain ⟨p, q, rfl, ⟨b1, b2, b3⟩, ⟨c1, c2, c3⟩, k⟩ := h
  walk_at "go"
  refine ⟨mo4 b2 c3, ?_⟩
  walk_at "go"
  refine ⟨mo4 c2 b3, ?_⟩
  walk_at "go"
  exact k

theorem der_is_less {P : Program} {w : World} {base : Heap} {K : PySem.W.Frag} {mg : Str → Option Value} (T : Tx K mg) (cdv : Value) (A : Around) (outer : List Env) (s : Shared) (H : Hp) (E : XK) (hr : Room 0 (A.deeper (PyProof.Rows.envOfC "is_less" (defScope s_is_less) s.heap.objs.size T.f_is_less cdv))) :
    DSs (cxOf CX0 P w K mg base ["first", "second"] "is_less" (defScope s_is_less) T.f_is_less cdv A outer s H E).nox (defBody s_is_less) t_is_less :=
  (dss_one (ds_ret (de_cmp (od_lt hr.units0) (do_e (de_op od_mul (do_e (de_ix xd_ix (do_n 0) (do_e de_int))) (do_e (de_ix xd_ix (do_n 1) (do_e de_int))))) (do_e (de_op od_mul (do_e (de_ix xd_ix (do_n 1) (do_e de_int))) (do_e (de_ix xd_ix (do_n 0) (do_e de_int))))))))
theorem ok_is_less {P : Program} {w : World} {base : Heap} {K : PySem.W.Frag} {mg : Str → Option Value} (T : Tx K mg) : FnOk P w K mg base CX0 1 T.f_is_less T.d_is_less ["first", "second"] (toSp K 2 p_is_less) :=
  okD T.F_is_less sc_is_less fun cdv A outer s H E hr => ⟨t_is_less, der_is_less T cdv A outer s H E hr, rd_is_less⟩

def t_total : DTS := (sSq (sAs (eTup (aCons (eC (.int 0)) (aCons (eC (.int 1)) aNil))) (gN 1))
  (sSq (sFo (iE (eN 0)) (gN 2) (sAs (eCall 2 p_plus (aCons (eN 1) (aCons (eN 2) aNil))) (gN 1)))
  (sRt (eN 1))))

theorem rd_total (ds : List PyData) (Q : RV → Prop) (hl : ds.length = 1) (h : p_total ds Q) : t_total { nx := fun _ => Q (.sh .none), rt := fun r _ => Q r } (startD 3 ds) := by
  obtain ⟨row, L, rfl, hR, h5, hL, hL2, hdv, k⟩ := h
  walk_at "go"
  refine foBy (fun i ρ => ∃ z : Option PyData, ρ = [some (.sh (encs row)), some (.sh (enc2 (nf (wrow L (row.take i)).sum L))), z.map Sl.sh]) ⟨none, ?_⟩ ?_ ?_
  · show [some (Sl.sh (encs row)), some (Sl.sh (enc2 (0, 1))), none] = _
    rw [List.take_zero]
    show _ = [some (Sl.sh (encs row)), some (Sl.sh (enc2 (nf 0 L))), none]
    rw [nf_zero hL]
  · rintro i d ρ K hd ⟨z, rfl⟩ hK
    obtain ⟨p, hp, rfl⟩ : ∃ p, row[i]? = some p ∧ enc2 p = d := by
      rw [List.getElem?_map] at hd
      cases e : row[i]? with
      | none => rw [e] at hd; cases hd
      | some p => rw [e] at hd; exact ⟨p, rfl, Option.some.inj hd⟩
    have hpm : p ∈ row := List.mem_of_getElem? hp
    have hpR := hR p hpm
    have htk : ∀ q ∈ row.take i, Rw q := fun q hq => hR q (List.mem_of_mem_take hq)
    have hab := wrow_abs hL hL2 (row.take i) htk
    have hlen : (row.take i).length ≤ 5 := by rw [List.length_take]; omega
    have hs : (wrow L (row.take i)).sum.natAbs ≤ 5 * 415800 := Nat.le_trans hab (Nat.mul_le_mul_right _ hlen)
    obtain ⟨q1, q2, q3, q4, q5⟩ := nf_spec (a := (wrow L (row.take i)).sum) (show L ≠ 0 by omega)
    have hnx : (wrow L (row.take (i + 1))).sum = (wrow L (row.take i)).sum + p.1 * L.fdiv p.2 := by
      rw [List.take_add_one, hp]
      simp [wrow]
    refine ⟨by cases z <;> rfl, ?_⟩
    walk_at "go"
    refine ⟨_, p, rfl, ⟨by omega, ?_, ?_⟩, ⟨by have := hpR.1; omega, ?_, ?_⟩, trivial, ?_⟩
    · have : (2 : Nat) ^ 25 < 2 ^ 400 := by decide
      omega
    · have : (2 : Nat) ^ 25 < 2 ^ 400 := by decide
      omega
    · have : (2 : Nat) ^ 25 < 2 ^ 400 := by decide
      have := hpR.2.2
      omega
    · have : (2 : Nat) ^ 25 < 2 ^ 400 := by decide
      have := hpR.1
      have := hpR.2.1
      omega
    · walk_at "go"
      refine hK _ ⟨some (enc2 p), ?_⟩
      rw [hnx, ← plus_step hL hpR.1 (hdv p hpm)]
      rfl
  · rintro ρ ⟨z, rfl⟩
    have e : row.take (row.map enc2).length = row := by rw [List.length_map]; exact List.take_length
    rw [e]
    exact k

theorem der_total {P : Program} {w : World} {base : Heap} {K : PySem.W.Frag} {mg : Str → Option Value} (T : Tx K mg) (cdv : Value) (A : Around) (outer : List Env) (s : Shared) (H : Hp) (E : XK) (hr : Room 3 (A.deeper (PyProof.Rows.envOfC "total" (defScope s_total) s.heap.objs.size T.f_total cdv))) :
    DSs (cxOf CX0 P w K mg base ["row", "found", "one"] "total" (defScope s_total) T.f_total cdv A outer s H E).nox (defBody s_total) t_total :=
  (dss_cons (ds_set 1 (de_tup (da_cons de_int (da_cons de_int da_nil))) sc_total.nd)
  (dss_cons (ds_for PassesOwn.never rfl (di_e (de_n 0)) (dg_n 2 sc_total.nd) (dss_one (ds_set 1 (de_call (n := 2) (ok_plus T) mo_plus (hr.mono (by decide)) (by rfl) T.g_plus T.F_plus.kp T.b_plus (da_cons (de_n 1) (da_cons (de_n 2) da_nil))) sc_total.nd)))
  (dss_one (ds_ret (de_n 1)))))
theorem ok_total {P : Program} {w : World} {base : Heap} {K : PySem.W.Frag} {mg : Str → Option Value} (T : Tx K mg) : FnOk P w K mg base CX0 4 T.f_total T.d_total ["row"] (toSp K 1 p_total) :=
  okD T.F_total sc_total fun cdv A outer s H E hr => ⟨t_total, der_total T cdv A outer s H E hr, rd_total⟩

def t_cleared : DTS := (sSq (sAs (eC (.int 1)) (gN 1))
  (sSq (sFo (iE (eN 0)) (gN 2) (sAs (eOp dFdiv (oE (eOp dMul (oN 1) (oE (eOp dIx (oN 2) (oE (eC (.int 1))))))) (oE (eCall 2 p_divisor (aCons (eN 1) (aCons (eOp dIx (oN 2) (oE (eC (.int 1)))) aNil))))) (gN 1)))
  (sRt (eTup (aCons (eN 1) (aCons (eF (fLc (iE (eN 0)) (gN 2) tYs (eOp dMul (oE (eOp dIx (oN 2) (oE (eC (.int 0))))) (oE (eOp dFdiv (oN 1) (oE (eOp dIx (oN 2) (oE (eC (.int 1)))))))) [2])) aNil))))))

theorem wr_map (L : Int) (row : List (Int × Int)) : (row.map enc2).filterMap (fun d => match d with | .tuple [.int a, .int b] => some (PyData.int (a * L.fdiv b)) | _ => none) = (wrow L row).map PyData.int := by
  induction row with
  | nil => rfl
  | cons p r ih =>
    show (PyData.int (p.1 * L.fdiv p.2)) :: _ = _
    rw [ih]
    rfl
theorem div12 {p : Int × Int} (h : Rw p) : DivOk p.2 := ⟨by have := h.1; omega, Nat.lt_of_le_of_lt (log2_mono (b := 12) (by have := h.1; have := h.2.1; omega)) (by decide)⟩
theorem rd_cleared (ds : List PyData) (Q : RV → Prop) (hl : ds.length = 1) (h : p_cleared ds Q) : t_cleared { nx := fun _ => Q (.sh .none), rt := fun r _ => Q r } (startD 3 ds) := by
  obtain ⟨row, rfl, hR, h5, k⟩ := h
  walk_at "go"
  refine foBy (fun i ρ => ∃ z : Option PyData, ρ = [some (.sh (encs row)), some (.sh (.int (lcmR (row.take i)))), z.map Sl.sh]) ⟨none, ?_⟩ ?_ ?_
  · rfl
  · rintro i d ρ K hd ⟨z, rfl⟩ hK
    obtain ⟨p, hp, rfl⟩ : ∃ p, row[i]? = some p ∧ enc2 p = d := by
      rw [List.getElem?_map] at hd
      cases e : row[i]? with
      | none => rw [e] at hd; cases hd
      | some p => rw [e] at hd; exact ⟨p, rfl, Option.some.inj hd⟩
    have hpm : p ∈ row := List.mem_of_getElem? hp
    have hpR := hR p hpm
    have htk : ∀ q ∈ row.take i, Rw q := fun q hq => hR q (List.mem_of_mem_take hq)
    obtain ⟨b1, b2, b3⟩ := lcmR_bounds htk
    refine ⟨by cases z <;> rfl, ?_⟩
    walk_at "go"
    refine ⟨.inl (.inl ⟨by omega, by omega⟩), ?_⟩
    walk_at "go"
    refine ⟨_, p.2, rfl, ?_⟩
    walk_at "go"
    have dg : DivOk (Int.gcd (lcmR (row.take i)) p.2 : Int) := Lim.gcd (by have := hpR.1; omega) (div12 hpR).2
    refine ⟨dg, ?_⟩
    walk_at "go"
    refine hK _ ⟨some (enc2 p), ?_⟩
    rw [List.take_add_one, hp]
    show _ = [_, some (Sl.sh (.int (lcmR (row.take i ++ [p])))), _]
    rw [lcmR_snoc]
    rfl
  · rintro ρ ⟨z, rfl⟩
    have e : row.take (row.map enc2).length = row := by rw [List.length_map]; exact List.take_length
    rw [e]
    obtain ⟨b1, b2, b3⟩ := lcmR_bounds hR
    walk_at "go"
    refine ⟨by rw [List.length_map]; exact Nat.le_trans h5 (by decide), by cases z <;> rfl, ?_⟩
    refine cmFm (fun d => match d with | .tuple [.int a, .int b] => some (PyData.int (a * (lcmR row).fdiv b)) | _ => none) [some (.sh (encs row)), some (.sh (.int (lcmR row))), none] ?_ ?_
    · intro d hd KT KF hT hF
      obtain ⟨p, hpm, rfl⟩ := List.mem_map.mp hd
      have hpR := hR p hpm
      walk_at "go"
      refine ⟨div12 hpR, ?_⟩
      walk_at "go"
      refine ⟨.inl (.inl ⟨by have := hpR.2.2; omega, by have := hpR.2.2; omega⟩), ?_⟩
      exact hT _ rfl
    · show _ ∧ _
      refine ⟨Nat.le_of_ble_eq_true rfl, ?_⟩
      show Q (.sh (.tuple [.int (lcmR row), .list ([] ++ _)]))
      rw [wr_map]
      exact k

theorem der_cleared {P : Program} {w : World} {base : Heap} {K : PySem.W.Frag} {mg : Str → Option Value} (T : Tx K mg) (cdv : Value) (A : Around) (outer : List Env) (s : Shared) (H : Hp) (E : XK) (hr : Room 1 (A.deeper (PyProof.Rows.envOfC "cleared" (defScope s_cleared) s.heap.objs.size T.f_cleared cdv))) :
    DSs (cxOf CX0 P w K mg base ["row", "common", "one"] "cleared" (defScope s_cleared) T.f_cleared cdv A outer s H E).nox (defBody s_cleared) t_cleared :=
  (dss_cons (ds_set 1 de_int sc_cleared.nd)
  (dss_cons (ds_for PassesOwn.never rfl (di_e (de_n 0)) (dg_n 2 sc_cleared.nd) (dss_one (ds_set 1 (de_op od_fdiv (do_e (de_op od_mul (do_n 1) (do_e (de_ix xd_ix (do_n 2) (do_e de_int))))) (do_e (de_call (n := 2) (ok_divisor T) mo_divisor (hr.mono (by decide)) (by rfl) T.g_divisor T.F_divisor.kp T.b_divisor (da_cons (de_n 1) (da_cons (de_ix xd_ix (do_n 2) (do_e de_int)) da_nil))))) sc_cleared.nd)))
  (dss_one (ds_ret (de_tup (da_cons (de_n 1) (da_cons (de_f (df_lc (own := [("one", 2)]) rfl sc_cleared.nd (di_e (de_n 0)) (by kernel_rfl) (by decide) (fun _ _ _ _ _ => (dg_n 2 sc_cleared.nd)) (fun _ _ _ _ _ => dts_nil) (fun _ _ _ _ _ => (de_op od_mul (do_e (de_ix xd_ix (do_n 2) (do_e de_int))) (do_e (de_op od_fdiv (do_n 1) (do_e (de_ix xd_ix (do_n 2) (do_e de_int))))))))) da_nil)))))))
theorem ok_cleared {P : Program} {w : World} {base : Heap} {K : PySem.W.Frag} {mg : Str → Option Value} (T : Tx K mg) : FnOk P w K mg base CX0 2 T.f_cleared T.d_cleared ["row"] (toSp K 1 p_cleared) :=
  okD T.F_cleared sc_cleared fun cdv A outer s H E hr => ⟨t_cleared, der_cleared T cdv A outer s H E hr, rd_cleared⟩

def t__law_draw : DTS := (sSq (sIf (tE (eOp dEq (oE (eOp dIx (oN 0) (oE (eC (.int 1))))) (oE (eC (.int 0))))) (sSq (sAs (eC (.int 0)) (gN 3))
  (sSq (sIf (tE (eOp dGt (oE (eCl cLen (osCons (oN 1) osNil))) (oE (eC (.int 0))))) (sAs (eOp dIx (oN 1) (oE (eOp dMod (oE (eOp dIx (oN 0) (oE (eC (.int 0))))) (oE (eCl cLen (osCons (oN 1) osNil)))))) (gN 3)) sNx)
  (sSq (sIf (tE (eOp dLt (oN 3) (oE (eC (.int 0))))) (sAs (eOp dSub (oE (eC (.int 1))) (oE (eOp dMul (oE (eC (.int 2))) (oN 3)))) (gN 3)) sNx)
  (sSq (sAs (eOp dMod (oE (eCl cInt (osCons (oE (eOp dMul (oE (eOp dAdd (oE (eOp dAdd (oN 3) (oE (eOp dMul (oE (eOp dIx (oN 0) (oE (eC (.int 0))))) (oE (eC (.int 7919))))))) (oE (eC (.int 1))))) (oE (eC (.int 48271))))) osNil))) (oE (eC (.int 2147483647)))) (gN 4))
  (sSq (sSt 0 (eOp dMod (oE (eCl cInt (osCons (oE (eOp dAdd (oE (eOp dMul (oN 4) (oE (eC (.int 69621))))) (oE (eOp dMul (oE (eOp dIx (oN 0) (oE (eC (.int 0))))) (oE (eC (.int 104729))))))) osNil))) (oE (eC (.int 4294967291)))) (eC (.int 1)))
  (sSq (sIf (tAn (tE (eOp dGe (oN 3) (oE (eOp dPow (oE (eC (.int 10))) (oE (eC (.int 18))))))) (tE (eOp dLt (oE (eOp dIx (oN 0) (oE (eC (.int 0))))) (oE (eCl cLen (osCons (oN 1) osNil)))))) (sSt 0 (eN 3) (eC (.int 1))) sNx)
  (sSt 0 (eOp dAdd (oE (eOp dIx (oN 0) (oE (eC (.int 0))))) (oE (eC (.int 1)))) (eC (.int 0))))))))) sNx)
  (sSq (sAs (eOp dMod (oE (eCl cInt (osCons (oE (eOp dIx (oN 0) (oE (eC (.int 1))))) osNil))) (oN 2)) (gN 5))
  (sSq (sSt 0 (eOp dFdiv (oE (eOp dIx (oN 0) (oE (eC (.int 1))))) (oN 2)) (eC (.int 1)))
  (sRt (eN 5)))))

theorem rd__law_draw (cs ds : List PyData) (Q : RV → List PyData → Prop) (hl : ds.length + 1 = 3) (h : p__law_draw cs ds Q) :
    t__law_draw { nx := fun ρ => ∀ cs', ρ[0]? = some (some (.bo cs')) → Q (.sh .none) cs', rt := fun r ρ => ∀ cs', ρ[0]? = some (some (.bo cs')) → Q r cs' } (startD1 6 cs ds) := by
  obtain ⟨⟨s0, s1, rfl, h0, h1⟩, ns, size, rfl, hn, hs, hL, k⟩ := h
  refine sSq_cut (fun ρ => ∃ (a b : Int) (z3 z4 : Option PyData), 0 ≤ a ∧ 0 ≤ b ∧ ρ = [some (.bo [.int a, .int b]), some (.sh (lns ns)), some (.sh (.int size)), z3.map Sl.sh, z4.map Sl.sh, none]) ?_ ?_
  · rintro ρ ⟨a, b, z3, z4, ha, hb, rfl⟩
    walk_at "go"
    refine ⟨by omega, ?_⟩
    walk_at "go"
    refine ⟨⟨by omega, hL⟩, ?_⟩
    walk_at "go"
    intro cs' e
    have e : cs' = [.int a, .int (b.fdiv size)] := by cases e; rfl
    rw [e]
    refine k _ _ ?_ ?_ ⟨_, _, rfl, ha, ?_⟩
    · rw [Int.fmod_eq_emod_of_nonneg b (by omega)]; exact Int.emod_nonneg b (by omega)
    · rw [Int.fmod_eq_emod_of_nonneg b (by omega)]; exact Int.emod_lt_of_pos b hs
    · rw [Int.fdiv_eq_ediv_of_nonneg b (by omega)]; exact Int.ediv_nonneg hb (by omega)
  · intro K hK
    walk_at "go"
    refine ite2 (fun h => ?_) (fun h => ?_)
    · -- the state's second number is 0: a new one is drawn
      refine sq_go ?_
      walk_at "st"
      refine sSq_cut (fun ρ => ∃ c : Int, ρ = [some (.bo [.int s0, .int s1]), some (.sh (lns ns)), some (.sh (.int size)), some (.sh (.int c)), none, none]) ?_ ?_
      · rintro ρ ⟨c, rfl⟩
        refine sSq_cut (fun ρ => ∃ c : Int, 0 ≤ c ∧ ρ = [some (.bo [.int s0, .int s1]), some (.sh (lns ns)), some (.sh (.int size)), some (.sh (.int c)), none, none]) ?_ ?_
        · rintro ρ ⟨c, hc, rfl⟩
          walk_at "go"
          refine ⟨.inl (.inr ⟨by omega, by omega⟩), ?_⟩
          walk_at "go"
          refine ⟨.inl (.inr ⟨by omega, by omega⟩), ?_⟩
          walk_at "go"
          refine ⟨by omega, ?_⟩
          walk_at "go"
          refine ⟨.inl (.inr ⟨by omega, by omega⟩), ?_⟩
          walk_at "go"
          refine ⟨.inl (.inr ⟨by omega, by omega⟩), ?_⟩
          walk_at "go"
          refine ⟨by omega, ?_⟩
          walk_at "st"
          refine sSq_cut (fun ρ => ∃ (b : Int) (z3 z4 : Option PyData), 0 ≤ b ∧ ρ = [some (.bo [.int s0, .int b]), some (.sh (lns ns)), some (.sh (.int size)), z3.map Sl.sh, z4.map Sl.sh, none]) ?_ ?_
          · rintro ρ ⟨b, z3, z4, hb, rfl⟩
            walk_at "go"
            exact hK _ ⟨s0 + 1, b, z3, z4, by omega, hb, rfl⟩
          · intro K2 hK2
            walk_at "go"
            refine ⟨⟨by omega, by omega, by decide⟩, ?_⟩
            have m0 : 0 ≤ (((c + s0 * 7919 + 1) * 48271).fmod 2147483647 * 69621 + s0 * 104729).fmod 4294967291 := by
              rw [Int.fmod_eq_emod_of_nonneg _ (by omega)]
              exact Int.emod_nonneg _ (by omega)
            refine ite2 (fun h2 => ?_) (fun h2 => ?_)
            · walk_at "go"
              refine ite2 (fun h3 => ?_) (fun h3 => ?_)
              · walk_at "go"
                exact hK2 _ ⟨c, some (.int c), some _, hc, rfl⟩
              · exact hK2 _ ⟨_, some (.int c), some _, m0, rfl⟩
            · exact hK2 _ ⟨_, some (.int c), some _, m0, rfl⟩
        · intro K2 hK2
          walk_at "go"
          refine ite2 (fun h2 => ?_) (fun h2 => ?_)
          · have h3 : c < 0 := of_decide_eq_true h2
            walk_at "go"
            refine ⟨.inl (.inl ⟨by omega, by omega⟩), ?_⟩
            walk_at "go"
            exact hK2 _ ⟨1 - 2 * c, by omega, rfl⟩
          · have h3 : ¬ c < 0 := of_decide_eq_false (by simpa using h2)
            exact hK2 _ ⟨c, by omega, rfl⟩
      · intro K2 hK2
        walk_at "go"
        refine ite2 (fun h2 => ?_) (fun h2 => ?_)
        · have h3 : (0 : Int) < ((ns.map PyData.int).length : Nat) := of_decide_eq_true h2
          walk_at "go"
          rw [List.length_map] at h3
          refine ⟨by rw [List.length_map]; omega, ?_⟩
          obtain ⟨j, hj, e⟩ : ∃ j : Nat, j < ns.length ∧ s0.fmod ((ns.map PyData.int).length : Nat) = (j : Int) := by
            rw [List.length_map, Int.fmod_eq_emod_of_nonneg _ (by omega)]
            have a1 := Int.emod_nonneg s0 (show ((ns.length : Nat) : Int) ≠ 0 by omega)
            have a2 := Int.emod_lt_of_pos s0 h3
            exact ⟨(s0 % (ns.length : Int)).toNat, by omega, by omega⟩
          have e2 : atI (ns.map PyData.int) (s0.fmod ((ns.map PyData.int).length : Nat)) = some (.int ns[j]) := by
            rw [e]
            exact atI_nat (by rw [List.getElem?_map, List.getElem?_eq_getElem hj]; rfl)
          show match atI (ns.map PyData.int) (s0.fmod ((ns.map PyData.int).length : Nat)) with
            | some z => gN 3 z _ K2
            | none => False
          rw [e2]
          exact ⟨rfl, hK2 _ ⟨ns[j], rfl⟩⟩
        · exact hK2 _ ⟨0, rfl⟩
    · exact hK _ ⟨s0, s1, none, none, h0, h1, rfl⟩

theorem der__law_draw {P : Program} {w : World} {base : Heap} {K : PySem.W.Frag} {mg : Str → Option Value} (T : Tx K mg) (cdv : Value) (A : Around) (outer : List Env) (s : Shared) (H : Hp) (E : XK) (hr : Room 0 (A.deeper (PyProof.Rows.envOfC "_law_draw" (defScope s__law_draw) s.heap.objs.size T.f__law_draw cdv))) :
    DSs (cxOf CX0 P w K mg base ["state", "script", "size", "cell", "mixed", "digit"] "_law_draw" (defScope s__law_draw) T.f__law_draw cdv A outer s H E).nox (defBody s__law_draw) t__law_draw :=
  (dss_cons (ds_if (dt_cmp (od_eq hr.units) (do_e (de_ix xd_ix (do_n 0) (do_e de_int))) (do_e de_int)) (dss_cons (ds_set 3 de_int sc__law_draw.nd)
  (dss_cons (ds_if (dt_cmp od_gt (do_e (de_callB cd_len (by rfl) T.z_len (by decide +kernel) (dos_cons (do_n 1) dos_nil))) (do_e de_int)) (dss_one (ds_set 3 (de_ix xd_ix (do_n 1) (do_e (de_op od_mod (do_e (de_ix xd_ix (do_n 0) (do_e de_int))) (do_e (de_callB cd_len (by rfl) T.z_len (by decide +kernel) (dos_cons (do_n 1) dos_nil)))))) sc__law_draw.nd)) dss_nil)
  (dss_cons (ds_if (dt_cmp (od_lt hr.units0) (do_n 3) (do_e de_int)) (dss_one (ds_set 3 (de_op od_sub (do_e de_int) (do_e (de_op od_mul (do_e de_int) (do_n 3)))) sc__law_draw.nd)) dss_nil)
  (dss_cons (ds_set 4 (de_op od_mod (do_e (de_callTy cd_int (by rfl) T.z_int (by decide +kernel) (dos_cons (do_e (de_op od_mul (do_e (de_op od_add (do_e (de_op od_add (do_n 3) (do_e (de_op od_mul (do_e (de_ix xd_ix (do_n 0) (do_e de_int))) (do_e de_int))))) (do_e de_int))) (do_e de_int))) dos_nil))) (do_e de_int)) sc__law_draw.nd)
  (dss_cons (ds_store 0 (de_op od_mod (do_e (de_callTy cd_int (by rfl) T.z_int (by decide +kernel) (dos_cons (do_e (de_op od_add (do_e (de_op od_mul (do_n 4) (do_e de_int))) (do_e (de_op od_mul (do_e (de_ix xd_ix (do_n 0) (do_e de_int))) (do_e de_int))))) dos_nil))) (do_e de_int)) de_int)
  (dss_cons (ds_if (DW.dt (dw_and (dt_cmp od_ge (do_n 3) (do_e (de_op od_pow (do_e de_int) (do_e de_int)))) (dw_and1 (dt_cmp (od_lt hr.units0) (do_e (de_ix xd_ix (do_n 0) (do_e de_int))) (do_e (de_callB cd_len (by rfl) T.z_len (by decide +kernel) (dos_cons (do_n 1) dos_nil))))))) (dss_one (ds_store 0 (de_n 3) de_int)) dss_nil)
  (dss_one (ds_store 0 (de_op od_add (do_e (de_ix xd_ix (do_n 0) (do_e de_int))) (do_e de_int)) de_int)))))))) dss_nil)
  (dss_cons (ds_set 5 (de_op od_mod (do_e (de_callTy cd_int (by rfl) T.z_int (by decide +kernel) (dos_cons (do_e (de_ix xd_ix (do_n 0) (do_e de_int))) dos_nil))) (do_n 2)) sc__law_draw.nd)
  (dss_cons (ds_store 0 (de_op od_fdiv (do_e (de_ix xd_ix (do_n 0) (do_e de_int))) (do_n 2)) de_int)
  (dss_one (ds_ret (de_n 5))))))
theorem ok__law_draw {P : Program} {w : World} {base : Heap} {K : PySem.W.Frag} {mg : Str → Option Value} (T : Tx K mg) : FnOk P w K mg base CX0 1 T.f__law_draw T.d__law_draw ["state", "script", "size"] (toSp1 K 3 p__law_draw) :=
  okD1 T.F__law_draw sc__law_draw fun cdv A outer s H E hr => ⟨t__law_draw, der__law_draw T cdv A outer s H E hr, rd__law_draw⟩

def t__law_common : DTS := (sSq (sPar 0 1 (aCons (eCl cAbs (osCons (oN 0) osNil)) (aCons (eCl cAbs (osCons (oN 1) osNil)) aNil)))
  (sSq (sWh (tE (eOp dGt (oN 1) (oE (eC (.int 0))))) (sPar 0 1 (aCons (eN 1) (aCons (eOp dMod (oE (eCl cInt (osCons (oN 0) osNil))) (oN 1)) aNil))))
  (sRt (eN 0))))

theorem rd__law_common (ds : List PyData) (Q : RV → Prop) (hl : ds.length = 2) (h : p__law_common ds Q) : t__law_common { nx := fun _ => Q (.sh .none), rt := fun r _ => Q r } (startD 2 ds) := rd_divisor ds Q hl h

theorem der__law_common {P : Program} {w : World} {base : Heap} {K : PySem.W.Frag} {mg : Str → Option Value} (T : Tx K mg) (cdv : Value) (A : Around) (outer : List Env) (s : Shared) (H : Hp) (E : XK) (hr : Room 0 (A.deeper (PyProof.Rows.envOfC "_law_common" (defScope s__law_common) s.heap.objs.size T.f__law_common cdv))) :
    DSs (cxOf CX0 P w K mg base ["one", "two"] "_law_common" (defScope s__law_common) T.f__law_common cdv A outer s H E).nox (defBody s__law_common) t__law_common :=
  (dss_cons (ds_par 0 1 rfl sc__law_common.nd (da_cons (de_callB cd_abs (by rfl) T.z_abs (by decide +kernel) (dos_cons (do_n 0) dos_nil)) (da_cons (de_callB cd_abs (by rfl) T.z_abs (by decide +kernel) (dos_cons (do_n 1) dos_nil)) da_nil)))
  (dss_cons (ds_while PassesOwn.never (dt_cmp od_gt (do_n 1) (do_e de_int)) (dss_one (ds_par 0 1 rfl sc__law_common.nd (da_cons (de_n 1) (da_cons (de_op od_mod (do_e (de_callTy cd_int (by rfl) T.z_int (by decide +kernel) (dos_cons (do_n 0) dos_nil))) (do_n 1)) da_nil)))))
  (dss_one (ds_ret (de_n 0)))))
theorem ok__law_common {P : Program} {w : World} {base : Heap} {K : PySem.W.Frag} {mg : Str → Option Value} (T : Tx K mg) : FnOk P w K mg base CX0 1 T.f__law_common T.d__law_common ["one", "two"] (toSp K 2 p__law_common) :=
  okD T.F__law_common sc__law_common fun cdv A outer s H E hr => ⟨t__law_common, der__law_common T cdv A outer s H E hr, rd__law_common⟩

def t__law_less : DTS := (sSq (sIf (tE (eOp dLt (oN 1) (oE (eC (.int 0))))) (sPar 0 1 (aCons (eOp dSub (oE (eC (.int 0))) (oN 0)) (aCons (eOp dSub (oE (eC (.int 0))) (oN 1)) aNil))) sNx)
  (sSq (sAs (eCall 2 p__law_common (aCons (eN 0) (aCons (eN 1) aNil))) (gN 2))
  (sRt (eTup (aCons (eOp dFdiv (oN 0) (oN 2)) (aCons (eOp dFdiv (oN 1) (oN 2)) aNil))))))

theorem rd__law_less (ds : List PyData) (Q : RV → Prop) (hl : ds.length = 2) (h : p__law_less ds Q) : t__law_less { nx := fun _ => Q (.sh .none), rt := fun r _ => Q r } (startD 3 ds) := by
  obtain ⟨a, b, rfl, hb, hL, q⟩ := h
  walk_at "go"
  have dk := Lim.gcd (a := a) hb hL
  refine ite2 (fun h => ?_) (fun h => ?_)
  · have hy1 : b < 0 := of_decide_eq_true h
    walk_at "go"
    refine ⟨_, _, rfl, ?_⟩
    walk_at "go"
    have dk2 : DivOk (Int.gcd (0 - a) (0 - b) : Int) := by rw [gcd_neg2]; exact dk
    refine ⟨dk2, ?_⟩
    walk_at "go"
    refine ⟨dk2, ?_⟩
    walk_at "go"
    show Q (.sh (enc2 ((0 - a).fdiv (Int.gcd (0 - a) (0 - b) : Int), (0 - b).fdiv (Int.gcd (0 - a) (0 - b) : Int))))
    rw [nf_less hb hy1]
    exact q
  · have hy1 : ¬ b < 0 := of_decide_eq_false (by simpa using h)
    walk_at "go"
    refine ⟨_, _, rfl, ?_⟩
    walk_at "go"
    refine ⟨dk, ?_⟩
    walk_at "go"
    refine ⟨dk, ?_⟩
    walk_at "go"
    show Q (.sh (enc2 (a.fdiv (Int.gcd a b : Int), b.fdiv (Int.gcd a b : Int))))
    rw [nf_frac' hb hy1]
    exact q

theorem der__law_less {P : Program} {w : World} {base : Heap} {K : PySem.W.Frag} {mg : Str → Option Value} (T : Tx K mg) (cdv : Value) (A : Around) (outer : List Env) (s : Shared) (H : Hp) (E : XK) (hr : Room 1 (A.deeper (PyProof.Rows.envOfC "_law_less" (defScope s__law_less) s.heap.objs.size T.f__law_less cdv))) :
    DSs (cxOf CX0 P w K mg base ["over", "under", "common"] "_law_less" (defScope s__law_less) T.f__law_less cdv A outer s H E).nox (defBody s__law_less) t__law_less :=
  (dss_cons (ds_if (dt_cmp (od_lt hr.units0) (do_n 1) (do_e de_int)) (dss_one (ds_par 0 1 rfl sc__law_less.nd (da_cons (de_op od_sub (do_e de_int) (do_n 0)) (da_cons (de_op od_sub (do_e de_int) (do_n 1)) da_nil)))) dss_nil)
  (dss_cons (ds_set 2 (de_call (n := 2) (ok__law_common T) mo__law_common (hr.mono (by decide)) (by rfl) T.g__law_common T.F__law_common.kp T.b__law_common (da_cons (de_n 0) (da_cons (de_n 1) da_nil))) sc__law_less.nd)
  (dss_one (ds_ret (de_tup (da_cons (de_op od_fdiv (do_n 0) (do_n 2)) (da_cons (de_op od_fdiv (do_n 1) (do_n 2)) da_nil)))))))
theorem ok__law_less {P : Program} {w : World} {base : Heap} {K : PySem.W.Frag} {mg : Str → Option Value} (T : Tx K mg) : FnOk P w K mg base CX0 2 T.f__law_less T.d__law_less ["over", "under"] (toSp K 2 p__law_less) :=
  okD T.F__law_less sc__law_less fun cdv A outer s H E hr => ⟨t__law_less, der__law_less T cdv A outer s H E hr, rd__law_less⟩

def t__law_number : DTS := (sSq (sAs (eOp dIx (oE (eF (fLst (aCons (eC (.int 7)) (aCons (eC (.int 100)) (aCons (eOp dPow (oE (eC (.int 10))) (oE (eC (.int 20)))) aNil)))))) (oE (eCall1 3 p__law_draw 0 (aCons (eN 1) (aCons (eC (.int 3)) aNil))))) (gN 2))
  (sRt (eOp dSub (oE (eCall1 3 p__law_draw 0 (aCons (eN 1) (aCons (eOp dAdd (oE (eOp dMul (oE (eC (.int 2))) (oN 2))) (oE (eC (.int 1)))) aNil)))) (oN 2))))

theorem lim_small {x : Int} (h0 : 0 < x) (h : x ≤ 10 ^ 21) : Lim x := by
  have e : (2 : Nat) ^ 100 = 1267650600228229401496703205376 := by decide
  exact Lim.of (n := 100) (by omega) (by decide) (by decide)
theorem rd__law_number (cs ds : List PyData) (Q : RV → List PyData → Prop) (hl : ds.length + 1 = 2) (h : p__law_number cs ds Q) :
    t__law_number { nx := fun ρ => ∀ cs', ρ[0]? = some (some (.bo cs')) → Q (.sh .none) cs', rt := fun r ρ => ∀ cs', ρ[0]? = some (some (.bo cs')) → Q r cs' } (startD1 3 cs ds) := by
  obtain ⟨hs, ns, rfl, hn, k⟩ := h
  refine sSq_cut (fun ρ => ∃ (cs : List PyData) (w : Int), St2 cs ∧ 0 < w ∧ w ≤ 10 ^ 20 ∧ ρ = [some (.bo cs), some (.sh (lns ns)), some (.sh (.int w))]) ?_ ?_
  · rintro ρ ⟨cs, w, hs, hw, hw2, rfl⟩
    walk_at "go"
    refine ⟨.inl (.inl ⟨by omega, by omega⟩), ?_⟩
    walk_at "go"
    refine ⟨hs, ns, 2 * w + 1, rfl, hn, by omega, lim_small (by omega) (by omega), fun r cs' hr hr2 hs2 => ?_⟩
    walk_at "go"
    intro cs2 e
    have e : cs2 = cs' := by cases e; rfl
    rw [e]
    exact k _ _ (by omega) hs2
  · intro K hK
    walk_at "go"
    refine ⟨⟨by omega, by omega, by decide⟩, ?_⟩
    walk_at "go"
    refine ⟨hs, ns, 3, rfl, hn, by omega, lim_small (by omega) (by omega), fun r cs' hr hr2 hs2 => ?_⟩
    have h3 : r = 0 ∨ r = 1 ∨ r = 2 := by omega
    rcases h3 with rfl | rfl | rfl
    · exact ⟨rfl, hK _ ⟨cs', 7, hs2, by omega, by omega, rfl⟩⟩
    · exact ⟨rfl, hK _ ⟨cs', 100, hs2, by omega, by omega, rfl⟩⟩
    · exact ⟨rfl, hK _ ⟨cs', 10 ^ 20, hs2, by omega, by omega, rfl⟩⟩

theorem der__law_number {P : Program} {w : World} {base : Heap} {K : PySem.W.Frag} {mg : Str → Option Value} (T : Tx K mg) (cdv : Value) (A : Around) (outer : List Env) (s : Shared) (H : Hp) (E : XK) (hr : Room 1 (A.deeper (PyProof.Rows.envOfC "_law_number" (defScope s__law_number) s.heap.objs.size T.f__law_number cdv))) :
    DSs (cxOf CX0 P w K mg base ["state", "script", "wide"] "_law_number" (defScope s__law_number) T.f__law_number cdv A outer s H E).nox (defBody s__law_number) t__law_number :=
  (dss_cons (ds_set 2 (de_ix xd_ix (do_e (de_f (df_lst (da_cons de_int (da_cons de_int (da_cons (de_op od_pow (do_e de_int) (do_e de_int)) da_nil)))))) (do_e (de_call1 (n := 3) 0 (ok__law_draw T) mo__law_draw (hr.mono (by decide)) (by rfl) T.g__law_draw T.F__law_draw.kp T.b__law_draw (da_cons (de_n 1) (da_cons de_int da_nil))))) sc__law_number.nd)
  (dss_one (ds_ret (de_op od_sub (do_e (de_call1 (n := 3) 0 (ok__law_draw T) mo__law_draw (hr.mono (by decide)) (by rfl) T.g__law_draw T.F__law_draw.kp T.b__law_draw (da_cons (de_n 1) (da_cons (de_op od_add (do_e (de_op od_mul (do_e de_int) (do_n 2))) (do_e de_int)) da_nil)))) (do_n 2)))))
theorem ok__law_number {P : Program} {w : World} {base : Heap} {K : PySem.W.Frag} {mg : Str → Option Value} (T : Tx K mg) : FnOk P w K mg base CX0 2 T.f__law_number T.d__law_number ["state", "script"] (toSp1 K 2 p__law_number) :=
  okD1 T.F__law_number sc__law_number fun cdv A outer s H E hr => ⟨t__law_number, der__law_number T cdv A outer s H E hr, rd__law_number⟩

def t__law_fractions_hold : DTS := (sSq (sPar 2 3 (aCons (eCall1 2 p__law_number 0 (aCons (eN 1) aNil)) (aCons (eCall1 2 p__law_number 0 (aCons (eN 1) aNil)) aNil)))
  (sSq (sAs (eF (fLc (iR1 (aCons (eC (.int 2)) aNil)) (gN 12) tYs (eCall1 2 p__law_number 0 (aCons (eN 1) aNil)) [12])) (gN 4))
  (sSq (sAs (eF (fLc (iE (eN 4)) (gN 7) tYs (eOp dIx (oE (eF (fLst (aCons (eN 7) (aCons (eC (.int 1)) aNil))))) (oE (eCl cInt (osCons (oE (eOp dEq (oN 7) (oE (eC (.int 0))))) osNil)))) [7])) (gU 2 (gsCons (gN 5) (gsCons (gN 6) gsNil))))
  (sSq (sPar 7 8 (aCons (eCall 2 p_fraction (aCons (eN 2) (aCons (eN 5) aNil))) (aCons (eCall 2 p_fraction (aCons (eN 3) (aCons (eN 6) aNil))) aNil)))
  (sSq (sIf (tOr' (tE (eOp dNe (oN 7) (oE (eCall 2 p__law_less (aCons (eN 2) (aCons (eN 5) aNil)))))) (tOr' (tE (eOp dNe (oN 8) (oE (eCall 2 p__law_less (aCons (eN 3) (aCons (eN 6) aNil)))))) (tOr' (tE (eOp dNe (oE (eCall 2 p_divisor (aCons (eN 2) (aCons (eN 3) aNil)))) (oE (eCall 2 p__law_common (aCons (eN 2) (aCons (eN 3) aNil)))))) (tE (eOp dNe (oE (eCall 1 p_whole_of (aCons (eN 2) aNil))) (oE (eTup (aCons (eN 2) (aCons (eC (.int 1)) aNil))))))))) (sRt (eC (.bool false))) sNx)
  (sSq (sAs (eN 7) (gU 2 (gsCons (gN 2) (gsCons (gN 5) gsNil))))
  (sSq (sAs (eN 8) (gU 2 (gsCons (gN 3) (gsCons (gN 6) gsNil))))
  (sSq (sIf (tOr' (tE (eOp dNe (oE (eCall 2 p_plus (aCons (eN 7) (aCons (eN 8) aNil)))) (oE (eCall 2 p__law_less (aCons (eOp dAdd (oE (eOp dMul (oN 2) (oN 6))) (oE (eOp dMul (oN 3) (oN 5)))) (aCons (eOp dMul (oN 5) (oN 6)) aNil)))))) (tOr' (tE (eOp dNe (oE (eCall 2 p_minus (aCons (eN 7) (aCons (eN 8) aNil)))) (oE (eCall 2 p__law_less (aCons (eOp dSub (oE (eOp dMul (oN 2) (oN 6))) (oE (eOp dMul (oN 3) (oN 5)))) (aCons (eOp dMul (oN 5) (oN 6)) aNil)))))) (tE (eOp dNe (oE (eCall 2 p_times (aCons (eN 7) (aCons (eN 8) aNil)))) (oE (eCall 2 p__law_less (aCons (eOp dMul (oN 2) (oN 3)) (aCons (eOp dMul (oN 5) (oN 6)) aNil)))))))) (sRt (eC (.bool false))) sNx)
  (sSq (sIf (tOr' (tAn (tE (eOp dNe (oN 3) (oE (eC (.int 0))))) (tE (eOp dNe (oE (eCall 2 p_part (aCons (eN 7) (aCons (eN 8) aNil)))) (oE (eCall 2 p__law_less (aCons (eOp dMul (oN 2) (oN 6)) (aCons (eOp dMul (oN 3) (oN 5)) aNil))))))) (tOr' (tE (eOp dNe (oE (eCall 1 p_fraction_sign (aCons (eN 7) aNil))) (oE (eOp dSub (oE (eCl cInt (osCons (oE (eOp dGt (oN 2) (oE (eC (.int 0))))) osNil))) (oE (eCl cInt (osCons (oE (eOp dLt (oN 2) (oE (eC (.int 0))))) osNil))))))) (tE (eOp dNe (oE (eCall 2 p_is_less (aCons (eN 7) (aCons (eN 8) aNil)))) (oE (eOp dLt (oE (eOp dMul (oN 2) (oN 6))) (oE (eOp dMul (oN 3) (oN 5))))))))) (sRt (eC (.bool false))) sNx)
  (sSq (sAs (eF (fLc (iR1 (aCons (eCall1 3 p__law_draw 0 (aCons (eN 1) (aCons (eC (.int 6)) aNil))) aNil)) (gN 12) tYs (eCall 2 p__law_less (aCons (eOp dSub (oE (eCall1 3 p__law_draw 0 (aCons (eN 1) (aCons (eC (.int 30)) aNil)))) (oE (eC (.int 15)))) (aCons (eOp dAdd (oE (eC (.int 1))) (oE (eCall1 3 p__law_draw 0 (aCons (eN 1) (aCons (eC (.int 12)) aNil))))) aNil))) [12])) (gN 9))
  (sSq (sAs (eC (.int 1)) (gN 10))
  (sSq (sWh (tE (eOp dGt (oE (eCl cLen (osCons (oE (eF (fLc (iE (eN 9)) (gU 2 (gsCons (gN 13) (gsCons (gN 4) gsNil))) (tE (eOp dNe (oE (eOp dMod (oE (eCl cInt (osCons (oN 10) osNil))) (oN 4))) (oE (eC (.int 0))))) (eN 13) [13, 4]))) osNil))) (oE (eC (.int 0))))) (sAs (eOp dAdd (oN 10) (oE (eC (.int 1)))) (gN 10)))
  (sSq (sIf (tOr' (tE (eOp dNe (oE (eCall 1 p_cleared (aCons (eF (fCl cList (osCons (oN 9) osNil))) aNil))) (oE (eTup (aCons (eN 10) (aCons (eF (fLc (iE (eN 9)) (gU 2 (gsCons (gN 13) (gsCons (gN 4) gsNil))) tYs (eOp dMul (oN 13) (oE (eOp dFdiv (oN 10) (oN 4)))) [13, 4])) aNil)))))) (tE (eOp dNe (oE (eCall 1 p_total (aCons (eF (fCl cList (osCons (oN 9) osNil))) aNil))) (oE (eCall 2 p__law_less (aCons (eCl cSum (osCons (oE (eF (fLc (iE (eN 9)) (gU 2 (gsCons (gN 13) (gsCons (gN 4) gsNil))) tYs (eOp dMul (oN 13) (oE (eOp dFdiv (oN 10) (oN 4)))) [13, 4]))) osNil)) (aCons (eN 10) aNil))))))) (sRt (eC (.bool false))) sNx)
  (sSq (sAs (eF (fLst (aCons (eC .none) (aCons (eTup (aCons (eC (.int 1)) aNil)) (aCons (eTup (aCons (eC (.int 2)) (aCons (eC (.int 4)) aNil))) (aCons (eTup (aCons (eC (.int 1)) (aCons (eC (.int 0)) aNil))) (aCons (eTup (aCons (eC (.int 1)) (aCons (eOp dSub (oE (eC (.int 0))) (oE (eC (.int 2)))) aNil))) (aCons (eTup (aCons (eC (.bool true)) (aCons (eC (.int 1)) aNil))) (aCons (eF (fLst (aCons (eC (.int 1)) (aCons (eC (.int 2)) aNil)))) (aCons (eTup (aCons (eC (.int 0)) (aCons (eC (.int 2)) aNil))) (aCons (eTup (aCons (eC (.int 1)) (aCons (eC (.int 2)) (aCons (eC (.int 3)) aNil)))) aNil))))))))))) (gN 11))
  (sRt (eAnd (eOp dIs (oE (eCall 1 p_is_fraction (aCons (eN 7) aNil))) (oE (eC (.bool true)))) (eOp dNi (oE (eC (.bool true))) (oE (eF (fLc (iE (eN 11)) (gN 14) tYs (eCall 1 p_is_fraction (aCons (eN 14) aNil)) [14]))))))))))))))))))))

/-- the state: fifteen slots -/
def S15 (ns : List Int) (cs : List PyData) (a b u c d o t r l w k v f : Option PyData) : DS :=
  [some (.bo cs), some (.sh (lns ns)), a.map Sl.sh, b.map Sl.sh, u.map Sl.sh, c.map Sl.sh, d.map Sl.sh, o.map Sl.sh, t.map Sl.sh, r.map Sl.sh, l.map Sl.sh, w.map Sl.sh, k.map Sl.sh, v.map Sl.sh, f.map Sl.sh]
def I (x : Int) : Option PyData := some (.int x)
def F (p : Int × Int) : Option PyData := some (enc2 p)
def Sm (x : Int) : Prop := x.natAbs ≤ 10 ^ 20
theorem Sm.lim {x : Int} (h : Sm x) : Lim x := by
  have e : (2 : Nat) ^ 100 = 1267650600228229401496703205376 := by decide
  unfold Sm at h
  exact Lim.of (n := 100) (by omega) (by decide) (by decide)
theorem Sm.bd {x : Int} (h : Sm x) : x.natAbs < 2 ^ 400 := by
  have e : (2 : Nat) ^ 100 < 2 ^ 400 := by decide
  have e2 : (2 : Nat) ^ 100 = 1267650600228229401496703205376 := by decide
  unfold Sm at h
  omega
theorem nf_bd {a b : Int} (ha : Sm a) (hb : Sm b) (h : b ≠ 0) : Bd (nf a b) ∧ Sm (nf a b).1 ∧ Sm (nf a b).2 ∧ 0 < (nf a b).2 ∧ Int.gcd (nf a b).1 (nf a b).2 = 1 := by
  obtain ⟨h1, _, h3, h4, h5⟩ := nf_spec (a := a) h
  have s1 : Sm (nf a b).1 := Nat.le_trans h4 ha
  have s2 : Sm (nf a b).2 := Nat.le_trans h5 hb
  exact ⟨⟨by omega, s1.bd, s2.bd⟩, s1, s2, h1, h3⟩
def i10 (l : Int) (ρ : DS) : Nat := match ρ with
  | [_, _, _, _, _, _, _, _, _, _, some (.sh (.int m)), _, _, _, _] => (l - m).toNat
  | _ => 0
theorem ne_skip {x y : PyData} {A B : Prop} (h : PyData.eqv x y = true) (k : B) : if (!PyData.eqv x y) = true then A else B := by
  rw [h]
  exact k
theorem enc2_self (p : Int × Int) : PyData.eqv (enc2 p) (enc2 p) = true := by
  rw [eqv2]; simp
theorem int_self (x : Int) : PyData.eqv (.int x) (.int x) = true := by
  show (x == x) = true
  simp
theorem bool_self (x : Bool) : PyData.eqv (.bool x) (.bool x) = true := by
  show (x == x) = true
  simp
theorem eqAll_ints : ∀ ns : List Int, PyData.eqvAll (ns.map PyData.int) (ns.map PyData.int) = true
  | [] => rfl
  | n :: ns => by
    show (n == n && PyData.eqvAll (ns.map PyData.int) (ns.map PyData.int)) = true
    rw [eqAll_ints ns]; simp
theorem lay_ints : ∀ ns : List Int, PyData.canLayAll0 (ns.map PyData.int) = true
  | [] => rfl
  | n :: ns => by
    show (true && PyData.canLayAll0 (ns.map PyData.int)) = true
    rw [lay_ints ns]; rfl
theorem dep_ints : ∀ ns : List Int, PyData.depthAll (ns.map PyData.int) ≤ 1
  | [] => Nat.zero_le _
  | n :: ns => by
    have h := dep_ints ns
    have e : PyData.depthAll ((n :: ns).map PyData.int) = max (PyData.depth (.int n)) (PyData.depthAll (ns.map PyData.int)) := rfl
    have e2 : PyData.depth (.int n) ≤ 1 := by first | exact Nat.zero_le _ | exact Nat.le_refl _
    rw [e]
    omega
def pick (x : Int) : Int := if x = 0 then 1 else x
def pickD : PyData → Option PyData
  | .int x => some (.int (pick x))
  | _ => none
theorem isFr_nf {p : Int × Int} (h : 0 < p.2) (g : Int.gcd p.1 p.2 = 1) : isFr (enc2 p) = true := by
  show (decide (0 < p.2) && decide (Int.gcd p.1 p.2 = 1)) = true
  rw [decide_eq_true h, decide_eq_true g]
  rfl
theorem Sm.pick {x : Int} (h : Sm x) : Sm (pick x) ∧ pick x ≠ 0 := by
  unfold Lw.pick
  unfold Sm at *
  split
  · exact ⟨by decide, by decide⟩
  · exact ⟨h, by assumption⟩
theorem rd__law_fractions_hold (cs ds : List PyData) (Q : RV → List PyData → Prop) (hl : ds.length + 1 = 2) (h : p__law_fractions_hold cs ds Q) :
    t__law_fractions_hold { nx := fun ρ => ∀ cs', ρ[0]? = some (some (.bo cs')) → Q (.sh .none) cs', rt := fun r ρ => ∀ cs', ρ[0]? = some (some (.bo cs')) → Q r cs' } (startD1 15 cs ds) := by
  obtain ⟨hs, ns, rfl, hn, k⟩ := h
  -- a, b
  refine sSq_cut (fun ρ => ∃ (cs : List PyData) (a b : Int), St2 cs ∧ Sm a ∧ Sm b ∧ ρ = S15 ns cs (I a) (I b) none none none none none none none none none none none) ?_ ?_
  · rintro ρ ⟨cs, a, b, hs, ha, hb, rfl⟩
    -- under
    refine sSq_cut (fun ρ => ∃ (cs : List PyData) (x y : Int), St2 cs ∧ Sm x ∧ Sm y ∧ ρ = S15 ns cs (I a) (I b) (some (.list [.int x, .int y])) none none none none none none none none none none) ?_ ?_
    · rintro ρ ⟨cs, x, y, hs, hx, hy, rfl⟩
      -- c, d
      refine sSq_cut (fun ρ => ∃ (u : PyData) (c d : Int), Sm c ∧ Sm d ∧ c ≠ 0 ∧ d ≠ 0 ∧ ρ = S15 ns cs (I a) (I b) (some u) (I c) (I d) none none none none none none none none) ?_ ?_
      · rintro ρ ⟨u, c, d, hc, hd, hc0, hd0, rfl⟩
        -- one, two
        obtain ⟨B1, m1, n1, g1, G1⟩ := nf_bd ha hc hc0
        obtain ⟨B2, m2, n2, g2, G2⟩ := nf_bd hb hd hd0
        refine sSq_cut (fun ρ => ρ = S15 ns cs (I a) (I b) (some u) (I c) (I d) (F (nf a c)) (F (nf b d)) none none none none none none) ?_ ?_
        · rintro ρ rfl
          refine sSq_cut (fun ρ => ρ = S15 ns cs (I a) (I b) (some u) (I c) (I d) (F (nf a c)) (F (nf b d)) none none none none none none) ?_ ?_
          · rintro ρ rfl
            generalize nf a c = p at B1 m1 n1 g1 G1
            generalize nf b d = q at B2 m2 n2 g2 G2
            -- a, c = one; b, d = two
            refine sSq_cut (fun ρ => ρ = S15 ns cs (I p.1) (I b) (some u) (I p.2) (I d) (F p) (F q) none none none none none none) ?_ (fun K hK => ?_)
            rotate_left
            · walk_at "st"
              exact hK _ rfl
            rintro ρ rfl
            refine sSq_cut (fun ρ => ρ = S15 ns cs (I p.1) (I q.1) (some u) (I p.2) (I q.2) (F p) (F q) none none none none none none) ?_ (fun K hK => ?_)
            rotate_left
            · walk_at "st"
              exact hK _ rfl
            rintro ρ rfl
            have ne2 : p.2 * q.2 ≠ 0 := Int.mul_ne_zero B1.1 B2.1
            have li2 : Lim (p.2 * q.2) := l4 B1.2.2 B2.2.2
            -- plus, minus, times
            refine sSq_cut (fun ρ => ρ = S15 ns cs (I p.1) (I q.1) (some u) (I p.2) (I q.2) (F p) (F q) none none none none none none) ?_ (fun K hK => ?_)
            rotate_left
            · walk_at "st"
              refine ⟨p, q, rfl, B1, B2, trivial, ?_⟩
              walk_at "st"
              refine ⟨mo4 B1.2.1 B2.2.2, ?_⟩
              walk_at "st"
              refine ⟨mo4 B2.2.1 B1.2.2, ?_⟩
              walk_at "st"
              refine ⟨mo4 B1.2.2 B2.2.2, ?_⟩
              walk_at "st"
              refine ⟨_, _, rfl, ne2, li2, ?_⟩
              walk_at "st"
              refine ne_skip (enc2_self _) ?_
              walk_at "st"
              refine ⟨p, q, rfl, B1, B2, trivial, ?_⟩
              walk_at "st"
              refine ⟨mo4 B1.2.1 B2.2.2, ?_⟩
              walk_at "st"
              refine ⟨mo4 B2.2.1 B1.2.2, ?_⟩
              walk_at "st"
              refine ⟨mo4 B1.2.2 B2.2.2, ?_⟩
              walk_at "st"
              refine ⟨_, _, rfl, ne2, li2, ?_⟩
              walk_at "st"
              refine ne_skip (enc2_self _) ?_
              walk_at "st"
              refine ⟨p, q, rfl, B1, B2, trivial, ?_⟩
              walk_at "st"
              refine ⟨mo4 B1.2.1 B2.2.1, ?_⟩
              walk_at "st"
              refine ⟨mo4 B1.2.2 B2.2.2, ?_⟩
              walk_at "st"
              refine ⟨_, _, rfl, ne2, li2, ?_⟩
              walk_at "st"
              refine ite2 (fun h => absurd h ?_) (fun _ => hK _ rfl)
              show ¬ (!PyData.eqv (enc2 (nf (p.1 * q.1) (p.2 * q.2))) (enc2 (nf (p.1 * q.1) (p.2 * q.2)))) = true
              rw [enc2_self]
              decide
            rintro ρ rfl
            -- part, sign, order
            refine sSq_cut (fun ρ => ρ = S15 ns cs (I p.1) (I q.1) (some u) (I p.2) (I q.2) (F p) (F q) none none none none none none) ?_ (fun K hK => ?_)
            rotate_left
            · have rest : tOr' (tE (eOp dNe (oE (eCall 1 p_fraction_sign (aCons (eN 7) aNil))) (oE (eOp dSub (oE (eCl cInt (osCons (oE (eOp dGt (oN 2) (oE (eC (.int 0))))) osNil))) (oE (eCl cInt (osCons (oE (eOp dLt (oN 2) (oE (eC (.int 0))))) osNil))))))) (tE (eOp dNe (oE (eCall 2 p_is_less (aCons (eN 7) (aCons (eN 8) aNil)))) (oE (eOp dLt (oE (eOp dMul (oN 2) (oN 6))) (oE (eOp dMul (oN 3) (oN 5)))))))
                  (S15 ns cs (I p.1) (I q.1) (some u) (I p.2) (I q.2) (F p) (F q) none none none none none none) (fun b ρ' => if b = true then sRt (eC (.bool false)) { nx := K, rt := fun r ρ => ∀ cs', ρ[0]? = some (some (.bo cs')) → Q r cs' } ρ' else sNx { nx := K, rt := fun r ρ => ∀ cs', ρ[0]? = some (some (.bo cs')) → Q r cs' } ρ') := by
                walk_at "st"
                refine ⟨p, rfl, ?_⟩
                walk_at "st"
                refine ne_skip (int_self _) ?_
                walk_at "st"
                refine ⟨p, q, rfl, B1, B2, ?_⟩
                walk_at "st"
                refine ⟨mo4 B1.2.1 B2.2.2, ?_⟩
                walk_at "st"
                refine ⟨mo4 B2.2.1 B1.2.2, ?_⟩
                walk_at "st"
                exact ne_skip (bool_self _) (hK _ rfl)
              by_cases hq0 : q.1 = 0
              · walk_at "st"
                have e0 : (q.1 == 0) = true := by rw [hq0]; rfl
                refine ite2 (fun h => absurd (show (!(q.1 == 0)) = true from h) (by rw [e0]; decide)) (fun _ => ?_)
                exact rest
              · walk_at "st"
                have e0 : (q.1 == 0) = false := beq_eq_false_iff_ne.mpr hq0
                refine ite2 (fun _ => ?_) (fun h => absurd (show (!(q.1 == 0)) = true by rw [e0]; rfl) h)
                walk_at "st"
                refine ⟨p, q, rfl, B1, B2, hq0, ?_⟩
                walk_at "st"
                refine ⟨mo4 B1.2.1 B2.2.2, ?_⟩
                walk_at "st"
                refine ⟨mo4 B2.2.1 B1.2.2, ?_⟩
                walk_at "st"
                refine ⟨_, _, rfl, Int.mul_ne_zero hq0 B1.1, l4 B2.2.1 B1.2.2, ?_⟩
                walk_at "st"
                refine ne_skip ?_ rest
                show PyData.eqv (enc2 (nf (p.1 * q.2) (p.2 * q.1))) (enc2 (nf (p.1 * q.2) (q.1 * p.2))) = true
                rw [Int.mul_comm q.1 p.2]
                exact enc2_self _
            rintro ρ rfl
            -- the row
            refine sSq_cut (fun ρ => ∃ (cs : List PyData) (row : List (Int × Int)), St2 cs ∧ row.length ≤ 5 ∧ (∀ x ∈ row, Rw x) ∧ ρ = S15 ns cs (I p.1) (I q.1) (some u) (I p.2) (I q.2) (F p) (F q) (some (encs row)) none none none none none) ?_ (fun K hK => ?_)
            rotate_left
            · walk_at "st"
              refine ⟨hs, ns, 6, rfl, hn, by omega, lim_small (by omega) (by omega), fun r cs1 hr hr2 hs1 => ?_⟩
              walk_at "st"
              refine ⟨by omega, by omega, by rw [rngD_len]; exact Nat.le_trans (show r.toNat ≤ 6 by omega) (by decide), rfl, ?_⟩
              refine cmBy (fun i acc ρ => ∃ (cs : List PyData) (row : List (Int × Int)), St2 cs ∧ row.length = i ∧ (∀ x ∈ row, Rw x) ∧ acc = row.map enc2 ∧ ρ = S15 ns cs (I p.1) (I q.1) (some u) (I p.2) (I q.2) (F p) (F q) none none none none none none) ⟨cs1, [], hs1, rfl, (fun x hx => by cases hx), rfl, rfl⟩ ?_ ?_
              · rintro i dd acc ρ K2 hd ⟨cs2, row, hs2, hrl, hrR, rfl, rfl⟩ hK2
                walk_at "st"
                refine ⟨hs2, ns, 30, rfl, hn, by omega, lim_small (by omega) (by omega), fun r1 cs3 h1 h2 hs3 => ?_⟩
                walk_at "st"
                refine ⟨hs3, ns, 12, rfl, hn, by omega, lim_small (by omega) (by omega), fun r2 cs4 h3 h4 hs4 => ?_⟩
                walk_at "st"
                refine ⟨r1 - 15, 1 + r2, rfl, by omega, lim_small (by omega) (by omega), ?_⟩
                obtain ⟨z1, z2, z3, z4, z5⟩ := nf_spec (a := r1 - 15) (show 1 + r2 ≠ 0 by omega)
                refine hK2 _ _ ⟨cs4, row ++ [nf (r1 - 15) (1 + r2)], hs4, by rw [List.length_append, hrl]; rfl, fun x hx => ?_, by rw [List.map_append]; rfl, rfl⟩
                rcases List.mem_append.mp hx with hx | hx
                · exact hrR x hx
                · cases List.mem_singleton.mp hx
                  exact ⟨z1, by omega, by omega⟩
              · rintro acc ρ ⟨cs2, row, hs2, hrl, hrR, rfl, rfl⟩
                walk_at "st"
                rw [rngD_len] at hrl
                exact hK _ ⟨cs2, row, hs2, by omega, hrR, rfl⟩
            clear hs cs
            rintro ρ ⟨cs, row, hs, hr5, hR, rfl⟩
            obtain ⟨L1, L2, L3⟩ := lcmR_bounds hR
            -- least
            refine sSq_cut (fun ρ => ρ = S15 ns cs (I p.1) (I q.1) (some u) (I p.2) (I q.2) (F p) (F q) (some (encs row)) (I 1) none none none none) ?_ (fun K hK => ?_)
            rotate_left
            · walk_at "st"
              exact hK _ rfl
            rintro ρ rfl
            refine sSq_cut (fun ρ => ρ = S15 ns cs (I p.1) (I q.1) (some u) (I p.2) (I q.2) (F p) (F q) (some (encs row)) (I (lcmR row)) none none none none) ?_ (fun K hK => ?_)
            rotate_left
            · refine whBy (fun ρ => ∃ m : Int, 1 ≤ m ∧ m ≤ lcmR row ∧ ρ = S15 ns cs (I p.1) (I q.1) (some u) (I p.2) (I q.2) (F p) (F q) (some (encs row)) (I m) none none none none) (i10 (lcmR row)) ⟨1, by omega, by omega, rfl⟩ ?_
              rintro ρ K2 ⟨m, hm1, hm2, rfl⟩ hK2
              refine ⟨by rw [List.length_map]; exact Nat.le_trans hr5 (by decide), rfl, ?_⟩
              refine cmFm (fun d => match d with | .tuple [.int a, .int b] => (if m.fmod b = 0 then none else some (PyData.int a)) | _ => none) (S15 ns cs (I p.1) (I q.1) none (I p.2) (I q.2) (F p) (F q) (some (encs row)) (I m) none none none none) ?_ ?_
              · intro e he KT KF hT hF
                obtain ⟨x, hx, rfl⟩ := List.mem_map.mp he
                have hxR := hR x hx
                walk_at "st"
                refine ⟨by have := hxR.1; omega, ?_⟩
                walk_at "st"
                by_cases h0 : m.fmod x.2 = 0
                · have e0 : (m.fmod x.2 == 0) = true := by rw [h0]; rfl
                  refine ite2 (fun h => absurd (show (!(m.fmod x.2 == 0)) = true from h) (by rw [e0]; decide)) (fun _ => ?_)
                  exact hF (if_pos h0)
                · have e0 : (m.fmod x.2 == 0) = false := beq_eq_false_iff_ne.mpr h0
                  refine ite2 (fun _ => ?_) (fun h => absurd (show (!(m.fmod x.2 == 0)) = true by rw [e0]; rfl) h)
                  exact hT _ (if_neg h0)
              · walk_at "st"
                refine ite2 (fun h => ?_) (fun h => ?_)
                · -- some one does not divide
                  walk_at "st"
                  have hlen := of_decide_eq_true h
                  have ne : m ≠ lcmR row := fun e => by
                    have nil : (row.map enc2).filterMap (fun d => match d with | .tuple [.int a, .int b] => (if m.fmod b = 0 then none else some (PyData.int a)) | _ => none) = [] := by
                      rw [List.filterMap_eq_nil_iff]
                      intro y hy
                      obtain ⟨x, hx, rfl⟩ := List.mem_map.mp hy
                      refine if_pos ?_
                      have hx0 := (hR x hx).1
                      rw [Int.fmod_eq_emod_of_nonneg m (by omega), e]
                      exact Int.emod_eq_zero_of_dvd (L3 x hx)
                    have : (0 : Int) < (([] ++ (row.map enc2).filterMap (fun d => match d with | .tuple [.int a, .int b] => (if m.fmod b = 0 then none else some (PyData.int a)) | _ => none) : List PyData).length : Nat) := hlen
                    rw [nil] at this
                    exact absurd this (by decide)
                  refine hK2 _ ⟨m + 1, by omega, by omega, rfl⟩ ?_
                  show (lcmR row - (m + 1)).toNat < (lcmR row - m).toNat
                  omega
                · -- all divide
                  have hlen : ¬ (0 : Int) < (([] ++ (row.map enc2).filterMap (fun d => match d with | .tuple [.int a, .int b] => (if m.fmod b = 0 then none else some (PyData.int a)) | _ => none) : List PyData).length : Nat) := fun z => h (decide_eq_true z)
                  have nil : (row.map enc2).filterMap (fun d => match d with | .tuple [.int a, .int b] => (if m.fmod b = 0 then none else some (PyData.int a)) | _ => none) = [] := by
                    rw [List.nil_append] at hlen
                    exact List.eq_nil_of_length_eq_zero (by omega)
                  have hle := lcmR_least hR (m := m) (by omega) fun x hx => by
                    have hx0 := (hR x hx).1
                    rw [List.filterMap_eq_nil_iff] at nil
                    have q0 := nil _ (List.mem_map_of_mem hx)
                    have q1 : (if m.fmod x.2 = 0 then none else some (PyData.int x.1)) = none := q0
                    by_cases h0 : m.fmod x.2 = 0
                    · rw [Int.fmod_eq_emod_of_nonneg m (by omega)] at h0
                      exact Int.dvd_of_emod_eq_zero h0
                    · rw [if_neg h0] at q1
                      cases q1
                  have e : m = lcmR row := by omega
                  subst e
                  exact hK _ rfl
            rintro ρ rfl
            have hlay : SeqAt.shaped (.tuple [.int (lcmR row), lns (wrow (lcmR row) row)]) = true := by
              have d1 := dep_ints (wrow (lcmR row) row)
              have e : SeqAt.shaped (.tuple [.int (lcmR row), lns (wrow (lcmR row) row)]) = ((true && (PyData.canLayAll0 ((wrow (lcmR row) row).map PyData.int) && true)) && decide (PyData.depth (.tuple [.int (lcmR row), lns (wrow (lcmR row) row)]) ≤ 64)) := rfl
              have e2 : PyData.depth (.tuple [.int (lcmR row), lns (wrow (lcmR row) row)]) ≤ 64 := by
                simp only [PyData.depth, PyData.depthAll, lns]
                omega
              rw [e, lay_ints, decide_eq_true e2]
              rfl
            have hself : PyData.eqv (.tuple [.int (lcmR row), lns (wrow (lcmR row) row)]) (.tuple [.int (lcmR row), lns (wrow (lcmR row) row)]) = true := by
              show (lcmR row == lcmR row && (PyData.eqvAll ((wrow (lcmR row) row).map PyData.int) ((wrow (lcmR row) row).map PyData.int) && true)) = true
              rw [eqAll_ints]; simp
            have comp : ∀ (P : List PyData → DS → Prop), P ((wrow (lcmR row) row).map PyData.int) (S15 ns cs (I p.1) (I q.1) (some u) (I p.2) (I q.2) (F p) (F q) (some (encs row)) (I (lcmR row)) none none none none) →
                fLc (iE (eN 9)) (gU 2 (gsCons (gN 13) (gsCons (gN 4) gsNil))) tYs (eOp dMul (oN 13) (oE (eOp dFdiv (oN 10) (oN 4)))) [13, 4] (S15 ns cs (I p.1) (I q.1) (some u) (I p.2) (I q.2) (F p) (F q) (some (encs row)) (I (lcmR row)) none none none none) P := by
              intro P hP
              refine ⟨by rw [List.length_map]; exact Nat.le_trans hr5 (by decide), rfl, ?_⟩
              refine cmFm (fun d => match d with | .tuple [.int a, .int b] => some (PyData.int (a * (lcmR row).fdiv b)) | _ => none) (S15 ns cs (I p.1) (I q.1) none (I p.2) (I q.2) (F p) (F q) (some (encs row)) (I (lcmR row)) none none none none) ?_ ?_
              · intro d hd KT KF hT hF
                obtain ⟨x, hx, rfl⟩ := List.mem_map.mp hd
                have hxR := hR x hx
                walk_at "st"
                refine ⟨div12 hxR, ?_⟩
                walk_at "st"
                refine ⟨.inl (.inl ⟨by have := hxR.2.2; omega, by have := hxR.2.2; omega⟩), ?_⟩
                exact hT _ rfl
              · rw [List.nil_append, wr_map]
                exact hP
            refine sSq_cut (fun ρ => ρ = S15 ns cs (I p.1) (I q.1) (some u) (I p.2) (I q.2) (F p) (F q) (some (encs row)) (I (lcmR row)) none none none none) ?_ (fun K hK => ?_)
            rotate_left
            · walk_at "st"
              refine ⟨row, rfl, hR, hr5, ?_⟩
              refine comp _ ?_
              refine ⟨Nat.le_of_ble_eq_true rfl, ?_⟩
              refine ⟨hlay, hlay, ?_⟩
              refine ne_skip hself ?_
              walk_at "st"
              refine ⟨row, lcmR row, rfl, hR, hr5, L1, L2, L3, ?_⟩
              refine comp _ ?_
              show match intsOf ((wrow (lcmR row) row).map PyData.int) with
                | some ms => _
                | none => False
              rw [intsOf_ints]
              refine ⟨rfl, ?_⟩
              refine ⟨_, _, rfl, by omega, lim_small (by omega) (by omega), ?_⟩
              walk_at "st"
              exact ne_skip (enc2_self _) (hK _ rfl)
            rintro ρ rfl
            refine sSq_cut (fun ρ => ρ = S15 ns cs (I p.1) (I q.1) (some u) (I p.2) (I q.2) (F p) (F q) (some (encs row)) (I (lcmR row)) (some (.list [.none, .tuple [.int 1], .tuple [.int 2, .int 4], .tuple [.int 1, .int 0], .tuple [.int 1, .int (-2)], .tuple [.bool true, .int 1], .list [.int 1, .int 2], .tuple [.int 0, .int 2], .tuple [.int 1, .int 2, .int 3]])) none none none) ?_ (fun K hK => ?_)
            rotate_left
            · walk_at "st"
              exact hK _ rfl
            rintro ρ rfl
            walk_at "st"
            refine ⟨_, rfl, ?_⟩
            have e1 : isFr (enc2 p) = true := isFr_nf g1 G1
            rw [e1]
            walk_at "st"
            refine cmFm (fun d => some (.bool (isFr d))) (S15 ns cs (I p.1) (I q.1) (some u) (I p.2) (I q.2) (F p) (F q) (some (encs row)) (I (lcmR row)) (some (.list [.none, .tuple [.int 1], .tuple [.int 2, .int 4], .tuple [.int 1, .int 0], .tuple [.int 1, .int (-2)], .tuple [.bool true, .int 1], .list [.int 1, .int 2], .tuple [.int 0, .int 2], .tuple [.int 1, .int 2, .int 3]])) none none none) (fun d _ KT KF hT _ => ⟨rfl, rfl, d, rfl, hT _ rfl⟩) ?_
            walk_at "st"
            intro cs' e
            have e : cs' = cs := by cases e; rfl
            rw [e]
            exact k _ hs
          · intro K hK
            walk_at "st"
            refine ⟨_, _, rfl, hc0, hc.lim, ?_⟩
            walk_at "st"
            refine ne_skip (enc2_self _) ?_
            walk_at "st"
            refine ⟨_, _, rfl, hd0, hd.lim, ?_⟩
            walk_at "st"
            refine ne_skip (enc2_self _) ?_
            walk_at "st"
            refine ⟨_, _, rfl, ?_⟩
            walk_at "st"
            refine ⟨_, _, rfl, ?_⟩
            walk_at "st"
            refine ne_skip (int_self _) ?_
            walk_at "st"
            refine ⟨_, rfl, ?_⟩
            walk_at "st"
            refine ite2 (fun h => absurd h ?_) (fun _ => hK _ rfl)
            show ¬ (!(a == a && (true && true))) = true
            simp
        · intro K hK
          walk_at "st"
          refine ⟨a, c, rfl, hc0, hc.lim, ?_⟩
          walk_at "st"
          refine ⟨b, d, rfl, hd0, hd.lim, ?_⟩
          walk_at "st"
          exact hK _ rfl
      · intro K hK
        walk_at "st"
        refine cmFm pickD (S15 ns cs (I a) (I b) (some (.list [.int x, .int y])) none none none none none none none none none none) (fun e he KT KF hT _ => ?_) ?_
        · obtain ⟨v, rfl⟩ : ∃ v, e = .int v := by
            rcases List.mem_cons.mp he with h | h
            · exact ⟨_, h⟩
            · exact ⟨_, List.mem_singleton.mp h⟩
          walk_at "st"
          by_cases hv : v = 0
          · subst hv
            exact hT _ rfl
          · have e0 : (v == 0) = false := beq_eq_false_iff_ne.mpr hv
            show match atI [PyData.int v, .int 1] (if (v == 0) = true then 1 else 0) with
              | some z => KT z (wipeD _ [7])
              | none => False
            rw [e0]
            refine hT _ ?_
            show some (PyData.int (pick v)) = _
            unfold pick
            rw [if_neg hv]
        · exact ⟨rfl, rfl, rfl, rfl, hK _ ⟨.list [.int x, .int y], _, _, hx.pick.1, hy.pick.1, hx.pick.2, hy.pick.2, rfl⟩⟩
    · intro K hK
      refine ⟨by decide, by decide, Nat.le_of_ble_eq_true rfl, rfl, ?_⟩
      refine cm_cons (x := .int 0) (xs := [.int 1]) ?_
      walk_at "st"
      refine ⟨hs, ns, rfl, hn, fun x cs1 hx hs1 => ?_⟩
      refine cm_cons ?_
      walk_at "st"
      refine ⟨hs1, ns, rfl, hn, fun y cs2 hy hs2 => ?_⟩
      refine cm_nil ?_
      walk_at "st"
      exact hK _ ⟨cs2, x, y, hs2, hx, hy, rfl⟩
  · intro K hK
    walk_at "st"
    refine ⟨hs, ns, rfl, hn, fun a cs1 ha hs1 => ?_⟩
    walk_at "st"
    refine ⟨hs1, ns, rfl, hn, fun b cs2 hb hs2 => ?_⟩
    walk_at "st"
    exact hK _ ⟨cs2, a, b, hs2, ha, hb, rfl⟩

theorem der__law_fractions_hold {P : Program} {w : World} {base : Heap} {K : PySem.W.Frag} {mg : Str → Option Value} (T : Tx K mg) (cdv : Value) (A : Around) (outer : List Env) (s : Shared) (H : Hp) (E : XK) (hr : Room 4 (A.deeper (PyProof.Rows.envOfC "_law_fractions_hold" (defScope s__law_fractions_hold) s.heap.objs.size T.f__law_fractions_hold cdv))) :
    DSs (cxOf CX0 P w K mg base ["state", "script", "a", "b", "under", "c", "d", "one", "two", "row", "least", "wrong", "k", "over", "value"] "_law_fractions_hold" (defScope s__law_fractions_hold) T.f__law_fractions_hold cdv A outer s H E).nox (defBody s__law_fractions_hold) t__law_fractions_hold :=
  (dss_cons (ds_par 2 3 rfl sc__law_fractions_hold.nd (da_cons (de_call1 (n := 2) 0 (ok__law_number T) mo__law_number (hr.mono (by decide)) (by rfl) T.g__law_number T.F__law_number.kp T.b__law_number (da_cons (de_n 1) da_nil)) (da_cons (de_call1 (n := 2) 0 (ok__law_number T) mo__law_number (hr.mono (by decide)) (by rfl) T.g__law_number T.F__law_number.kp T.b__law_number (da_cons (de_n 1) da_nil)) da_nil)))
  (dss_cons (ds_setLc 4 (own := [("k", 12)]) rfl sc__law_fractions_hold.nd (di_r1 (by rfl) T.z_range (da_cons de_int da_nil)) (by kernel_rfl) (by decide) (fun _ _ _ _ _ => (dg_n 12 sc__law_fractions_hold.nd)) (fun _ _ _ _ _ => dts_nil) (fun _ _ _ _ _ => (de_call1 (n := 2) 0 (ok__law_number T) mo__law_number (hr.mono (by decide)) (by rfl) T.g__law_number T.F__law_number.kp T.b__law_number (da_cons (de_n 1) da_nil))))
  (dss_cons (ds_asg (de_f (df_lc (own := [("one", 7)]) rfl sc__law_fractions_hold.nd (di_e (de_n 4)) (by kernel_rfl) (by decide) (fun _ _ _ _ _ => (dg_n 7 sc__law_fractions_hold.nd)) (fun _ _ _ _ _ => dts_nil) (fun _ _ _ _ _ => (de_ix xd_ix (do_e (de_f (df_lst (da_cons (de_n 7) (da_cons de_int da_nil))))) (do_e (de_callTy cd_int (by rfl) T.z_int (by decide +kernel) (dos_cons (do_e (de_cmp (od_eq hr.units) (do_n 7) (do_e de_int))) dos_nil))))))) (dg_u rfl (dgs_cons (dg_n 5 sc__law_fractions_hold.nd) (dgs_cons (dg_n 6 sc__law_fractions_hold.nd) dgs_nil))))
  (dss_cons (ds_par 7 8 rfl sc__law_fractions_hold.nd (da_cons (de_call (n := 2) (ok_fraction T) mo_fraction (hr.mono (by decide)) (by rfl) T.g_fraction T.F_fraction.kp T.b_fraction (da_cons (de_n 2) (da_cons (de_n 5) da_nil))) (da_cons (de_call (n := 2) (ok_fraction T) mo_fraction (hr.mono (by decide)) (by rfl) T.g_fraction T.F_fraction.kp T.b_fraction (da_cons (de_n 3) (da_cons (de_n 6) da_nil))) da_nil)))
  (dss_cons (ds_if (DW.dt (dw_or (dt_cmp (od_ne hr.units) (do_n 7) (do_e (de_call (n := 2) (ok__law_less T) mo__law_less (hr.mono (by decide)) (by rfl) T.g__law_less T.F__law_less.kp T.b__law_less (da_cons (de_n 2) (da_cons (de_n 5) da_nil))))) (dw_or (dt_cmp (od_ne hr.units) (do_n 8) (do_e (de_call (n := 2) (ok__law_less T) mo__law_less (hr.mono (by decide)) (by rfl) T.g__law_less T.F__law_less.kp T.b__law_less (da_cons (de_n 3) (da_cons (de_n 6) da_nil))))) (dw_or (dt_cmp (od_ne hr.units) (do_e (de_call (n := 2) (ok_divisor T) mo_divisor (hr.mono (by decide)) (by rfl) T.g_divisor T.F_divisor.kp T.b_divisor (da_cons (de_n 2) (da_cons (de_n 3) da_nil)))) (do_e (de_call (n := 2) (ok__law_common T) mo__law_common (hr.mono (by decide)) (by rfl) T.g__law_common T.F__law_common.kp T.b__law_common (da_cons (de_n 2) (da_cons (de_n 3) da_nil))))) (dw_or1 (dt_cmp (od_ne hr.units) (do_e (de_call (n := 1) (ok_whole_of T) mo_whole_of (hr.mono (by decide)) (by rfl) T.g_whole_of T.F_whole_of.kp T.b_whole_of (da_cons (de_n 2) da_nil))) (do_e (de_tup (da_cons (de_n 2) (da_cons de_int da_nil)))))))))) (dss_one (ds_ret de_bl)) dss_nil)
  (dss_cons (ds_asg (de_n 7) (dg_u rfl (dgs_cons (dg_n 2 sc__law_fractions_hold.nd) (dgs_cons (dg_n 5 sc__law_fractions_hold.nd) dgs_nil))))
  (dss_cons (ds_asg (de_n 8) (dg_u rfl (dgs_cons (dg_n 3 sc__law_fractions_hold.nd) (dgs_cons (dg_n 6 sc__law_fractions_hold.nd) dgs_nil))))
  (dss_cons (ds_if (DW.dt (dw_or (dt_cmp (od_ne hr.units) (do_e (de_call (n := 2) (ok_plus T) mo_plus (hr.mono (by decide)) (by rfl) T.g_plus T.F_plus.kp T.b_plus (da_cons (de_n 7) (da_cons (de_n 8) da_nil)))) (do_e (de_call (n := 2) (ok__law_less T) mo__law_less (hr.mono (by decide)) (by rfl) T.g__law_less T.F__law_less.kp T.b__law_less (da_cons (de_op od_add (do_e (de_op od_mul (do_n 2) (do_n 6))) (do_e (de_op od_mul (do_n 3) (do_n 5)))) (da_cons (de_op od_mul (do_n 5) (do_n 6)) da_nil))))) (dw_or (dt_cmp (od_ne hr.units) (do_e (de_call (n := 2) (ok_minus T) mo_minus (hr.mono (by decide)) (by rfl) T.g_minus T.F_minus.kp T.b_minus (da_cons (de_n 7) (da_cons (de_n 8) da_nil)))) (do_e (de_call (n := 2) (ok__law_less T) mo__law_less (hr.mono (by decide)) (by rfl) T.g__law_less T.F__law_less.kp T.b__law_less (da_cons (de_op od_sub (do_e (de_op od_mul (do_n 2) (do_n 6))) (do_e (de_op od_mul (do_n 3) (do_n 5)))) (da_cons (de_op od_mul (do_n 5) (do_n 6)) da_nil))))) (dw_or1 (dt_cmp (od_ne hr.units) (do_e (de_call (n := 2) (ok_times T) mo_times (hr.mono (by decide)) (by rfl) T.g_times T.F_times.kp T.b_times (da_cons (de_n 7) (da_cons (de_n 8) da_nil)))) (do_e (de_call (n := 2) (ok__law_less T) mo__law_less (hr.mono (by decide)) (by rfl) T.g__law_less T.F__law_less.kp T.b__law_less (da_cons (de_op od_mul (do_n 2) (do_n 3)) (da_cons (de_op od_mul (do_n 5) (do_n 6)) da_nil))))))))) (dss_one (ds_ret de_bl)) dss_nil)
  (dss_cons (ds_if (DW.dt (dw_or (DW.dt (dw_and (dt_cmp (od_ne hr.units) (do_n 3) (do_e de_int)) (dw_and1 (dt_cmp (od_ne hr.units) (do_e (de_call (n := 2) (ok_part T) mo_part (hr.mono (by decide)) (by rfl) T.g_part T.F_part.kp T.b_part (da_cons (de_n 7) (da_cons (de_n 8) da_nil)))) (do_e (de_call (n := 2) (ok__law_less T) mo__law_less (hr.mono (by decide)) (by rfl) T.g__law_less T.F__law_less.kp T.b__law_less (da_cons (de_op od_mul (do_n 2) (do_n 6)) (da_cons (de_op od_mul (do_n 3) (do_n 5)) da_nil)))))))) (dw_or (dt_cmp (od_ne hr.units) (do_e (de_call (n := 1) (ok_fraction_sign T) mo_fraction_sign (hr.mono (by decide)) (by rfl) T.g_fraction_sign T.F_fraction_sign.kp T.b_fraction_sign (da_cons (de_n 7) da_nil))) (do_e (de_op od_sub (do_e (de_callTy cd_int (by rfl) T.z_int (by decide +kernel) (dos_cons (do_e (de_cmp od_gt (do_n 2) (do_e de_int))) dos_nil))) (do_e (de_callTy cd_int (by rfl) T.z_int (by decide +kernel) (dos_cons (do_e (de_cmp (od_lt hr.units0) (do_n 2) (do_e de_int))) dos_nil)))))) (dw_or1 (dt_cmp (od_ne hr.units) (do_e (de_call (n := 2) (ok_is_less T) mo_is_less (hr.mono (by decide)) (by rfl) T.g_is_less T.F_is_less.kp T.b_is_less (da_cons (de_n 7) (da_cons (de_n 8) da_nil)))) (do_e (de_cmp (od_lt hr.units0) (do_e (de_op od_mul (do_n 2) (do_n 6))) (do_e (de_op od_mul (do_n 3) (do_n 5)))))))))) (dss_one (ds_ret de_bl)) dss_nil)
  (dss_cons (ds_setLc 9 (own := [("k", 12)]) rfl sc__law_fractions_hold.nd (di_r1 (by rfl) T.z_range (da_cons (de_call1 (n := 3) 0 (ok__law_draw T) mo__law_draw (hr.mono (by decide)) (by rfl) T.g__law_draw T.F__law_draw.kp T.b__law_draw (da_cons (de_n 1) (da_cons de_int da_nil))) da_nil)) (by kernel_rfl) (by decide) (fun _ _ _ _ _ => (dg_n 12 sc__law_fractions_hold.nd)) (fun _ _ _ _ _ => dts_nil) (fun _ _ _ _ _ => (de_call (n := 2) (ok__law_less T) mo__law_less (hr.mono (by decide)) (by rfl) T.g__law_less T.F__law_less.kp T.b__law_less (da_cons (de_op od_sub (do_e (de_call1 (n := 3) 0 (ok__law_draw T) mo__law_draw (hr.mono (by decide)) (by rfl) T.g__law_draw T.F__law_draw.kp T.b__law_draw (da_cons (de_n 1) (da_cons de_int da_nil)))) (do_e de_int)) (da_cons (de_op od_add (do_e de_int) (do_e (de_call1 (n := 3) 0 (ok__law_draw T) mo__law_draw (hr.mono (by decide)) (by rfl) T.g__law_draw T.F__law_draw.kp T.b__law_draw (da_cons (de_n 1) (da_cons de_int da_nil))))) da_nil)))))
  (dss_cons (ds_set 10 de_int sc__law_fractions_hold.nd)
  (dss_cons (ds_while PassesOwn.never (dt_cmp od_gt (do_e (de_callB cd_len (by rfl) T.z_len (by decide +kernel) (dos_cons (do_e (de_f (df_lc (own := [("over", 13), ("under", 4)]) rfl sc__law_fractions_hold.nd (di_e (de_n 9)) (by kernel_rfl) (by decide) (fun _ _ _ _ _ => (dg_u rfl (dgs_cons (dg_n 13 sc__law_fractions_hold.nd) (dgs_cons (dg_n 4 sc__law_fractions_hold.nd) dgs_nil)))) (fun _ _ _ _ _ => (dts_one (dt_cmp (od_ne hr.units) (do_e (de_op od_mod (do_e (de_callTy cd_int (by rfl) T.z_int (by decide +kernel) (dos_cons (do_n 10) dos_nil))) (do_n 4))) (do_e de_int)))) (fun _ _ _ _ _ => (de_n 13))))) dos_nil))) (do_e de_int)) (dss_one (ds_set 10 (de_op od_add (do_n 10) (do_e de_int)) sc__law_fractions_hold.nd)))
  (dss_cons (ds_if (DW.dt (dw_or (dt_cmp (od_ne hr.units) (do_e (de_call (n := 1) (ok_cleared T) mo_cleared (hr.mono (by decide)) (by rfl) T.g_cleared T.F_cleared.kp T.b_cleared (da_cons (de_f (df_callTy cf_list (by rfl) T.z_list (by decide +kernel) (dos_cons (do_n 9) dos_nil))) da_nil))) (do_e (de_tup (da_cons (de_n 10) (da_cons (de_f (df_lc (own := [("over", 13), ("under", 4)]) rfl sc__law_fractions_hold.nd (di_e (de_n 9)) (by kernel_rfl) (by decide) (fun _ _ _ _ _ => (dg_u rfl (dgs_cons (dg_n 13 sc__law_fractions_hold.nd) (dgs_cons (dg_n 4 sc__law_fractions_hold.nd) dgs_nil)))) (fun _ _ _ _ _ => dts_nil) (fun _ _ _ _ _ => (de_op od_mul (do_n 13) (do_e (de_op od_fdiv (do_n 10) (do_n 4))))))) da_nil))))) (dw_or1 (dt_cmp (od_ne hr.units) (do_e (de_call (n := 1) (ok_total T) mo_total (hr.mono (by decide)) (by rfl) T.g_total T.F_total.kp T.b_total (da_cons (de_f (df_callTy cf_list (by rfl) T.z_list (by decide +kernel) (dos_cons (do_n 9) dos_nil))) da_nil))) (do_e (de_call (n := 2) (ok__law_less T) mo__law_less (hr.mono (by decide)) (by rfl) T.g__law_less T.F__law_less.kp T.b__law_less (da_cons (de_callB (cd_sum rfl) (by rfl) T.z_sum (by decide +kernel) (dos_cons (do_e (de_f (df_lc (own := [("over", 13), ("under", 4)]) rfl sc__law_fractions_hold.nd (di_e (de_n 9)) (by kernel_rfl) (by decide) (fun _ _ _ _ _ => (dg_u rfl (dgs_cons (dg_n 13 sc__law_fractions_hold.nd) (dgs_cons (dg_n 4 sc__law_fractions_hold.nd) dgs_nil)))) (fun _ _ _ _ _ => dts_nil) (fun _ _ _ _ _ => (de_op od_mul (do_n 13) (do_e (de_op od_fdiv (do_n 10) (do_n 4)))))))) dos_nil)) (da_cons (de_n 10) da_nil)))))))) (dss_one (ds_ret de_bl)) dss_nil)
  (dss_cons (ds_set 11 (de_f (df_lst (da_cons de_non (da_cons (de_tup (da_cons de_int da_nil)) (da_cons (de_tup (da_cons de_int (da_cons de_int da_nil))) (da_cons (de_tup (da_cons de_int (da_cons de_int da_nil))) (da_cons (de_tup (da_cons de_int (da_cons (de_op od_sub (do_e de_int) (do_e de_int)) da_nil))) (da_cons (de_tup (da_cons de_bl (da_cons de_int da_nil))) (da_cons (de_f (df_lst (da_cons de_int (da_cons de_int da_nil)))) (da_cons (de_tup (da_cons de_int (da_cons de_int da_nil))) (da_cons (de_tup (da_cons de_int (da_cons de_int (da_cons de_int da_nil)))) da_nil))))))))))) sc__law_fractions_hold.nd)
  (dss_one (ds_ret (de_and (de_cmp od_is (do_e (de_call (n := 1) (ok_is_fraction T) mo_is_fraction (hr.mono (by decide)) (by rfl) T.g_is_fraction T.F_is_fraction.kp T.b_is_fraction (da_cons (de_n 7) da_nil))) (do_e de_bl)) (de_one (de_cmp (od_ni (units65 hr)) (do_e de_bl) (do_e (de_f (df_lc (own := [("value", 14)]) rfl sc__law_fractions_hold.nd (di_e (de_n 11)) (by kernel_rfl) (by decide) (fun _ _ _ _ _ => (dg_n 14 sc__law_fractions_hold.nd)) (fun _ _ _ _ _ => dts_nil) (fun _ _ _ _ _ => (de_call (n := 1) (ok_is_fraction T) mo_is_fraction (hr.mono (by decide)) (by rfl) T.g_is_fraction T.F_is_fraction.kp T.b_is_fraction (da_cons (de_n 14) da_nil)))))))))))))))))))))))))
theorem ok__law_fractions_hold {P : Program} {w : World} {base : Heap} {K : PySem.W.Frag} {mg : Str → Option Value} (T : Tx K mg) : FnOk P w K mg base CX0 5 T.f__law_fractions_hold T.d__law_fractions_hold ["state", "script"] (toSp1 K 2 p__law_fractions_hold) :=
  okD1 T.F__law_fractions_hold sc__law_fractions_hold fun cdv A outer s H E hr => ⟨t__law_fractions_hold, der__law_fractions_hold T cdv A outer s H E hr, rd__law_fractions_hold⟩

def t_law : DTS := (sSq (sOw (fLst (aCons (eC (.int 0)) (aCons (eC (.int 0)) aNil))) 1)
  (sSq (sFo (iR1 (aCons (eC (.int 3)) aNil)) (gN 2) (sIf (tNo (tE (eCall1 2 p__law_fractions_hold 1 (aCons (eN 0) aNil)))) (sRt (eC (.bool false))) sNx))
  (sRt (eC (.bool true)))))

theorem rd_law (ds : List PyData) (Q : RV → Prop) (hl : ds.length = 1) (h : p_law ds Q) : t_law { nx := fun _ => Q (.sh .none), rt := fun r _ => Q r } (startD 3 ds) := by
  obtain ⟨ns, rfl, hn, k⟩ := h
  refine sq_go ?_
  walk_at "st"
  refine sSq_cut (fun ρ => ∃ (cs : List PyData) (z : Option PyData), St2 cs ∧ ρ = [some (.sh (lns ns)), some (.ow cs), z.map Sl.sh]) ?_ ?_
  · rintro ρ ⟨cs, z, hs, rfl⟩
    exact k
  · intro K hK
    refine ⟨by decide, by decide, ?_⟩
    refine foBy (fun _ ρ => ∃ (cs : List PyData) (z : Option PyData), St2 cs ∧ ρ = [some (.sh (lns ns)), some (.ow cs), z.map Sl.sh]) ⟨[.int 0, .int 0], none, ⟨0, 0, rfl, by decide, by decide⟩, rfl⟩ ?_ ?_
    · rintro i d ρ K2 hd ⟨cs, z, hs, rfl⟩ hK2
      refine ⟨by cases z <;> rfl, ?_⟩
      walk_at "st"
      refine ⟨hs, ns, rfl, hn, fun cs' hs' => ?_⟩
      exact hK2 _ ⟨cs', some d, hs', rfl⟩
    · rintro ρ ⟨cs, z, hs, rfl⟩
      exact hK _ ⟨cs, z, hs, rfl⟩

theorem der_law {P : Program} {w : World} {base : Heap} {K : PySem.W.Frag} {mg : Str → Option Value} (T : Tx K mg) (cdv : Value) (A : Around) (outer : List Env) (s : Shared) (H : Hp) (E : XK) (hr : Room 5 (A.deeper (PyProof.Rows.envOfC "law" (defScope s_law) s.heap.objs.size T.f_law cdv))) :
    DSs (cxOf CX0 P w K mg base ["script", "state", "turn"] "law" (defScope s_law) T.f_law cdv A outer s H E).nox (defBody s_law) t_law :=
  (dss_cons (ds_own 1 (df_lst (da_cons de_int (da_cons de_int da_nil))) sc_law.nd)
  (dss_cons (ds_for PassesOwn.never rfl (di_r1 (by rfl) T.z_range (da_cons de_int da_nil)) (dg_n 2 sc_law.nd) (dss_one (ds_if (dt_not (dt_e (de_call1 (n := 2) 1 (ok__law_fractions_hold T) mo__law_fractions_hold (hr.mono (by decide)) (by rfl) T.g__law_fractions_hold T.F__law_fractions_hold.kp T.b__law_fractions_hold (da_cons (de_n 0) da_nil)))) (dss_one (ds_ret de_bl)) dss_nil)))
  (dss_one (ds_ret de_bl))))
theorem ok_law {P : Program} {w : World} {base : Heap} {K : PySem.W.Frag} {mg : Str → Option Value} (T : Tx K mg) : FnOk P w K mg base CX0 6 T.f_law T.d_law ["script"] (toSp K 1 p_law) :=
  okD T.F_law sc_law fun cdv A outer s H E hr => ⟨t_law, der_law T cdv A outer s H E hr, rd_law⟩

theorem law_in {K : PySem.W.Frag} (H : Hp) (a : Addr) (ns : List Int) (hl : ns.length ≤ 63) (hS : SqL K H a (ns.map V.int)) : toSp K 1 p_law [.ref a] H (fun v _ => v = .bl true) fun _ _ _ => False :=
  ⟨rfl, H, [lns ns], Same.refl _, .cons (.lst hS DpAll.ints) .nil, ns, rfl, hl, fun v G' H' _ _ _ _ h => by cases h; rfl⟩

theorem all_mk {l : PySem.W.OpenLaw} {w : World} {K : PySem.W.Frag} {h : Heap} {mg : Str → Option Value} {fa f0 f1 f2 f3 f4 f5 f6 f7 f8 f9 f10 f11 f12 f13 f14 f15 f16 f17 : Addr} (X : K.In h) (G : h.Ns mainGlobals mg) (hfa : mg "law" = some (.ref fa))
    {od0 an0 : Option Addr} {sl0 : Array (Option Value)} {oc0 kV0 dc0 pm0 cd0 ct0 : Value}
    {od1 an1 : Option Addr} {sl1 : Array (Option Value)} {oc1 kV1 dc1 pm1 cd1 ct1 : Value}
    {od2 an2 : Option Addr} {sl2 : Array (Option Value)} {oc2 kV2 dc2 pm2 cd2 ct2 : Value}
    {od3 an3 : Option Addr} {sl3 : Array (Option Value)} {oc3 kV3 dc3 pm3 cd3 ct3 : Value}
    {od4 an4 : Option Addr} {sl4 : Array (Option Value)} {oc4 kV4 dc4 pm4 cd4 ct4 : Value}
    {od5 an5 : Option Addr} {sl5 : Array (Option Value)} {oc5 kV5 dc5 pm5 cd5 ct5 : Value}
    {od6 an6 : Option Addr} {sl6 : Array (Option Value)} {oc6 kV6 dc6 pm6 cd6 ct6 : Value}
    {od7 an7 : Option Addr} {sl7 : Array (Option Value)} {oc7 kV7 dc7 pm7 cd7 ct7 : Value}
    {od8 an8 : Option Addr} {sl8 : Array (Option Value)} {oc8 kV8 dc8 pm8 cd8 ct8 : Value}
    {od9 an9 : Option Addr} {sl9 : Array (Option Value)} {oc9 kV9 dc9 pm9 cd9 ct9 : Value}
    {od10 an10 : Option Addr} {sl10 : Array (Option Value)} {oc10 kV10 dc10 pm10 cd10 ct10 : Value}
    {od11 an11 : Option Addr} {sl11 : Array (Option Value)} {oc11 kV11 dc11 pm11 cd11 ct11 : Value}
    {od12 an12 : Option Addr} {sl12 : Array (Option Value)} {oc12 kV12 dc12 pm12 cd12 ct12 : Value}
    {od13 an13 : Option Addr} {sl13 : Array (Option Value)} {oc13 kV13 dc13 pm13 cd13 ct13 : Value}
    {od14 an14 : Option Addr} {sl14 : Array (Option Value)} {oc14 kV14 dc14 pm14 cd14 ct14 : Value}
    {od15 an15 : Option Addr} {sl15 : Array (Option Value)} {oc15 kV15 dc15 pm15 cd15 ct15 : Value}
    {od16 an16 : Option Addr} {sl16 : Array (Option Value)} {oc16 kV16 dc16 pm16 cd16 ct16 : Value}
    {od17 an17 : Option Addr} {sl17 : Array (Option Value)} {oc17 kV17 dc17 pm17 cd17 ct17 : Value}
    (a0 : PySem.W.nsIn K mainGlobals "divisor" = some (some (.ref f0))) (l0 : K.lookup f0 = some ⟨oc0, od0, .func (PySem.W.fnOf "divisor" "divisor" (defArgs s_divisor) (defBody s_divisor) (defScope s_divisor) .none kV0 dc0 pm0 an0 cd0 ct0), sl0⟩) (c0 : PySem.W.codeIn K cd0 "divisor" = true) (k0 : PySem.W.keepIn K (.ref f0) = true)
    (a1 : PySem.W.nsIn K mainGlobals "fraction" = some (some (.ref f1))) (l1 : K.lookup f1 = some ⟨oc1, od1, .func (PySem.W.fnOf "fraction" "fraction" (defArgs s_fraction) (defBody s_fraction) (defScope s_fraction) .none kV1 dc1 pm1 an1 cd1 ct1), sl1⟩) (c1 : PySem.W.codeIn K cd1 "fraction" = true) (k1 : PySem.W.keepIn K (.ref f1) = true)
    (a2 : PySem.W.nsIn K mainGlobals "whole_of" = some (some (.ref f2))) (l2 : K.lookup f2 = some ⟨oc2, od2, .func (PySem.W.fnOf "whole_of" "whole_of" (defArgs s_whole_of) (defBody s_whole_of) (defScope s_whole_of) .none kV2 dc2 pm2 an2 cd2 ct2), sl2⟩) (c2 : PySem.W.codeIn K cd2 "whole_of" = true) (k2 : PySem.W.keepIn K (.ref f2) = true)
    (a3 : PySem.W.nsIn K mainGlobals "is_fraction" = some (some (.ref f3))) (l3 : K.lookup f3 = some ⟨oc3, od3, .func (PySem.W.fnOf "is_fraction" "is_fraction" (defArgs s_is_fraction) (defBody s_is_fraction) (defScope s_is_fraction) .none kV3 dc3 pm3 an3 cd3 ct3), sl3⟩) (c3 : PySem.W.codeIn K cd3 "is_fraction" = true) (k3 : PySem.W.keepIn K (.ref f3) = true)
    (a4 : PySem.W.nsIn K mainGlobals "plus" = some (some (.ref f4))) (l4 : K.lookup f4 = some ⟨oc4, od4, .func (PySem.W.fnOf "plus" "plus" (defArgs s_plus) (defBody s_plus) (defScope s_plus) .none kV4 dc4 pm4 an4 cd4 ct4), sl4⟩) (c4 : PySem.W.codeIn K cd4 "plus" = true) (k4 : PySem.W.keepIn K (.ref f4) = true)
    (a5 : PySem.W.nsIn K mainGlobals "minus" = some (some (.ref f5))) (l5 : K.lookup f5 = some ⟨oc5, od5, .func (PySem.W.fnOf "minus" "minus" (defArgs s_minus) (defBody s_minus) (defScope s_minus) .none kV5 dc5 pm5 an5 cd5 ct5), sl5⟩) (c5 : PySem.W.codeIn K cd5 "minus" = true) (k5 : PySem.W.keepIn K (.ref f5) = true)
    (a6 : PySem.W.nsIn K mainGlobals "times" = some (some (.ref f6))) (l6 : K.lookup f6 = some ⟨oc6, od6, .func (PySem.W.fnOf "times" "times" (defArgs s_times) (defBody s_times) (defScope s_times) .none kV6 dc6 pm6 an6 cd6 ct6), sl6⟩) (c6 : PySem.W.codeIn K cd6 "times" = true) (k6 : PySem.W.keepIn K (.ref f6) = true)
    (a7 : PySem.W.nsIn K mainGlobals "part" = some (some (.ref f7))) (l7 : K.lookup f7 = some ⟨oc7, od7, .func (PySem.W.fnOf "part" "part" (defArgs s_part) (defBody s_part) (defScope s_part) .none kV7 dc7 pm7 an7 cd7 ct7), sl7⟩) (c7 : PySem.W.codeIn K cd7 "part" = true) (k7 : PySem.W.keepIn K (.ref f7) = true)
    (a8 : PySem.W.nsIn K mainGlobals "fraction_sign" = some (some (.ref f8))) (l8 : K.lookup f8 = some ⟨oc8, od8, .func (PySem.W.fnOf "fraction_sign" "fraction_sign" (defArgs s_fraction_sign) (defBody s_fraction_sign) (defScope s_fraction_sign) .none kV8 dc8 pm8 an8 cd8 ct8), sl8⟩) (c8 : PySem.W.codeIn K cd8 "fraction_sign" = true) (k8 : PySem.W.keepIn K (.ref f8) = true)
    (a9 : PySem.W.nsIn K mainGlobals "is_less" = some (some (.ref f9))) (l9 : K.lookup f9 = some ⟨oc9, od9, .func (PySem.W.fnOf "is_less" "is_less" (defArgs s_is_less) (defBody s_is_less) (defScope s_is_less) .none kV9 dc9 pm9 an9 cd9 ct9), sl9⟩) (c9 : PySem.W.codeIn K cd9 "is_less" = true) (k9 : PySem.W.keepIn K (.ref f9) = true)
    (a10 : PySem.W.nsIn K mainGlobals "total" = some (some (.ref f10))) (l10 : K.lookup f10 = some ⟨oc10, od10, .func (PySem.W.fnOf "total" "total" (defArgs s_total) (defBody s_total) (defScope s_total) .none kV10 dc10 pm10 an10 cd10 ct10), sl10⟩) (c10 : PySem.W.codeIn K cd10 "total" = true) (k10 : PySem.W.keepIn K (.ref f10) = true)
    (a11 : PySem.W.nsIn K mainGlobals "cleared" = some (some (.ref f11))) (l11 : K.lookup f11 = some ⟨oc11, od11, .func (PySem.W.fnOf "cleared" "cleared" (defArgs s_cleared) (defBody s_cleared) (defScope s_cleared) .none kV11 dc11 pm11 an11 cd11 ct11), sl11⟩) (c11 : PySem.W.codeIn K cd11 "cleared" = true) (k11 : PySem.W.keepIn K (.ref f11) = true)
    (a12 : PySem.W.nsIn K mainGlobals "_law_draw" = some (some (.ref f12))) (l12 : K.lookup f12 = some ⟨oc12, od12, .func (PySem.W.fnOf "_law_draw" "_law_draw" (defArgs s__law_draw) (defBody s__law_draw) (defScope s__law_draw) .none kV12 dc12 pm12 an12 cd12 ct12), sl12⟩) (c12 : PySem.W.codeIn K cd12 "_law_draw" = true) (k12 : PySem.W.keepIn K (.ref f12) = true)
    (a13 : PySem.W.nsIn K mainGlobals "_law_common" = some (some (.ref f13))) (l13 : K.lookup f13 = some ⟨oc13, od13, .func (PySem.W.fnOf "_law_common" "_law_common" (defArgs s__law_common) (defBody s__law_common) (defScope s__law_common) .none kV13 dc13 pm13 an13 cd13 ct13), sl13⟩) (c13 : PySem.W.codeIn K cd13 "_law_common" = true) (k13 : PySem.W.keepIn K (.ref f13) = true)
    (a14 : PySem.W.nsIn K mainGlobals "_law_less" = some (some (.ref f14))) (l14 : K.lookup f14 = some ⟨oc14, od14, .func (PySem.W.fnOf "_law_less" "_law_less" (defArgs s__law_less) (defBody s__law_less) (defScope s__law_less) .none kV14 dc14 pm14 an14 cd14 ct14), sl14⟩) (c14 : PySem.W.codeIn K cd14 "_law_less" = true) (k14 : PySem.W.keepIn K (.ref f14) = true)
    (a15 : PySem.W.nsIn K mainGlobals "_law_number" = some (some (.ref f15))) (l15 : K.lookup f15 = some ⟨oc15, od15, .func (PySem.W.fnOf "_law_number" "_law_number" (defArgs s__law_number) (defBody s__law_number) (defScope s__law_number) .none kV15 dc15 pm15 an15 cd15 ct15), sl15⟩) (c15 : PySem.W.codeIn K cd15 "_law_number" = true) (k15 : PySem.W.keepIn K (.ref f15) = true)
    (a16 : PySem.W.nsIn K mainGlobals "_law_fractions_hold" = some (some (.ref f16))) (l16 : K.lookup f16 = some ⟨oc16, od16, .func (PySem.W.fnOf "_law_fractions_hold" "_law_fractions_hold" (defArgs s__law_fractions_hold) (defBody s__law_fractions_hold) (defScope s__law_fractions_hold) .none kV16 dc16 pm16 an16 cd16 ct16), sl16⟩) (c16 : PySem.W.codeIn K cd16 "_law_fractions_hold" = true) (k16 : PySem.W.keepIn K (.ref f16) = true)
    (a17 : PySem.W.nsIn K mainGlobals "law" = some (some (.ref f17))) (l17 : K.lookup f17 = some ⟨oc17, od17, .func (PySem.W.fnOf "law" "law" (defArgs s_law) (defBody s_law) (defScope s_law) .none kV17 dc17 pm17 an17 cd17 ct17), sl17⟩) (c17 : PySem.W.codeIn K cd17 "law" = true) (k17 : PySem.W.keepIn K (.ref f17) = true)
    (z0 : PySem.W.nsIn K mainGlobals "abs" = some none)
    (z1 : PySem.W.nsIn K mainGlobals "all" = some none)
    (z2 : PySem.W.nsIn K mainGlobals "bool" = some none)
    (z3 : PySem.W.nsIn K mainGlobals "int" = some none)
    (z4 : PySem.W.nsIn K mainGlobals "isinstance" = some none)
    (z5 : PySem.W.nsIn K mainGlobals "len" = some none)
    (z6 : PySem.W.nsIn K mainGlobals "list" = some none)
    (z7 : PySem.W.nsIn K mainGlobals "range" = some none)
    (z8 : PySem.W.nsIn K mainGlobals "sum" = some none)
    (z9 : PySem.W.nsIn K mainGlobals "tuple" = some none) :
    ∃ fd : FuncData, (∀ (s : Shared) (v : Value), BindsTo s fd ⟨[v], []⟩ [("script", v)]) ∧ ∀ base : Heap, K.In base → base.Ns mainGlobals mg → FnOk l.prog w K mg base CX0 6 fa fd ["script"] (toSp K 1 p_law) := by
  have e := hfa.symm.trans (PySem.W.mg_of X G a17)
  cases e
  refine ⟨PySem.W.fnOf "law" "law" (defArgs s_law) (defBody s_law) (defScope s_law) .none kV17 dc17 pm17 an17 cd17 ct17, fun s v => .of_eq rfl, fun base _ _ => ok_law (P := l.prog) (w := w) (base := base) ({
    f_divisor := _, d_divisor := _, F_divisor := fun_mk (st := s_divisor) l0 c0 k0, b_divisor := (fun_mk (st := s_divisor) l0 c0 k0).binds (ps := ["first", "second"]) (fun _ _ _ _ _ _ us hl => match us, hl with | [_, _], _ => rfl), g_divisor := PySem.W.mg_of X G a0,
    f_fraction := _, d_fraction := _, F_fraction := fun_mk (st := s_fraction) l1 c1 k1, b_fraction := (fun_mk (st := s_fraction) l1 c1 k1).binds (ps := ["over", "under"]) (fun _ _ _ _ _ _ us hl => match us, hl with | [_, _], _ => rfl), g_fraction := PySem.W.mg_of X G a1,
    f_whole_of := _, d_whole_of := _, F_whole_of := fun_mk (st := s_whole_of) l2 c2 k2, b_whole_of := (fun_mk (st := s_whole_of) l2 c2 k2).binds (ps := ["number"]) (fun _ _ _ _ _ _ us hl => match us, hl with | [_], _ => rfl), g_whole_of := PySem.W.mg_of X G a2,
    f_is_fraction := _, d_is_fraction := _, F_is_fraction := fun_mk (st := s_is_fraction) l3 c3 k3, b_is_fraction := (fun_mk (st := s_is_fraction) l3 c3 k3).binds (ps := ["value"]) (fun _ _ _ _ _ _ us hl => match us, hl with | [_], _ => rfl), g_is_fraction := PySem.W.mg_of X G a3,
    f_plus := _, d_plus := _, F_plus := fun_mk (st := s_plus) l4 c4 k4, b_plus := (fun_mk (st := s_plus) l4 c4 k4).binds (ps := ["first", "second"]) (fun _ _ _ _ _ _ us hl => match us, hl with | [_, _], _ => rfl), g_plus := PySem.W.mg_of X G a4,
    f_minus := _, d_minus := _, F_minus := fun_mk (st := s_minus) l5 c5 k5, b_minus := (fun_mk (st := s_minus) l5 c5 k5).binds (ps := ["first", "second"]) (fun _ _ _ _ _ _ us hl => match us, hl with | [_, _], _ => rfl), g_minus := PySem.W.mg_of X G a5,
    f_times := _, d_times := _, F_times := fun_mk (st := s_times) l6 c6 k6, b_times := (fun_mk (st := s_times) l6 c6 k6).binds (ps := ["first", "second"]) (fun _ _ _ _ _ _ us hl => match us, hl with | [_, _], _ => rfl), g_times := PySem.W.mg_of X G a6,
    f_part := _, d_part := _, F_part := fun_mk (st := s_part) l7 c7 k7, b_part := (fun_mk (st := s_part) l7 c7 k7).binds (ps := ["first", "second"]) (fun _ _ _ _ _ _ us hl => match us, hl with | [_, _], _ => rfl), g_part := PySem.W.mg_of X G a7,
    f_fraction_sign := _, d_fraction_sign := _, F_fraction_sign := fun_mk (st := s_fraction_sign) l8 c8 k8, b_fraction_sign := (fun_mk (st := s_fraction_sign) l8 c8 k8).binds (ps := ["one"]) (fun _ _ _ _ _ _ us hl => match us, hl with | [_], _ => rfl), g_fraction_sign := PySem.W.mg_of X G a8,
    f_is_less := _, d_is_less := _, F_is_less := fun_mk (st := s_is_less) l9 c9 k9, b_is_less := (fun_mk (st := s_is_less) l9 c9 k9).binds (ps := ["first", "second"]) (fun _ _ _ _ _ _ us hl => match us, hl with | [_, _], _ => rfl), g_is_less := PySem.W.mg_of X G a9,
    f_total := _, d_total := _, F_total := fun_mk (st := s_total) l10 c10 k10, b_total := (fun_mk (st := s_total) l10 c10 k10).binds (ps := ["row"]) (fun _ _ _ _ _ _ us hl => match us, hl with | [_], _ => rfl), g_total := PySem.W.mg_of X G a10,
    f_cleared := _, d_cleared := _, F_cleared := fun_mk (st := s_cleared) l11 c11 k11, b_cleared := (fun_mk (st := s_cleared) l11 c11 k11).binds (ps := ["row"]) (fun _ _ _ _ _ _ us hl => match us, hl with | [_], _ => rfl), g_cleared := PySem.W.mg_of X G a11,
    f__law_draw := _, d__law_draw := _, F__law_draw := fun_mk (st := s__law_draw) l12 c12 k12, b__law_draw := (fun_mk (st := s__law_draw) l12 c12 k12).binds (ps := ["state", "script", "size"]) (fun _ _ _ _ _ _ us hl => match us, hl with | [_, _, _], _ => rfl), g__law_draw := PySem.W.mg_of X G a12,
    f__law_common := _, d__law_common := _, F__law_common := fun_mk (st := s__law_common) l13 c13 k13, b__law_common := (fun_mk (st := s__law_common) l13 c13 k13).binds (ps := ["one", "two"]) (fun _ _ _ _ _ _ us hl => match us, hl with | [_, _], _ => rfl), g__law_common := PySem.W.mg_of X G a13,
    f__law_less := _, d__law_less := _, F__law_less := fun_mk (st := s__law_less) l14 c14 k14, b__law_less := (fun_mk (st := s__law_less) l14 c14 k14).binds (ps := ["over", "under"]) (fun _ _ _ _ _ _ us hl => match us, hl with | [_, _], _ => rfl), g__law_less := PySem.W.mg_of X G a14,
    f__law_number := _, d__law_number := _, F__law_number := fun_mk (st := s__law_number) l15 c15 k15, b__law_number := (fun_mk (st := s__law_number) l15 c15 k15).binds (ps := ["state", "script"]) (fun _ _ _ _ _ _ us hl => match us, hl with | [_, _], _ => rfl), g__law_number := PySem.W.mg_of X G a15,
    f__law_fractions_hold := _, d__law_fractions_hold := _, F__law_fractions_hold := fun_mk (st := s__law_fractions_hold) l16 c16 k16, b__law_fractions_hold := (fun_mk (st := s__law_fractions_hold) l16 c16 k16).binds (ps := ["state", "script"]) (fun _ _ _ _ _ _ us hl => match us, hl with | [_, _], _ => rfl), g__law_fractions_hold := PySem.W.mg_of X G a16,
    f_law := _, d_law := _, F_law := fun_mk (st := s_law) l17 c17 k17, b_law := (fun_mk (st := s_law) l17 c17 k17).binds (ps := ["script"]) (fun _ _ _ _ _ _ us hl => match us, hl with | [_], _ => rfl), g_law := PySem.W.mg_of X G a17,
    z_abs := PySem.W.mg_none_of X G z0,
    z_all := PySem.W.mg_none_of X G z1,
    z_bool := PySem.W.mg_none_of X G z2,
    z_int := PySem.W.mg_none_of X G z3,
    z_isinstance := PySem.W.mg_none_of X G z4,
    z_len := PySem.W.mg_none_of X G z5,
    z_list := PySem.W.mg_none_of X G z6,
    z_range := PySem.W.mg_none_of X G z7,
    z_sum := PySem.W.mg_none_of X G z8,
    z_tuple := PySem.W.mg_none_of X G z9 } : Tx K mg)⟩
end Lw
open PySem PySem.W PyProof.Rows
set_option maxRecDepth 100000 in
set_option maxHeartbeats 0 in
theorem PySem.Challenge.cw_pointwright_k42_whole_fractions_holds : PySem.Challenge.rw_pointwright_k42_whole_fractions.Holds := by
  w_on; o_law; k_head; (case hw => w_witness2)
  k_fill
  refine L2.walk_of (l := PySem.Challenge.rw_pointwright_k42_whole_fractions) (n := 63) (k := 6) (x := "script") (CX := fun _ => L2.CX0) (sp := fun w => DL.toSp _ 1 Lw.p_law) rfl (by decide) rfl ⟨rfl, by decide, by decide⟩ (fun w h Y => PySem.W.kIn_of Y) ?F (fun _ H a ns hl _ hS => Lw.law_in H a ns hl hS) (fun _ _ _ _ _ h => h)
  case F =>
    intro w mg fa h KX G hmg
    refine' Lw.all_mk KX G hmg ?a0 ?l0 ?c0 ?k0 ?a1 ?l1 ?c1 ?k1 ?a2 ?l2 ?c2 ?k2 ?a3 ?l3 ?c3 ?k3 ?a4 ?l4 ?c4 ?k4 ?a5 ?l5 ?c5 ?k5 ?a6 ?l6 ?c6 ?k6 ?a7 ?l7 ?c7 ?k7 ?a8 ?l8 ?c8 ?k8 ?a9 ?l9 ?c9 ?k9 ?a10 ?l10 ?c10 ?k10 ?a11 ?l11 ?c11 ?k11 ?a12 ?l12 ?c12 ?k12 ?a13 ?l13 ?c13 ?k13 ?a14 ?l14 ?c14 ?k14 ?a15 ?l15 ?c15 ?k15 ?a16 ?l16 ?c16 ?k16 ?a17 ?l17 ?c17 ?k17 ?z0 ?z1 ?z2 ?z3 ?z4 ?z5 ?z6 ?z7 ?z8 ?z9
    (case a0 => k_is); (case l0 => k_is); (case c0 => k_is); (case k0 => k_is); (case a1 => k_is); (case l1 => k_is); (case c1 => k_is); (case k1 => k_is); (case a2 => k_is); (case l2 => k_is); (case c2 => k_is); (case k2 => k_is); (case a3 => k_is); (case l3 => k_is); (case c3 => k_is); (case k3 => k_is); (case a4 => k_is); (case l4 => k_is); (case c4 => k_is); (case k4 => k_is); (case a5 => k_is); (case l5 => k_is); (case c5 => k_is); (case k5 => k_is); (case a6 => k_is); (case l6 => k_is); (case c6 => k_is); (case k6 => k_is); (case a7 => k_is); (case l7 => k_is); (case c7 => k_is); (case k7 => k_is); (case a8 => k_is); (case l8 => k_is); (case c8 => k_is); (case k8 => k_is); (case a9 => k_is); (case l9 => k_is); (case c9 => k_is); (case k9 => k_is); (case a10 => k_is); (case l10 => k_is); (case c10 => k_is); (case k10 => k_is); (case a11 => k_is); (case l11 => k_is); (case c11 => k_is); (case k11 => k_is); (case a12 => k_is); (case l12 => k_is); (case c12 => k_is); (case k12 => k_is); (case a13 => k_is); (case l13 => k_is); (case c13 => k_is); (case k13 => k_is); (case a14 => k_is); (case l14 => k_is); (case c14 => k_is); (case k14 => k_is); (case a15 => k_is); (case l15 => k_is); (case c15 => k_is); (case k15 => k_is); (case a16 => k_is); (case l16 => k_is); (case c16 => k_is); (case k16 => k_is); (case a17 => k_is); (case l17 => k_is); (case c17 => k_is); (case k17 => k_is); (case z0 => k_is); (case z1 => k_is); (case z2 => k_is); (case z3 => k_is); (case z4 => k_is); (case z5 => k_is); (case z6 => k_is); (case z7 => k_is); (case z8 => k_is); (case z9 => k_is)
