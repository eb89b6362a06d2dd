import PyProof.Rows.All
import Wide.All
import OpenK.AllK
import Wide.FinOn
import HandS.ForMost
import HandS.Deep
import HandS.Wide
import HandS.TupAny
import HandS.TupLe
import HandS.IsInst
import HandS.Style
import HandS.NoneIn
import HandS.Gcd
import HandS.More
import HandS.TupSets
import PySem.Challenge.RW_pointwright_k24_whole_pappus_and_desargu
set_option Elab.async false
set_option linter.all false
set_option maxRecDepth 100000
set_option maxHeartbeats 4000000

namespace DL
open PySem L2

/-! ## data under a frozen part of the heap -/
theorem sameT {K : PySem.W.Frag} {H H' : Hp} {a : Addr} {xs : List V} (e : Same H H') (h : SqT K H a xs) : SqT K H' a xs := by
  rcases h with (h | ⟨o, h⟩) | h
  · exact .inl (.inl (e _ _ h))
  · exact .inl (.inr ⟨o, e _ _ h⟩)
  · exact .inr h
mutual
theorem Dp.mo {K : PySem.W.Frag} {G G' : Hp} (e : Same G G') : ∀ (d : PyData) (v : V), Dp K G v d → Dp K G' v d
  | .none, _, h => by cases h; exact .non
  | .bool b, _, h => by cases h; exact .bl b
  | .int i, _, h => by cases h; exact .int i
  | .str x, _, h => by cases h; exact .str x
  | .list ds, _, h => by
    cases h with
    | lst hs ha => exact .lst (e.seq hs) (DpAll.mo e ds _ ha)
  | .tuple ds, _, h => by
    cases h with
    | tup hs ha => exact .tup (sameT e hs) (DpAll.mo e ds _ ha)
  | .dict _, _, h => by cases h
theorem DpAll.mo {K : PySem.W.Frag} {G G' : Hp} (e : Same G G') : ∀ (ds : List PyData) (vs : List V), DpAll K G vs ds → DpAll K G' vs ds
  | [], _, h => by cases h; exact .nil
  | d :: ds, _, h => by
    cases h with
    | cons h1 h2 => exact .cons (Dp.mo e d _ h1) (DpAll.mo e ds _ h2)
end
theorem DpAll.len {K : PySem.W.Frag} {G : Hp} : ∀ {vs : List V} {ds : List PyData}, DpAll K G vs ds → vs.length = ds.length
  | _, _, .nil => rfl
  | _, _, .cons _ h => by rw [List.length_cons, List.length_cons, DpAll.len h]
theorem DpAll.get {K : PySem.W.Frag} {G : Hp} : ∀ {vs : List V} {ds : List PyData} {i : Nat} {d : PyData}, DpAll K G vs ds → ds[i]? = some d → ∃ v, vs[i]? = some v ∧ Dp K G v d
  | _, _, _, _, .nil, e => by simp at e
  | _, _, 0, _, .cons h _, e => by simp at e; subst e; exact ⟨_, rfl, h⟩
  | _, _, i + 1, _, .cons _ h, e => by
    obtain ⟨v, h1, h2⟩ := DpAll.get (i := i) h (by simpa using e)
    exact ⟨v, by simpa using h1, h2⟩
theorem DpAll.get' {K : PySem.W.Frag} {G : Hp} : ∀ {vs : List V} {ds : List PyData} {i : Nat} {v : V}, DpAll K G vs ds → vs[i]? = some v → ∃ d, ds[i]? = some d ∧ Dp K G v d
  | _, _, _, _, .nil, e => by simp at e
  | _, _, 0, _, .cons h _, e => by simp at e; subst e; exact ⟨_, rfl, h⟩
  | _, _, i + 1, _, .cons _ h, e => by
    obtain ⟨v, h1, h2⟩ := DpAll.get' (i := i) h (by simpa using e)
    exact ⟨v, by simpa using h1, h2⟩
theorem DpAll.app {K : PySem.W.Frag} {G : Hp} : ∀ {vs ws : List V} {ds es : List PyData}, DpAll K G vs ds → DpAll K G ws es → DpAll K G (vs ++ ws) (ds ++ es)
  | _, _, _, _, .nil, h => h
  | _, _, _, _, .cons h1 h2, h => .cons h1 (DpAll.app h2 h)
theorem DpAll.set {K : PySem.W.Frag} {G : Hp} : ∀ {vs : List V} {ds : List PyData} {v : V} {d : PyData} (i : Nat), DpAll K G vs ds → Dp K G v d → DpAll K G (vs.set i v) (ds.set i d)
  | _, _, _, _, _, .nil, _ => .nil
  | _, _, _, _, 0, .cons _ h2, h => .cons h h2
  | _, _, _, _, i + 1, .cons h1 h2, h => .cons h1 (DpAll.set i h2 h)
theorem DpAll.take {K : PySem.W.Frag} {G : Hp} : ∀ {vs : List V} {ds : List PyData} (n : Nat), DpAll K G vs ds → DpAll K G (vs.take n) (ds.take n)
  | _, _, 0, _ => by rw [List.take_zero, List.take_zero]; exact .nil
  | _, _, _ + 1, .nil => .nil
  | _, _, n + 1, .cons h1 h2 => .cons h1 (DpAll.take n h2)
theorem DpAll.drop {K : PySem.W.Frag} {G : Hp} : ∀ {vs : List V} {ds : List PyData} (n : Nat), DpAll K G vs ds → DpAll K G (vs.drop n) (ds.drop n)
  | _, _, 0, h => h
  | _, _, _ + 1, .nil => .nil
  | _, _, n + 1, .cons _ h2 => DpAll.drop n h2
theorem DpAll.ints {K : PySem.W.Frag} {G : Hp} : ∀ {ns : List Int}, DpAll K G (ns.map V.int) (ns.map PyData.int)
  | [] => .nil
  | n :: _ => .cons (.int n) DpAll.ints
theorem DpAll.ofInts {K : PySem.W.Frag} {G : Hp} : ∀ {ns : List Int} {vs : List V}, DpAll K G vs (ns.map PyData.int) → vs = ns.map V.int
  | [], _, h => by cases h; rfl
  | n :: ns, _, h => by
    cases h with
    | cons h1 h2 => cases h1; rw [DpAll.ofInts h2]; rfl

/-! ## the state as data -/
/-- a slot: shared data; a list of its own; a list lent by the caller -/
inductive Sl where
  | sh (d : PyData)
  | ow (ds : List PyData)
  | bo (ds : List PyData)
def Sl.mu : Sl → Bool
  | .sh _ => false
  | _ => true
abbrev DS := List (Option Sl)
/-- the frame's entry: the heap, its frozen part, the lent lists by slot -/
structure DC where
  H0 : Hp
  G0 : Hp
  β : List (Nat × Addr)
  /-- lists that are being made -/
  pr : List (Addr × List V)

def SlOk (K : PySem.W.Frag) (C : DC) (G H : Hp) (i : Nat) (v : V) : Sl → Prop
  | .sh d => Dp K G v d
  | .ow ds => ∃ a vs, v = .ref a ∧ H a = some (.lst vs) ∧ G a = none ∧ C.H0 a = none ∧ DpAll K G vs ds
  | .bo ds => ∃ a vs, v = .ref a ∧ (i, a) ∈ C.β ∧ H a = some (.lst vs) ∧ G a = none ∧ DpAll K G vs ds

structure Rel (K : PySem.W.Frag) (C : DC) (G : Hp) (ρ : DS) (σ : St) (H : Hp) : Prop where
  same : Same G H
  nw : ∀ b, C.G0 b = none → C.H0 b ≠ none → G b = none
  fr : ∀ b o, C.H0 b = some o → (∀ p ∈ C.β, p.2 ≠ b) → H b = some o
  be : ∀ p ∈ C.β, ∃ vs, H p.2 = some (.lst vs)
  bs : ∀ p ∈ C.β, σ[p.1]? = some (some (.ref p.2)) ∧ ∃ ds, ρ[p.1]? = some (some (.bo ds))
  len : σ.length = ρ.length
  slot : ∀ (i : Nat) (sl : Sl), ρ[i]? = some (some sl) → ∃ v, σ[i]? = some (some v) ∧ SlOk K C G H i v sl
  sep : ∀ (i j : Nat) (si sj : Sl) (a : Addr), i ≠ j → ρ[i]? = some (some si) → ρ[j]? = some (some sj) → si.mu = true → sj.mu = true → σ[i]? = some (some (.ref a)) → σ[j]? ≠ some (some (.ref a))
  prs : ∀ p ∈ C.pr, H p.1 = some (.lst p.2) ∧ G p.1 = none ∧ C.H0 p.1 = none ∧ ∀ (j : Nat) (sl : Sl), ρ[j]? = some (some sl) → sl.mu = true → σ[j]? ≠ some (some (.ref p.1))

/-- a list of this frame's own that no slot holds -/
structure Fresh (C : DC) (G : Hp) (ρ : DS) (σ : St) (H : Hp) (a : Addr) (vs : List V) : Prop where
  at_ : H a = some (.lst vs)
  g : G a = none
  h0 : C.H0 a = none
  ns : ∀ (j : Nat) (sl : Sl), ρ[j]? = some (some sl) → sl.mu = true → σ[j]? ≠ some (some (.ref a))
  np : ∀ p ∈ C.pr, p.1 ≠ a

section
variable {K : PySem.W.Frag} {C : DC} {G : Hp} {ρ : DS} {σ : St} {H : Hp}
theorem same_upd {p : Addr} {o : HO} (h : H p = none) : Same H (upd H p o) := fun b x e => by
  rw [upd_ne (ne_of_none e h)]
  exact e
theorem Rel.free (R : Rel K C G ρ σ H) {p : Addr} (h : H p = none) : G p = none := R.same.free h
theorem Rel.h0 (R : Rel K C G ρ σ H) {p : Addr} (h : H p = none) : C.H0 p = none := by
  cases q : C.H0 p with
  | none => rfl
  | some o =>
    exfalso
    by_cases hb : ∀ z ∈ C.β, z.2 ≠ p
    · rw [R.fr p o q hb] at h; cases h
    · refine hb fun z hz e => ?_
      obtain ⟨vs, hv⟩ := R.be z hz
      rw [e, h] at hv; cases hv
theorem SlOk.mo {G' H' : Hp} {i : Nat} {v : V} : ∀ {sl : Sl}, SlOk K C G H i v sl → Same G G' → (∀ a vs, H a = some (.lst vs) → sl.mu = true → v = .ref a → H' a = some (.lst vs) ∧ (G a = none → G' a = none)) → SlOk K C G' H' i v sl
  | .sh d, h, e, _ => Dp.mo e d v h
  | .ow ds, ⟨a, vs, h1, h2, h3, h4, h5⟩, e, k => ⟨a, vs, h1, (k a vs h2 rfl h1).1, (k a vs h2 rfl h1).2 h3, h4, DpAll.mo e ds vs h5⟩
  | .bo ds, ⟨a, vs, h1, h2, h3, h4, h5⟩, e, k => ⟨a, vs, h1, h2, (k a vs h3 rfl h1).1, (k a vs h3 rfl h1).2 h4, DpAll.mo e ds vs h5⟩
/-- a new frozen object -/
theorem Rel.new (R : Rel K C G ρ σ H) {p : Addr} {o : HO} (h : H p = none) : Rel K C (upd G p o) ρ σ (upd H p o) where
  same := fun b x e => by
    by_cases hb : b = p
    · subst hb
      rw [upd_same] at e ⊢
      exact e
    · rw [upd_ne hb] at e ⊢
      exact R.same b x e
  nw := fun b h1 h2 => by
    have hb : b ≠ p := fun e => h2 (by rw [e]; exact R.h0 h)
    rw [upd_ne hb]
    exact R.nw b h1 h2
  fr := fun b x e k => by
    have q := R.fr b x e k
    rw [upd_ne (ne_of_none q h)]
    exact q
  be := fun z hz => by
    obtain ⟨vs, q⟩ := R.be z hz
    exact ⟨vs, by rw [upd_ne (ne_of_none q h)]; exact q⟩
  bs := R.bs
  len := R.len
  slot := fun i sl e => by
    obtain ⟨v, e1, k⟩ := R.slot i sl e
    refine ⟨v, e1, k.mo (same_upd (R.free h)) fun a vs q _ _ => ?_⟩
    have ha : a ≠ p := ne_of_none q h
    rw [upd_ne ha, upd_ne ha]
    exact ⟨q, id⟩
  sep := R.sep
  prs := fun z hz => by
    obtain ⟨q1, q2, q3, q4⟩ := R.prs z hz
    have hb : z.1 ≠ p := ne_of_none q1 h
    exact ⟨by rw [upd_ne hb]; exact q1, by rw [upd_ne hb]; exact q2, q3, q4⟩
/-- a new object that is not frozen -/
theorem Rel.newH (R : Rel K C G ρ σ H) {p : Addr} {o : HO} (h : H p = none) : Rel K C G ρ σ (upd H p o) where
  same := R.same.trans (same_upd h)
  nw := R.nw
  fr := fun b x e k => by
    have q := R.fr b x e k
    rw [upd_ne (ne_of_none q h)]
    exact q
  be := fun z hz => by
    obtain ⟨vs, q⟩ := R.be z hz
    exact ⟨vs, by rw [upd_ne (ne_of_none q h)]; exact q⟩
  bs := R.bs
  len := R.len
  slot := fun i sl e => by
    obtain ⟨v, e1, k⟩ := R.slot i sl e
    refine ⟨v, e1, k.mo (Same.refl _) fun a vs q _ _ => ?_⟩
    have ha : a ≠ p := ne_of_none q h
    rw [upd_ne ha]
    exact ⟨q, id⟩
  sep := R.sep
  prs := fun z hz => by
    obtain ⟨q1, q2, q3, q4⟩ := R.prs z hz
    have hb : z.1 ≠ p := ne_of_none q1 h
    exact ⟨by rw [upd_ne hb]; exact q1, q2, q3, q4⟩
theorem Rel.newF (R : Rel K C G ρ σ H) {p : Addr} {vs : List V} (h : H p = none) : Fresh C G ρ σ (upd H p (.lst vs)) p vs where
  at_ := upd_same
  g := R.free h
  h0 := R.h0 h
  ns := fun j sl e hm q => by
    obtain ⟨v, e1, k⟩ := R.slot j sl e
    rw [e1] at q
    cases q
    cases sl with
    | sh d => cases hm
    | ow ds =>
      obtain ⟨a, vs, h1, h2, _⟩ := k
      cases h1
      rw [h] at h2; cases h2
    | bo ds =>
      obtain ⟨a, vs, h1, _, h2, _⟩ := k
      cases h1
      rw [h] at h2; cases h2
  np := fun z hz => ne_of_none (R.prs z hz).1 h
/-- a fresh list is frozen -/
theorem Rel.freeze (R : Rel K C G ρ σ H) {a : Addr} {vs : List V} (F : Fresh C G ρ σ H a vs) : Same G (upd G a (.lst vs)) ∧ Rel K C (upd G a (.lst vs)) ρ σ H := by
  have sg : Same G (upd G a (.lst vs)) := same_upd F.g
  refine ⟨sg, ⟨fun b x e => ?_, fun b h1 h2 => ?_, R.fr, R.be, R.bs, R.len, fun i sl e => ?_, R.sep, fun z hz => ?_⟩⟩
  · by_cases hb : b = a
    · subst hb
      rw [upd_same] at e
      cases e
      exact F.at_
    · rw [upd_ne hb] at e
      exact R.same b x e
  · have hb : b ≠ a := fun e => h2 (by rw [e]; exact F.h0)
    rw [upd_ne hb]
    exact R.nw b h1 h2
  · obtain ⟨v, e1, k⟩ := R.slot i sl e
    refine ⟨v, e1, k.mo sg fun b ws q hm hv => ⟨q, fun hg => ?_⟩⟩
    have hb : b ≠ a := fun z => F.ns i sl e hm (by rw [e1, hv, z])
    rw [upd_ne hb]
    exact hg
  · obtain ⟨q1, q2, q3, q4⟩ := R.prs z hz
    exact ⟨q1, by rw [upd_ne (F.np z hz)]; exact q2, q3, q4⟩
/-- slots that hold nothing lent -/
theorem Rel.notLent (R : Rel K C G ρ σ H) {i : Nat} (h : ∀ ds, ρ[i]? ≠ some (some (.bo ds))) : ∀ p ∈ C.β, p.1 ≠ i := fun p hp e => by
  obtain ⟨_, ds, q⟩ := R.bs p hp
  exact h ds (by rw [← e]; exact q)
/-- a slot takes shared data -/
theorem Rel.setSh (R : Rel K C G ρ σ H) {i : Nat} {v : V} {d : PyData} (h : ∀ ds, ρ[i]? ≠ some (some (.bo ds))) (hd : Dp K G v d) : Rel K C G (ρ.set i (some (.sh d))) (σ.set i (some v)) H where
  same := R.same
  nw := R.nw
  fr := R.fr
  be := R.be
  bs := fun p hp => by
    have ne := R.notLent h p hp
    rw [List.getElem?_set_ne (Ne.symm ne), List.getElem?_set_ne (Ne.symm ne)]
    exact R.bs p hp
  len := by rw [List.length_set, List.length_set, R.len]
  slot := fun j sl e => by
    by_cases hj : i = j
    · subst hj
      have hl : i < ρ.length := by
        have := (List.getElem?_eq_some_iff.mp e).1
        rwa [List.length_set] at this
      rw [List.getElem?_set_self hl] at e
      cases e
      exact ⟨v, List.getElem?_set_self (by rw [R.len]; exact hl), hd⟩
    · rw [List.getElem?_set_ne hj] at e ⊢
      exact R.slot j sl e
  sep := fun j k sj sk a njk ej ek mj mk qj => by
    by_cases hj : i = j
    · subst hj
      have hl : i < ρ.length := by
        have := (List.getElem?_eq_some_iff.mp ej).1
        rwa [List.length_set] at this
      rw [List.getElem?_set_self hl] at ej
      cases ej; cases mj
    · by_cases hk : i = k
      · subst hk
        have hl : i < ρ.length := by
          have := (List.getElem?_eq_some_iff.mp ek).1
          rwa [List.length_set] at this
        rw [List.getElem?_set_self hl] at ek
        cases ek; cases mk
      · rw [List.getElem?_set_ne hj] at ej qj
        rw [List.getElem?_set_ne hk] at ek ⊢
        exact R.sep j k sj sk a njk ej ek mj mk qj
  prs := fun z hz => by
    obtain ⟨q1, q2, q3, q4⟩ := R.prs z hz
    refine ⟨q1, q2, q3, fun j sl ej mj => ?_⟩
    by_cases hj : i = j
    · subst hj
      have hl : i < ρ.length := by
        have := (List.getElem?_eq_some_iff.mp ej).1
        rwa [List.length_set] at this
      rw [List.getElem?_set_self hl] at ej
      cases ej; cases mj
    · rw [List.getElem?_set_ne hj] at ej
      rw [List.getElem?_set_ne hj]
      exact q4 j sl ej mj
/-- a slot takes a fresh list as its own -/
theorem Rel.setOw (R : Rel K C G ρ σ H) {i : Nat} {a : Addr} {vs : List V} {ds : List PyData} (h : ∀ ds, ρ[i]? ≠ some (some (.bo ds))) (F : Fresh C G ρ σ H a vs) (hd : DpAll K G vs ds) : Rel K C G (ρ.set i (some (.ow ds))) (σ.set i (some (.ref a))) H where
  same := R.same
  nw := R.nw
  fr := R.fr
  be := R.be
  bs := fun p hp => by
    have ne := R.notLent h p hp
    rw [List.getElem?_set_ne (Ne.symm ne), List.getElem?_set_ne (Ne.symm ne)]
    exact R.bs p hp
  len := by rw [List.length_set, List.length_set, R.len]
  slot := fun j sl e => by
    by_cases hj : i = j
    · subst hj
      have hl : i < ρ.length := by
        have := (List.getElem?_eq_some_iff.mp e).1
        rwa [List.length_set] at this
      rw [List.getElem?_set_self hl] at e
      cases e
      exact ⟨_, List.getElem?_set_self (by rw [R.len]; exact hl), a, vs, rfl, F.at_, F.g, F.h0, hd⟩
    · rw [List.getElem?_set_ne hj] at e ⊢
      exact R.slot j sl e
  sep := fun j k sj sk b njk ej ek mj mk qj => by
    have inn : ∀ {m : Nat} {s : Sl}, (ρ.set i (some (.ow ds)))[m]? = some (some s) → m < ρ.length := fun {m s} e => by
      have := (List.getElem?_eq_some_iff.mp e).1
      rwa [List.length_set] at this
    by_cases hj : i = j
    · subst hj
      have hk : i ≠ k := njk
      rw [List.getElem?_set_self (by rw [R.len]; exact inn ej)] at qj
      cases qj
      rw [List.getElem?_set_ne hk] at ek ⊢
      exact F.ns k sk ek mk
    · rw [List.getElem?_set_ne hj] at ej qj
      by_cases hk : i = k
      · subst hk
        rw [List.getElem?_set_self (by rw [R.len]; exact inn ek)]
        intro z
        cases z
        exact F.ns j sj ej mj qj
      · rw [List.getElem?_set_ne hk] at ek ⊢
        exact R.sep j k sj sk b njk ej ek mj mk qj
  prs := fun z hz => by
    obtain ⟨q1, q2, q3, q4⟩ := R.prs z hz
    refine ⟨q1, q2, q3, fun j sl ej mj => ?_⟩
    by_cases hj : i = j
    · subst hj
      have hl : i < ρ.length := by
        have := (List.getElem?_eq_some_iff.mp ej).1
        rwa [List.length_set] at this
      rw [List.getElem?_set_self (by rw [R.len]; exact hl)]
      intro e
      cases e
      exact F.np z hz rfl
    · rw [List.getElem?_set_ne hj] at ej
      rw [List.getElem?_set_ne hj]
      exact q4 j sl ej mj
/-- a slot is forgotten -/
theorem Rel.drop (R : Rel K C G ρ σ H) {i : Nat} (h : ∀ ds, ρ[i]? ≠ some (some (.bo ds))) : Rel K C G (ρ.set i none) (σ.set i none) H where
  same := R.same
  nw := R.nw
  fr := R.fr
  be := R.be
  bs := fun p hp => by
    have ne := R.notLent h p hp
    rw [List.getElem?_set_ne (Ne.symm ne), List.getElem?_set_ne (Ne.symm ne)]
    exact R.bs p hp
  len := by rw [List.length_set, List.length_set, R.len]
  slot := fun j sl e => by
    by_cases hj : i = j
    · subst hj
      have hl : i < ρ.length := by
        have := (List.getElem?_eq_some_iff.mp e).1
        rwa [List.length_set] at this
      rw [List.getElem?_set_self hl] at e
      cases e
    · rw [List.getElem?_set_ne hj] at e ⊢
      exact R.slot j sl e
  sep := fun j k sj sk a njk ej ek mj mk qj => by
    by_cases hj : i = j
    · subst hj
      have hl : i < ρ.length := by
        have := (List.getElem?_eq_some_iff.mp ej).1
        rwa [List.length_set] at this
      rw [List.getElem?_set_self hl] at ej
      cases ej
    · by_cases hk : i = k
      · subst hk
        have hl : i < ρ.length := by
          have := (List.getElem?_eq_some_iff.mp ek).1
          rwa [List.length_set] at this
        rw [List.getElem?_set_self hl] at ek
        cases ek
      · rw [List.getElem?_set_ne hj] at ej qj
        rw [List.getElem?_set_ne hk] at ek ⊢
        exact R.sep j k sj sk a njk ej ek mj mk qj
  prs := fun z hz => by
    obtain ⟨q1, q2, q3, q4⟩ := R.prs z hz
    refine ⟨q1, q2, q3, fun j sl ej mj => ?_⟩
    by_cases hj : i = j
    · subst hj
      have hl : i < ρ.length := by
        have := (List.getElem?_eq_some_iff.mp ej).1
        rwa [List.length_set] at this
      rw [List.getElem?_set_self hl] at ej
      cases ej
    · rw [List.getElem?_set_ne hj] at ej
      rw [List.getElem?_set_ne hj]
      exact q4 j sl ej mj
/-- less is known of a slot -/
theorem Rel.forget (R : Rel K C G ρ σ H) {i : Nat} (h : ∀ ds, ρ[i]? ≠ some (some (.bo ds))) : Rel K C G (ρ.set i none) σ H where
  same := R.same
  nw := R.nw
  fr := R.fr
  be := R.be
  bs := fun p hp => by
    have ne := R.notLent h p hp
    rw [List.getElem?_set_ne (Ne.symm ne)]
    exact R.bs p hp
  len := by rw [List.length_set, R.len]
  slot := fun j sl e => by
    by_cases hj : i = j
    · subst hj
      have hl : i < ρ.length := by
        have := (List.getElem?_eq_some_iff.mp e).1
        rwa [List.length_set] at this
      rw [List.getElem?_set_self hl] at e
      cases e
    · rw [List.getElem?_set_ne hj] at e
      exact R.slot j sl e
  sep := fun j k sj sk a njk ej ek mj mk qj => by
    by_cases hj : i = j
    · subst hj
      have hl : i < ρ.length := by
        have := (List.getElem?_eq_some_iff.mp ej).1
        rwa [List.length_set] at this
      rw [List.getElem?_set_self hl] at ej
      cases ej
    · by_cases hk : i = k
      · subst hk
        have hl : i < ρ.length := by
          have := (List.getElem?_eq_some_iff.mp ek).1
          rwa [List.length_set] at this
        rw [List.getElem?_set_self hl] at ek
        cases ek
      · rw [List.getElem?_set_ne hj] at ej
        rw [List.getElem?_set_ne hk] at ek
        exact R.sep j k sj sk a njk ej ek mj mk qj
  prs := fun z hz => by
    obtain ⟨q1, q2, q3, q4⟩ := R.prs z hz
    refine ⟨q1, q2, q3, fun j sl ej mj => ?_⟩
    by_cases hj : i = j
    · subst hj
      have hl : i < ρ.length := by
        have := (List.getElem?_eq_some_iff.mp ej).1
        rwa [List.length_set] at this
      rw [List.getElem?_set_self hl] at ej
      cases ej
    · rw [List.getElem?_set_ne hj] at ej
      exact q4 j sl ej mj
/-- an own list becomes shared data -/
theorem Rel.own (R : Rel K C G ρ σ H) {i : Nat} {ds : List PyData} (h : ρ[i]? = some (some (.ow ds))) :
    ∃ a vs, σ[i]? = some (some (.ref a)) ∧ DpAll K G vs ds ∧ Fresh C G (ρ.set i none) σ H a vs ∧ Rel K C G (ρ.set i none) σ H := by
  obtain ⟨v, e1, a, vs, rfl, h2, h3, h4, h5⟩ := R.slot i _ h
  have R' := R.forget (i := i) fun ds' e => by rw [h] at e; cases e
  refine ⟨a, vs, e1, h5, ⟨h2, h3, h4, fun j sl ej mj qj => ?_, fun z hz e => (R.prs z hz).2.2.2 i _ h rfl (by rw [e1, e])⟩, R'⟩
  by_cases hj : i = j
  · subst hj
    have hl : i < ρ.length := by
      have := (List.getElem?_eq_some_iff.mp ej).1
      rwa [List.length_set] at this
    rw [List.getElem?_set_self hl] at ej
    cases ej
  · rw [List.getElem?_set_ne hj] at ej
    exact R.sep i j (.ow ds) sl a hj h ej rfl mj e1 qj
/-- a mutable list is written -/
theorem Rel.write (R : Rel K C G ρ σ H) {i : Nat} {sl sl' : Sl} {a : Addr} {vs vs' : List V} (h : ρ[i]? = some (some sl)) (hm : sl.mu = true) (hi : σ[i]? = some (some (.ref a))) (ha : H a = some (.lst vs)) (hg : G a = none)
    (h' : SlOk K C G (upd H a (.lst vs')) i (.ref a) sl') (hb : (∃ ds, sl = .bo ds) → ∃ ds, sl' = .bo ds) (hm' : sl'.mu = true) (h0 : C.H0 a = none ∨ (i, a) ∈ C.β) : Rel K C G (ρ.set i (some sl')) σ (upd H a (.lst vs')) where
  same := fun b x e => by
    have hb : b ≠ a := fun z => by rw [z, hg] at e; cases e
    rw [upd_ne hb]
    exact R.same b x e
  nw := R.nw
  fr := fun b x e k => by
    have hb : b ≠ a := fun z => by
      rcases h0 with q | q
      · rw [z, q] at e; cases e
      · exact k _ q z.symm
    rw [upd_ne hb]
    exact R.fr b x e k
  be := fun z hz => by
    by_cases hb : z.2 = a
    · exact ⟨vs', by rw [hb, upd_same]⟩
    · obtain ⟨ws, q⟩ := R.be z hz
      exact ⟨ws, by rw [upd_ne hb]; exact q⟩
  bs := fun p hp => by
    obtain ⟨q1, ds, q2⟩ := R.bs p hp
    refine ⟨q1, ?_⟩
    by_cases hj : i = p.1
    · rw [← hj] at q2 ⊢
      have hl : i < ρ.length := (List.getElem?_eq_some_iff.mp q2).1
      rw [h] at q2
      obtain ⟨ds', e⟩ := hb ⟨ds, by cases q2; rfl⟩
      exact ⟨ds', by rw [List.getElem?_set_self hl, e]⟩
    · exact ⟨ds, by rw [List.getElem?_set_ne hj]; exact q2⟩
  len := by rw [List.length_set, R.len]
  slot := fun j sl2 e => by
    by_cases hj : i = j
    · subst hj
      have hl : i < ρ.length := (List.getElem?_eq_some_iff.mp h).1
      rw [List.getElem?_set_self hl] at e
      cases e
      exact ⟨_, hi, h'⟩
    · rw [List.getElem?_set_ne hj] at e
      obtain ⟨v, e1, k⟩ := R.slot j sl2 e
      refine ⟨v, e1, k.mo (Same.refl _) fun b ws q hm2 hv => ⟨?_, id⟩⟩
      have hb : b ≠ a := fun z => R.sep i j sl sl2 a hj h e hm hm2 hi (by rw [e1, hv, z])
      rw [upd_ne hb]
      exact q
  sep := fun j k sj sk b njk ej ek mj mk qj => by
    have inn : i < ρ.length := (List.getElem?_eq_some_iff.mp h).1
    by_cases hj : i = j
    · subst hj
      rw [List.getElem?_set_ne njk] at ek
      exact R.sep i k sl sk b njk h ek hm mk qj
    · rw [List.getElem?_set_ne hj] at ej
      by_cases hk : i = k
      · subst hk
        exact R.sep j i sj sl b njk ej h mj hm qj
      · rw [List.getElem?_set_ne hk] at ek
        exact R.sep j k sj sk b njk ej ek mj mk qj
  prs := fun z hz => by
    obtain ⟨q1, q2, q3, q4⟩ := R.prs z hz
    have hb : z.1 ≠ a := fun e => q4 i sl h hm (by rw [hi, e])
    refine ⟨by rw [upd_ne hb]; exact q1, q2, q3, fun j sl2 ej mj => ?_⟩
    by_cases hj : i = j
    · subst hj
      rw [hi]
      intro e
      cases e
      exact hb rfl
    · rw [List.getElem?_set_ne hj] at ej
      exact q4 j sl2 ej mj
/-- a mutable slot: its list -/
def Sl.ds? : Sl → Option (List PyData)
  | .sh _ => none
  | .ow ds => some ds
  | .bo ds => some ds
def Sl.wr (ds : List PyData) : Sl → Sl
  | .sh d => .sh d
  | .ow _ => .ow ds
  | .bo _ => .bo ds
theorem Rel.mut (R : Rel K C G ρ σ H) {i : Nat} {sl : Sl} {ds : List PyData} (h : ρ[i]? = some (some sl)) (hd : sl.ds? = some ds) :
    ∃ a vs, σ[i]? = some (some (.ref a)) ∧ H a = some (.lst vs) ∧ G a = none ∧ DpAll K G vs ds ∧
      ∀ ds' vs', DpAll K G vs' ds' → Rel K C G (ρ.set i (some (sl.wr ds'))) σ (upd H a (.lst vs')) := by
  obtain ⟨v, e1, k⟩ := R.slot i sl h
  cases sl with
  | sh d => cases hd
  | ow es =>
    cases hd
    obtain ⟨a, vs, rfl, h2, h3, h4, h5⟩ := k
    exact ⟨a, vs, e1, h2, h3, h5, fun ds' vs' hd => R.write h rfl e1 h2 h3 ⟨a, vs', rfl, upd_same, h3, h4, hd⟩ (fun ⟨_, e⟩ => nomatch e) rfl (.inl h4)⟩
  | bo es =>
    cases hd
    obtain ⟨a, vs, rfl, h2, h3, h4, h5⟩ := k
    exact ⟨a, vs, e1, h3, h4, h5, fun ds' vs' hd => R.write h rfl e1 h3 h4 ⟨a, vs', rfl, h2, upd_same, h4, hd⟩ (fun _ => ⟨ds', rfl⟩) rfl (.inr h2)⟩
/-- a list that is being made: begun, grown, done -/
theorem Rel.prPush (R : Rel K C G ρ σ H) {a : Addr} {vs : List V} (F : Fresh C G ρ σ H a vs) : Rel K { C with pr := (a, vs) :: C.pr } G ρ σ H where
  same := R.same
  nw := R.nw
  fr := R.fr
  be := R.be
  bs := R.bs
  len := R.len
  slot := R.slot
  sep := R.sep
  prs := fun z hz => by
    rcases List.mem_cons.mp hz with e | hz
    · subst e
      exact ⟨F.at_, F.g, F.h0, F.ns⟩
    · exact R.prs z hz
theorem Rel.prPop {a : Addr} {vs : List V} (R : Rel K { C with pr := (a, vs) :: C.pr } G ρ σ H) (hn : ∀ p ∈ C.pr, p.1 ≠ a) : Rel K C G ρ σ H ∧ Fresh C G ρ σ H a vs :=
  ⟨⟨R.same, R.nw, R.fr, R.be, R.bs, R.len, R.slot, R.sep, fun z hz => R.prs z (List.mem_cons_of_mem _ hz)⟩,
    let q := R.prs (a, vs) List.mem_cons_self
    ⟨q.1, q.2.1, q.2.2.1, q.2.2.2, hn⟩⟩
theorem Rel.prGrow {a : Addr} {vs vs' : List V} (R : Rel K { C with pr := (a, vs) :: C.pr } G ρ σ H) (hn : ∀ p ∈ C.pr, p.1 ≠ a) : Rel K { C with pr := (a, vs') :: C.pr } G ρ σ (upd H a (.lst vs')) := by
  obtain ⟨q1, q2, q3, q4⟩ := R.prs (a, vs) List.mem_cons_self
  refine ⟨fun b x e => ?_, R.nw, fun b x e k => ?_, fun z hz => ?_, R.bs, R.len, fun i sl e => ?_, R.sep, fun z hz => ?_⟩
  · have hb : b ≠ a := fun z => by rw [z] at e; rw [show G a = none from q2] at e; cases e
    rw [upd_ne hb]
    exact R.same b x e
  · have hb : b ≠ a := fun z => by rw [z] at e; rw [show C.H0 a = none from q3] at e; cases e
    rw [upd_ne hb]
    exact R.fr b x e k
  · by_cases hb : z.2 = a
    · exact ⟨vs', by rw [hb, upd_same]⟩
    · obtain ⟨ws, q⟩ := R.be z hz
      exact ⟨ws, by rw [upd_ne hb]; exact q⟩
  · obtain ⟨v, e1, k⟩ := R.slot i sl e
    refine ⟨v, e1, SlOk.mo (C := { C with pr := (a, vs') :: C.pr }) (by cases sl <;> exact k) (Same.refl _) fun b ws q hm hv => ⟨?_, id⟩⟩
    have hb : b ≠ a := fun z => q4 i sl e hm (by rw [e1, hv, z])
    rw [upd_ne hb]
    exact q
  · rcases List.mem_cons.mp hz with e | hz
    · subst e
      exact ⟨upd_same, q2, q3, q4⟩
    · obtain ⟨k1, k2, k3, k4⟩ := R.prs z (List.mem_cons_of_mem _ hz)
      exact ⟨by rw [upd_ne (hn z hz)]; exact k1, k2, k3, k4⟩
end
end DL

namespace DL
open PySem L2

/-! ## judgements -/
abbrev DTE := DS → (PyData → DS → Prop) → Prop
abbrev DTT := DS → (Bool → DS → Prop) → Prop
abbrev DTL := DS → (List PyData → DS → Prop) → Prop
/-- a view: what a value shows as data at a later state -/
abbrev Vw := DS → Option PyData
abbrev DTO := DS → (Vw → DS → Prop) → Prop
abbrev DTOs := DS → (List Vw → DS → Prop) → Prop

/-- shared data, or a mutable list whose items are shared data -/
def Dv (K : PySem.W.Frag) (G H : Hp) (v : V) (d : PyData) : Prop :=
  Dp K G v d ∨ ∃ a vs ds, v = .ref a ∧ d = .list ds ∧ H a = some (.lst vs) ∧ DpAll K G vs ds
theorem Dv.dp {K : PySem.W.Frag} {G H : Hp} {v : V} {d : PyData} (s : Same G H) (h : Dv K G H v d) : Dp K H v d := by
  rcases h with h | ⟨a, vs, ds, rfl, rfl, h1, h2⟩
  · exact Dp.mo s d v h
  · exact .lst (.inl (.inl h1)) (DpAll.mo s ds vs h2)
/-- a list's items in a view -/
theorem Dv.lst {K : PySem.W.Frag} {G H : Hp} {v : V} {ds : List PyData} (s : Same G H) (h : Dv K G H v (.list ds)) : ∃ a vs, v = .ref a ∧ SqL K H a vs ∧ DpAll K G vs ds := by
  rcases h with h | ⟨a, vs, es, rfl, e, h1, h2⟩
  · cases h with
    | lst hs ha => exact ⟨_, _, rfl, s.seq hs, ha⟩
  · cases e
    exact ⟨a, vs, rfl, .inl (.inl h1), h2⟩
theorem Dv.tup {K : PySem.W.Frag} {G H : Hp} {v : V} {ds : List PyData} (s : Same G H) (h : Dv K G H v (.tuple ds)) : ∃ a vs, v = .ref a ∧ SqT K H a vs ∧ DpAll K G vs ds := by
  rcases h with h | ⟨a, vs, es, rfl, e, h1, h2⟩
  · cases h with
    | tup hs ha => exact ⟨_, _, rfl, sameT s hs, ha⟩
  · cases e
theorem Dv.int {K : PySem.W.Frag} {G H : Hp} {v : V} {i : Int} (h : Dv K G H v (.int i)) : v = .int i := by
  rcases h with h | ⟨a, vs, es, rfl, e, h1, h2⟩
  · cases h; rfl
  · cases e
theorem Dv.bl {K : PySem.W.Frag} {G H : Hp} {v : V} {i : Bool} (h : Dv K G H v (.bool i)) : v = .bl i := by
  rcases h with h | ⟨a, vs, es, rfl, e, h1, h2⟩
  · cases h; rfl
  · cases e
theorem Dv.str {K : PySem.W.Frag} {G H : Hp} {v : V} {i : Str} (h : Dv K G H v (.str i)) : v = .str i := by
  rcases h with h | ⟨a, vs, es, rfl, e, h1, h2⟩
  · cases h; rfl
  · cases e
theorem Dv.non {K : PySem.W.Frag} {G H : Hp} {v : V} (h : Dv K G H v .none) : v = .non := by
  rcases h with h | ⟨a, vs, es, rfl, e, h1, h2⟩
  · cases h; rfl
  · cases e

def VwOk (K : PySem.W.Frag) (C : DC) (G : Hp) (σ : St) (v : V) (w : Vw) : Prop :=
  ∀ G2 H2 ρ2, Same G G2 → Rel K C G2 ρ2 σ H2 → ∀ d, w ρ2 = some d → Dv K G2 H2 v d

def liftE (K : PySem.W.Frag) (C : DC) (t : DTE) : TE := fun σ H Q => ∃ G ρ, Rel K C G ρ σ H ∧ t ρ fun d ρ' => ∀ v G' H', Same G G' → Rel K C G' ρ' σ H' → Dp K G' v d → Q v H'
def liftO (K : PySem.W.Frag) (C : DC) (t : DTO) : TE := fun σ H Q => ∃ G ρ, Rel K C G ρ σ H ∧ t ρ fun w ρ' => ∀ v G' H', Same G G' → Rel K C G' ρ' σ H' → VwOk K C G' σ v w → Q v H'
def liftF (K : PySem.W.Frag) (C : DC) (t : DTL) : TE := fun σ H Q => ∃ G ρ, Rel K C G ρ σ H ∧ t ρ fun ds ρ' => ∀ a vs G' H', Same G G' → Rel K C G' ρ' σ H' → Fresh C G' ρ' σ H' a vs → DpAll K G' vs ds → Q (.ref a) H'
def liftT (K : PySem.W.Frag) (C : DC) (t : DTT) : TT := fun σ H Q => ∃ G ρ, Rel K C G ρ σ H ∧ t ρ fun b ρ' => ∀ G' H', Same G G' → Rel K C G' ρ' σ H' → Q b H'
def liftA (K : PySem.W.Frag) (C : DC) (t : DTL) : TA := fun σ H Q => ∃ G ρ, Rel K C G ρ σ H ∧ t ρ fun ds ρ' => ∀ vs G' H', Same G G' → Rel K C G' ρ' σ H' → DpAll K G' vs ds → Q vs H'
/-- values with views -/
inductive VwAll (K : PySem.W.Frag) (C : DC) (G : Hp) (σ : St) : List V → List Vw → Prop
  | nil : VwAll K C G σ [] []
  | cons {v vs w ws} : VwOk K C G σ v w → VwAll K C G σ vs ws → VwAll K C G σ (v :: vs) (w :: ws)
def liftOs (K : PySem.W.Frag) (C : DC) (t : DTOs) : TA := fun σ H Q => ∃ G ρ, Rel K C G ρ σ H ∧ t ρ fun ws ρ' => ∀ vs G' H', Same G G' → Rel K C G' ρ' σ H' → VwAll K C G' σ vs ws → Q vs H'

theorem VwOk.mo {K : PySem.W.Frag} {C : DC} {G G' : Hp} {σ : St} {v : V} {w : Vw} (h : VwOk K C G σ v w) (s : Same G G') : VwOk K C G' σ v w := fun G2 H2 ρ2 s2 r d e => h G2 H2 ρ2 (s.trans s2) r d e

structure DE (X : Cx) (e : Expr) (t : DTE) : Prop where
  run : ∀ C, PE X e (liftE X.K C t)
  mono : ∀ ρ Q Q', (∀ d ρ', Q d ρ' → Q' d ρ') → t ρ Q → t ρ Q'
structure DO (X : Cx) (e : Expr) (t : DTO) : Prop where
  run : ∀ C, PE X e (liftO X.K C t)
  mono : ∀ ρ Q Q', (∀ d ρ', Q d ρ' → Q' d ρ') → t ρ Q → t ρ Q'
structure DF (X : Cx) (e : Expr) (t : DTL) : Prop where
  run : ∀ C, PE X e (liftF X.K C t)
  mono : ∀ ρ Q Q', (∀ d ρ', Q d ρ' → Q' d ρ') → t ρ Q → t ρ Q'
structure DT (X : Cx) (e : Expr) (t : DTT) : Prop where
  run : ∀ C, PT X e (liftT X.K C t)
  mono : ∀ ρ Q Q', (∀ d ρ', Q d ρ' → Q' d ρ') → t ρ Q → t ρ Q'
structure DW (X : Cx) (e : Expr) (t : DTT) : Prop where
  run : ∀ C, PW X e (liftT X.K C t)
  mono : ∀ ρ Q Q', (∀ d ρ', Q d ρ' → Q' d ρ') → t ρ Q → t ρ Q'
structure DA (X : Cx) (es : List Expr) (t : DTL) : Prop where
  run : ∀ C, PA X es (liftA X.K C t)
  mono : ∀ ρ Q Q', (∀ d ρ', Q d ρ' → Q' d ρ') → t ρ Q → t ρ Q'
structure DOs (X : Cx) (es : List Expr) (t : DTOs) : Prop where
  run : ∀ C, PA X es (liftOs X.K C t)
  mono : ∀ ρ Q Q', (∀ d ρ', Q d ρ' → Q' d ρ') → t ρ Q → t ρ Q'

theorem PE.imp {X : Cx} {e : Expr} {t t0 : TE} (h : PE X e t0) (k : ∀ σ H Q, t σ H Q → t0 σ H Q) : PE X e t := ⟨fun pins s σ H Q I hw => h.run pins s σ H Q I (k _ _ _ hw)⟩
theorem PT.imp {X : Cx} {e : Expr} {t t0 : TT} (h : PT X e t0) (k : ∀ σ H Q, t σ H Q → t0 σ H Q) : PT X e t := ⟨fun pins s σ H Q I hw => h.run pins s σ H Q I (k _ _ _ hw)⟩
theorem PW.imp {X : Cx} {e : Expr} {t t0 : TT} (h : PW X e t0) (k : ∀ σ H Q, t σ H Q → t0 σ H Q) : PW X e t := ⟨fun wh pins s σ H Q I hw => h.run wh pins s σ H Q I (k _ _ _ hw)⟩
theorem PA.imp {X : Cx} {es : List Expr} {t t0 : TA} (h : PA X es t0) (k : ∀ σ H Q, t σ H Q → t0 σ H Q) : PA X es t := ⟨fun pos pins s σ H Q I hw => h.run pos pins s σ H Q I (k _ _ _ hw)⟩

section
variable {X : Cx} {e a b c : Expr} {es : List Expr} {C : DC} {G H : Hp} {ρ : DS} {σ : St} {pos : Pos}
/-! ### running a judgement and going on -/
theorem goE {t : DTE} (m : ∀ ρ Q Q', (∀ d ρ', Q d ρ' → Q' d ρ') → t ρ Q → t ρ Q') {K : PySem.W.Frag} {R : VK} {P : PyData → DS → Prop} (r : Rel K C G ρ σ H) (h : t ρ P)
    (k : ∀ d ρ' v G' H', P d ρ' → Same G G' → Rel K C G' ρ' σ H' → Dp K G' v d → R v H') : liftE K C t σ H R := ⟨G, ρ, r, m _ _ _ (fun d ρ' p v G' H' s r' q => k d ρ' v G' H' p s r' q) h⟩
theorem goO {t : DTO} (m : ∀ ρ Q Q', (∀ d ρ', Q d ρ' → Q' d ρ') → t ρ Q → t ρ Q') {K : PySem.W.Frag} {R : VK} {P : Vw → DS → Prop} (r : Rel K C G ρ σ H) (h : t ρ P)
    (k : ∀ d ρ' v G' H', P d ρ' → Same G G' → Rel K C G' ρ' σ H' → VwOk K C G' σ v d → R v H') : liftO K C t σ H R := ⟨G, ρ, r, m _ _ _ (fun d ρ' p v G' H' s r' q => k d ρ' v G' H' p s r' q) h⟩
theorem goF {t : DTL} (m : ∀ ρ Q Q', (∀ d ρ', Q d ρ' → Q' d ρ') → t ρ Q → t ρ Q') {K : PySem.W.Frag} {R : VK} {P : List PyData → DS → Prop} (r : Rel K C G ρ σ H) (h : t ρ P)
    (k : ∀ d ρ' a vs G' H', P d ρ' → Same G G' → Rel K C G' ρ' σ H' → Fresh C G' ρ' σ H' a vs → DpAll K G' vs d → R (.ref a) H') : liftF K C t σ H R := ⟨G, ρ, r, m _ _ _ (fun d ρ' p a vs G' H' s r' f q => k d ρ' a vs G' H' p s r' f q) h⟩
theorem goT {t : DTT} (m : ∀ ρ Q Q', (∀ d ρ', Q d ρ' → Q' d ρ') → t ρ Q → t ρ Q') {K : PySem.W.Frag} {R : Bool → Hp → Prop} {P : Bool → DS → Prop} (r : Rel K C G ρ σ H) (h : t ρ P)
    (k : ∀ d ρ' G' H', P d ρ' → Same G G' → Rel K C G' ρ' σ H' → R d H') : liftT K C t σ H R := ⟨G, ρ, r, m _ _ _ (fun d ρ' p G' H' s r' => k d ρ' G' H' p s r') h⟩
theorem goA {t : DTL} (m : ∀ ρ Q Q', (∀ d ρ', Q d ρ' → Q' d ρ') → t ρ Q → t ρ Q') {K : PySem.W.Frag} {R : List V → Hp → Prop} {P : List PyData → DS → Prop} (r : Rel K C G ρ σ H) (h : t ρ P)
    (k : ∀ d ρ' v G' H', P d ρ' → Same G G' → Rel K C G' ρ' σ H' → DpAll K G' v d → R v H') : liftA K C t σ H R := ⟨G, ρ, r, m _ _ _ (fun d ρ' p v G' H' s r' q => k d ρ' v G' H' p s r' q) h⟩
theorem goOs {t : DTOs} (m : ∀ ρ Q Q', (∀ d ρ', Q d ρ' → Q' d ρ') → t ρ Q → t ρ Q') {K : PySem.W.Frag} {R : List V → Hp → Prop} {P : List Vw → DS → Prop} (r : Rel K C G ρ σ H) (h : t ρ P)
    (k : ∀ d ρ' v G' H', P d ρ' → Same G G' → Rel K C G' ρ' σ H' → VwAll K C G' σ v d → R v H') : liftOs K C t σ H R := ⟨G, ρ, r, m _ _ _ (fun d ρ' p v G' H' s r' q => k d ρ' v G' H' p s r' q) h⟩

/-! ### changing the kind -/
/-- shared data as an operand -/
def oE (t : DTE) : DTO := fun ρ Q => t ρ fun d ρ' => Q (fun _ => some d) ρ'
theorem do_e {t : DTE} (h : DE X e t) : DO X e (oE t) where
  run C := PE.imp (h.run C) fun σ H Q ⟨G, ρ, r, q⟩ => goE h.mono r q fun d ρ' v G' H' p s r' dp => p v G' H' s r' fun G2 H2 ρ2 s2 r2 d2 e2 => by
    cases e2
    exact .inl (Dp.mo s2 d v dp)
  mono ρ Q Q' k q := h.mono _ _ _ (fun d ρ' => k _ ρ') q
/-- a fresh list, frozen -/
def eF (t : DTL) : DTE := fun ρ Q => t ρ fun ds ρ' => Q (.list ds) ρ'
theorem de_f {t : DTL} (h : DF X e t) : DE X e (eF t) where
  run C := PE.imp (h.run C) fun σ H Q ⟨G, ρ, r, q⟩ => goF h.mono r q fun ds ρ' a vs G' H' p s r' f dp => by
    obtain ⟨s2, r2⟩ := r'.freeze f
    exact p _ _ _ (s.trans s2) r2 (.lst (.inl (.inl upd_same)) (DpAll.mo s2 ds vs dp))
  mono ρ Q Q' k q := h.mono _ _ _ (fun d ρ' => k _ ρ') q
/-- a name, shared: an own list is frozen -/
def eN (i : Nat) : DTE := fun ρ Q => match ρ[i]? with
  | some (some (.sh d)) => Q d ρ
  | some (some (.ow ds)) => Q (.list ds) (ρ.set i (some (.sh (.list ds))))
  | _ => False
theorem de_n (i : Nat) {x : Str} (hN : X.N[i]? = some x := by rfl) (hv : Vis X.env.scope x := by first | exact Or.inl rfl | exact Or.inr (Or.inl rfl) | exact Or.inr (Or.inr rfl)) (hd : (x == ("__debug__" : Str)) = false := by decide)
    (hcd : (x == ("__classdict__" : Str)) = false := by decide) : DE X (.Name x pos) (eN i) where
  run C := PE.imp (pe_var hN hv hd hcd) fun σ H Q ⟨G, ρ, r, q⟩ => by
    unfold eN at q
    split at q
    · rename_i d e
      obtain ⟨v, e1, k⟩ := r.slot i _ e
      exact ⟨v, e1, q v G H (Same.refl _) r k⟩
    · rename_i ds e
      obtain ⟨a, vs, e1, hd2, f, r'⟩ := r.own e
      obtain ⟨s2, r2⟩ := r'.freeze f
      have hi : i < ρ.length := (List.getElem?_eq_some_iff.mp e).1
      have dd : Dp X.K (upd G a (.lst vs)) (.ref a) (.list ds) := .lst (.inl (.inl upd_same)) (DpAll.mo s2 ds vs hd2)
      have r3 := r2.setSh (i := i) (fun es z => by rw [List.getElem?_set_self hi] at z; cases z) dd
      rw [List.set_set] at r3
      have es : σ.set i (some (.ref a)) = σ := by
        obtain ⟨hl, e2⟩ := List.getElem?_eq_some_iff.mp e1
        rw [← e2]
        exact List.set_getElem_self hl
      rw [es] at r3
      exact ⟨_, e1, q _ _ _ s2 r3 dd⟩
    · exact q.elim
  mono ρ Q Q' k q := by
    unfold eN at q ⊢
    split
    · rename_i d e
      rw [e] at q
      exact k _ _ q
    · rename_i ds e
      rw [e] at q
      exact k _ _ q
    · rename_i h1 h2
      split at q
      · rename_i d e
        exact (h1 _ e).elim
      · rename_i d e
        exact (h2 _ e).elim
      · exact q
/-- a name as an operand: it is looked at when the operation is done -/
def vN (i : Nat) : Vw := fun ρ => match ρ[i]? with
  | some (some (.sh d)) => some d
  | some (some (.ow ds)) => some (.list ds)
  | some (some (.bo ds)) => some (.list ds)
  | _ => none
def oN (i : Nat) : DTO := fun ρ Q => (vN i ρ).isSome = true ∧ Q (vN i) ρ
theorem vN_ok {K : PySem.W.Frag} (r : Rel K C G ρ σ H) {i : Nat} {v : V} (e1 : σ[i]? = some (some v)) : VwOk K C G σ v (vN i) := fun G2 H2 ρ2 s2 r2 d e => by
  unfold vN at e
  split at e
  · rename_i d' e'
    cases e
    obtain ⟨v', e2, k⟩ := r2.slot i _ e'
    rw [e1] at e2; cases e2
    exact .inl k
  · rename_i ds e'
    cases e
    obtain ⟨v', e2, a, vs, h1, h2, h3, h4, h5⟩ := r2.slot i _ e'
    rw [e1] at e2; cases e2
    exact .inr ⟨a, vs, ds, h1, rfl, h2, h5⟩
  · rename_i ds e'
    cases e
    obtain ⟨v', e2, a, vs, h1, h2, h3, h4, h5⟩ := r2.slot i _ e'
    rw [e1] at e2; cases e2
    exact .inr ⟨a, vs, ds, h1, rfl, h3, h5⟩
  · cases e
theorem vN_there {K : PySem.W.Frag} (r : Rel K C G ρ σ H) {i : Nat} (h : (vN i ρ).isSome = true) : ∃ v, σ[i]? = some (some v) := by
  unfold vN at h
  split at h
  · rename_i d e
    obtain ⟨v, e1, _⟩ := r.slot i _ e
    exact ⟨v, e1⟩
  · rename_i d e
    obtain ⟨v, e1, _⟩ := r.slot i _ e
    exact ⟨v, e1⟩
  · rename_i d e
    obtain ⟨v, e1, _⟩ := r.slot i _ e
    exact ⟨v, e1⟩
  · cases h
theorem do_n (i : Nat) {x : Str} (hN : X.N[i]? = some x := by rfl) (hv : Vis X.env.scope x := by first | exact Or.inl rfl | exact Or.inr (Or.inl rfl) | exact Or.inr (Or.inr rfl)) (hd : (x == ("__debug__" : Str)) = false := by decide)
    (hcd : (x == ("__classdict__" : Str)) = false := by decide) : DO X (.Name x pos) (oN i) where
  run C := PE.imp (pe_var hN hv hd hcd) fun σ H Q ⟨G, ρ, r, h, q⟩ => by
    obtain ⟨v, e1⟩ := vN_there r h
    exact ⟨v, e1, q v G H (Same.refl _) r (vN_ok r e1)⟩
  mono ρ Q Q' k q := ⟨q.1, k _ _ q.2⟩

/-! ### constants -/
def eC (d : PyData) : DTE := fun ρ Q => Q d ρ
theorem de_int {i j} : DE X (.Constant (.int i) j pos) (eC (.int i)) := ⟨fun C => PE.imp pe_int fun σ H Q ⟨G, ρ, r, q⟩ => q _ G H (Same.refl _) r (.int i), fun _ _ _ k q => k _ _ q⟩
theorem de_bl {i j} : DE X (.Constant (.bool i) j pos) (eC (.bool i)) := ⟨fun C => PE.imp pe_bl fun σ H Q ⟨G, ρ, r, q⟩ => q _ G H (Same.refl _) r (.bl i), fun _ _ _ k q => k _ _ q⟩
theorem de_str {i j} : DE X (.Constant (.str i) j pos) (eC (.str i)) := ⟨fun C => PE.imp pe_str fun σ H Q ⟨G, ρ, r, q⟩ => q _ G H (Same.refl _) r (.str i), fun _ _ _ k q => k _ _ q⟩
theorem de_non {j} : DE X (.Constant .none j pos) (eC .none) := ⟨fun C => PE.imp pe_non fun σ H Q ⟨G, ρ, r, q⟩ => q _ G H (Same.refl _) r .non, fun _ _ _ k q => k _ _ q⟩

/-! ### lists of expressions -/
def aNil : DTL := fun ρ Q => Q [] ρ
def aCons (t : DTE) (u : DTL) : DTL := fun ρ Q => t ρ fun d ρ1 => u ρ1 fun ds ρ2 => Q (d :: ds) ρ2
theorem da_nil : DA X [] aNil := ⟨fun C => PA.imp pa_nil fun σ H Q ⟨G, ρ, r, q⟩ => q [] G H (Same.refl _) r .nil, fun _ _ _ k q => k _ _ q⟩
theorem da_cons {t : DTE} {u : DTL} (h1 : DE X e t) (h2 : DA X es u) (hs : starEach (e :: es) X.env = (false, eval e X.env) :: starEach es X.env := by rfl) : DA X (e :: es) (aCons t u) where
  run C := PA.imp (pa_cons (h1.run C) (h2.run C) hs) fun σ H Q ⟨G, ρ, r, q⟩ =>
    goE h1.mono r q fun d ρ1 v G1 H1 p s1 r1 d1 => goA h2.mono r1 p fun ds ρ2 vs G2 H2 p2 s2 r2 d2 => p2 (v :: vs) G2 H2 (s1.trans s2) r2 (.cons (Dp.mo s2 d v d1) d2)
  mono ρ Q Q' k q := h1.mono _ _ _ (fun d ρ1 p => h2.mono _ _ _ (fun ds ρ2 => k _ ρ2) p) q
def osNil : DTOs := fun ρ Q => Q [] ρ
def osCons (t : DTO) (u : DTOs) : DTOs := fun ρ Q => t ρ fun d ρ1 => u ρ1 fun ds ρ2 => Q (d :: ds) ρ2
theorem dos_nil : DOs X [] osNil := ⟨fun C => PA.imp pa_nil fun σ H Q ⟨G, ρ, r, q⟩ => q [] G H (Same.refl _) r .nil, fun _ _ _ k q => k _ _ q⟩
theorem dos_cons {t : DTO} {u : DTOs} (h1 : DO X e t) (h2 : DOs X es u) (hs : starEach (e :: es) X.env = (false, eval e X.env) :: starEach es X.env := by rfl) : DOs X (e :: es) (osCons t u) where
  run C := PA.imp (pa_cons (h1.run C) (h2.run C) hs) fun σ H Q ⟨G, ρ, r, q⟩ =>
    goO h1.mono r q fun d ρ1 v G1 H1 p s1 r1 d1 => goOs h2.mono r1 p fun ds ρ2 vs G2 H2 p2 s2 r2 d2 => p2 (v :: vs) G2 H2 (s1.trans s2) r2 (.cons (d1.mo s2) d2)
  mono ρ Q Q' k q := h1.mono _ _ _ (fun d ρ1 p => h2.mono _ _ _ (fun ds ρ2 => k _ ρ2) p) q

/-! ### displays -/
def eTup (t : DTL) : DTE := fun ρ Q => t ρ fun ds ρ' => ds.length ≤ sizeLine ∧ Q (.tuple ds) ρ'
theorem de_tup {t : DTL} {x1} (h : DA X es t) : DE X (.Tuple es x1 pos) (eTup t) where
  run C := PE.imp (pe_tup (h.run C)) fun σ H Q ⟨G, ρ, r, q⟩ => goA h.mono r q fun ds ρ1 vs G1 H1 p s1 r1 d1 =>
    ⟨by rw [DpAll.len d1]; exact p.1, fun a ha => p.2 (.ref a) _ _ (s1.trans (same_upd (r1.free ha))) (r1.new ha) (.tup (.inl (.inl upd_same)) (DpAll.mo (same_upd (r1.free ha)) _ _ d1))⟩
  mono ρ Q Q' k q := h.mono _ _ _ (fun ds ρ' p => ⟨p.1, k _ _ p.2⟩) q
def fLst (t : DTL) : DTL := fun ρ Q => t ρ fun ds ρ' => ds.length ≤ sizeLine ∧ Q ds ρ'
theorem df_lst {t : DTL} (h : DA X es t) : DF X (.List es pos) (fLst t) where
  run C := PE.imp (pe_lst (h.run C)) fun σ H Q ⟨G, ρ, r, q⟩ => goA h.mono r q fun ds ρ1 vs G1 H1 p s1 r1 d1 =>
    ⟨by rw [DpAll.len d1]; exact p.1, fun a ha => p.2 a vs G1 _ s1 (r1.newH ha) (r1.newF ha) d1⟩
  mono ρ Q Q' k q := h.mono _ _ _ (fun ds ρ' p => ⟨p.1, k _ _ p.2⟩) q
end
end DL

namespace DL
open PySem L2

/-! ## operations by data -/
/-- what an operation may end with: a value that shows data, a new list, a new tuple -/
structure Kon (K : PySem.W.Frag) (G H : Hp) (Qd : PyData → Prop) (Q : VK) : Prop where
  v : ∀ z w, Qd z → Dp K G w z → Q w H
  l : ∀ ds vs p, Qd (.list ds) → H p = none → DpAll K G vs ds → Q (.ref p) (upd H p (.lst vs))
  t : ∀ ds vs p, Qd (.tuple ds) → H p = none → DpAll K G vs ds → Q (.ref p) (upd H p (.tup vs))
theorem Kon.of {K : PySem.W.Frag} {C : DC} {G H : Hp} {ρ : DS} {σ : St} {P : PyData → DS → Prop} {Q : VK} (r : Rel K C G ρ σ H)
    (k : ∀ d, P d ρ → ∀ v G' H', Same G G' → Rel K C G' ρ σ H' → Dp K G' v d → Q v H') : Kon K G H (fun d => P d ρ) Q where
  v z w q d := k z q w G H (Same.refl _) r d
  l ds vs p q hp d := k _ q _ _ _ (same_upd (r.free hp)) (r.new hp) (.lst (.inl (.inl upd_same)) (DpAll.mo (same_upd (r.free hp)) _ _ d))
  t ds vs p q hp d := k _ q _ _ _ (same_upd (r.free hp)) (r.new hp) (.tup (.inl (.inl upd_same)) (DpAll.mo (same_upd (r.free hp)) _ _ d))

abbrev D1 := PyData → (PyData → Prop) → Prop
abbrev D2 := PyData → PyData → (PyData → Prop) → Prop
abbrev D2F := PyData → PyData → (List PyData → Prop) → Prop
abbrev DCl := List PyData → (PyData → Prop) → Prop
structure OpD (X : Cx) (f : Value → Value → Sem Value) (r : D2) : Prop where
  mono : ∀ d e Q Q', (∀ z, Q z → Q' z) → r d e Q → r d e Q'
  ok : ∃ r0 : R2, OpR X f r0 ∧ ∀ (G H : Hp) (x y : V) (d e : PyData) (Q : VK) (Qd : PyData → Prop), Same G H → Dv X.K G H x d → Dv X.K G H y e → r d e Qd → Kon X.K G H Qd Q → r0 x y H Q
structure UnD (X : Cx) (f : Value → Sem Value) (r : D1) : Prop where
  mono : ∀ d Q Q', (∀ z, Q z → Q' z) → r d Q → r d Q'
  ok : ∃ r0 : V → Hp → VK → Prop, UnR X f r0 ∧ ∀ (G H : Hp) (x : V) (d : PyData) (Q : VK) (Qd : PyData → Prop), Same G H → Dv X.K G H x d → r d Qd → Kon X.K G H Qd Q → r0 x H Q
structure IxD (X : Cx) (r : D2) : Prop where
  mono : ∀ d e Q Q', (∀ z, Q z → Q' z) → r d e Q → r d e Q'
  ok : ∃ r0 : R2, IxR X r0 ∧ ∀ (G H : Hp) (x y : V) (d e : PyData) (Q : VK) (Qd : PyData → Prop), Same G H → Dv X.K G H x d → Dv X.K G H y e → r d e Qd → Kon X.K G H Qd Q → r0 x y H Q
inductive DvAll (K : PySem.W.Frag) (G H : Hp) : List V → List PyData → Prop
  | nil : DvAll K G H [] []
  | cons {v vs d ds} : Dv K G H v d → DvAll K G H vs ds → DvAll K G H (v :: vs) (d :: ds)
structure ClD (X : Cx) (f : Value) (r : DCl) : Prop where
  mono : ∀ ds Q Q', (∀ z, Q z → Q' z) → r ds Q → r ds Q'
  ok : ∃ r0 : List V → Hp → VK → Prop, CallR X f r0 ∧ ∀ (G H : Hp) (vs : List V) (ds : List PyData) (Q : VK) (Qd : PyData → Prop), Same G H → DvAll X.K G H vs ds → r ds Qd → Kon X.K G H Qd Q → r0 vs H Q
/-- a call that gives a new list -/
structure ClF (X : Cx) (f : Value) (r : List PyData → (List PyData → Prop) → Prop) : Prop where
  mono : ∀ ds Q Q', (∀ z, Q z → Q' z) → r ds Q → r ds Q'
  ok : ∃ r0 : List V → Hp → VK → Prop, CallR X f r0 ∧ ∀ (G H : Hp) (vs : List V) (ds : List PyData) (Q : VK) (Qd : List PyData → Prop), Same G H → DvAll X.K G H vs ds → r ds Qd →
    (∀ ds vs p, Qd ds → H p = none → DpAll X.K G vs ds → Q (.ref p) (upd H p (.lst vs))) → r0 vs H Q
structure OpF (X : Cx) (f : Value → Value → Sem Value) (r : D2F) : Prop where
  mono : ∀ d e Q Q', (∀ z, Q z → Q' z) → r d e Q → r d e Q'
  ok : ∃ r0 : R2, OpR X f r0 ∧ ∀ (G H : Hp) (x y : V) (d e : PyData) (Q : VK) (Qd : List PyData → Prop), Same G H → Dv X.K G H x d → Dv X.K G H y e → r d e Qd →
    (∀ ds vs p, Qd ds → H p = none → DpAll X.K G vs ds → Q (.ref p) (upd H p (.lst vs))) → r0 x y H Q

section
variable {X : Cx} {e a b c : Expr} {es : List Expr} {pos : Pos}
def eOp (r : D2) (ta tb : DTO) : DTE := fun ρ Q => ta ρ fun w1 ρ1 => tb ρ1 fun w2 ρ2 => match w1 ρ2, w2 ρ2 with
  | some x, some y => r x y fun z => Q z ρ2
  | _, _ => False
theorem eOp_mono {r : D2} {ta tb : DTO} (hm : ∀ d e Q Q', (∀ z, Q z → Q' z) → r d e Q → r d e Q') (h1 : DO X a ta) (h2 : DO X b tb) : ∀ ρ Q Q', (∀ d ρ', Q d ρ' → Q' d ρ') → eOp r ta tb ρ Q → eOp r ta tb ρ Q' := fun ρ Q Q' k q =>
  h1.mono _ _ _ (fun w1 ρ1 p => h2.mono _ _ _ (fun w2 ρ2 p2 => by
    (try dsimp only at p2); (try dsimp only)
    split
    · rename_i x y e1 e2
      rw [e1, e2] at p2
      exact hm _ _ _ _ (fun z => k z ρ2) p2
    · rename_i hno
      split at p2
      · rename_i x y e1 e2
        exact (hno _ _ e1 e2).elim
      · exact p2) p) q
/-- the HandS form of an operation's reading, from the data form -/
theorem eOp_run {r : D2} {ta tb : DTO} {r0 : R2} {C : DC} (h1 : DO X a ta) (h2 : DO X b tb)
    (hk : ∀ (G H : Hp) (x y : V) (d e : PyData) (Q : VK) (Qd : PyData → Prop), Same G H → Dv X.K G H x d → Dv X.K G H y e → r d e Qd → Kon X.K G H Qd Q → r0 x y H Q) :
    ∀ σ H Q, liftE X.K C (eOp r ta tb) σ H Q → tOp r0 (liftO X.K C ta) (liftO X.K C tb) σ H Q := fun σ H Q ⟨G, ρ, rl, q⟩ =>
  goO h1.mono rl q fun w1 ρ1 v1 G1 H1 p1 s1 r1 o1 => goO h2.mono r1 p1 fun w2 ρ2 v2 G2 H2 p2 s2 r2 o2 => by
    (try dsimp only at p2)
    split at p2
    · rename_i x y e1 e2
      exact hk G2 H2 v1 v2 x y Q _ r2.same (o1 G2 H2 ρ2 s2 r2 x e1) (o2 G2 H2 ρ2 (Same.refl _) r2 y e2) p2
        (Kon.of (P := fun d ρ' => ∀ v G' H', Same G G' → Rel X.K C G' ρ' σ H' → Dp X.K G' v d → Q v H') r2 fun d p v G' H' s r' dd => p v G' H' ((s1.trans s2).trans s) r' dd)
    · exact p2.elim
theorem de_op {op : Operator} {r : D2} {ta tb : DTO} (ho : OpD X (binaryOp op) r) (h1 : DO X a ta) (h2 : DO X b tb) : DE X (.BinOp a op b pos) (eOp r ta tb) where
  run C := by
    obtain ⟨r0, h0, hk⟩ := ho.ok
    exact PE.imp (pe_op h0 (h1.run C) (h2.run C)) (eOp_run h1 h2 hk)
  mono := eOp_mono ho.mono h1 h2
theorem de_cmp {op : CmpOp} {r : D2} {ta tb : DTO} (ho : OpD X (compareOp op) r) (h1 : DO X a ta) (h2 : DO X b tb) (hm : behindInMarks op b = false := by first | exact nobehind _ (by decide) (by decide) | rfl) : DE X (.Compare a [op] [b] pos) (eOp r ta tb) where
  run C := by
    obtain ⟨r0, h0, hk⟩ := ho.ok
    exact PE.imp (pe_cmpR h0 (h1.run C) (h2.run C) hm) (eOp_run h1 h2 hk)
  mono := eOp_mono ho.mono h1 h2
/-- a value as a test: a bool -/
def tE (t : DTE) : DTT := fun ρ Q => t ρ fun d ρ' => match d with
  | .bool b => Q b ρ'
  | _ => False
theorem tE_mono {t : DTE} (h : ∀ ρ Q Q', (∀ d ρ', Q d ρ' → Q' d ρ') → t ρ Q → t ρ Q') : ∀ ρ Q Q', (∀ d ρ', Q d ρ' → Q' d ρ') → tE t ρ Q → tE t ρ Q' := fun ρ Q Q' k q => h _ _ _ (fun d ρ' p => by
  cases d <;> first | exact k _ _ p | exact p) q
theorem dt_cmp {op : CmpOp} {r : D2} {ta tb : DTO} (ho : OpD X (compareOp op) r) (h1 : DO X a ta) (h2 : DO X b tb) (hm : behindInMarks op b = false := by first | exact nobehind _ (by decide) (by decide) | rfl) : DT X (.Compare a [op] [b] pos) (tE (eOp r ta tb)) where
  run C := by
    obtain ⟨r0, h0, hk⟩ := ho.ok
    refine PT.imp (pt_cmpR h0 (h1.run C) (h2.run C) hm) fun σ H Q h => ?_
    refine eOp_run (C := C) h1 h2 hk σ H _ ?_
    obtain ⟨G, ρ, r, q⟩ := h
    refine goE (eOp_mono ho.mono h1 h2) r q fun d ρ' v G' H' p s r' dp => ?_
    cases d <;> first | exact p.elim | skip
    cases dp
    exact ⟨_, rfl, p G' H' s r'⟩
  mono := tE_mono (eOp_mono ho.mono h1 h2)
/-- an expression that gives a bool, as a test -/
theorem dt_e {t : DTE} (h : DE X e t) (he : ∀ whole, isTrue e X.env whole = (do let v ← whole; standAt e.pos; holding [v] (truthy v)) := by intro _; rfl) : DT X e (tE t) where
  run C := PT.imp (pt_val (h.run C) he) fun σ H Q ⟨G, ρ, r, q⟩ => goE h.mono r q fun d ρ' v G' H' p s r' dp => by
    cases d <;> first | exact p.elim | skip
    cases dp
    exact ⟨_, rfl, p G' H' s r'⟩
  mono := tE_mono h.mono
/-! ### not, and, or, if else -/
def tNo (t : DTT) : DTT := fun ρ Q => t ρ fun b ρ' => Q (!b) ρ'
theorem dt_not {t : DTT} (h : DT X a t) : DT X (.UnaryOp .Not a pos) (tNo t) where
  run C := PT.imp (pt_not (h.run C)) fun σ H Q ⟨G, ρ, r, q⟩ => goT h.mono r q fun d ρ' G' H' p s r' => p G' H' s r'
  mono ρ Q Q' k q := h.mono _ _ _ (fun d ρ' => k _ ρ') q
def tAn (t u : DTT) : DTT := fun ρ Q => t ρ fun b ρ' => if b = true then u ρ' Q else Q false ρ'
def tOr' (t u : DTT) : DTT := fun ρ Q => t ρ fun b ρ' => if b = true then Q true ρ' else u ρ' Q
theorem dw_and1 {t : DTT} (h : DT X a t) : DW X (.BoolOp .And [a] pos) t := ⟨fun C => pw_and1 (h.run C), h.mono⟩
theorem dw_or1 {t : DTT} (h : DT X a t) : DW X (.BoolOp .Or [a] pos) t := ⟨fun C => pw_or1 (h.run C), h.mono⟩
theorem dw_and {t u : DTT} {rest : List Expr} (h1 : DT X a t) (h2 : DW X (.BoolOp .And (b :: rest) pos) u) : DW X (.BoolOp .And (a :: b :: rest) pos) (tAn t u) where
  run C := PW.imp (pw_and (h1.run C) (h2.run C)) fun σ H Q ⟨G, ρ, r, q⟩ => goT h1.mono r q fun d ρ' G' H' p s r' => by
    cases d with
    | true => exact goT h2.mono r' p fun d2 ρ2 G2 H2 p2 s2 r2 => p2 G2 H2 (s.trans s2) r2
    | false => exact p G' H' s r'
  mono ρ Q Q' k q := h1.mono _ _ _ (fun d ρ' p => by
    cases d with
    | true => exact h2.mono _ _ _ k p
    | false => exact k _ _ p) q
theorem dw_or {t u : DTT} {rest : List Expr} (h1 : DT X a t) (h2 : DW X (.BoolOp .Or (b :: rest) pos) u) : DW X (.BoolOp .Or (a :: b :: rest) pos) (tOr' t u) where
  run C := PW.imp (pw_or (h1.run C) (h2.run C)) fun σ H Q ⟨G, ρ, r, q⟩ => goT h1.mono r q fun d ρ' G' H' p s r' => by
    cases d with
    | false => exact goT h2.mono r' p fun d2 ρ2 G2 H2 p2 s2 r2 => p2 G2 H2 (s.trans s2) r2
    | true => exact p G' H' s r'
  mono ρ Q Q' k q := h1.mono _ _ _ (fun d ρ' p => by
    cases d with
    | false => exact h2.mono _ _ _ k p
    | true => exact k _ _ p) q
theorem DW.dt {t : DTT} (h : DW X e t) : DT X e t := ⟨fun C => (h.run C).pt, h.mono⟩
/-- as values: all but the last are bools -/
def eAnd (t u : DTE) : DTE := fun ρ Q => t ρ fun d ρ' => match d with
  | .bool true => u ρ' Q
  | .bool false => Q (.bool false) ρ'
  | _ => False
def eOr (t u : DTE) : DTE := fun ρ Q => t ρ fun d ρ' => match d with
  | .bool true => Q (.bool true) ρ'
  | .bool false => u ρ' Q
  | _ => False
theorem de_one {op} {t : DTE} (h : DE X a t) : DE X (.BoolOp op [a] pos) t := ⟨fun C => pe_one (h.run C), h.mono⟩
theorem de_and {t u : DTE} {rest : List Expr} (h1 : DE X a t) (h2 : DE X (.BoolOp .And (b :: rest) pos) u) : DE X (.BoolOp .And (a :: b :: rest) pos) (eAnd t u) where
  run C := PE.imp (pe_and (h1.run C) (h2.run C)) fun σ H Q ⟨G, ρ, r, q⟩ => goE h1.mono r q fun d ρ' v G' H' p s r' dp => by
    cases d <;> first | exact p.elim | skip
    rename_i bb
    cases dp
    refine ⟨_, rfl, ?_⟩
    cases bb with
    | true => exact goE h2.mono r' p fun d2 ρ2 v2 G2 H2 p2 s2 r2 => p2 v2 G2 H2 (s.trans s2) r2
    | false => exact p _ G' H' s r' (.bl false)
  mono ρ Q Q' k q := h1.mono _ _ _ (fun d ρ' p => by
    cases d <;> first | exact p.elim | skip
    rename_i bb
    cases bb with
    | true => exact h2.mono _ _ _ k p
    | false => exact k _ _ p) q
theorem de_or {t u : DTE} {rest : List Expr} (h1 : DE X a t) (h2 : DE X (.BoolOp .Or (b :: rest) pos) u) : DE X (.BoolOp .Or (a :: b :: rest) pos) (eOr t u) where
  run C := PE.imp (pe_or (h1.run C) (h2.run C)) fun σ H Q ⟨G, ρ, r, q⟩ => goE h1.mono r q fun d ρ' v G' H' p s r' dp => by
    cases d <;> first | exact p.elim | skip
    rename_i bb
    cases dp
    refine ⟨_, rfl, ?_⟩
    cases bb with
    | false => exact goE h2.mono r' p fun d2 ρ2 v2 G2 H2 p2 s2 r2 => p2 v2 G2 H2 (s.trans s2) r2
    | true => exact p _ G' H' s r' (.bl true)
  mono ρ Q Q' k q := h1.mono _ _ _ (fun d ρ' p => by
    cases d <;> first | exact p.elim | skip
    rename_i bb
    cases bb with
    | false => exact h2.mono _ _ _ k p
    | true => exact k _ _ p) q
def eNot (t : DTE) : DTE := fun ρ Q => t ρ fun d ρ' => match d with
  | .bool b => Q (.bool (!b)) ρ'
  | _ => False
theorem de_not {t : DTE} (h : DE X a t) : DE X (.UnaryOp .Not a pos) (eNot t) where
  run C := PE.imp (pe_not (h.run C)) fun σ H Q ⟨G, ρ, r, q⟩ => goE h.mono r q fun d ρ' v G' H' p s r' dp => by
    cases d <;> first | exact p.elim | skip
    cases dp
    exact ⟨_, rfl, p _ G' H' s r' (.bl _)⟩
  mono ρ Q Q' k q := h.mono _ _ _ (fun d ρ' p => by cases d <;> first | exact p.elim | exact k _ _ p) q
def eIf (c : DTT) (t u : DTE) : DTE := fun ρ Q => c ρ fun b ρ' => if b = true then t ρ' Q else u ρ' Q
theorem de_if {tc : DTT} {t u : DTE} (hc : DT X c tc) (h1 : DE X a t) (h2 : DE X b u) : DE X (.IfExp c a b pos) (eIf tc t u) where
  run C := PE.imp (pe_ifExp (hc.run C) (h1.run C) (h2.run C)) fun σ H Q ⟨G, ρ, r, q⟩ => goT hc.mono r q fun d ρ' G' H' p s r' => by
    cases d with
    | true => exact goE h1.mono r' p fun d2 ρ2 v2 G2 H2 p2 s2 r2 => p2 v2 G2 H2 (s.trans s2) r2
    | false => exact goE h2.mono r' p fun d2 ρ2 v2 G2 H2 p2 s2 r2 => p2 v2 G2 H2 (s.trans s2) r2
  mono ρ Q Q' k q := hc.mono _ _ _ (fun d ρ' p => by
    cases d with
    | true => exact h1.mono _ _ _ k p
    | false => exact h2.mono _ _ _ k p) q
/-! ### one place -/
def eUn (r : D1) (t : DTO) : DTE := fun ρ Q => t ρ fun w ρ' => match w ρ' with
  | some x => r x fun z => Q z ρ'
  | none => False
theorem de_un {op : UnaryOp} {r : D1} {t : DTO} (ho : UnD X (unaryOp op) r) (h : DO X a t) : DE X (.UnaryOp op a pos) (eUn r t) where
  run C := by
    obtain ⟨r0, h0, hk⟩ := ho.ok
    exact PE.imp (pe_un h0 (h.run C)) fun σ H Q ⟨G, ρ, rl, q⟩ => goO h.mono rl q fun w ρ1 v G1 H1 p s1 r1 o1 => by
      (try dsimp only at p)
      split at p
      · rename_i x e1
        exact hk G1 H1 v x Q _ r1.same (o1 G1 H1 ρ1 (Same.refl _) r1 x e1) p
          (Kon.of (P := fun d ρ' => ∀ v G' H', Same G G' → Rel X.K C G' ρ' σ H' → Dp X.K G' v d → Q v H') r1 fun d p v G' H' s r' dd => p v G' H' (s1.trans s) r' dd)
      · exact p.elim
  mono ρ Q Q' k q := h.mono _ _ _ (fun w ρ' p => by
    (try dsimp only at p); (try dsimp only)
    split
    · rename_i x e1
      rw [e1] at p
      exact ho.mono _ _ _ (fun z => k z ρ') p
    · rename_i e1
      rw [e1] at p
      exact p) q
/-! ### subscripts -/
theorem de_ix {r : D2} {ta tb : DTO} (ho : IxD X r) (h1 : DO X a ta) (h2 : DO X b tb) (hs : PlainIx b := by intro _ _; rfl) : DE X (.Subscript a b pos) (eOp r ta tb) where
  run C := by
    obtain ⟨r0, h0, hk⟩ := ho.ok
    exact PE.imp (pe_ix h0 (h1.run C) (h2.run C) hs) (eOp_run h1 h2 hk)
  mono := eOp_mono ho.mono h1 h2
/-! ### calls of built-ins -/
def vws (ρ : DS) : List Vw → Option (List PyData)
  | [] => some []
  | w :: ws => match w ρ, vws ρ ws with
    | some d, some ds => some (d :: ds)
    | _, _ => none
theorem vws_ok {K : PySem.W.Frag} {C : DC} {G H : Hp} {ρ : DS} {σ : St} (r : Rel K C G ρ σ H) : ∀ {vs : List V} {ws : List Vw} {ds : List PyData}, VwAll K C G σ vs ws → vws ρ ws = some ds → DvAll K G H vs ds
  | _, _, _, .nil, e => by
    cases e
    exact .nil
  | _, _, _, .cons h1 h2, e => by
    unfold vws at e
    split at e
    · rename_i d ds e1 e2
      cases e
      exact .cons (h1 G H ρ (Same.refl _) r d e1) (vws_ok r h2 e2)
    · cases e
def eCl (r : DCl) (t : DTOs) : DTE := fun ρ Q => t ρ fun ws ρ' => match vws ρ' ws with
  | some ds => r ds fun z => Q z ρ'
  | none => False
theorem eCl_mono {r : DCl} {t : DTOs} (hm : ∀ ds Q Q', (∀ z, Q z → Q' z) → r ds Q → r ds Q') (h : DOs X es t) : ∀ ρ Q Q', (∀ d ρ', Q d ρ' → Q' d ρ') → eCl r t ρ Q → eCl r t ρ Q' := fun ρ Q Q' k q => h.mono _ _ _ (fun w ρ' p => by
    (try dsimp only at p); (try dsimp only)
    split
    · rename_i x e1
      rw [e1] at p
      exact hm _ _ _ (fun z => k z ρ') p
    · rename_i e1
      rw [e1] at p
      exact p) q
theorem eCl_run {r : DCl} {t : DTOs} {r0 : List V → Hp → VK → Prop} {C : DC} (h : DOs X es t)
    (hk : ∀ (G H : Hp) (vs : List V) (ds : List PyData) (Q : VK) (Qd : PyData → Prop), Same G H → DvAll X.K G H vs ds → r ds Qd → Kon X.K G H Qd Q → r0 vs H Q) :
    ∀ σ H Q, liftE X.K C (eCl r t) σ H Q → tCB r0 (liftOs X.K C t) σ H Q := fun σ H Q ⟨G, ρ, rl, q⟩ =>
  goOs h.mono rl q fun ws ρ1 vs G1 H1 p s1 r1 o1 => by
    (try dsimp only at p)
    split at p
    · rename_i x e1
      exact hk G1 H1 vs x Q _ r1.same (vws_ok r1 o1 e1) p
        (Kon.of (P := fun d ρ' => ∀ v G' H', Same G G' → Rel X.K C G' ρ' σ H' → Dp X.K G' v d → Q v H') r1 fun d p v G' H' s r' dd => p v G' H' (s1.trans s) r' dd)
    · exact p.elim
theorem de_callB {x : Str} {p : Pos} {id : String} {r : DCl} {t : DTOs} (hc : ClD X (.builtin id) r) (hg : Gl X x) (hm : X.mg x = none) (hv : bootBuiltins x = some (.builtin id)) (ha : DOs X (e :: es) t) (hn : x ≠ "__name__" := by decide) (hdb : (x == ("__debug__" : Str)) = false := by decide)
    (he : starEach (e :: es) X.env = (false, eval e X.env) :: starEach es X.env := by rfl) (hpl : (backTo pos (starEach es X.env)).any (·.1) = false := by rfl) : DE X (.Call (.Name x p) (e :: es) [] pos) (eCl r t) where
  run C := by
    obtain ⟨r0, h0, hk⟩ := hc.ok
    exact PE.imp (pe_callB h0 hg hm hv (ha.run C) hn hdb he hpl) (eCl_run ha hk)
  mono := eCl_mono hc.mono ha
theorem de_callTy {x : Str} {p : Pos} {id : String} {r : DCl} {t : DTOs} (hc : ClD X (.type id) r) (hg : Gl X x) (hm : X.mg x = none) (hv : bootBuiltins x = some (.type id)) (ha : DOs X (e :: es) t) (hn : x ≠ "__name__" := by decide) (hdb : (x == ("__debug__" : Str)) = false := by decide)
    (he : starEach (e :: es) X.env = (false, eval e X.env) :: starEach es X.env := by rfl) (hpl : (backTo pos (starEach es X.env)).any (·.1) = false := by rfl) : DE X (.Call (.Name x p) (e :: es) [] pos) (eCl r t) where
  run C := by
    obtain ⟨r0, h0, hk⟩ := hc.ok
    exact PE.imp (pe_callTy h0 hg hm hv (ha.run C) hn hdb he hpl) (eCl_run ha hk)
  mono := eCl_mono hc.mono ha
/-- .. that give a new list -/
def fCl (r : List PyData → (List PyData → Prop) → Prop) (t : DTOs) : DTL := fun ρ Q => t ρ fun ws ρ' => match vws ρ' ws with
  | some ds => r ds fun z => Q z ρ'
  | none => False
theorem fCl_mono {r : List PyData → (List PyData → Prop) → Prop} {t : DTOs} (hm : ∀ ds Q Q', (∀ z, Q z → Q' z) → r ds Q → r ds Q') (h : DOs X es t) : ∀ ρ Q Q', (∀ d ρ', Q d ρ' → Q' d ρ') → fCl r t ρ Q → fCl r t ρ Q' := fun ρ Q Q' k q => h.mono _ _ _ (fun w ρ' p => by
    (try dsimp only at p); (try dsimp only)
    split
    · rename_i x e1
      rw [e1] at p
      exact hm _ _ _ (fun z => k z ρ') p
    · rename_i e1
      rw [e1] at p
      exact p) q
theorem fCl_run {r : List PyData → (List PyData → Prop) → Prop} {t : DTOs} {r0 : List V → Hp → VK → Prop} {C : DC} (h : DOs X es t)
    (hk : ∀ (G H : Hp) (vs : List V) (ds : List PyData) (Q : VK) (Qd : List PyData → Prop), Same G H → DvAll X.K G H vs ds → r ds Qd → (∀ ds vs p, Qd ds → H p = none → DpAll X.K G vs ds → Q (.ref p) (upd H p (.lst vs))) → r0 vs H Q) :
    ∀ σ H Q, liftF X.K C (fCl r t) σ H Q → tCB r0 (liftOs X.K C t) σ H Q := fun σ H Q ⟨G, ρ, rl, q⟩ =>
  goOs h.mono rl q fun ws ρ1 vs G1 H1 p s1 r1 o1 => by
    (try dsimp only at p)
    split at p
    · rename_i x e1
      exact hk G1 H1 vs x Q _ r1.same (vws_ok r1 o1 e1) p fun ds us a q hp dd => q a us G1 _ s1 (r1.newH hp) (r1.newF hp) dd
    · exact p.elim
theorem df_callB {x : Str} {p : Pos} {id : String} {r : List PyData → (List PyData → Prop) → Prop} {t : DTOs} (hc : ClF X (.builtin id) r) (hg : Gl X x) (hm : X.mg x = none) (hv : bootBuiltins x = some (.builtin id)) (ha : DOs X (e :: es) t) (hn : x ≠ "__name__" := by decide) (hdb : (x == ("__debug__" : Str)) = false := by decide)
    (he : starEach (e :: es) X.env = (false, eval e X.env) :: starEach es X.env := by rfl) (hpl : (backTo pos (starEach es X.env)).any (·.1) = false := by rfl) : DF X (.Call (.Name x p) (e :: es) [] pos) (fCl r t) where
  run C := by
    obtain ⟨r0, h0, hk⟩ := hc.ok
    exact PE.imp (pe_callB h0 hg hm hv (ha.run C) hn hdb he hpl) (fCl_run ha hk)
  mono := fCl_mono hc.mono ha
theorem df_callTy {x : Str} {p : Pos} {id : String} {r : List PyData → (List PyData → Prop) → Prop} {t : DTOs} (hc : ClF X (.type id) r) (hg : Gl X x) (hm : X.mg x = none) (hv : bootBuiltins x = some (.type id)) (ha : DOs X (e :: es) t) (hn : x ≠ "__name__" := by decide) (hdb : (x == ("__debug__" : Str)) = false := by decide)
    (he : starEach (e :: es) X.env = (false, eval e X.env) :: starEach es X.env := by rfl) (hpl : (backTo pos (starEach es X.env)).any (·.1) = false := by rfl) : DF X (.Call (.Name x p) (e :: es) [] pos) (fCl r t) where
  run C := by
    obtain ⟨r0, h0, hk⟩ := hc.ok
    exact PE.imp (pe_callTy h0 hg hm hv (ha.run C) hn hdb he hpl) (fCl_run ha hk)
  mono := fCl_mono hc.mono ha
def fOp (r : D2F) (ta tb : DTO) : DTL := fun ρ Q => ta ρ fun w1 ρ1 => tb ρ1 fun w2 ρ2 => match w1 ρ2, w2 ρ2 with
  | some x, some y => r x y fun z => Q z ρ2
  | _, _ => False
theorem df_op {op : Operator} {r : D2F} {ta tb : DTO} (ho : OpF X (binaryOp op) r) (h1 : DO X a ta) (h2 : DO X b tb) : DF X (.BinOp a op b pos) (fOp r ta tb) where
  run C := by
    obtain ⟨r0, h0, hk⟩ := ho.ok
    refine PE.imp (pe_op h0 (h1.run C) (h2.run C)) fun σ H Q ⟨G, ρ, rl, q⟩ =>
      goO h1.mono rl q fun w1 ρ1 v1 G1 H1 p1 s1 r1 o1 => goO h2.mono r1 p1 fun w2 ρ2 v2 G2 H2 p2 s2 r2 o2 => ?_
    (try dsimp only at p2)
    split at p2
    · rename_i x y e1 e2
      exact hk G2 H2 v1 v2 x y Q _ r2.same (o1 G2 H2 ρ2 s2 r2 x e1) (o2 G2 H2 ρ2 (Same.refl _) r2 y e2) p2 fun ds us a q hp dd => q a us G2 _ (s1.trans s2) (r2.newH hp) (r2.newF hp) dd
    · exact p2.elim
  mono ρ Q Q' k q := h1.mono _ _ _ (fun w1 ρ1 p => h2.mono _ _ _ (fun w2 ρ2 p2 => by
    (try dsimp only at p2); (try dsimp only)
    split
    · rename_i x y e1 e2
      rw [e1, e2] at p2
      exact ho.mono _ _ _ _ (fun z => k z ρ2) p2
    · rename_i hno
      split at p2
      · rename_i x y e1 e2
        exact (hno _ _ e1 e2).elim
      · exact p2) p) q
end
end DL

namespace DL
open PySem L2

theorem OpR.or {X : Cx} {f : Value → Value → Sem Value} {r r' : R2} (h : OpR X f r) (h' : OpR X f r') : OpR X f (fun x y H Q => r x y H Q ∨ r' x y H Q) := by
  intro pins s σ H x y v u Q I rx ry q
  rcases q with q | q
  · exact h pins s σ H x y v u Q I rx ry q
  · exact h' pins s σ H x y v u Q I rx ry q

section
variable {X : Cx}
/-! ### arithmetic -/
def rCatL (K : PySem.W.Frag) : R2 := fun x y H Q => ∃ a b xs ys, x = .ref a ∧ y = .ref b ∧ SqL K H a xs ∧ SqL K H b ys ∧ xs.length + ys.length ≤ sizeLine ∧ ∀ p, H p = none → Q (.ref p) (upd H p (.lst (xs ++ ys)))
theorem op_catL : OpR X (binaryOp .Add) (rCatL X.K) := by
  intro pins s σ H x y v u Q I rx ry h
  obtain ⟨l, b, xs, zs, rfl, rfl, hH, hB, hz, q⟩ := h
  cases rx
  cases ry
  obtain ⟨vs, r, pl, z1⟩ := I.list hH
  obtain ⟨ws, r2, pl2, z2⟩ := I.list hB
  have e1 := r.length
  have e2 := r2.length
  obtain ⟨⟨cls, dd, data, sl⟩, n, ho, hc, _, hd⟩ := pl
  obtain ⟨⟨cls2, dd2, data2, sl2⟩, n2, ho2, hc2, _, hd2⟩ := pl2
  simp only at hc hd hc2 hd2
  subst hc hd hc2 hd2
  have e : vs.toArray ++ ws.toArray = (vs ++ ws).toArray := by simp
  refine concat_meets ⟨_, ho, rfl⟩ ⟨_, ho2, rfl⟩ noFill_list_add seq_list_add PySem.F.slot_list_add PySem.F.entry_list_add (PySem.F.args_list_add_2 _ _) (PyProof.Rows.list_addW l b vs.toArray ws.toArray n n2 dd dd2 sl sl2 (by rw [List.size_toArray, List.size_toArray]; omega)) ⟨ho, ho2, ?_⟩
  rw [e]
  exact ⟨.ref _, _, I.lnew (t' := s.toks) (r.append r2) (by rw [List.length_append]; omega), rfl, q _ I.fresh⟩

def dAdd : D2 := fun d e Q => match d, e with
  | .int i, .int j => Q (.int (i + j))
  | .str i, .str j => i.length + j.length ≤ sizeLine ∧ Q (.str (i ++ j))
  | .list xs, .list ys => xs.length + ys.length ≤ sizeLine ∧ Q (.list (xs ++ ys))
  | .tuple xs, .tuple ys => xs.length + ys.length ≤ sizeLine ∧ Q (.tuple (xs ++ ys))
  | _, _ => False
theorem od_add : OpD X (binaryOp .Add) dAdd where
  mono d e Q Q' k q := by
    unfold dAdd at q ⊢
    split at q <;> first | exact k _ q | exact ⟨q.1, k _ q.2⟩ | exact q.elim
  ok := ⟨_, OpR.or op_add (OpR.or op_add_str (OpR.or op_catL op_catA)), fun G H x y d e Q Qd s hx hy q K => by
    unfold dAdd at q
    split at q
    · rw [hx.int, hy.int]
      exact .inl ⟨_, _, rfl, rfl, K.v _ _ q (.int _)⟩
    · rw [hx.str, hy.str]
      exact .inr (.inl ⟨_, _, rfl, rfl, q.1, K.v _ _ q.2 (.str _)⟩)
    · obtain ⟨a, vs, rfl, h1, h2⟩ := hx.lst s
      obtain ⟨b, ws, rfl, h3, h4⟩ := hy.lst s
      exact .inr (.inr (.inl ⟨a, b, vs, ws, rfl, rfl, h1, h3, by rw [DpAll.len h2, DpAll.len h4]; exact q.1, fun p hp => K.l _ _ p q.2 hp (DpAll.app h2 h4)⟩))
    · rcases hx with hx | ⟨_, _, _, _, e, _⟩
      rcases hy with hy | ⟨_, _, _, _, e, _⟩
      · obtain ⟨a, vs, rfl, h1, h2⟩ := Dv.tup s (.inl hx)
        obtain ⟨b, ws, rfl, h3, h4⟩ := Dv.tup s (.inl hy)
        refine .inr (.inr (.inr ⟨a, b, vs, ws, rfl, rfl, h1, h3, by rw [DpAll.len h2, DpAll.len h4]; exact q.1, fun e => ?_, fun _ e => ?_, fun _ _ p hp => K.t _ _ p q.2 hp (DpAll.app h2 h4)⟩))
        · subst e
          cases h2
          exact K.v _ _ q.2 hy
        · subst e
          cases h4
          refine K.v _ _ q.2 ?_
          rw [List.append_nil]
          exact hx
      · cases e
      · cases e
    · exact q.elim⟩
def dSub : D2 := fun d e Q => match d, e with
  | .int i, .int j => Q (.int (i - j))
  | _, _ => False
theorem od_sub : OpD X (binaryOp .Sub) dSub where
  mono d e Q Q' k q := by
    unfold dSub at q ⊢
    split at q <;> first | exact k _ q | exact q.elim
  ok := ⟨_, op_sub, fun G H x y d e Q Qd s hx hy q K => by
    unfold dSub at q
    split at q
    · rw [hx.int, hy.int]
      exact ⟨_, _, rfl, rfl, K.v _ _ q (.int _)⟩
    · exact q.elim⟩
/-- what a product may be -/
def MulOk (i j : Int) : Prop := CMul i j ∨ CMulW i j
def dMul : D2 := fun d e Q => match d, e with
  | .int i, .int j => MulOk i j ∧ Q (.int (i * j))
  | .list xs, .int k => -(2 ^ 63) ≤ k ∧ k < 2 ^ 63 ∧ xs.length * k.toNat ≤ sizeLine ∧ False ∧ Q (.list (List.replicate k.toNat xs).flatten)
  | _, _ => False
theorem od_mul : OpD X (binaryOp .Mult) dMul where
  mono d e Q Q' k q := by
    unfold dMul at q ⊢
    split at q <;> first | exact ⟨q.1, k _ q.2⟩ | exact q.2.2.2.1.elim | exact q.elim
  ok := ⟨_, OpR.or op_mul op_mulW, fun G H x y d e Q Qd s hx hy q K => by
    unfold dMul at q
    split at q
    · rw [hx.int, hy.int]
      rcases q.1 with h | h
      · exact .inl ⟨_, _, rfl, rfl, h, K.v _ _ q.2 (.int _)⟩
      · exact .inr ⟨_, _, rfl, rfl, h, K.v _ _ q.2 (.int _)⟩
    · exact q.2.2.2.1.elim
    · exact q.elim⟩
/-- what a divisor may be -/
def DivOk (j : Int) : Prop := j ≠ 0 ∧ j.natAbs.log2 < 9000
def dFdiv : D2 := fun d e Q => match d, e with
  | .int i, .int j => DivOk j ∧ Q (.int (i.fdiv j))
  | _, _ => False
theorem op_fdivD : OpR X (binaryOp .FloorDiv) (rI (fun _ j => DivOk j) fun i j => .int (i.fdiv j)) := opI fun i j _ _ _ _ _ hc q => PyProof.Rows.floordiv_int hc.1 q (.inl (PyProof.noPylong_of_log2 hc.2))
theorem od_fdiv : OpD X (binaryOp .FloorDiv) dFdiv where
  mono d e Q Q' k q := by
    unfold dFdiv at q ⊢
    split at q <;> first | exact ⟨q.1, k _ q.2⟩ | exact q.elim
  ok := ⟨_, op_fdivD, fun G H x y d e Q Qd s hx hy q K => by
    unfold dFdiv at q
    split at q
    · rw [hx.int, hy.int]
      exact ⟨_, _, rfl, rfl, q.1, K.v _ _ q.2 (.int _)⟩
    · exact q.elim⟩
def dMod : D2 := fun d e Q => match d, e with
  | .int i, .int j => j ≠ 0 ∧ Q (.int (i.fmod j))
  | _, _ => False
theorem od_mod : OpD X (binaryOp .Mod) dMod where
  mono d e Q Q' k q := by
    unfold dMod at q ⊢
    split at q <;> first | exact ⟨q.1, k _ q.2⟩ | exact q.elim
  ok := ⟨_, op_modN, fun G H x y d e Q Qd s hx hy q K => by
    unfold dMod at q
    split at q
    · rw [hx.int, hy.int]
      exact ⟨_, _, rfl, rfl, q.1, K.v _ _ q.2 (.int _)⟩
    · exact q.elim⟩
def dPow : D2 := fun d e Q => match d, e with
  | .int i, .int j => CPow i j ∧ Q (.int (i ^ j.toNat))
  | _, _ => False
theorem od_pow : OpD X (binaryOp .Pow) dPow where
  mono d e Q Q' k q := by
    unfold dPow at q ⊢
    split at q <;> first | exact ⟨q.1, k _ q.2⟩ | exact q.elim
  ok := ⟨_, op_pow, fun G H x y d e Q Qd s hx hy q K => by
    unfold dPow at q
    split at q
    · rw [hx.int, hy.int]
      exact ⟨_, _, rfl, rfl, q.1, K.v _ _ q.2 (.int _)⟩
    · exact q.elim⟩
def dNeg : D1 := fun d Q => match d with
  | .int i => Q (.int (-i))
  | _ => False
theorem ud_neg : UnD X (unaryOp .USub) dNeg where
  mono d Q Q' k q := by
    unfold dNeg at q ⊢
    split at q <;> first | exact k _ q | exact q.elim
  ok := ⟨_, un_neg, fun G H x d Q Qd s hx q K => by
    unfold dNeg at q
    split at q
    · rw [hx.int]
      exact ⟨_, rfl, K.v _ _ q (.int _)⟩
    · exact q.elim⟩
/-! ### comparisons -/
/-- the ints of data -/
def intsOf : List PyData → Option (List Int)
  | [] => some []
  | .int i :: ds => (intsOf ds).map (i :: ·)
  | _ :: _ => none
theorem intsOf_map : ∀ {ds : List PyData} {ns : List Int}, intsOf ds = some ns → ds = ns.map PyData.int
  | [], _, e => by cases e; rfl
  | .int i :: ds, ns, e => by
    unfold intsOf at e
    cases h : intsOf ds with
    | none => rw [h] at e; cases e
    | some ms =>
      rw [h] at e
      cases e
      rw [intsOf_map h]
      rfl
  | .none :: _, _, e => by cases e
  | .bool _ :: _, _, e => by cases e
  | .str _ :: _, _, e => by cases e
  | .list _ :: _, _, e => by cases e
  | .tuple _ :: _, _, e => by cases e
  | .dict _ :: _, _, e => by cases e
theorem intsOf_ints : ∀ ns : List Int, intsOf (ns.map PyData.int) = some ns
  | [] => rfl
  | n :: ns => by
    show (intsOf (ns.map PyData.int)).map (n :: ·) = _
    rw [intsOf_ints ns]
    rfl
def dLt : D2 := fun d e Q => match d, e with
  | .int i, .int j => Q (.bool (decide (i < j)))
  | .tuple xs, .tuple ys => match intsOf xs, intsOf ys with
    | some ns, some ms => Q (.bool (HT.lexLt ns ms))
    | _, _ => False
  | _, _ => False
theorem od_lt (hu : X.A.units < cLine) : OpD X (compareOp .Lt) dLt where
  mono d e Q Q' k q := by
    unfold dLt at q ⊢
    split at q
    · exact k _ q
    · split at q <;> first | exact k _ q | exact q.elim
    · exact q.elim
  ok := ⟨_, OpR.or op_lt (op_ltT hu), fun G H x y d e Q Qd s hx hy q K => by
    unfold dLt at q
    split at q
    · rw [hx.int, hy.int]
      exact .inl ⟨_, _, rfl, rfl, K.v _ _ q (.bl _)⟩
    · split at q
      · rename_i xs ys ns ms e1 e2
        obtain ⟨a, vs, rfl, h1, h2⟩ := hx.tup s
        obtain ⟨b, ws, rfl, h3, h4⟩ := hy.tup s
        rw [intsOf_map e1] at h2
        rw [intsOf_map e2] at h4
        exact .inr ⟨a, b, ns, ms, rfl, rfl, by rw [← DpAll.ofInts h2]; exact h1, by rw [← DpAll.ofInts h4]; exact h3, K.v _ _ q (.bl _)⟩
      · exact q.elim
    · exact q.elim⟩
def dLe : D2 := fun d e Q => match d, e with
  | .int i, .int j => Q (.bool (decide (i ≤ j)))
  | _, _ => False
theorem od_le : OpD X (compareOp .LtE) dLe where
  mono d e Q Q' k q := by
    unfold dLe at q ⊢
    split at q <;> first | exact k _ q | exact q.elim
  ok := ⟨_, op_le, fun G H x y d e Q Qd s hx hy q K => by
    unfold dLe at q
    split at q
    · rw [hx.int, hy.int]
      exact ⟨_, _, rfl, rfl, K.v _ _ q (.bl _)⟩
    · exact q.elim⟩
def dGt : D2 := fun d e Q => match d, e with
  | .int i, .int j => Q (.bool (decide (j < i)))
  | _, _ => False
theorem od_gt : OpD X (compareOp .Gt) dGt where
  mono d e Q Q' k q := by
    unfold dGt at q ⊢
    split at q <;> first | exact k _ q | exact q.elim
  ok := ⟨_, op_gt, fun G H x y d e Q Qd s hx hy q K => by
    unfold dGt at q
    split at q
    · rw [hx.int, hy.int]
      exact ⟨_, _, rfl, rfl, K.v _ _ q (.bl _)⟩
    · exact q.elim⟩
def dGe : D2 := fun d e Q => match d, e with
  | .int i, .int j => Q (.bool (decide (j ≤ i)))
  | _, _ => False
theorem od_ge : OpD X (compareOp .GtE) dGe where
  mono d e Q Q' k q := by
    unfold dGe at q ⊢
    split at q <;> first | exact k _ q | exact q.elim
  ok := ⟨_, op_ge, fun G H x y d e Q Qd s hx hy q K => by
    unfold dGe at q
    split at q
    · rw [hx.int, hy.int]
      exact ⟨_, _, rfl, rfl, K.v _ _ q (.bl _)⟩
    · exact q.elim⟩
/-- == of data: both of a form that the model compares -/
def dEq : D2 := fun d e Q => SeqAt.shaped d = true ∧ SeqAt.shaped e = true ∧ Q (.bool (PyData.eqv d e))
def dNe : D2 := fun d e Q => SeqAt.shaped d = true ∧ SeqAt.shaped e = true ∧ Q (.bool (!PyData.eqv d e))
theorem od_eq (hu : X.A.units + 64 < cLine) : OpD X (compareOp .Eq) dEq where
  mono d e Q Q' k q := ⟨q.1, q.2.1, k _ q.2.2⟩
  ok := ⟨_, op_eqD hu, fun G H x y d e Q Qd s hx hy q K => ⟨d, e, hx.dp s, hy.dp s, q.1, q.2.1, K.v _ _ q.2.2 (.bl _)⟩⟩
theorem od_ne (hu : X.A.units + 64 < cLine) : OpD X (compareOp .NotEq) dNe where
  mono d e Q Q' k q := ⟨q.1, q.2.1, k _ q.2.2⟩
  ok := ⟨_, op_neD hu, fun G H x y d e Q Qd s hx hy q K => ⟨d, e, hx.dp s, hy.dp s, q.1, q.2.1, K.v _ _ q.2.2 (.bl _)⟩⟩
def dIn : D2 := fun d e Q => match e with
  | .list ds => SeqAt.shaped d = true ∧ SeqAt.shaped (.list ds) = true ∧ Q (.bool (ds.any fun z => PyData.eqv z d))
  | .tuple ds => SeqAt.shaped d = true ∧ SeqAt.shaped (.tuple ds) = true ∧ Q (.bool (ds.any fun z => PyData.eqv z d))
  | _ => False
def dNi : D2 := fun d e Q => match e with
  | .list ds => SeqAt.shaped d = true ∧ SeqAt.shaped (.list ds) = true ∧ Q (.bool (!ds.any fun z => PyData.eqv z d))
  | .tuple ds => SeqAt.shaped d = true ∧ SeqAt.shaped (.tuple ds) = true ∧ Q (.bool (!ds.any fun z => PyData.eqv z d))
  | _ => False
def rInTu (neg : Bool) (K : PySem.W.Frag) : R2 := fun x y H Q => ∃ d ds, Dp K H x d ∧ Dp K H y (.tuple ds) ∧ SeqAt.shaped d = true ∧ SeqAt.shaped (.tuple ds) = true ∧ Q (.bl (if neg then !ds.any fun z => PyData.eqv z d else ds.any fun z => PyData.eqv z d)) H
theorem op_inTu (hu : X.A.units + 65 < cLine) : OpR X (compareOp .In) (rInTu false X.K) := by
  intro pins s σ H x y v u Q I rx ry ⟨d, ds, hd, he, sd, se, q⟩
  obtain ⟨as, r1⟩ := Dp.reads I d x v hd rx
  obtain ⟨bs, r2⟩ := Dp.reads I (.tuple ds) y u he ry
  exact SeqAt.in_tuple_reads r2 r1 (SeqAt.canLay_of_shaped se) (SeqAt.canLay_of_shaped sd) (PyProof.Rows.room_in_shaped sd hu) ⟨.bl _, H, I, rfl, q⟩
theorem op_niTu (hu : X.A.units + 65 < cLine) : OpR X (compareOp .NotIn) (rInTu true X.K) := by
  intro pins s σ H x y v u Q I rx ry ⟨d, ds, hd, he, sd, se, q⟩
  obtain ⟨as, r1⟩ := Dp.reads I d x v hd rx
  obtain ⟨bs, r2⟩ := Dp.reads I (.tuple ds) y u he ry
  exact SeqAt.notIn_tuple_reads r2 r1 (SeqAt.canLay_of_shaped se) (SeqAt.canLay_of_shaped sd) (PyProof.Rows.room_in_shaped sd hu) ⟨.bl _, H, I, rfl, q⟩
theorem od_in (hu : X.A.units + 65 < cLine) : OpD X (compareOp .In) dIn where
  mono d e Q Q' k q := by
    unfold dIn at q ⊢
    split at q <;> first | exact ⟨q.1, q.2.1, k _ q.2.2⟩ | exact q.elim
  ok := ⟨_, OpR.or (op_inD hu) (op_inTu hu), fun G H x y d e Q Qd s hx hy q K => by
    unfold dIn at q
    split at q
    · exact .inl ⟨d, _, hx.dp s, hy.dp s, q.1, q.2.1, K.v _ _ q.2.2 (.bl _)⟩
    · exact .inr ⟨d, _, hx.dp s, hy.dp s, q.1, q.2.1, K.v _ _ q.2.2 (.bl _)⟩
    · exact q.elim⟩
theorem od_ni (hu : X.A.units + 65 < cLine) : OpD X (compareOp .NotIn) dNi where
  mono d e Q Q' k q := by
    unfold dNi at q ⊢
    split at q <;> first | exact ⟨q.1, q.2.1, k _ q.2.2⟩ | exact q.elim
  ok := ⟨_, OpR.or (op_notInD hu) (op_niTu hu), fun G H x y d e Q Qd s hx hy q K => by
    unfold dNi at q
    split at q
    · exact .inl ⟨d, _, hx.dp s, hy.dp s, q.1, q.2.1, K.v _ _ q.2.2 (.bl _)⟩
    · exact .inr ⟨d, _, hx.dp s, hy.dp s, q.1, q.2.1, K.v _ _ q.2.2 (.bl _)⟩
    · exact q.elim⟩
/-- is None; is True, is False of bools -/
def isNo : PyData → Bool
  | .none => true
  | _ => false
theorem isNo_iff {K : PySem.W.Frag} {G H : Hp} {v : V} {d : PyData} (h : Dv K G H v d) : decide (v = .non) = isNo d := by
  rcases h with h | ⟨a, vs, es, rfl, rfl, _, _⟩
  · cases h <;> simp [isNo]
  · simp [isNo]
def dIs : D2 := fun d e Q => match e with
  | .none => Q (.bool (isNo d))
  | .bool b => match d with
    | .bool a => Q (.bool (decide (a = b)))
    | _ => False
  | _ => False
def dIsn : D2 := fun d e Q => match e with
  | .none => Q (.bool (!isNo d))
  | .bool b => match d with
    | .bool a => Q (.bool (!decide (a = b)))
    | _ => False
  | _ => False
theorem od_is : OpD X (compareOp .Is) dIs where
  mono d e Q Q' k q := by
    unfold dIs at q ⊢
    split at q
    · exact k _ q
    · split at q <;> first | exact k _ q | exact q.elim
    · exact q.elim
  ok := ⟨_, OpR.or op_isN op_isBl, fun G H x y d e Q Qd s hx hy q K => by
    unfold dIs at q
    split at q
    · refine .inl ⟨hy.non, ?_⟩
      rw [isNo_iff hx]
      exact K.v _ _ q (.bl _)
    · split at q
      · exact .inr ⟨_, _, hx.bl, hy.bl, K.v _ _ q (.bl _)⟩
      · exact q.elim
    · exact q.elim⟩
theorem od_isn : OpD X (compareOp .IsNot) dIsn where
  mono d e Q Q' k q := by
    unfold dIsn at q ⊢
    split at q
    · exact k _ q
    · split at q <;> first | exact k _ q | exact q.elim
    · exact q.elim
  ok := ⟨_, OpR.or op_notN op_notBl, fun G H x y d e Q Qd s hx hy q K => by
    unfold dIsn at q
    split at q
    · refine .inl ⟨hy.non, ?_⟩
      rw [isNo_iff hx]
      exact K.v _ _ q (.bl _)
    · split at q
      · exact .inr ⟨_, _, hx.bl, hy.bl, K.v _ _ q (.bl _)⟩
      · exact q.elim
    · exact q.elim⟩
/-! ### subscripts -/
theorem atI_all {K : PySem.W.Frag} {G : Hp} {vs : List V} {ds : List PyData} {i : Int} {d : PyData} (h : DpAll K G vs ds) (e : atI ds i = some d) : ∃ v, atI vs i = some v ∧ Dp K G v d := by
  unfold atI at e ⊢
  rw [DpAll.len h]
  cases q : ixN ds.length i with
  | none => rw [q] at e; cases e
  | some j =>
    rw [q] at e
    exact DpAll.get h e
def dIx : D2 := fun d e Q => match d, e with
  | .list xs, .int i => match atI xs i with
    | some z => Q z
    | none => False
  | .tuple xs, .int i => match atI xs i with
    | some z => Q z
    | none => False
  | .str x, .int i => x.length ≤ sizeLine ∧ match atI x.cps.toList i with
    | some c => Q (.str ⟨#[c]⟩)
    | none => False
  | _, _ => False
theorem xd_ix : IxD X dIx where
  mono d e Q Q' k q := by
    unfold dIx at q ⊢
    split at q
    · split at q <;> first | exact k _ q | exact q.elim
    · split at q <;> first | exact k _ q | exact q.elim
    · refine ⟨q.1, ?_⟩
      have q2 := q.2
      split at q2 <;> first | exact k _ q2 | exact q2.elim
    · exact q.elim
  ok := ⟨_, ix_seq, fun G H x y d e Q Qd s hx hy q K => by
    unfold dIx at q
    split at q
    · split at q
      · rename_i e1
        obtain ⟨a, vs, rfl, h1, h2⟩ := hx.lst s
        obtain ⟨v, e2, dv⟩ := atI_all h2 e1
        exact .inl ⟨a, vs, _, v, rfl, hy.int, h1, e2, K.v _ _ q dv⟩
      · exact q.elim
    · split at q
      · rename_i e1
        obtain ⟨a, vs, rfl, h1, h2⟩ := hx.tup s
        obtain ⟨v, e2, dv⟩ := atI_all h2 e1
        exact .inr (.inl ⟨a, vs, _, v, rfl, hy.int, h1, e2, K.v _ _ q dv⟩)
      · exact q.elim
    · have q2 := q.2
      split at q2
      · rename_i e1
        exact .inr (.inr ⟨_, _, _, hx.str, hy.int, q.1, e1, K.v _ _ q2 (.str _)⟩)
      · exact q2.elim
    · exact q.elim⟩
/-! ### built-ins -/
theorem DvAll.one {K : PySem.W.Frag} {G H : Hp} {vs : List V} {d : PyData} (h : DvAll K G H vs [d]) : ∃ v, vs = [v] ∧ Dv K G H v d := by
  cases h with
  | cons h1 h2 => cases h2; exact ⟨_, rfl, h1⟩
theorem DvAll.two {K : PySem.W.Frag} {G H : Hp} {vs : List V} {d e : PyData} (h : DvAll K G H vs [d, e]) : ∃ v w, vs = [v, w] ∧ Dv K G H v d ∧ Dv K G H w e := by
  cases h with
  | cons h1 h2 =>
    obtain ⟨w, rfl, h3⟩ := h2.one
    exact ⟨_, _, rfl, h1, h3⟩
def cAbs : DCl := fun ds Q => match ds with
  | [.int i] => Q (.int (if i < 0 then -i else i))
  | _ => False
theorem cd_abs : ClD X (.builtin "abs") cAbs where
  mono ds Q Q' k q := by
    unfold cAbs at q ⊢
    split at q <;> first | exact k _ q | exact q.elim
  ok := ⟨_, call_abs, fun G H vs ds Q Qd s hv q K => by
    unfold cAbs at q
    split at q
    · obtain ⟨v, rfl, h⟩ := hv.one
      exact ⟨_, by rw [h.int], K.v _ _ q (.int _)⟩
    · exact q.elim⟩
def cLen : DCl := fun ds Q => match ds with
  | [.list xs] => Q (.int xs.length)
  | [.tuple xs] => Q (.int xs.length)
  | [.str x] => x.length ≤ sizeLine ∧ Q (.int x.length)
  | _ => False
theorem cd_len : ClD X (.builtin "len") cLen where
  mono ds Q Q' k q := by
    unfold cLen at q ⊢
    split at q <;> first | exact k _ q | exact ⟨q.1, k _ q.2⟩ | exact q.elim
  ok := ⟨_, call_len, fun G H vs ds Q Qd s hv q K => by
    unfold cLen at q
    split at q
    · obtain ⟨v, rfl, h⟩ := hv.one
      obtain ⟨a, ws, rfl, h1, h2⟩ := h.lst s
      exact ⟨_, _, rfl, .inl ⟨ws, h1, rfl⟩, by rw [DpAll.len h2]; exact K.v _ _ q (.int _)⟩
    · obtain ⟨v, rfl, h⟩ := hv.one
      obtain ⟨a, ws, rfl, h1, h2⟩ := h.tup s
      exact ⟨_, _, rfl, .inr ⟨ws, h1, rfl⟩, by rw [DpAll.len h2]; exact K.v _ _ q (.int _)⟩
    · obtain ⟨v, rfl, h⟩ := hv.one
      rw [h.str]
      exact ⟨.str _, _, rfl, ⟨q.1, rfl⟩, K.v _ _ q.2 (.int _)⟩
    · exact q.elim⟩
def cInt : DCl := fun ds Q => match ds with
  | [.int i] => Q (.int i)
  | [.bool b] => Q (.int (if b then 1 else 0))
  | _ => False
theorem cd_int : ClD X (.type "int") cInt where
  mono ds Q Q' k q := by
    unfold cInt at q ⊢
    split at q <;> first | exact k _ q | exact q.elim
  ok := ⟨_, call_int1, fun G H vs ds Q Qd s hv q K => by
    unfold cInt at q
    split at q
    · obtain ⟨v, rfl, h⟩ := hv.one
      exact .inl ⟨_, by rw [h.int], K.v _ _ q (.int _)⟩
    · obtain ⟨v, rfl, h⟩ := hv.one
      exact .inr ⟨_, by rw [h.bl], K.v _ _ q (.int _)⟩
    · exact q.elim⟩
/-- list(x) -/
def cList : List PyData → (List PyData → Prop) → Prop := fun ds Q => match ds with
  | [.list xs] => Q xs
  | [.tuple xs] => Q xs
  | _ => False
theorem cf_list : ClF X (.type "list") cList where
  mono ds Q Q' k q := by
    unfold cList at q ⊢
    split at q <;> first | exact k _ q | exact q.elim
  ok := ⟨_, call_list_of, fun G H vs ds Q Qd s hv q K => by
    unfold cList at q
    split at q
    · obtain ⟨v, rfl, h⟩ := hv.one
      obtain ⟨a, ws, rfl, h1, h2⟩ := h.lst s
      exact ⟨a, ws, rfl, .inl h1, fun p hp => K _ _ p q hp h2⟩
    · obtain ⟨v, rfl, h⟩ := hv.one
      obtain ⟨a, ws, rfl, h1, h2⟩ := h.tup s
      exact ⟨a, ws, rfl, .inr h1, fun p hp => K _ _ p q hp h2⟩
    · exact q.elim⟩
def cTuple : DCl := fun ds Q => match ds with
  | [.list xs] => Q (.tuple xs)
  | [.tuple xs] => Q (.tuple xs)
  | _ => False
theorem cd_tuple : ClD X (.type "tuple") cTuple where
  mono ds Q Q' k q := by
    unfold cTuple at q ⊢
    split at q <;> first | exact k _ q | exact q.elim
  ok := ⟨_, call_tuple_of, fun G H vs ds Q Qd s hv q K => by
    unfold cTuple at q
    split at q
    · obtain ⟨v, rfl, h⟩ := hv.one
      obtain ⟨a, ws, rfl, h1, h2⟩ := h.lst s
      exact ⟨a, ws, rfl, .inl ⟨h1, fun p hp => K.t _ _ p q hp h2⟩⟩
    · obtain ⟨v, rfl, h⟩ := hv.one
      rcases h with h | ⟨_, _, _, _, e, _⟩
      · obtain ⟨a, ws, rfl, h1, h2⟩ := Dv.tup s (.inl h)
        exact ⟨a, ws, rfl, .inr ⟨h1, K.v _ _ q h⟩⟩
      · cases e
    · exact q.elim⟩
/-- sum(x) of a list of ints -/
def cSum : DCl := fun ds Q => match ds with
  | [.list xs] => match intsOf xs with
    | some ns => Q (.int ns.sum)
    | none => False
  | _ => False
theorem cd_sum (hc : X.calm = true) : ClD X (.builtin "sum") cSum where
  mono ds Q Q' k q := by
    unfold cSum at q ⊢
    split at q
    · split at q <;> first | exact k _ q | exact q.elim
    · exact q.elim
  ok := ⟨_, cr_sum hc, fun G H vs ds Q Qd s hv q K => by
    unfold cSum at q
    split at q
    · split at q
      · rename_i e1
        obtain ⟨v, rfl, h⟩ := hv.one
        obtain ⟨a, ws, rfl, h1, h2⟩ := h.lst s
        rw [intsOf_map e1] at h2
        exact ⟨a, _, rfl, by rw [← DpAll.ofInts h2]; exact h1, K.v _ _ q (.int _)⟩
      · exact q.elim
    · exact q.elim⟩
/-- max, min: of a list of ints that is not empty; of two ints -/
def cMax : DCl := fun ds Q => match ds with
  | [.list xs] => match intsOf xs with
    | some ns => 0 < ns.length ∧ ∀ m, m ∈ ns → (∀ y, y ∈ ns → y ≤ m) → Q (.int m)
    | none => False
  | [.int i, .int j] => Q (.int (if j > i then j else i))
  | _ => False
def cMin : DCl := fun ds Q => match ds with
  | [.list xs] => match intsOf xs with
    | some ns => 0 < ns.length ∧ ∀ m, m ∈ ns → (∀ y, y ∈ ns → m ≤ y) → Q (.int m)
    | none => False
  | [.int i, .int j] => Q (.int (if j < i then j else i))
  | _ => False
theorem cd_max (hc : X.calm = true) : ClD X (.builtin "max") cMax where
  mono ds Q Q' k q := by
    unfold cMax at q ⊢
    split at q
    · split at q <;> first | exact ⟨q.1, fun m h1 h2 => k _ (q.2 m h1 h2)⟩ | exact q.elim
    · exact k _ q
    · exact q.elim
  ok := ⟨_, CallR.or (cr_max hc) (call_max2 hc), fun G H vs ds Q Qd s hv q K => by
    unfold cMax at q
    split at q
    · split at q
      · rename_i e1
        obtain ⟨v, rfl, h⟩ := hv.one
        obtain ⟨a, ws, rfl, h1, h2⟩ := h.lst s
        rw [intsOf_map e1] at h2
        exact .inl ⟨a, _, rfl, by rw [← DpAll.ofInts h2]; exact h1, q.1, fun m h3 h4 => K.v _ _ (q.2 m h3 h4) (.int _)⟩
      · exact q.elim
    · obtain ⟨v, w, rfl, h1, h2⟩ := hv.two
      exact .inr ⟨_, _, by rw [h1.int, h2.int], K.v _ _ q (.int _)⟩
    · exact q.elim⟩
theorem cd_min (hc : X.calm = true) : ClD X (.builtin "min") cMin where
  mono ds Q Q' k q := by
    unfold cMin at q ⊢
    split at q
    · split at q <;> first | exact ⟨q.1, fun m h1 h2 => k _ (q.2 m h1 h2)⟩ | exact q.elim
    · exact k _ q
    · exact q.elim
  ok := ⟨_, CallR.or (cr_min hc) (call_min2 hc), fun G H vs ds Q Qd s hv q K => by
    unfold cMin at q
    split at q
    · split at q
      · rename_i e1
        obtain ⟨v, rfl, h⟩ := hv.one
        obtain ⟨a, ws, rfl, h1, h2⟩ := h.lst s
        rw [intsOf_map e1] at h2
        exact .inl ⟨a, _, rfl, by rw [← DpAll.ofInts h2]; exact h1, q.1, fun m h3 h4 => K.v _ _ (q.2 m h3 h4) (.int _)⟩
      · exact q.elim
    · obtain ⟨v, w, rfl, h1, h2⟩ := hv.two
      exact .inr ⟨_, _, by rw [h1.int, h2.int], K.v _ _ q (.int _)⟩
    · exact q.elim⟩
/-- all, any of a list of bools -/
def boolsOf : List PyData → Option (List Bool)
  | [] => some []
  | .bool i :: ds => (boolsOf ds).map (i :: ·)
  | _ :: _ => none
theorem boolsOf_dp {K : PySem.W.Frag} {G : Hp} : ∀ {ds : List PyData} {vs : List V} {bs : List Bool}, boolsOf ds = some bs → DpAll K G vs ds → vs = bs.map V.bl
  | [], _, _, e, h => by cases e; cases h; rfl
  | .bool i :: ds, _, bs, e, h => by
    unfold boolsOf at e
    cases q : boolsOf ds with
    | none => rw [q] at e; cases e
    | some ms =>
      rw [q] at e
      cases e
      cases h with
      | cons h1 h2 =>
        cases h1
        rw [boolsOf_dp q h2]
        rfl
  | .none :: _, _, _, e, _ => by cases e
  | .int _ :: _, _, _, e, _ => by cases e
  | .str _ :: _, _, _, e, _ => by cases e
  | .list _ :: _, _, _, e, _ => by cases e
  | .tuple _ :: _, _, _, e, _ => by cases e
  | .dict _ :: _, _, _, e, _ => by cases e
theorem boolsOf_map : ∀ bs : List Bool, boolsOf (bs.map PyData.bool) = some bs
  | [] => rfl
  | n :: ns => by
    show (boolsOf (ns.map PyData.bool)).map (n :: ·) = _
    rw [boolsOf_map ns]
    rfl
def cAll : DCl := fun ds Q => match ds with
  | [.list xs] => match boolsOf xs with
    | some bs => Q (.bool (bs.all id))
    | none => False
  | _ => False
def cAny : DCl := fun ds Q => match ds with
  | [.list xs] => match boolsOf xs with
    | some bs => Q (.bool (bs.any id))
    | none => False
  | _ => False
theorem cd_all (hc : X.calm = true) : ClD X (.builtin "all") cAll where
  mono ds Q Q' k q := by
    unfold cAll at q ⊢
    split at q
    · split at q <;> first | exact k _ q | exact q.elim
    · exact q.elim
  ok := ⟨_, cr_all hc, fun G H vs ds Q Qd s hv q K => by
    unfold cAll at q
    split at q
    · split at q
      · rename_i e1
        obtain ⟨v, rfl, h⟩ := hv.one
        obtain ⟨a, ws, rfl, h1, h2⟩ := h.lst s
        exact ⟨a, _, rfl, by rw [← boolsOf_dp e1 h2]; exact h1, K.v _ _ q (.bl _)⟩
      · exact q.elim
    · exact q.elim⟩
theorem cd_any (hc : X.calm = true) : ClD X (.builtin "any") cAny where
  mono ds Q Q' k q := by
    unfold cAny at q ⊢
    split at q
    · split at q <;> first | exact k _ q | exact q.elim
    · exact q.elim
  ok := ⟨_, cr_any hc, fun G H vs ds Q Qd s hv q K => by
    unfold cAny at q
    split at q
    · split at q
      · rename_i e1
        obtain ⟨v, rfl, h⟩ := hv.one
        obtain ⟨a, ws, rfl, h1, h2⟩ := h.lst s
        exact ⟨a, _, rfl, by rw [← boolsOf_dp e1 h2]; exact h1, K.v _ _ q (.bl _)⟩
      · exact q.elim
    · exact q.elim⟩
end
end DL

namespace DL
open PySem L2

/-! ## statements -/
inductive RV where
  | sh (d : PyData)
  | ow (ds : List PyData)
structure DEn where
  nx : DS → Prop
  rt : RV → DS → Prop
  bk : DS → Prop := fun _ => False
  ct : DS → Prop := fun _ => False
structure DEn.le (D D' : DEn) : Prop where
  nx : ∀ ρ, D.nx ρ → D'.nx ρ
  rt : ∀ r ρ, D.rt r ρ → D'.rt r ρ
  bk : ∀ ρ, D.bk ρ → D'.bk ρ
  ct : ∀ ρ, D.ct ρ → D'.ct ρ
abbrev DTS := DEn → DS → Prop
def RvOk (K : PySem.W.Frag) (C : DC) (G : Hp) (ρ : DS) (σ : St) (H : Hp) (v : V) : RV → Prop
  | .sh d => Dp K G v d
  | .ow ds => ∃ a vs, v = .ref a ∧ Fresh C G ρ σ H a vs ∧ DpAll K G vs ds
structure EnOk (K : PySem.W.Frag) (C : DC) (G : Hp) (DD : DEn) (D : Ends) : Prop where
  nx : ∀ ρ' σ' G' H', DD.nx ρ' → Same G G' → Rel K C G' ρ' σ' H' → D.nx σ' H'
  rt : ∀ r ρ' σ' G' H' v, DD.rt r ρ' → Same G G' → Rel K C G' ρ' σ' H' → RvOk K C G' ρ' σ' H' v r → D.rt v H'
  bk : ∀ ρ' σ' G' H', DD.bk ρ' → Same G G' → Rel K C G' ρ' σ' H' → D.bk σ' H'
  ct : ∀ ρ' σ' G' H', DD.ct ρ' → Same G G' → Rel K C G' ρ' σ' H' → D.ct σ' H'
theorem EnOk.mo {K : PySem.W.Frag} {C : DC} {G G' : Hp} {DD : DEn} {D : Ends} (h : EnOk K C G DD D) (s : Same G G') : EnOk K C G' DD D where
  nx ρ' σ' G2 H' q s2 r := h.nx ρ' σ' G2 H' q (s.trans s2) r
  rt r ρ' σ' G2 H' v q s2 rl k := h.rt r ρ' σ' G2 H' v q (s.trans s2) rl k
  bk ρ' σ' G2 H' q s2 r := h.bk ρ' σ' G2 H' q (s.trans s2) r
  ct ρ' σ' G2 H' q s2 r := h.ct ρ' σ' G2 H' q (s.trans s2) r
def liftS (K : PySem.W.Frag) (C : DC) (t : DTS) : TS := fun D σ H => ∃ G ρ DD, Rel K C G ρ σ H ∧ EnOk K C G DD D ∧ t DD ρ

structure DSt (X : Cx) (st : Stmt) (t : DTS) : Prop where
  run : ∀ C, PS X st (liftS X.K C t)
  mono : ∀ DD DD' ρ, DEn.le DD DD' → t DD ρ → t DD' ρ
structure DSs (X : Cx) (st : List Stmt) (t : DTS) : Prop where
  run : ∀ C, PSs X st (liftS X.K C t)
  mono : ∀ DD DD' ρ, DEn.le DD DD' → t DD ρ → t DD' ρ
theorem PS.imp {X : Cx} {e : Stmt} {t t0 : TS} (h : PS X e t0) (k : ∀ D σ H, t D σ H → t0 D σ H) : PS X e t := ⟨fun pins s σ H D I hw => h.run pins s σ H D I (k _ _ _ hw)⟩
theorem PSs.imp {X : Cx} {e : List Stmt} {t t0 : TS} (h : PSs X e t0) (k : ∀ D σ H, t D σ H → t0 D σ H) : PSs X e t := ⟨fun pins s σ H D I hw => h.run pins s σ H D I (k _ _ _ hw)⟩
abbrev DTG := PyData → DS → (DS → Prop) → Prop
abbrev DTGs := List PyData → DS → (DS → Prop) → Prop
/-- but for the slots ws -/
def But (ws : List Nat) (σ σ' : St) : Prop := σ'.length = σ.length ∧ ∀ (j : Nat), j ∉ ws → σ'[j]? = σ[j]?
theorem But.refl {ws : List Nat} {σ : St} : But ws σ σ := ⟨rfl, fun _ _ => rfl⟩
theorem But.trans {ws us : List Nat} {σ σ' σ2 : St} (h : But ws σ σ') (k : But us σ' σ2) : But (ws ++ us) σ σ2 := ⟨k.1.trans h.1, fun j hj => (k.2 j fun z => hj (List.mem_append_right _ z)).trans (h.2 j fun z => hj (List.mem_append_left _ z))⟩
def liftG (K : PySem.W.Frag) (C : DC) (ws : List Nat) (g : DTG) : TG := fun v σ H Q => ∃ G ρ d, Rel K C G ρ σ H ∧ Dp K G v d ∧ g d ρ fun ρ' => ∀ σ' G' H', But ws σ σ' → Same G G' → Rel K C G' ρ' σ' H' → Q σ' H'
def liftGs (K : PySem.W.Frag) (C : DC) (ws : List Nat) (g : DTGs) : TGs := fun vs σ H Q => ∃ G ρ ds, Rel K C G ρ σ H ∧ DpAll K G vs ds ∧ g ds ρ fun ρ' => ∀ σ' G' H', But ws σ σ' → Same G G' → Rel K C G' ρ' σ' H' → Q σ' H'
structure DG (X : Cx) (tg : Expr) (ws : List Nat) (g : DTG) : Prop where
  run : ∀ C, PG X tg (liftG X.K C ws g)
  mono : ∀ d ρ Q Q', (∀ ρ', Q ρ' → Q' ρ') → g d ρ Q → g d ρ Q'
structure DGs (X : Cx) (tg : List Expr) (ws : List Nat) (g : DTGs) : Prop where
  run : ∀ C, PGs X tg (liftGs X.K C ws g)
  mono : ∀ d ρ Q Q', (∀ ρ', Q ρ' → Q' ρ') → g d ρ Q → g d ρ Q'
theorem PG.imp {X : Cx} {e : Expr} {t t0 : TG} (h : PG X e t0) (k : ∀ v σ H Q, t v σ H Q → t0 v σ H Q) : PG X e t := ⟨fun pins s σ H v u Q I r hw => h.run pins s σ H v u Q I r (k _ _ _ _ hw)⟩
theorem PGs.imp {X : Cx} {e : List Expr} {t t0 : TGs} (h : PGs X e t0) (k : ∀ v σ H Q, t v σ H Q → t0 v σ H Q) : PGs X e t := ⟨fun pins s σ H v u Q I r hw => h.run pins s σ H v u Q I r (k _ _ _ _ hw)⟩

section
variable {X : Cx} {e a b c : Expr} {es : List Expr} {st : Stmt} {sts : List Stmt} {pos pos' : Pos}
theorem goG {g : DTG} (m : ∀ d ρ Q Q', (∀ ρ', Q ρ' → Q' ρ') → g d ρ Q → g d ρ Q') {K : PySem.W.Frag} {C : DC} {G H : Hp} {ρ : DS} {σ : St} {R : St → Hp → Prop} {P : DS → Prop} {v : V} {d : PyData} (r : Rel K C G ρ σ H) (dp : Dp K G v d) (h : g d ρ P)
    {ws : List Nat} (k : ∀ ρ' σ' G' H', P ρ' → But ws σ σ' → Same G G' → Rel K C G' ρ' σ' H' → R σ' H') : liftG K C ws g v σ H R := ⟨G, ρ, d, r, dp, m _ _ _ _ (fun ρ' p σ' G' H' bu s r' => k ρ' σ' G' H' p bu s r') h⟩
theorem goGs {g : DTGs} (m : ∀ d ρ Q Q', (∀ ρ', Q ρ' → Q' ρ') → g d ρ Q → g d ρ Q') {K : PySem.W.Frag} {C : DC} {G H : Hp} {ρ : DS} {σ : St} {R : St → Hp → Prop} {P : DS → Prop} {v : List V} {d : List PyData} (r : Rel K C G ρ σ H) (dp : DpAll K G v d) (h : g d ρ P)
    {ws : List Nat} (k : ∀ ρ' σ' G' H', P ρ' → But ws σ σ' → Same G G' → Rel K C G' ρ' σ' H' → R σ' H') : liftGs K C ws g v σ H R := ⟨G, ρ, d, r, dp, m _ _ _ _ (fun ρ' p σ' G' H' bu s r' => k ρ' σ' G' H' p bu s r') h⟩
/-! ### targets -/
def isBo (ρ : DS) (i : Nat) : Bool := match ρ[i]? with
  | some (some (.bo _)) => true
  | _ => false
theorem isBo_no {ρ : DS} {i : Nat} (h : isBo ρ i = false) : ∀ ds, ρ[i]? ≠ some (some (.bo ds)) := fun ds e => by
  unfold isBo at h
  rw [e] at h
  cases h
def gN (i : Nat) : DTG := fun d ρ Q => isBo ρ i = false ∧ Q (ρ.set i (some (.sh d)))
theorem dg_n (i : Nat) {x : Str} (hN : X.N.Nodup) (hi : X.N[i]? = some x := by rfl) (hx : Loc X.env.scope x := by first | exact Or.inl rfl | exact Or.inr rfl) (hf : X.fn x = true ∨ X.env.scope.names.lookup x = some .local := by first | exact .inl rfl | exact .inr rfl | assumption) : DG X (.Name x pos) [i] (gN i) where
  run C := PG.imp (pg_name hN hi hx hf) fun v σ H Q ⟨G, ρ, d, r, dp, h, q⟩ => q _ G H ⟨List.length_set, fun j hj => List.getElem?_set_ne (fun e => hj (by rw [e]; exact List.mem_cons_self))⟩ (Same.refl _) (r.setSh (isBo_no h) dp)
  mono d ρ Q Q' k q := ⟨q.1, k _ q.2⟩
def gsNil : DTGs := fun ds ρ Q => ds = [] ∧ Q ρ
def gsCons (g : DTG) (u : DTGs) : DTGs := fun ds ρ Q => match ds with
  | d :: ds => g d ρ fun ρ' => u ds ρ' Q
  | [] => False
theorem dgs_nil : DGs X [] [] gsNil := ⟨fun C => PGs.imp pgs_nil fun v σ H Q ⟨G, ρ, ds, r, dp, h, q⟩ => by
  subst h
  cases dp
  exact ⟨rfl, q σ G H But.refl (Same.refl _) r⟩, fun d ρ Q Q' k q => ⟨q.1, k _ q.2⟩⟩
theorem dgs_cons {g : DTG} {u : DTGs} {ws us : List Nat} (h1 : DG X e ws g) (h2 : DGs X es us u) (hs : (assignEach (e :: es) X.env).map (·.2) = assign e X.env :: (assignEach es X.env).map (·.2) := by rfl) : DGs X (e :: es) (ws ++ us) (gsCons g u) where
  run C := PGs.imp (pgs_cons (h1.run C) (h2.run C) hs) fun vs σ H Q ⟨G, ρ, ds, r, dp, q⟩ => by
    cases dp with
    | nil => exact q.elim
    | cons p1 p2 => exact ⟨_, _, rfl, goG h1.mono r p1 q fun ρ' σ' G' H' p b1 s r' => goGs h2.mono r' (DpAll.mo s _ _ p2) p fun ρ2 σ2 G2 H2 p2 b2 s2 r2 => p2 σ2 G2 H2 (b1.trans b2) (s.trans s2) r2⟩
  mono ds ρ Q Q' k q := by
    cases ds with
    | nil => exact q
    | cons d ds => exact h1.mono _ _ _ _ (fun ρ' => h2.mono _ _ _ _ k) q
def gT (n : Nat) (t : DTGs) : DTG := fun d ρ Q => match d with
  | .tuple ds => ds.length = n ∧ t ds ρ Q
  | _ => False
theorem dg_t {k n : Nat} {t : DTGs} {ws : List Nat} (hc : X.calm = true) (h : DGs X es ws t)
    (hn : (assignEach es X.env).length = n := by rfl) (hst : (assignEach es X.env).findIdx? (·.1) = none := by rfl) : DG X (.Tuple es k pos) ws (gT n t) where
  run C := PG.imp (pg_tup hc (h.run C) hn hst) fun v σ H Q ⟨G, ρ, d, r, dp, q⟩ => by
    unfold gT at q
    split at q
    · obtain ⟨a, vs, rfl, h1, h2⟩ := Dv.tup (H := H) r.same (.inl dp)
      exact ⟨a, vs, rfl, h1, by rw [DpAll.len h2]; exact q.1, goGs h.mono r h2 q.2 fun ρ' σ' G' H' p bu s r' => p σ' G' H' bu s r'⟩
    · exact q.elim
  mono d ρ Q Q' k q := by
    unfold gT at q ⊢
    split at q
    · exact ⟨q.1, h.mono _ _ _ _ k q.2⟩
    · exact q.elim
/-! ### blocks -/
def sNx : DTS := fun DD ρ => DD.nx ρ
@[irreducible] def sSq (t u : DTS) : DTS := fun DD ρ => t { nx := u DD, rt := DD.rt, bk := DD.bk, ct := DD.ct } ρ
theorem sq_go {t u : DTS} {DD : DEn} {ρ : DS} (h : t { nx := u DD, rt := DD.rt, bk := DD.bk, ct := DD.ct } ρ) : sSq t u DD ρ := by unfold sSq; exact h
theorem sq_of {t u : DTS} {DD : DEn} {ρ : DS} (h : sSq t u DD ρ) : t { nx := u DD, rt := DD.rt, bk := DD.bk, ct := DD.ct } ρ := by unfold sSq at h; exact h
theorem DEn.le_refl (D : DEn) : DEn.le D D := ⟨fun _ h => h, fun _ _ h => h, fun _ h => h, fun _ h => h⟩
theorem dss_nil : DSs X [] sNx := ⟨fun C => PSs.imp pss_nil fun D σ H ⟨G, ρ, DD, r, k, q⟩ => k.nx ρ σ G H q (Same.refl _) r, fun DD DD' ρ l q => l.nx _ q⟩
theorem dss_one {t : DTS} (h : DSt X st t) : DSs X [st] t := ⟨fun C => pss_one (h.run C), h.mono⟩
theorem dss_cons {t u : DTS} (h1 : DSt X st t) (h2 : DSs X sts u) : DSs X (st :: sts) (sSq t u) where
  run C := PSs.imp (pss_cons (h1.run C) (h2.run C)) fun D σ H ⟨G, ρ, DD, r, k, q⟩ =>
    ⟨G, ρ, { nx := u DD, rt := DD.rt, bk := DD.bk, ct := DD.ct }, r, ⟨fun ρ' σ' G' H' q' s r' => ⟨G', ρ', DD, r', k.mo s, q'⟩, k.rt, k.bk, k.ct⟩, sq_of q⟩
  mono DD DD' ρ l q := sq_go (h1.mono { nx := u DD, rt := DD.rt, bk := DD.bk, ct := DD.ct } { nx := u DD', rt := DD'.rt, bk := DD'.bk, ct := DD'.ct } _ ⟨fun ρ' p => h2.mono _ _ _ l p, l.rt, l.bk, l.ct⟩ (sq_of q))
theorem ds_pass : DSt X (.Pass pos) sNx := ⟨fun C => PS.imp ps_pass fun D σ H ⟨G, ρ, DD, r, k, q⟩ => k.nx ρ σ G H q (Same.refl _) r, fun DD DD' ρ l q => l.nx _ q⟩
def sBk : DTS := fun DD ρ => DD.bk ρ
def sCt : DTS := fun DD ρ => DD.ct ρ
theorem ds_break : DSt X (.Break pos) sBk := ⟨fun C => PS.imp ps_break fun D σ H ⟨G, ρ, DD, r, k, q⟩ => k.bk ρ σ G H q (Same.refl _) r, fun DD DD' ρ l q => l.bk _ q⟩
theorem ds_continue : DSt X (.Continue pos) sCt := ⟨fun C => PS.imp ps_continue fun D σ H ⟨G, ρ, DD, r, k, q⟩ => k.ct ρ σ G H q (Same.refl _) r, fun DD DD' ρ l q => l.ct _ q⟩
theorem ds_doc {x j pos pos'} : DSt X (.Expr (.Constant (.str x) j pos) pos') sNx := ⟨fun C => PS.imp ps_doc fun D σ H ⟨G, ρ, DD, r, k, q⟩ => k.nx ρ σ G H q (Same.refl _) r, fun DD DD' ρ l q => l.nx _ q⟩
/-- an expression whose value is dropped -/
def sEx (t : DTE) : DTS := fun DD ρ => t ρ fun _ ρ' => DD.nx ρ'
theorem ds_expr {t : DTE} (h : DE X e t) (hs : swapsWith e none pos.line X.env = pure false := by rfl) : DSt X (.Expr e pos) (sEx t) where
  run C := PS.imp (ps_expr (h.run C) hs) fun D σ H ⟨G, ρ, DD, r, k, q⟩ => goE h.mono r q fun d ρ' v G' H' p s r' dp => k.nx ρ' σ G' H' p s r'
  mono DD DD' ρ l q := h.mono _ _ _ (fun _ ρ' p => l.nx _ p) q
def sRt (t : DTE) : DTS := fun DD ρ => t ρ fun d ρ' => DD.rt (.sh d) ρ'
theorem ds_ret {t : DTE} (h : DE X e t) : DSt X (.Return (some e) pos) (sRt t) where
  run C := PS.imp (ps_ret (h.run C)) fun D σ H ⟨G, ρ, DD, r, k, q⟩ => goE h.mono r q fun d ρ' v G' H' p s r' dp => k.rt (.sh d) ρ' σ G' H' v p s r' dp
  mono DD DD' ρ l q := h.mono _ _ _ (fun _ ρ' p => l.rt _ _ p) q
def sRtN : DTS := fun DD ρ => DD.rt (.sh .none) ρ
theorem ds_retN : DSt X (.Return none pos) sRtN := ⟨fun C => PS.imp ps_retN fun D σ H ⟨G, ρ, DD, r, k, q⟩ => k.rt (.sh .none) ρ σ G H .non q (Same.refl _) r .non, fun DD DD' ρ l q => l.rt _ _ q⟩
/-- a fresh list handed back as the caller's own -/
def sRtF (t : DTL) : DTS := fun DD ρ => t ρ fun ds ρ' => DD.rt (.ow ds) ρ'
theorem ds_retF {t : DTL} (h : DF X e t) : DSt X (.Return (some e) pos) (sRtF t) where
  run C := PS.imp (ps_ret (h.run C)) fun D σ H ⟨G, ρ, DD, r, k, q⟩ => goF h.mono r q fun ds ρ' a vs G' H' p s r' f dp => k.rt (.ow ds) ρ' σ G' H' (.ref a) p s r' ⟨a, vs, rfl, f, dp⟩
  mono DD DD' ρ l q := h.mono _ _ _ (fun _ ρ' p => l.rt _ _ p) q
/-- a name whose own list is given away -/
def fN (i : Nat) : DTL := fun ρ Q => match ρ[i]? with
  | some (some (.ow ds)) => Q ds (ρ.set i none)
  | _ => False
theorem df_n (i : Nat) {x : Str} (hN : X.N[i]? = some x := by rfl) (hv : Vis X.env.scope x := by first | exact Or.inl rfl | exact Or.inr (Or.inl rfl) | exact Or.inr (Or.inr rfl)) (hd : (x == ("__debug__" : Str)) = false := by decide)
    (hcd : (x == ("__classdict__" : Str)) = false := by decide) : DF X (.Name x pos) (fN i) where
  run C := PE.imp (pe_var hN hv hd hcd) fun σ H Q ⟨G, ρ, r, q⟩ => by
    unfold fN at q
    split at q
    · rename_i ds e
      obtain ⟨a, vs, e1, hd2, f, r'⟩ := r.own e
      exact ⟨_, e1, q a vs G H (Same.refl _) r' f hd2⟩
    · exact q.elim
  mono ρ Q Q' k q := by
    unfold fN at q ⊢
    split at q
    · exact k _ _ q
    · exact q.elim
def sIf (c : DTT) (t u : DTS) : DTS := fun DD ρ => c ρ fun b ρ' => if b = true then t DD ρ' else u DD ρ'
theorem ds_if {p q : List Stmt} {tc : DTT} {t u : DTS} (hc : DT X c tc) (h1 : DSs X p t) (h2 : DSs X q u) : DSt X (.If c p q pos) (sIf tc t u) where
  run C := PS.imp (ps_if (hc.run C) (h1.run C) (h2.run C)) fun D σ H ⟨G, ρ, DD, r, k, qq⟩ => goT hc.mono r qq fun b ρ' G' H' p s r' => by
    cases b with
    | true => exact ⟨G', ρ', DD, r', k.mo s, p⟩
    | false => exact ⟨G', ρ', DD, r', k.mo s, p⟩
  mono DD DD' ρ l q := hc.mono _ _ _ (fun b ρ' p => by
    cases b with
    | true => exact h1.mono _ _ _ l p
    | false => exact h2.mono _ _ _ l p) q
/-- code that is never reached -/
def sNv : DTS := fun _ _ => False
theorem ds_never : DSt X st sNv := ⟨fun C => PS.imp (ps_never) fun D σ H ⟨G, ρ, DD, r, k, q⟩ => q, fun _ _ _ _ q => q⟩
/-! ### assignments -/
def sAs (t : DTE) (g : DTG) : DTS := fun DD ρ => t ρ fun d ρ' => g d ρ' DD.nx
theorem ds_asg {tg : Expr} {t : DTE} {g : DTG} {ws : List Nat} (h : DE X e t) (hg : DG X tg ws g) (hs : swapsWithSole [tg] e pos.line X.env = pure false := by rfl) (hw : swappedStores [tg] e X.env = pure none := by rfl)
    (h1 : (assignEach [tg] X.env).map (·.2) = [assign tg X.env] := by rfl) : DSt X (.Assign [tg] e pos) (sAs t g) where
  run C := PS.imp (ps_asg (h.run C) (hg.run C) hs hw h1) fun D σ H ⟨G, ρ, DD, r, k, q⟩ => goE h.mono r q fun d ρ' v G' H' p s r' dp => goG hg.mono r' dp p fun ρ2 σ2 G2 H2 p2 _ s2 r2 => k.nx ρ2 σ2 G2 H2 p2 (s.trans s2) r2
  mono DD DD' ρ l q := h.mono _ _ _ (fun d ρ' p => hg.mono _ _ _ _ l.nx p) q
theorem ds_set (i : Nat) {x : Str} {t : DTE} (h : DE X e t) (hN : X.N.Nodup) (hi : X.N[i]? = some x := by rfl) (hx : Loc X.env.scope x := by first | exact Or.inl rfl | exact Or.inr rfl) (hs : swapsWith e (some (.Name x pos')) pos.line X.env = pure false := by rfl) (hf : X.fn x = true ∨ X.env.scope.names.lookup x = some .local := by first | exact .inl rfl | exact .inr rfl | assumption) :
    DSt X (.Assign [.Name x pos'] e pos) (sAs t (gN i)) where
  run C := PS.imp (ps_set hN hi hx (h.run C) hs hf) fun D σ H ⟨G, ρ, DD, r, k, q⟩ => goE h.mono r q fun d ρ' v G' H' p s r' dp => k.nx _ _ G' H' p.2 s (r'.setSh (isBo_no p.1) dp)
  mono DD DD' ρ l q := h.mono _ _ _ (fun d ρ' p => ⟨p.1, l.nx _ p.2⟩) q
/-- name = a fresh list, its own -/
def sOw (t : DTL) (i : Nat) : DTS := fun DD ρ => t ρ fun ds ρ' => isBo ρ' i = false ∧ DD.nx (ρ'.set i (some (.ow ds)))
theorem ds_own (i : Nat) {x : Str} {t : DTL} (h : DF X e t) (hN : X.N.Nodup) (hi : X.N[i]? = some x := by rfl) (hx : Loc X.env.scope x := by first | exact Or.inl rfl | exact Or.inr rfl) (hs : swapsWith e (some (.Name x pos')) pos.line X.env = pure false := by rfl) (hf : X.fn x = true ∨ X.env.scope.names.lookup x = some .local := by first | exact .inl rfl | exact .inr rfl | assumption) :
    DSt X (.Assign [.Name x pos'] e pos) (sOw t i) where
  run C := PS.imp (ps_set hN hi hx (h.run C) hs hf) fun D σ H ⟨G, ρ, DD, r, k, q⟩ => goF h.mono r q fun ds ρ' a vs G' H' p s r' f dp => k.nx _ _ G' H' p.2 s (r'.setOw (isBo_no p.1) f dp)
  mono DD DD' ρ l q := h.mono _ _ _ (fun d ρ' p => ⟨p.1, l.nx _ p.2⟩) q
/-- a, b = x, y with plain local names -/
def sPar (i j : Nat) (t : DTL) : DTS := fun DD ρ => t ρ fun ds ρ' => match ds with
  | [d, e] => isBo ρ' i = false ∧ isBo ρ' j = false ∧ DD.nx ((ρ'.set i (some (.sh d))).set j (some (.sh e)))
  | _ => False
theorem isBo_set {ρ : DS} {i j : Nat} {d : PyData} (h : isBo ρ j = false) : isBo (ρ.set i (some (.sh d))) j = false := by
  unfold isBo at h ⊢
  by_cases e : i = j
  · subst e
    by_cases hl : i < ρ.length
    · rw [List.getElem?_set_self hl]
    · rw [List.getElem?_eq_none (by rw [List.length_set]; omega)]
  · rw [List.getElem?_set_ne e]
    exact h
theorem ds_par (i j : Nat) {x y : Str} {t : DTL} {px py pt : Pos} {kt k2 pt2} (hc : X.calm = true) (hN : X.N.Nodup) (h : DA X [a, b] t) (hi : X.N[i]? = some x := by rfl) (hj : X.N[j]? = some y := by rfl) (hij : i ≠ j := by decide)
    (hx : X.env.scope.names.lookup x = some .local := by rfl) (hy : X.env.scope.names.lookup y = some .local := by rfl)
    (hw : swappedStores [.Tuple [.Name x px, .Name y py] kt pt] (.Tuple [a, b] k2 pt2) X.env = pure (some [x, y]) := by rfl)
    (hs : swapsWithSole [.Tuple [.Name x px, .Name y py] kt pt] (.Tuple [a, b] k2 pt2) pos.line X.env = pure false := by rfl) :
    DSt X (.Assign [.Tuple [.Name x px, .Name y py] kt pt] (.Tuple [a, b] k2 pt2) pos) (sPar i j t) where
  run C := PS.imp (ps_par hc hN hi hj hij hx hy (h.run C) hw hs) fun D σ H ⟨G, ρ, DD, r, k, q⟩ => goA h.mono r q fun ds ρ' vs G' H' p s r' dp => by
    unfold sPar at q
    (try dsimp only at p)
    split at p
    · cases dp with
      | cons d1 d2 =>
        cases d2 with
        | cons d2 d3 =>
          cases d3
          exact ⟨_, _, rfl, k.nx _ _ G' H' p.2.2 s ((r'.setSh (isBo_no p.1) d1).setSh (isBo_no (isBo_set p.2.1)) d2)⟩
    · exact p.elim
  mono DD DD' ρ l q := h.mono _ _ _ (fun d ρ' p => by
    (try dsimp only at p); (try dsimp only)
    split at p
    · exact ⟨p.1, p.2.1, l.nx _ p.2.2⟩
    · exact p.elim) q
/-- name op= e -/
structure IpD (X : Cx) (op : Operator) (r : D2) : Prop where
  mono : ∀ d e Q Q', (∀ z, Q z → Q' z) → r d e Q → r d e Q'
  ok : ∃ r0 : TIp, PIp X op r0 ∧ ∀ (G H : Hp) (x y : V) (d e : PyData) (Q : VK) (Qd : PyData → Prop), Same G H → Dv X.K G H x d → Dv X.K G H y e → r d e Qd → Kon X.K G H Qd Q → r0 x y H Q
def sAu (i : Nat) (r : D2) (t : DTE) : DTS := fun DD ρ => (vN i ρ).isSome = true ∧ t ρ fun d ρ' => match vN i ρ' with
  | some x => r x d fun z => isBo ρ' i = false ∧ DD.nx (ρ'.set i (some (.sh z)))
  | none => False
theorem ds_aug (i : Nat) {x : Str} {op : Operator} {r : D2} {t : DTE} (ho : IpD X op r) (h : DE X e t) (hN : X.N.Nodup) (hi : X.N[i]? = some x := by rfl) (hx : Loc X.env.scope x := by first | exact Or.inl rfl | exact Or.inr rfl) (hf : X.fn x = true ∨ X.env.scope.names.lookup x = some .local := by first | exact .inl rfl | exact .inr rfl | assumption) :
    DSt X (.AugAssign (.Name x pos') op e pos) (sAu i r t) where
  run C := by
    obtain ⟨r0, h0, hk⟩ := ho.ok
    refine PS.imp (ps_aug hN hi hx (h.run C) h0 hf) fun D σ H ⟨G, ρ, DD, rl, k, q1, q⟩ => ?_
    obtain ⟨v, e1⟩ := vN_there rl q1
    refine ⟨v, e1, goE h.mono rl q fun d ρ' v' G' H' p s r' dp => ?_⟩
    (try dsimp only at p)
    split at p
    · rename_i z e2
      exact hk G' H' v v' z d _ _ r'.same (vN_ok r' e1 G' H' ρ' (Same.refl _) r' z e2) (.inl dp) p
        (Kon.of (P := fun z ρ2 => isBo ρ2 i = false ∧ DD.nx (ρ2.set i (some (.sh z)))) r' fun d p v G2 H2 s2 r2 dd => k.nx _ _ G2 H2 p.2 (s.trans s2) (r2.setSh (isBo_no p.1) dd))
    · exact p.elim
  mono DD DD' ρ l q := ⟨q.1, h.mono _ _ _ (fun d ρ' p => by
    (try dsimp only at p); (try dsimp only)
    split
    · rename_i z e2
      rw [e2] at p
      exact ho.mono _ _ _ _ (fun z h => ⟨h.1, l.nx _ h.2⟩) p
    · rename_i e2
      rw [e2] at p
      exact p) q.2⟩
/-! ### a mutable list at a name -/
/-- the mutable list of a slot -/
def muN (i : Nat) (ρ : DS) : Option (List PyData) := match ρ[i]? with
  | some (some (.ow ds)) => some ds
  | some (some (.bo ds)) => some ds
  | _ => none
def wrN (i : Nat) (ds : List PyData) (ρ : DS) : DS := match ρ[i]? with
  | some (some (.ow _)) => ρ.set i (some (.ow ds))
  | some (some (.bo _)) => ρ.set i (some (.bo ds))
  | _ => ρ
theorem muN_ok {K : PySem.W.Frag} {C : DC} {G H : Hp} {ρ : DS} {σ : St} (r : Rel K C G ρ σ H) {i : Nat} {ds : List PyData} (h : muN i ρ = some ds) :
    ∃ a vs, σ[i]? = some (some (.ref a)) ∧ H a = some (.lst vs) ∧ G a = none ∧ DpAll K G vs ds ∧ ∀ ds' vs', DpAll K G vs' ds' → Rel K C G (wrN i ds' ρ) σ (upd H a (.lst vs')) := by
  unfold muN at h
  split at h
  · rename_i es e
    cases h
    obtain ⟨a, vs, h1, h2, h3, h4, h5⟩ := r.mut e rfl
    refine ⟨a, vs, h1, h2, h3, h4, fun ds' vs' hd => ?_⟩
    have q := h5 ds' vs' hd
    unfold wrN
    rw [e]
    exact q
  · rename_i es e
    cases h
    obtain ⟨a, vs, h1, h2, h3, h4, h5⟩ := r.mut e rfl
    refine ⟨a, vs, h1, h2, h3, h4, fun ds' vs' hd => ?_⟩
    have q := h5 ds' vs' hd
    unfold wrN
    rw [e]
    exact q
  · cases h
theorem ld_n {X : Cx} (i : Nat) {x : Str} (hN : X.N[i]? = some x := by rfl) (hv : Vis X.env.scope x := by first | exact Or.inl rfl | exact Or.inr (Or.inl rfl) | exact Or.inr (Or.inr rfl)) (hd : (x == ("__debug__" : Str)) = false := by decide)
    (hcd : (x == ("__classdict__" : Str)) = false := by decide) : PE X (.Name x pos) (tVar i) := pe_var hN hv hd hcd
/-- xs.append(e) -/
def eApp (i : Nat) (t : DTE) : DTE := fun ρ Q => (muN i ρ).isSome = true ∧ t ρ fun d ρ' => match muN i ρ' with
  | some ds => ds.length < sizeLine ∧ Q .none (wrN i (ds ++ [d]) ρ')
  | none => False
theorem tyV_lst {K : PySem.W.Frag} {H : Hp} {a : Addr} {vs : List V} (h : H a = some (.lst vs)) : tyV K "list" (.ref a) H := .inl ⟨rfl, _, .inl (.inl h)⟩
theorem de_append (i : Nat) {x : Str} {t : DTE} {px pa pos} (h : DE X e t) (hN : X.N[i]? = some x := by rfl) (hv : Vis X.env.scope x := by first | exact Or.inl rfl | exact Or.inr (Or.inl rfl) | exact Or.inr (Or.inr rfl)) (hd : (x == ("__debug__" : Str)) = false := by decide)
    (hcd : (x == ("__classdict__" : Str)) = false := by decide) (hst : starEach [e] X.env = (false, eval e X.env) :: starEach [] X.env := by rfl)
    (hb : ∀ {to : TE} {t : TA}, PE X (.Name x px) to → PA X [e] t → PE X (.Call (.Attribute (.Name x px) "append" pa) [e] [] pos) (tBM X.K "list" rAppend to t) := by intro _ _ h1 h2; exact pe_bm PySem.F.plainAttrs_list PySem.F.slot_list_append PySem.F.type_list_append mt_append h1 h2) :
    DE X (.Call (.Attribute (.Name x px) "append" pa) [e] [] pos) (eApp i t) where
  run C := PE.imp (hb (pe_var hN hv hd hcd) (pa_cons (h.run C) pa_nil hst)) fun σ H Q ⟨G, ρ, r, q1, q⟩ => by
    obtain ⟨ds0, e0⟩ := Option.isSome_iff_exists.mp q1
    obtain ⟨a, vs, h1, h2, _⟩ := muN_ok r e0
    refine ⟨_, h1, tyV_lst h2, goE h.mono r q fun d ρ' v G' H' p s r' dp => ?_⟩
    (try dsimp only at p)
    split at p
    · rename_i ds e1
      obtain ⟨a', vs', k1, k2, k3, k4, k5⟩ := muN_ok r' e1
      rw [h1] at k1
      cases k1
      exact ⟨a, vs', v, rfl, rfl, k2, by rw [DpAll.len k4]; exact p.1, p.2 .non G' _ s (k5 _ _ (DpAll.app k4 (.cons dp .nil))) .non⟩
    · exact p.elim
  mono ρ Q Q' k q := ⟨q.1, h.mono _ _ _ (fun d ρ' p => by
    (try dsimp only at p); (try dsimp only)
    split
    · rename_i z e2
      rw [e2] at p
      exact ⟨p.1, k _ _ p.2⟩
    · rename_i e2
      rw [e2] at p
      exact p) q.2⟩
/-- xs[k] = e -/
def sSt (i : Nat) (t tk : DTE) : DTS := fun DD ρ => t ρ fun d ρ1 => (muN i ρ1).isSome = true ∧ tk ρ1 fun k ρ' => match muN i ρ', k with
  | some ds, .int z => match ixN ds.length z with
    | some j => DD.nx (wrN i (ds.set j d) ρ')
    | none => False
  | _, _ => False
theorem ds_store (i : Nat) {x : Str} {k : Expr} {px ps : Pos} {t tk : DTE} (h : DE X e t) (hk : DE X k tk) (hN : X.N[i]? = some x := by rfl) (hv : Vis X.env.scope x := by first | exact Or.inl rfl | exact Or.inr (Or.inl rfl) | exact Or.inr (Or.inr rfl)) (hd : (x == ("__debug__" : Str)) = false := by decide)
    (hcd : (x == ("__classdict__" : Str)) = false := by decide)
    (hb : ∀ {te to ti : TE}, PE X e te → PE X (.Name x px) to → PE X k ti → PS X (.Assign [.Subscript (.Name x px) k ps] e pos) (tAsg te (gSub to ti rSetL)) := by intro _ _ _ h1 h2 h3; exact ps_asg h1 (pg_sub h2 h3 set_list)) :
    DSt X (.Assign [.Subscript (.Name x px) k ps] e pos) (sSt i t tk) where
  run C := PS.imp (hb (h.run C) (pe_var hN hv hd hcd) (hk.run C)) fun D σ H ⟨G, ρ, DD, r, kk, q⟩ => goE h.mono r q fun d ρ1 v G1 H1 p1 s1 r1 d1 => by
    obtain ⟨ds0, e0⟩ := Option.isSome_iff_exists.mp p1.1
    obtain ⟨a, vs, h1, h2, _⟩ := muN_ok r1 e0
    refine ⟨_, h1, goE hk.mono r1 p1.2 fun z ρ2 w G2 H2 p2 s2 r2 d2 => ?_⟩
    (try dsimp only at p2)
    split at p2
    · rename_i ds zi e1
      split at p2
      · rename_i j ej
        cases d2
        obtain ⟨a', vs', k1, k2, k3, k4, k5⟩ := muN_ok r2 e1
        rw [h1] at k1
        cases k1
        exact ⟨a, vs', zi, j, rfl, rfl, k2, by rw [DpAll.len k4]; exact ej, kk.nx _ _ G2 _ p2 (s1.trans s2) (k5 _ _ (DpAll.set j k4 (Dp.mo s2 d v d1)))⟩
      · exact p2.elim
    · exact p2.elim
  mono DD DD' ρ l q := h.mono _ _ _ (fun d ρ1 p => ⟨p.1, hk.mono _ _ _ (fun z ρ2 p2 => by
    (try dsimp only at p2); (try dsimp only)
    split
    · rename_i ds zi e1
      rw [e1] at p2
      (try dsimp only at p2)
      split
      · rename_i j ej
        rw [ej] at p2
        exact l.nx _ p2
      · rename_i ej
        rw [ej] at p2
        exact p2
    · rename_i hno
      split at p2
      · rename_i ds zi e1
        exact (hno _ _ e1 rfl).elim
      · exact p2) p.2⟩) q
end
end DL

namespace DL
open PySem L2

section
variable {X : Cx} {e a b c tg iter : Expr} {es ifs : List Expr} {st : Stmt} {sts body : List Stmt} {pos pos' : Pos}
/-! ## while -/
def whN (c : DTT) (tb : DTS) (DD : DEn) : Nat → DS → Prop
  | 0, _ => False
  | n + 1, ρ => c ρ fun b ρ1 => if b = true then tb { nx := whN c tb DD n, rt := DD.rt, bk := DD.nx, ct := whN c tb DD n } ρ1 else DD.nx ρ1
def sWh (c : DTT) (tb : DTS) : DTS := fun DD ρ => ∃ n, whN c tb DD n ρ
theorem ds_while {tc : DTT} {tb : DTS} (hp : PassesOwn (model X.prog X.w) X.A X.env X.xe) (hc : DT X c tc) (hb : DSs X body tb) : DSt X (.While c body [] pos) (sWh tc tb) where
  run C := PS.imp (ps_while hp (hc.run C) (hb.run C)) fun D σ H ⟨G, ρ, DD, r, k, n, q⟩ => by
    refine ⟨fun m σ H => ∃ G ρ, Rel X.K C G ρ σ H ∧ EnOk X.K C G DD D ∧ whN tc tb DD m ρ, ⟨n, G, ρ, r, k, q⟩, ?_⟩
    rintro m σ H ⟨G, ρ, r, k, q⟩
    cases m with
    | zero => exact q.elim
    | succ m =>
      refine goT hc.mono r q fun b ρ' G' H' p s r' => ?_
      cases b with
      | true =>
        refine ⟨fun σ' H' => ∃ G ρ, Rel X.K C G ρ σ' H' ∧ EnOk X.K C G DD D ∧ whN tc tb DD m ρ, fun σ' H' h => ⟨m, Nat.lt_succ_self m, h⟩, G', ρ', _, r', ?_, p⟩
        have k' := k.mo s
        exact ⟨fun ρ2 σ2 G2 H2 q2 s2 r2 => ⟨G2, ρ2, r2, k'.mo s2, q2⟩, k'.rt, k'.nx, fun ρ2 σ2 G2 H2 q2 s2 r2 => ⟨G2, ρ2, r2, k'.mo s2, q2⟩⟩
      | false => exact k.nx ρ' σ G' H' p s r'
  mono DD DD' ρ l := fun ⟨n, q⟩ => ⟨n, by
    have key : ∀ n ρ, whN tc tb DD n ρ → whN tc tb DD' n ρ := by
      intro n
      induction n with
      | zero => exact fun _ h => h
      | succ n ih =>
        intro ρ h
        refine hc.mono _ _ _ (fun b ρ1 p => ?_) h
        cases b with
        | true => exact hb.mono { nx := whN tc tb DD n, rt := DD.rt, bk := DD.nx, ct := whN tc tb DD n } { nx := whN tc tb DD' n, rt := DD'.rt, bk := DD'.nx, ct := whN tc tb DD' n } _ ⟨fun ρ => ih ρ, l.rt, l.nx, fun ρ => ih ρ⟩ p
        | false => exact l.nx _ p
    exact key n ρ q⟩
/-- a while by an invariant and a measure -/
theorem sWh_by {tc : DTT} {tb : DTS} {DD : DEn} {ρ : DS} (W : DS → Prop) (μ : DS → Nat) (hc : ∀ ρ Q Q', (∀ d ρ', Q d ρ' → Q' d ρ') → tc ρ Q → tc ρ Q') (hb : ∀ DD DD' ρ, DEn.le DD DD' → tb DD ρ → tb DD' ρ) (h0 : W ρ)
    (hs : ∀ ρ, W ρ → tc ρ fun b ρ1 => if b = true then tb { nx := fun ρ' => W ρ' ∧ μ ρ' < μ ρ, rt := DD.rt, bk := DD.nx, ct := fun ρ' => W ρ' ∧ μ ρ' < μ ρ } ρ1 else DD.nx ρ1) : sWh tc tb DD ρ := by
  have key : ∀ n ρ, W ρ → μ ρ < n → whN tc tb DD n ρ := by
    intro n
    induction n with
    | zero => exact fun _ _ h => absurd h (Nat.not_lt_zero _)
    | succ n ih =>
      intro ρ w h
      refine hc _ _ _ (fun b ρ1 p => ?_) (hs ρ w)
      cases b with
      | true => exact hb { nx := fun ρ' => W ρ' ∧ μ ρ' < μ ρ, rt := DD.rt, bk := DD.nx, ct := fun ρ' => W ρ' ∧ μ ρ' < μ ρ } { nx := whN tc tb DD n, rt := DD.rt, bk := DD.nx, ct := whN tc tb DD n } _ ⟨fun ρ' q => ih ρ' q.1 (by have := q.2; omega), fun _ _ q => q, fun _ q => q, fun ρ' q => ih ρ' q.1 (by have := q.2; omega)⟩ p
      | false => exact p
  exact ⟨μ ρ + 1, key _ ρ h0 (Nat.lt_succ_self _)⟩

/-! ## what is walked -/
structure Wk (K : PySem.W.Frag) (G : Hp) (J : It) (items : List PyData) : Prop where
  go : ∀ (i : Nat) (d : PyData) (H : Hp), items[i]? = some d → Same G H → J.go i H
  yld : ∀ (i : Nat) (d : PyData) (G2 H : Hp) (x : V) (H' : Hp), items[i]? = some d → Same G G2 → Same G2 H → J.yld i H x H' → (H' = H ∧ Dp K G2 x d) ∨ ∃ p vs ds, H p = none ∧ H' = upd H p (.tup vs) ∧ x = .ref p ∧ d = .tuple ds ∧ DpAll K G2 vs ds
  stop : ∀ (i : Nat) (H : Hp), items.length ≤ i → Same G H → J.stop i H
theorem Wk.mo {K : PySem.W.Frag} {G G' : Hp} {J : It} {items : List PyData} (h : Wk K G J items) (s : Same G G') : Wk K G' J items :=
  ⟨fun i d H e s2 => h.go i d H e (s.trans s2), fun i d G2 H x H' e s2 s3 y => h.yld i d G2 H x H' e (s.trans s2) s3 y, fun i H e s2 => h.stop i H e (s.trans s2)⟩
/-- behind a turn's item: the state and the item -/
theorem Wk.item {K : PySem.W.Frag} {C : DC} {G G2 H H' : Hp} {ρ : DS} {σ : St} {J : It} {items : List PyData} (h : Wk K G J items) (s : Same G G2) (r : Rel K C G2 ρ σ H) {i : Nat} {d : PyData} {x : V} (e : items[i]? = some d) (y : J.yld i H x H') :
    ∃ G', Same G2 G' ∧ Rel K C G' ρ σ H' ∧ Dp K G' x d := by
  rcases h.yld i d G2 H x H' e s r.same y with ⟨rfl, dp⟩ | ⟨p, vs, ds, hp, rfl, rfl, rfl, da⟩
  · exact ⟨G2, Same.refl _, r, dp⟩
  · have sg := same_upd (o := .tup vs) (r.free hp)
    exact ⟨_, sg, r.new hp, .tup (.inl (.inl upd_same)) (DpAll.mo sg _ _ da)⟩
def liftI (K : PySem.W.Frag) (C : DC) (t : DTL) : TI := fun σ H R => ∃ G ρ, Rel K C G ρ σ H ∧ t ρ fun items ρ' => ∀ J G' H', Same G G' → Rel K C G' ρ' σ H' → Wk K G' J items → R J H'
structure DI (X : Cx) (tg iter : Expr) (t : DTL) : Prop where
  run : ∀ C, PI X tg iter (liftI X.K C t)
  mono : ∀ ρ Q Q', (∀ d ρ', Q d ρ' → Q' d ρ') → t ρ Q → t ρ Q'
theorem PI.imp {t t0 : TI} (h : PI X tg iter t0) (k : ∀ σ H Q, t σ H Q → t0 σ H Q) : PI X tg iter t := ⟨fun pins s σ H Q I hw => h.run pins s σ H Q I (k _ _ _ hw)⟩
theorem goI {t : DTL} (m : ∀ ρ Q Q', (∀ d ρ', Q d ρ' → Q' d ρ') → t ρ Q → t ρ Q') {K : PySem.W.Frag} {C : DC} {G H : Hp} {ρ : DS} {σ : St} {R : It → Hp → Prop} {P : List PyData → DS → Prop} (r : Rel K C G ρ σ H) (h : t ρ P)
    (k : ∀ d ρ' J G' H', P d ρ' → Same G G' → Rel K C G' ρ' σ H' → Wk K G' J d → R J H') : liftI K C t σ H R := ⟨G, ρ, r, m _ _ _ (fun d ρ' p J G' H' s r' q => k d ρ' J G' H' p s r' q) h⟩
/-- a list or a tuple -/
def iSq (K : PySem.W.Frag) (tl : TE) : TI := fun σ H R => tl σ H fun x H1 => ∃ a, x = .ref a ∧ (((∃ xs, SqL K H1 a xs) ∧ R (Itl K a) H1) ∨ ((∃ xs, SqT K H1 a xs) ∧ R (Itt K a) H1))
theorem pi_sq {l : Expr} {tl : TE} (hl : PE X l tl) : PI X tg l (iSq X.K tl) := by
  refine ⟨fun pins s σ H R I h => ?_⟩
  refine thn (hl.run pins s σ H _ I h) fun v s1 ⟨x, H1, I1, r1, q1⟩ => ?_
  obtain ⟨a, e, q1⟩ := q1
  subst e
  cases r1
  rcases q1 with ⟨⟨xs, hq⟩, q⟩ | ⟨⟨xs, hq⟩, q⟩
  · obtain ⟨its, rv, p, hz⟩ := I1.list hq
    refine wpAny_pyIter_list p.isList ?_
    refine ⟨s1.heap.objs.size, [s1.heap.objs.size], _, _, H1, rfl, I1.kept (t' := s1.toks) fun b o e => Heap.get?_push_of_some _ e, turn_list a _, ⟨_, Heap.get?_push_size _ rfl, rfl, rfl⟩, fun b hb => ?_, q⟩
    have e : b = s1.heap.objs.size := by simpa using hb
    subst e
    exact I1.fpOk (Nat.le_refl _) (I1.hok.fresh (Nat.le_refl _))
  · obtain ⟨its, rv, p, hz⟩ := I1.tuple hq
    refine wpAny_pyIter_tuple (show s1.heap.IsTuple a its.toArray from p) ?_
    refine ⟨s1.heap.objs.size, [s1.heap.objs.size], _, _, H1, rfl, I1.kept (t' := s1.toks) fun b o e => Heap.get?_push_of_some _ e, turn_tuple a _, ⟨_, Heap.get?_push_size _ rfl, rfl, rfl⟩, fun b hb => ?_, q⟩
    have e : b = s1.heap.objs.size := by simpa using hb
    subst e
    exact I1.fpOk (Nat.le_refl _) (I1.hok.fresh (Nat.le_refl _))
end
end DL

namespace DL
open PySem L2

section
variable {X : Cx} {e a b c tg iter elt : Expr} {es ifs : List Expr} {st : Stmt} {sts body : List Stmt} {pos pos' : Pos}
/-! ## sources -/
theorem wk_list {K : PySem.W.Frag} {G : Hp} {a : Addr} {vs : List V} {ds : List PyData} (h : SqL K G a vs) (hd : DpAll K G vs ds) : Wk K G (Itl K a) ds where
  go i d H e s := by
    obtain ⟨v, e1, _⟩ := DpAll.get hd e
    exact ⟨vs, v, s.seq h, e1⟩
  yld i d G2 H x H' e s s2 y := by
    obtain ⟨rfl, y⟩ := y
    obtain ⟨d', e1, dp⟩ := DpAll.get' hd (y vs ((s.trans s2).seq h))
    rw [e] at e1
    cases e1
    exact .inl ⟨rfl, Dp.mo s _ _ dp⟩
  stop i H e s := ⟨vs, s.seq h, by rw [DpAll.len hd]; exact e⟩
theorem wk_tup {K : PySem.W.Frag} {G : Hp} {a : Addr} {vs : List V} {ds : List PyData} (h : SqT K G a vs) (hd : DpAll K G vs ds) : Wk K G (Itt K a) ds where
  go i d H e s := by
    obtain ⟨v, e1, _⟩ := DpAll.get hd e
    exact ⟨vs, v, sameT s h, e1⟩
  yld i d G2 H x H' e s s2 y := by
    obtain ⟨rfl, y⟩ := y
    obtain ⟨d', e1, dp⟩ := DpAll.get' hd (y vs (sameT (s.trans s2) h))
    rw [e] at e1
    cases e1
    exact .inl ⟨rfl, Dp.mo s _ _ dp⟩
  stop i H e s := ⟨vs, sameT s h, by rw [DpAll.len hd]; exact e⟩
/-- a list or a tuple that stands -/
def iE (t : DTE) : DTL := fun ρ Q => t ρ fun d ρ' => match d with
  | .list ds => Q ds ρ'
  | .tuple ds => Q ds ρ'
  | _ => False
theorem di_e {t : DTE} (h : DE X iter t) : DI X tg iter (iE t) where
  run C := PI.imp (pi_sq (h.run C)) fun σ H R ⟨G, ρ, r, q⟩ => goE h.mono r q fun d ρ' v G' H' p s r' dp => by
    (try dsimp only at p)
    split at p
    · cases dp with
      | lst hs ha => exact ⟨_, rfl, .inl ⟨⟨_, r'.same.seq hs⟩, p _ G' H' s r' (wk_list hs ha)⟩⟩
    · cases dp with
      | tup hs ha => exact ⟨_, rfl, .inr ⟨⟨_, sameT r'.same hs⟩, p _ G' H' s r' (wk_tup hs ha)⟩⟩
    · exact p.elim
  mono ρ Q Q' k q := h.mono _ _ _ (fun d ρ' p => by
    (try dsimp only at p); (try dsimp only)
    split
    · exact k _ _ p
    · exact k _ _ p
    · rename_i h1 h2
      split at p
      · exact (h1 _ rfl).elim
      · exact (h2 _ rfl).elim
      · exact p) q
/-- the ints of a range -/
def rngD (lo : Int) (n : Nat) : List PyData := (List.range n).map fun (i : Nat) => PyData.int (lo + i)
theorem rngD_len (lo : Int) (n : Nat) : (rngD lo n).length = n := by unfold rngD; rw [List.length_map, List.length_range]
theorem rngD_get {lo : Int} {n i : Nat} (h : i < n) : (rngD lo n)[i]? = some (.int (lo + i)) := by
  unfold rngD
  rw [List.getElem?_map, List.getElem?_range h]
  rfl
theorem wk_rng {K : PySem.W.Frag} {G : Hp} (lo : Int) (n : Nat) : Wk K G (Itr lo n) (rngD lo n) where
  go i d H e s := by
    have := (List.getElem?_eq_some_iff.mp e).1
    rw [rngD_len] at this
    exact this
  yld i d G2 H x H' e s s2 y := by
    obtain ⟨rfl, rfl⟩ := y
    have := (List.getElem?_eq_some_iff.mp e).1
    rw [rngD_len] at this
    rw [rngD_get this] at e
    cases e
    exact .inl ⟨rfl, .int _⟩
  stop i H e s := by
    rw [rngD_len] at e
    exact e
def iR1 (t : DTL) : DTL := fun ρ Q => t ρ fun ds ρ' => match ds with
  | [.int j] => -(2 ^ 62) ≤ j ∧ j < 2 ^ 62 ∧ Q (rngD 0 j.toNat) ρ'
  | _ => False
theorem di_r1 {t : DTL} {p : Pos} (hg : Gl X "range") (hm : X.mg "range" = none) (h : DA X [a] t) (hs : starEach [a] X.env = [(false, eval a X.env)] := by rfl) : DI X tg (.Call (.Name "range" p) [a] [] pos) (iR1 t) where
  run C := PI.imp (pi_range1 hg hm (h.run C) hs) fun σ H R ⟨G, ρ, r, q⟩ => goA h.mono r q fun ds ρ' vs G' H' p s r' dp => by
    (try dsimp only at p)
    split at p
    · cases dp with
      | cons d1 d2 =>
        cases d1
        cases d2
        exact ⟨_, rfl, p.1, p.2.1, p.2.2 _ G' H' s r' (wk_rng _ _)⟩
    · exact p.elim
  mono ρ Q Q' k q := h.mono _ _ _ (fun d ρ' p => by
    (try dsimp only at p); (try dsimp only)
    split at p
    · exact ⟨p.1, p.2.1, k _ _ p.2.2⟩
    · exact p.elim) q
def iR2 (t : DTL) : DTL := fun ρ Q => t ρ fun ds ρ' => match ds with
  | [.int i, .int j] => (-(2 ^ 62) ≤ i ∧ i < 2 ^ 62 ∧ -(2 ^ 62) ≤ j ∧ j < 2 ^ 62) ∧ Q (rngD i (j - i).toNat) ρ'
  | _ => False
theorem di_r2 {t : DTL} {p : Pos} (hg : Gl X "range") (hm : X.mg "range" = none) (h : DA X [a, b] t) (hs : starEach [a, b] X.env = [(false, eval a X.env), (false, eval b X.env)] := by rfl) (hs2 : starEach [b] X.env = [(false, eval b X.env)] := by rfl) : DI X tg (.Call (.Name "range" p) [a, b] [] pos) (iR2 t) where
  run C := PI.imp (pi_range2 hg hm (h.run C) hs hs2) fun σ H R ⟨G, ρ, r, q⟩ => goA h.mono r q fun ds ρ' vs G' H' p s r' dp => by
    (try dsimp only at p)
    split at p
    · cases dp with
      | cons d1 d2 =>
        cases d1
        cases d2 with
        | cons d2 d3 =>
          cases d2
          cases d3
          exact ⟨_, _, rfl, p.1, p.2 _ G' H' s r' (wk_rng _ _)⟩
    · exact p.elim
  mono ρ Q Q' k q := h.mono _ _ _ (fun d ρ' p => by
    (try dsimp only at p); (try dsimp only)
    split at p
    · exact ⟨p.1, k _ _ p.2⟩
    · exact p.elim) q
/-! ## for -/
def foD (g : DTG) (tb : DTS) (DD : DEn) : List PyData → DS → Prop
  | [], ρ => DD.nx ρ
  | x :: xs, ρ => g x ρ fun ρ' => tb { nx := foD g tb DD xs, rt := DD.rt, bk := DD.nx, ct := foD g tb DD xs } ρ'
@[irreducible] def foX (g : DTG) (tb : DTS) (DD : DEn) (items : List PyData) (ρ : DS) : Prop := foD g tb DD items ρ
theorem fo_in {g : DTG} {tb : DTS} {DD : DEn} {items : List PyData} {ρ : DS} (h : foD g tb DD items ρ) : foX g tb DD items ρ := by unfold foX; exact h
theorem fo_out {g : DTG} {tb : DTS} {DD : DEn} {items : List PyData} {ρ : DS} (h : foX g tb DD items ρ) : foD g tb DD items ρ := by unfold foX at h; exact h
def sFo (ti : DTL) (g : DTG) (tb : DTS) : DTS := fun DD ρ => ti ρ fun items ρ' => foX g tb DD items ρ'
theorem foD_mono {g : DTG} {tb : DTS} {DD DD' : DEn} (l : DEn.le DD DD') (hg : ∀ d ρ Q Q', (∀ ρ', Q ρ' → Q' ρ') → g d ρ Q → g d ρ Q') (hb : ∀ DD DD' ρ, DEn.le DD DD' → tb DD ρ → tb DD' ρ) : ∀ (xs : List PyData) (ρ : DS), foD g tb DD xs ρ → foD g tb DD' xs ρ
  | [], ρ, h => l.nx ρ h
  | x :: xs, ρ, h => hg _ _ _ _ (fun ρ' p => hb { nx := foD g tb DD xs, rt := DD.rt, bk := DD.nx, ct := foD g tb DD xs } { nx := foD g tb DD' xs, rt := DD'.rt, bk := DD'.nx, ct := foD g tb DD' xs } ρ' ⟨fun ρ2 q => foD_mono l hg hb xs ρ2 q, l.rt, l.nx, fun ρ2 q => foD_mono l hg hb xs ρ2 q⟩ p) h
theorem drop_at {α : Type} {l : List α} {i : Nat} {d : α} (e : l[i]? = some d) : l.drop i = d :: l.drop (i + 1) := by
  obtain ⟨h, e2⟩ := List.getElem?_eq_some_iff.mp e
  rw [← e2]
  exact List.drop_eq_getElem_cons h
theorem ds_for {ti : DTL} {g : DTG} {tb : DTS} {ws : List Nat} (hp : PassesOwn (model X.prog X.w) X.A X.env X.xe) (hc : X.calm = true) (hi : DI X tg iter ti) (hg : DG X tg ws g) (hb : DSs X body tb)
    (hs : ∀ x, foldedSetIterable iter X.env x = pure x := by intro _; rfl) : DSt X (.For tg iter body [] pos) (sFo ti g tb) where
  run C := PS.imp (ps_for hp hc (hi.run C) (hg.run C) (hb.run C) hs) fun D σ H ⟨G, ρ, DD, r, k, q⟩ => goI hi.mono r q fun items ρ' J G' H' p s r' wk => by
    have p := fo_out p
    refine ⟨fun i m σ H => ∃ G2 ρ, Same G' G2 ∧ Rel X.K C G2 ρ σ H ∧ EnOk X.K C G2 DD D ∧ m = items.length - i ∧ i ≤ items.length ∧ foD g tb DD (items.drop i) ρ, ⟨items.length, G', ρ', Same.refl _, r', k.mo s, by omega, Nat.zero_le _, by rw [List.drop_zero]; exact p⟩, ?_⟩
    rintro i m σ H ⟨G2, ρ, s2, r2, k2, rfl, hi, q2⟩
    by_cases hlt : i < items.length
    · obtain ⟨d, ed⟩ : ∃ d, items[i]? = some d := ⟨_, List.getElem?_eq_getElem hlt⟩
      rw [drop_at ed] at q2
      refine .inr ⟨wk.go i d H ed (s2.trans r2.same), fun σ H => ∃ G3 ρ, Same G' G3 ∧ Rel X.K C G3 ρ σ H ∧ EnOk X.K C G3 DD D ∧ foD g tb DD (items.drop (i + 1)) ρ,
        fun σ' H' ⟨G3, ρ, s3, r3, k3, q3⟩ => ⟨items.length - (i + 1), by omega, G3, ρ, s3, r3, k3, rfl, hlt, q3⟩, fun x H' y => ?_⟩
      obtain ⟨G3, s3, r3, dp⟩ := wk.item s2 r2 ed y
      refine goG hg.mono r3 dp q2 fun ρ4 σ4 G4 H4 p4 _ s4 r4 => ?_
      have k4 := (k2.mo s3).mo s4
      have s5 := (s2.trans s3).trans s4
      exact ⟨G4, ρ4, { nx := foD g tb DD (items.drop (i + 1)), rt := DD.rt, bk := DD.nx, ct := foD g tb DD (items.drop (i + 1)) }, r4, ⟨fun ρ5 σ5 G5 H5 q5 s6 r5 => ⟨G5, ρ5, s5.trans s6, r5, k4.mo s6, q5⟩, k4.rt, k4.nx, fun ρ5 σ5 G5 H5 q5 s6 r5 => ⟨G5, ρ5, s5.trans s6, r5, k4.mo s6, q5⟩⟩, p4⟩
    · have e : i = items.length := by omega
      subst e
      rw [List.drop_length] at q2
      exact .inl ⟨wk.stop _ H (Nat.le_refl _) (s2.trans r2.same), k2.nx ρ σ G2 H q2 (Same.refl _) r2⟩
  mono DD DD' ρ l q := hi.mono _ _ _ (fun items ρ' p => fo_in (foD_mono l hg.mono hb.mono items ρ' (fo_out p))) q
/-- a for by an invariant over the turn's number -/
theorem foD_by {g : DTG} {tb : DTS} {DD : DEn} {items : List PyData} {ρ : DS} (W : Nat → DS → Prop) (hg : ∀ d ρ Q Q', (∀ ρ', Q ρ' → Q' ρ') → g d ρ Q → g d ρ Q') (hb : ∀ DD DD' ρ, DEn.le DD DD' → tb DD ρ → tb DD' ρ) (h0 : W 0 ρ)
    (hs : ∀ i d ρ, items[i]? = some d → W i ρ → g d ρ fun ρ' => tb { nx := W (i + 1), rt := DD.rt, bk := DD.nx, ct := W (i + 1) } ρ') (hd : ∀ ρ, W items.length ρ → DD.nx ρ) : foD g tb DD items ρ := by
  have key : ∀ n i ρ, i + n = items.length → W i ρ → foD g tb DD (items.drop i) ρ := by
    intro n
    induction n with
    | zero =>
      intro i ρ e w
      have e : i = items.length := by omega
      subst e
      rw [List.drop_length]
      exact hd ρ w
    | succ n ih =>
      intro i ρ e w
      have hlt : i < items.length := by omega
      obtain ⟨d, ed⟩ : ∃ d, items[i]? = some d := ⟨_, List.getElem?_eq_getElem hlt⟩
      rw [drop_at ed]
      exact hg _ _ _ _ (fun ρ' p => hb { nx := W (i + 1), rt := DD.rt, bk := DD.nx, ct := W (i + 1) } { nx := foD g tb DD (items.drop (i + 1)), rt := DD.rt, bk := DD.nx, ct := foD g tb DD (items.drop (i + 1)) } ρ'
        ⟨fun ρ2 q => ih (i + 1) ρ2 (by omega) q, fun _ _ q => q, fun _ q => q, fun ρ2 q => ih (i + 1) ρ2 (by omega) q⟩ p) (hs i d ρ ed w)
  have q := key items.length 0 ρ (by omega) h0
  rw [List.drop_zero] at q
  exact q
/-! ## list comprehensions -/
structure DTs (X : Cx) (ifs : List Expr) (t : DTT) : Prop where
  run : ∀ C, PTs X ifs (liftT X.K C t)
  mono : ∀ ρ Q Q', (∀ d ρ', Q d ρ' → Q' d ρ') → t ρ Q → t ρ Q'
theorem PTs.imp {t t0 : TT} (h : PTs X ifs t0) (k : ∀ σ H Q, t σ H Q → t0 σ H Q) : PTs X ifs t := ⟨fun pins s σ H Q I hw => h.run pins s σ H Q I (k _ _ _ hw)⟩
def tYs : DTT := fun ρ Q => Q true ρ
theorem dts_nil : DTs X [] tYs := ⟨fun C => PTs.imp pts_nil fun σ H Q ⟨G, ρ, r, q⟩ => q G H (Same.refl _) r, fun ρ Q Q' k q => k _ _ q⟩
theorem dts_one {t : DTT} (h : DT X c t) : DTs X [c] t := ⟨fun C => pts_one (h.run C), h.mono⟩
def wipeD (ρ : DS) : List Nat → DS
  | [] => ρ
  | v :: vs => (wipeD ρ vs).set v none
def noBo (ρ : DS) (vs : List Nat) : Bool := vs.all fun v => !isBo ρ v
theorem wipeD_bo {ρ : DS} {i : Nat} {ds : List PyData} : ∀ {vs : List Nat}, (wipeD ρ vs)[i]? = some (some (.bo ds)) → ρ[i]? = some (some (.bo ds))
  | [], h => h
  | v :: vs, h => by
    unfold wipeD at h
    by_cases e : v = i
    · subst e
      by_cases hl : v < (wipeD ρ vs).length
      · rw [List.getElem?_set_self hl] at h; cases h
      · rw [List.getElem?_eq_none (by rw [List.length_set]; omega)] at h; cases h
    · rw [List.getElem?_set_ne e] at h
      exact wipeD_bo h
theorem Rel.wiped {K : PySem.W.Frag} {C : DC} {G H : Hp} {ρ : DS} {σ : St} (R : Rel K C G ρ σ H) : ∀ {vs : List Nat}, (∀ v ∈ vs, ∀ ds, ρ[v]? ≠ some (some (.bo ds))) → Rel K C G (wipeD ρ vs) (wipe σ vs) H
  | [], _ => R
  | v :: vs, h => Rel.drop (Rel.wiped R fun u hu => h u (List.mem_cons_of_mem _ hu)) fun ds e => h v List.mem_cons_self ds (wipeD_bo e)
/-- slots that are no lent ones -/
theorem Rel.noBoOf {K : PySem.W.Frag} {C : DC} {G H : Hp} {ρ : DS} {σ : St} (R : Rel K C G ρ σ H) {vs : List Nat} (h : ∀ p ∈ C.β, p.1 ∉ vs) : ∀ v ∈ vs, ∀ ds, ρ[v]? ≠ some (some (.bo ds)) := fun v hv ds e => by
  obtain ⟨_, _, a, ws, _, hb, _⟩ := R.slot v _ e
  exact h _ hb hv
theorem Rel.lentOut {K : PySem.W.Frag} {C : DC} {G H : Hp} {ρ : DS} {σ : St} (R : Rel K C G ρ σ H) {vs : List Nat} (h : noBo ρ vs = true) : ∀ p ∈ C.β, p.1 ∉ vs := fun p hp hv => by
  obtain ⟨_, ds, e⟩ := R.bs p hp
  have q := List.all_eq_true.mp h _ hv
  unfold isBo at q
  rw [e] at q
  cases q
theorem wipe_but {vs ws : List Nat} {σ σ' : St} (hw : ∀ i ∈ ws, i ∈ vs) (h : But ws (wipe σ vs) σ') : wipe σ' vs = wipe σ vs := by
  have hl : σ'.length = σ.length := h.1.trans (wipe_length _ _)
  apply List.ext_getElem?
  intro i
  have wn : ∀ (σ : St) (vs : List Nat), i ∈ vs → (wipe σ vs)[i]? = if i < σ.length then some none else none := by
    intro σ vs
    induction vs with
    | nil => intro h; cases h
    | cons v vs ih =>
      intro h
      unfold wipe
      by_cases e : v = i
      · subst e
        by_cases hl : v < σ.length
        · rw [List.getElem?_set_self (by rw [wipe_length]; exact hl), if_pos hl]
        · rw [List.getElem?_eq_none (by rw [List.length_set, wipe_length]; omega), if_neg hl]
      · rw [List.getElem?_set_ne e]
        rcases List.mem_cons.mp h with h | h
        · exact absurd h.symm e
        · exact ih h
  by_cases hi : i ∈ vs
  · rw [wn σ' vs hi, wn σ vs hi, hl]
  · rw [wipe_out hi, h.2 i fun z => hi (hw i z)]
theorem wipeD_len (ρ : DS) : ∀ vs : List Nat, (wipeD ρ vs).length = ρ.length
  | [] => rfl
  | v :: vs => by unfold wipeD; rw [List.length_set, wipeD_len ρ vs]
def cmD (g : DTG) (tt : DTT) (te : DTE) (vs : List Nat) (Q : List PyData → DS → Prop) : List PyData → List PyData → DS → Prop
  | [], acc, ρ => Q acc ρ
  | x :: xs, acc, ρ => g x ρ fun ρ1 => tt ρ1 fun b ρ2 => if b = true then te ρ2 fun y ρ3 => cmD g tt te vs Q xs (acc ++ [y]) (wipeD ρ3 vs) else cmD g tt te vs Q xs acc (wipeD ρ2 vs)
@[irreducible] def cmX (g : DTG) (tt : DTT) (te : DTE) (vs : List Nat) (Q : List PyData → DS → Prop) (items acc : List PyData) (ρ : DS) : Prop := cmD g tt te vs Q items acc ρ
theorem cm_in {g : DTG} {tt : DTT} {te : DTE} {vs : List Nat} {Q : List PyData → DS → Prop} {items acc : List PyData} {ρ : DS} (h : cmD g tt te vs Q items acc ρ) : cmX g tt te vs Q items acc ρ := by unfold cmX; exact h
theorem cm_out {g : DTG} {tt : DTT} {te : DTE} {vs : List Nat} {Q : List PyData → DS → Prop} {items acc : List PyData} {ρ : DS} (h : cmX g tt te vs Q items acc ρ) : cmD g tt te vs Q items acc ρ := by unfold cmX at h; exact h
/-- the block's own slots are as they were ahead (where they held shared data) -/
def bkS : Option (Option Sl) → Option Sl
  | some (some (.sh d)) => some (.sh d)
  | _ => none
theorem bkS_sh {d : PyData} : bkS (some (some (.sh d))) = some (.sh d) := rfl
theorem bkS_no : bkS (some none) = none := rfl
theorem bkS_ow {ds : List PyData} : bkS (some (some (.ow ds))) = none := rfl
theorem bkS_opt {z : Option PyData} : bkS (some (z.map Sl.sh)) = z.map Sl.sh := by cases z <;> rfl
def backD (ρ ρe : DS) : List Nat → DS
  | [] => ρe
  | v :: vs => (backD ρ ρe vs).set v (bkS ρ[v]?)
def fLc (ti : DTL) (g : DTG) (tt : DTT) (te : DTE) (vs : List Nat) : DTL := fun ρ Q => ti ρ fun items ρ' => items.length ≤ sizeLine ∧ noBo ρ' vs = true ∧ cmX g tt te vs (fun out ρe => Q out (backD ρ' ρe vs)) items [] (wipeD ρ' vs)
theorem cmD_mono {g : DTG} {tt : DTT} {te : DTE} {vs : List Nat} {Q Q' : List PyData → DS → Prop} (k : ∀ d ρ, Q d ρ → Q' d ρ) (hg : ∀ d ρ Q Q', (∀ ρ', Q ρ' → Q' ρ') → g d ρ Q → g d ρ Q') (ht : ∀ ρ Q Q', (∀ d ρ', Q d ρ' → Q' d ρ') → tt ρ Q → tt ρ Q')
    (he : ∀ ρ Q Q', (∀ d ρ', Q d ρ' → Q' d ρ') → te ρ Q → te ρ Q') : ∀ (xs acc : List PyData) (ρ : DS), cmD g tt te vs Q xs acc ρ → cmD g tt te vs Q' xs acc ρ
  | [], acc, ρ, h => k _ _ h
  | x :: xs, acc, ρ, h => hg _ _ _ _ (fun ρ1 p => ht _ _ _ (fun b ρ2 p2 => by
    cases b with
    | true => exact he _ _ _ (fun y ρ3 p3 => cmD_mono k hg ht he xs _ _ p3) p2
    | false => exact cmD_mono k hg ht he xs _ _ p2) p) h
/-- going back to the slots ahead of the block -/
theorem Rel.back {K : PySem.W.Frag} {C : DC} {G0 G H0 H : Hp} {ρ0 ρ : DS} {σ : St} (R0 : Rel K C G0 ρ0 σ H0) (s : Same G0 G) : ∀ {vs : List Nat}, (∀ p ∈ C.β, p.1 ∉ vs) → Rel K C G ρ (wipe σ vs) H → ρ.length = σ.length → Rel K C G (backD ρ0 ρ vs) σ H
  | vs, hv, R, hl => by
    -- slot by slot
    have bk : ∀ (us : List Nat) (i : Nat), i ∈ us → i < ρ.length → (backD ρ0 ρ us)[i]? = some (bkS ρ0[i]?) := by
      have ln : ∀ us : List Nat, (backD ρ0 ρ us).length = ρ.length := by
        intro us
        induction us with
        | nil => rfl
        | cons u us ih => unfold backD; rw [List.length_set, ih]
      intro us
      induction us with
      | nil => intro i h; cases h
      | cons u us ih =>
        intro i h hlt
        unfold backD
        by_cases e : u = i
        · subst e
          rw [List.getElem?_set_self (by rw [ln]; exact hlt)]
        · rw [List.getElem?_set_ne e]
          rcases List.mem_cons.mp h with h | h
          · exact absurd h.symm e
          · exact ih i h hlt
    have bo : ∀ (us : List Nat) (i : Nat), i ∉ us → (backD ρ0 ρ us)[i]? = ρ[i]? := by
      intro us
      induction us with
      | nil => intro i _; rfl
      | cons u us ih =>
        intro i h
        unfold backD
        rw [List.getElem?_set_ne fun e => h (by rw [e]; exact List.mem_cons_self)]
        exact ih i fun z => h (List.mem_cons_of_mem _ z)
    have ln : (backD ρ0 ρ vs).length = ρ.length := by
      have : ∀ us : List Nat, (backD ρ0 ρ us).length = ρ.length := by
        intro us
        induction us with
        | nil => rfl
        | cons u us ih => unfold backD; rw [List.length_set, ih]
      exact this vs
    have inn : ∀ {i : Nat} {sl : Sl}, (backD ρ0 ρ vs)[i]? = some (some sl) → i < ρ.length := fun {i sl} e => by
      have := (List.getElem?_eq_some_iff.mp e).1
      rw [ln] at this
      exact this
    have muq : ∀ {i : Nat} {sl : Sl}, (backD ρ0 ρ vs)[i]? = some (some sl) → sl.mu = true → i ∉ vs ∧ ρ[i]? = some (some sl) := fun {i sl} e hm => by
      by_cases hi : i ∈ vs
      · rw [bk vs i hi (inn e)] at e
        unfold bkS at e
        split at e
        · cases e; cases hm
        · cases e
      · rw [bo vs i hi] at e
        exact ⟨hi, e⟩
    refine ⟨R.same, R.nw, R.fr, R.be, fun p hp => ?_, by rw [ln, hl], fun i sl e => ?_, fun i j si sj a ne ei ej mi mj qi => ?_, fun z hz => ?_⟩
    · obtain ⟨q1, ds, q2⟩ := R.bs p hp
      rw [wipe_out (hv p hp)] at q1
      exact ⟨q1, ds, by rw [bo vs _ (hv p hp)]; exact q2⟩
    · by_cases hi : i ∈ vs
      · rw [bk vs i hi (inn e)] at e
        unfold bkS at e
        split at e
        · rename_i d e0
          cases e
          obtain ⟨v, e1, k⟩ := R0.slot i _ e0
          exact ⟨v, e1, Dp.mo s d v k⟩
        · cases e
      · rw [bo vs i hi] at e
        obtain ⟨v, e1, k⟩ := R.slot i sl e
        rw [wipe_out hi] at e1
        exact ⟨v, e1, k⟩
    · obtain ⟨hi, ei⟩ := muq ei mi
      obtain ⟨hj, ej⟩ := muq ej mj
      have q := R.sep i j si sj a ne ei ej mi mj (by rw [wipe_out hi]; exact qi)
      rw [wipe_out hj] at q
      exact q
    · obtain ⟨q1, q2, q3, q4⟩ := R.prs z hz
      refine ⟨q1, q2, q3, fun j sl ej mj => ?_⟩
      obtain ⟨hj, ej⟩ := muq ej mj
      have q := q4 j sl ej mj
      rw [wipe_out hj] at q
      exact q
theorem backD_len (ρ0 ρ : DS) : ∀ vs : List Nat, (backD ρ0 ρ vs).length = ρ.length
  | [] => rfl
  | v :: vs => by unfold backD; rw [List.length_set, backD_len ρ0 ρ vs]
theorem backD_mu {ρ0 ρ : DS} {i : Nat} {sl : Sl} (hm : sl.mu = true) : ∀ {vs : List Nat}, (backD ρ0 ρ vs)[i]? = some (some sl) → i ∉ vs ∧ ρ[i]? = some (some sl)
  | [], e => ⟨by simp, e⟩
  | v :: vs, e => by
    unfold backD at e
    by_cases h : v = i
    · subst h
      by_cases hl : v < (backD ρ0 ρ vs).length
      · rw [List.getElem?_set_self hl] at e
        unfold bkS at e
        split at e
        · cases e; cases hm
        · cases e
      · rw [List.getElem?_eq_none (by rw [List.length_set]; omega)] at e; cases e
    · rw [List.getElem?_set_ne h] at e
      obtain ⟨h1, h2⟩ := backD_mu hm e
      exact ⟨fun z => (List.mem_cons.mp z).elim (fun z => h z.symm) h1, h2⟩
theorem backD_fresh {C : DC} {G H : Hp} {ρ0 ρ : DS} {σ : St} {vs : List Nat} {a : Addr} {us : List V} (f : Fresh C G ρ (wipe σ vs) H a us) (_hl : ρ.length = σ.length) {j : Nat} {sl : Sl} (ej : (backD ρ0 ρ vs)[j]? = some (some sl)) (mj : sl.mu = true) : σ[j]? ≠ some (some (.ref a)) := by
  obtain ⟨h1, h2⟩ := backD_mu mj ej
  have q := f.ns j sl h2 mj
  rw [wipe_out h1] at q
  exact q
/-- the reading of a comprehension, for a continuation that takes a fresh list -/
theorem lc_run {ti : DTL} {g : DTG} {tt : DTT} {te : DTE} {ws vs : List Nat} {C : DC} {K : PySem.W.Frag} (hti : ∀ ρ Q Q', (∀ d ρ', Q d ρ' → Q' d ρ') → ti ρ Q → ti ρ Q')
    (hg : ∀ d ρ Q Q', (∀ ρ', Q ρ' → Q' ρ') → g d ρ Q → g d ρ Q') (ht : ∀ ρ Q Q', (∀ d ρ', Q d ρ' → Q' d ρ') → tt ρ Q → tt ρ Q') (he : ∀ ρ Q Q', (∀ d ρ', Q d ρ' → Q' d ρ') → te ρ Q → te ρ Q') (hw : ∀ i ∈ ws, i ∈ vs)
    {σ : St} {H : Hp} {Q : VK} {G : Hp} {ρ : DS} {P : List PyData → DS → Prop} (rl : Rel K C G ρ σ H) (q : fLc ti g tt te vs ρ P)
    (k : ∀ ds ρ' a us G' H', P ds ρ' → Same G G' → Rel K C G' ρ' σ H' → Fresh C G' ρ' σ H' a us → DpAll K G' us ds → Q (.ref a) H') :
    tLc (fun σ H R => liftI K C ti σ H R) (fun v σ H R => ∃ C', liftG K C' ws g v σ H R) (fun σ H R => ∃ C', liftT K C' tt σ H R) (fun σ H R => ∃ C', liftE K C' te σ H R) vs σ H Q := by
  refine goI hti rl q fun items ρ' J G' H' p s r' wk => ?_
  obtain ⟨hz, hnb, p⟩ := p
  have p := cm_out p
  intro D hD
  have hβ := r'.lentOut hnb
  -- the state of a turn
  refine ⟨fun i m H => ∃ G2 ρ2 us acc, Same G' G2 ∧ Rel K { C with pr := (D, us) :: C.pr } G2 ρ2 (wipe σ vs) H ∧ DpAll K G2 us acc ∧ acc.length ≤ i ∧ m = items.length - i ∧ i ≤ items.length ∧ ρ2.length = σ.length ∧
      cmD g tt te vs (fun out ρe => P out (backD ρ' ρe vs)) (items.drop i) acc ρ2, ?_, ?_⟩
  · have rw0 := Rel.wiped r' (r'.noBoOf hβ)
    have f0 := rw0.newF (vs := []) hD
    exact ⟨items.length, G', wipeD ρ' vs, [], [], Same.refl _, (rw0.newH hD).prPush f0, .nil, Nat.zero_le _, by omega, Nat.zero_le _, by rw [← rw0.len, wipe_length], by rw [List.drop_zero]; exact p⟩
  · rintro i m H ⟨G2, ρ2, us, acc, s2, r2, da, hacc, rfl, hi, hl, q2⟩
    have hnp : ∀ z ∈ C.pr, z.1 ≠ D := fun z hz => ne_of_none (r'.prs z hz).1 hD
    by_cases hlt : i < items.length
    · obtain ⟨d, ed⟩ : ∃ d, items[i]? = some d := ⟨_, List.getElem?_eq_getElem hlt⟩
      rw [drop_at ed] at q2
      refine .inr ⟨wk.go i d H ed (s2.trans r2.same), fun H => ∃ G2 ρ2 us acc, Same G' G2 ∧ Rel K { C with pr := (D, us) :: C.pr } G2 ρ2 (wipe σ vs) H ∧ DpAll K G2 us acc ∧ acc.length ≤ i + 1 ∧ ρ2.length = σ.length ∧
        cmD g tt te vs (fun out ρe => P out (backD ρ' ρe vs)) (items.drop (i + 1)) acc ρ2, fun H' ⟨G3, ρ3, us3, acc3, a1, a2, a3, a4, a5, a6⟩ => ⟨items.length - (i + 1), by omega, G3, ρ3, us3, acc3, a1, a2, a3, a4, rfl, hlt, a5, a6⟩, fun x H' y => ?_⟩
      obtain ⟨G3, s3, r3, dp⟩ := wk.item s2 r2 ed y
      refine ⟨_, goG hg r3 dp q2 fun ρ4 σ4 G4 H4 p4 bu s4 r4 => ?_⟩
      have hl4 : σ4.length = σ.length := bu.1.trans (wipe_length _ _)
      have hwp : wipe σ4 vs = wipe σ vs := wipe_but hw bu
      refine ⟨hwp, _, goT ht r4 p4 fun b ρ5 G5 H5 p5 s5 r5 => ?_⟩
      have s05 := ((s2.trans s3).trans s4).trans s5
      have hl5 : ρ5.length = σ.length := by rw [← r5.len, hl4]
      cases b with
      | false =>
        refine ⟨G5, wipeD ρ5 vs, us, acc, s05, ?_, DpAll.mo ((s3.trans s4).trans s5) _ _ da, Nat.le_succ_of_le hacc, ?_, p5⟩
        · have r6 := Rel.wiped r5 (r5.noBoOf (show ∀ p ∈ C.β, p.1 ∉ vs from hβ))
          rw [hwp] at r6
          exact r6
        · rw [wipeD_len, hl5]
      | true =>
        refine ⟨_, goE he r5 p5 fun y' ρ6 v6 G6 H6 p6 s6 r6 d6 => ?_⟩
        have s06 := s05.trans s6
        obtain ⟨q1, q2, q3, q4⟩ := r6.prs (D, us) List.mem_cons_self
        have hlen : us.length < sizeLine := by rw [DpAll.len da]; omega
        refine ⟨us, q1, hlen, G6, wipeD ρ6 vs, us ++ [v6], acc ++ [y'], s06, ?_, DpAll.app (DpAll.mo (((s3.trans s4).trans s5).trans s6) _ _ da) (.cons d6 .nil), by rw [List.length_append, List.length_singleton]; omega, ?_, p6⟩
        · have r7 := Rel.prGrow (C := C) (vs' := us ++ [v6]) r6 hnp
          have r8 := Rel.wiped r7 (r7.noBoOf (show ∀ p ∈ C.β, p.1 ∉ vs from hβ))
          rw [hwp] at r8
          exact r8
        · rw [wipeD_len, ← r6.len, hl4]
    · have e : i = items.length := by omega
      subst e
      rw [List.drop_length] at q2
      obtain ⟨r3, f3⟩ := Rel.prPop (C := C) r2 hnp
      have r4 := Rel.back r' s2 hβ r3 hl
      refine .inl ⟨wk.stop _ H (Nat.le_refl _) (s2.trans r2.same), k acc _ D us G2 H q2 (s.trans s2) r4 ⟨f3.at_, f3.g, f3.h0, fun j sl ej mj => ?_, f3.np⟩ da⟩
      exact backD_fresh f3 hl ej mj
/-- as a list of its own; as shared data by de_f -/
theorem df_lc {ti : DTL} {g : DTG} {tt : DTT} {te : DTE} {ws : List Nat} {scope : Scope} {own : List (Str × Nat)} (hc : X.calm = true) (hN : X.N.Nodup) (hi : DI X tg iter ti) (ok : blkC X.N X.env.scope scope own = true) (hw : ∀ i ∈ ws, i ∈ own.map (·.2))
    (hg : ∀ (s : Shared) (H : Hp) (C : Addr) (cl : List (Str × Addr)) (fp : List Addr), DG (X.blk s H scope (compEnvC scope cl C X.env) fp) tg ws g) (ht : ∀ (s : Shared) (H : Hp) (C : Addr) (cl : List (Str × Addr)) (fp : List Addr), DTs (X.blk s H scope (compEnvC scope cl C X.env) fp) ifs tt)
    (he : ∀ (s : Shared) (H : Hp) (C : Addr) (cl : List (Str × Addr)) (fp : List Addr), DE (X.blk s H scope (compEnvC scope cl C X.env) fp) elt te) (hs : ∀ x, foldedSetIterable iter X.env x = pure x := by intro _; rfl) :
    DF X (.ListComp elt [⟨tg, iter, ifs, 0⟩] scope pos) (fLc ti g tt te (own.map (·.2))) where
  run C := PE.imp (pe_lc hc hN (hi.run C) (blkOk_by ok) (fun s H c cl fp => ⟨fun pins s2 σ H2 v u Q I r ⟨C', h⟩ => ((hg s H c cl fp).run C').run pins s2 σ H2 v u Q I r h⟩) (fun s H c cl fp => ⟨fun pins s2 σ H2 Q I ⟨C', h⟩ => ((ht s H c cl fp).run C').run pins s2 σ H2 Q I h⟩)
      (fun s H c cl fp => ⟨fun pins s2 σ H2 Q I ⟨C', h⟩ => ((he s H c cl fp).run C').run pins s2 σ H2 Q I h⟩) hs) fun σ H Q ⟨G, ρ, r, q⟩ =>
    lc_run hi.mono (hg X.s_0 H 0 [] []).mono (ht X.s_0 H 0 [] []).mono (he X.s_0 H 0 [] []).mono hw r q fun ds ρ' a us G' H' p s r' f d => p a us G' H' s r' f d
  mono ρ Q Q' k q := hi.mono _ _ _ (fun items ρ' p => ⟨p.1, p.2.1, cm_in (cmD_mono (fun d ρ2 => k _ _) (hg X.s_0 (fun _ => none) 0 [] []).mono (ht X.s_0 (fun _ => none) 0 [] []).mono (he X.s_0 (fun _ => none) 0 [] []).mono _ _ _ (cm_out p.2.2))⟩) q
end
end DL

namespace DL
open PySem L2

section
variable {X : Cx} {e a b c tg iter elt : Expr} {es ifs : List Expr} {st : Stmt} {sts body : List Stmt} {pos pos' : Pos}
theorem ds_setLc (i : Nat) {y : Str} {py spos : Pos} {ti : DTL} {g : DTG} {tt : DTT} {te : DTE} {ws : List Nat} {scope : Scope} {own : List (Str × Nat)} (hc : X.calm = true) (hN : X.N.Nodup) (hi : DI X tg iter ti) (ok : blkC X.N X.env.scope scope own = true) (hw : ∀ i ∈ ws, i ∈ own.map (·.2))
    (hg : ∀ (s : Shared) (H : Hp) (C : Addr) (cl : List (Str × Addr)) (fp : List Addr), DG (X.blk s H scope (compEnvC scope cl C X.env) fp) tg ws g) (ht : ∀ (s : Shared) (H : Hp) (C : Addr) (cl : List (Str × Addr)) (fp : List Addr), DTs (X.blk s H scope (compEnvC scope cl C X.env) fp) ifs tt)
    (he : ∀ (s : Shared) (H : Hp) (C : Addr) (cl : List (Str × Addr)) (fp : List Addr), DE (X.blk s H scope (compEnvC scope cl C X.env) fp) elt te)
    (hy : X.N[i]? = some y := by rfl) (hyl : X.env.scope.names.lookup y = some .local := by rfl) (hsw : swapsWith (.ListComp elt [⟨tg, iter, ifs, 0⟩] scope pos) (some (.Name y py)) spos.line X.env = pure true := by exact sw_true rfl rfl rfl (by decide +kernel))
    (hs : ∀ x, foldedSetIterable iter X.env x = pure x := by intro _; rfl) : DSt X (.Assign [.Name y py] (.ListComp elt [⟨tg, iter, ifs, 0⟩] scope pos) spos) (sAs (eF (fLc ti g tt te (own.map (·.2)))) (gN i)) where
  run C := PS.imp (ps_setLc (i := i) hc hN hy hyl hsw (hi.run C) (blkOk_by ok) (fun s H c cl fp => ⟨fun pins s2 σ H2 v u Q I r ⟨C', h⟩ => ((hg s H c cl fp).run C').run pins s2 σ H2 v u Q I r h⟩) (fun s H c cl fp => ⟨fun pins s2 σ H2 Q I ⟨C', h⟩ => ((ht s H c cl fp).run C').run pins s2 σ H2 Q I h⟩)
      (fun s H c cl fp => ⟨fun pins s2 σ H2 Q I ⟨C', h⟩ => ((he s H c cl fp).run C').run pins s2 σ H2 Q I h⟩) hs) fun D σ H ⟨G, ρ, DD, r, k, q⟩ =>
    lc_run hi.mono (hg X.s_0 H 0 [] []).mono (ht X.s_0 H 0 [] []).mono (he X.s_0 H 0 [] []).mono hw r q fun ds ρ' a us G' H' p s r' f d => by
      obtain ⟨s2, r2⟩ := r'.freeze f
      exact k.nx _ _ _ _ p.2 (s.trans s2) (r2.setSh (isBo_no p.1) (.lst (.inl (.inl upd_same)) (DpAll.mo s2 _ _ d)))
  mono DD DD' ρ l q := hi.mono _ _ _ (fun items ρ' p => ⟨p.1, p.2.1, cm_in (cmD_mono (fun d ρ2 q => ⟨q.1, l.nx _ q.2⟩) (hg X.s_0 (fun _ => none) 0 [] []).mono (ht X.s_0 (fun _ => none) 0 [] []).mono (he X.s_0 (fun _ => none) 0 [] []).mono _ _ _ (cm_out p.2.2))⟩) q
theorem ds_ownLc (i : Nat) {y : Str} {py spos : Pos} {ti : DTL} {g : DTG} {tt : DTT} {te : DTE} {ws : List Nat} {scope : Scope} {own : List (Str × Nat)} (hc : X.calm = true) (hN : X.N.Nodup) (hi : DI X tg iter ti) (ok : blkC X.N X.env.scope scope own = true) (hw : ∀ i ∈ ws, i ∈ own.map (·.2))
    (hg : ∀ (s : Shared) (H : Hp) (C : Addr) (cl : List (Str × Addr)) (fp : List Addr), DG (X.blk s H scope (compEnvC scope cl C X.env) fp) tg ws g) (ht : ∀ (s : Shared) (H : Hp) (C : Addr) (cl : List (Str × Addr)) (fp : List Addr), DTs (X.blk s H scope (compEnvC scope cl C X.env) fp) ifs tt)
    (he : ∀ (s : Shared) (H : Hp) (C : Addr) (cl : List (Str × Addr)) (fp : List Addr), DE (X.blk s H scope (compEnvC scope cl C X.env) fp) elt te)
    (hy : X.N[i]? = some y := by rfl) (hyl : X.env.scope.names.lookup y = some .local := by rfl) (hsw : swapsWith (.ListComp elt [⟨tg, iter, ifs, 0⟩] scope pos) (some (.Name y py)) spos.line X.env = pure true := by exact sw_true rfl rfl rfl (by decide +kernel))
    (hs : ∀ x, foldedSetIterable iter X.env x = pure x := by intro _; rfl) : DSt X (.Assign [.Name y py] (.ListComp elt [⟨tg, iter, ifs, 0⟩] scope pos) spos) (sOw (fLc ti g tt te (own.map (·.2))) i) where
  run C := PS.imp (ps_setLc (i := i) hc hN hy hyl hsw (hi.run C) (blkOk_by ok) (fun s H c cl fp => ⟨fun pins s2 σ H2 v u Q I r ⟨C', h⟩ => ((hg s H c cl fp).run C').run pins s2 σ H2 v u Q I r h⟩) (fun s H c cl fp => ⟨fun pins s2 σ H2 Q I ⟨C', h⟩ => ((ht s H c cl fp).run C').run pins s2 σ H2 Q I h⟩)
      (fun s H c cl fp => ⟨fun pins s2 σ H2 Q I ⟨C', h⟩ => ((he s H c cl fp).run C').run pins s2 σ H2 Q I h⟩) hs) fun D σ H ⟨G, ρ, DD, r, k, q⟩ =>
    lc_run hi.mono (hg X.s_0 H 0 [] []).mono (ht X.s_0 H 0 [] []).mono (he X.s_0 H 0 [] []).mono hw r q fun ds ρ' a us G' H' p s r' f d => k.nx _ _ _ _ p.2 s (r'.setOw (isBo_no p.1) f d)
  mono DD DD' ρ l q := hi.mono _ _ _ (fun items ρ' p => ⟨p.1, p.2.1, cm_in (cmD_mono (fun d ρ2 q => ⟨q.1, l.nx _ q.2⟩) (hg X.s_0 (fun _ => none) 0 [] []).mono (ht X.s_0 (fun _ => none) 0 [] []).mono (he X.s_0 (fun _ => none) 0 [] []).mono _ _ _ (cm_out p.2.2))⟩) q
end

/-! ## defs -/
/-- a def that takes shared data: arguments, what follows -/
abbrev DSp := List PyData → (RV → Prop) → Prop
/-- .. whose first argument is a list lent to it -/
abbrev DSp1 := List PyData → List PyData → (RV → List PyData → Prop) → Prop
/-- what a call hands back -/
def RvC (K : PySem.W.Frag) (G H : Hp) (G' H' : Hp) (v : V) : RV → Prop
  | .sh d => Dp K G' v d
  | .ow ds => ∃ a vs, v = .ref a ∧ H' a = some (.lst vs) ∧ G' a = none ∧ H a = none ∧ DpAll K G' vs ds
def toSp (K : PySem.W.Frag) (n : Nat) (p : DSp) : Sp := fun vs H Q _ => vs.length = n ∧ ∃ G ds, Same G H ∧ DpAll K G vs ds ∧ p ds fun r => ∀ v G' H', Same G G' → Same G' H' → Same H H' → (∀ b, G b = none → H b ≠ none → G' b = none) → RvC K G H G' H' v r → Q v H'
def toSp1 (K : PySem.W.Frag) (n : Nat) (p : DSp1) : Sp := fun vs H Q _ => vs.length = n ∧ ∃ G a us ws cs ds, vs = .ref a :: us ∧ Same G H ∧ H a = some (.lst ws) ∧ G a = none ∧ DpAll K G ws cs ∧ DpAll K G us ds ∧
  p cs ds fun r cs' => ∀ v G' H', Same G G' → Same G' H' → (∀ b o, b ≠ a → H b = some o → H' b = some o) → (∀ b, G b = none → H b ≠ none → G' b = none) → (∃ ws', H' a = some (.lst ws') ∧ DpAll K G' ws' cs') → RvC K G H G' H' v r → Q v H'

section
variable {P : Program} {w : World} {K : PySem.W.Frag} {mg : Str → Option Value} {base : Heap}
/-- the slots at the entry -/
def startD (n : Nat) (ds : List PyData) : DS := ds.map (fun d => some (.sh d)) ++ List.replicate (n - ds.length) none
theorem start_get {N : List Str} {vs : List V} {i : Nat} {v : V} (h : vs[i]? = some v) : (L2.start N vs)[i]? = some (some v) := by
  unfold L2.start
  have hi : i < vs.length := (List.getElem?_eq_some_iff.mp h).1
  rw [List.getElem?_append_left (by rw [List.length_map]; exact hi), List.getElem?_map, h]
  rfl
theorem startD_get {n : Nat} {ds : List PyData} {i : Nat} {sl : Sl} (h : (startD n ds)[i]? = some (some sl)) : ∃ d, ds[i]? = some d ∧ sl = .sh d := by
  unfold startD at h
  by_cases hi : i < ds.length
  · rw [List.getElem?_append_left (by rw [List.length_map]; exact hi), List.getElem?_map, List.getElem?_eq_getElem hi] at h
    cases h
    exact ⟨_, List.getElem?_eq_getElem hi, rfl⟩
  · rw [List.getElem?_append_right (by rw [List.length_map]; omega), List.getElem?_replicate] at h
    split at h <;> cases h
theorem rel_start {N : List Str} {G H : Hp} {vs : List V} {ds : List PyData} (hl : vs.length ≤ N.length) (s : Same G H) (d : DpAll K G vs ds) : Rel K ⟨H, G, [], []⟩ G (startD N.length ds) (L2.start N vs) H where
  same := s
  nw b h1 _ := h1
  fr b o e _ := e
  be p hp := by cases hp
  bs p hp := by cases hp
  len := by
    unfold L2.start startD
    rw [List.length_append, List.length_append, List.length_map, List.length_map, List.length_replicate, List.length_replicate, DpAll.len d]
  slot i sl e := by
    obtain ⟨x, e1, rfl⟩ := startD_get e
    obtain ⟨v, e2, dp⟩ := DpAll.get d e1
    exact ⟨v, start_get e2, dp⟩
  sep i j si sj a _ ei _ mi := by
    obtain ⟨x, e1, rfl⟩ := startD_get ei
    cases mi
  prs p hp := by cases hp
/-- with a lent list in the first slot -/
def startD1 (n : Nat) (cs ds : List PyData) : DS := some (.bo cs) :: (ds.map (fun d => some (.sh d)) ++ List.replicate (n - 1 - ds.length) none)
theorem rel_start1 {N : List Str} {G H : Hp} {a : Addr} {us ws : List V} {cs ds : List PyData} (hl : us.length + 1 ≤ N.length) (s : Same G H) (ha : H a = some (.lst ws)) (hg : G a = none) (dc : DpAll K G ws cs) (d : DpAll K G us ds) :
    Rel K ⟨H, G, [(0, a)], []⟩ G (startD1 N.length cs ds) (L2.start N (.ref a :: us)) H where
  same := s
  nw b h1 _ := h1
  fr b o e _ := e
  be p hp := by
    cases (List.mem_singleton.mp hp)
    exact ⟨ws, ha⟩
  bs p hp := by
    cases (List.mem_singleton.mp hp)
    exact ⟨rfl, cs, rfl⟩
  len := by
    unfold L2.start startD1
    have e := DpAll.len d
    simp only [List.length_append, List.length_cons, List.length_map, List.length_replicate]
    omega
  slot i sl e := by
    cases i with
    | zero =>
      unfold startD1 at e
      cases e
      exact ⟨.ref a, rfl, a, ws, rfl, List.mem_singleton.mpr rfl, ha, hg, dc⟩
    | succ i =>
      have e : (ds.map (fun d => some (Sl.sh d)) ++ List.replicate (N.length - 1 - ds.length) none)[i]? = some (some sl) := e
      have e2 : (startD (N.length - 1) ds)[i]? = some (some sl) := e
      obtain ⟨x, e1, rfl⟩ := startD_get e2
      obtain ⟨v, e3, dp⟩ := DpAll.get d e1
      exact ⟨v, start_get (vs := .ref a :: us) (i := i + 1) e3, dp⟩
  sep i j si sj b ne ei ej mi mj := by
    cases i with
    | succ i =>
      have e2 : (startD (N.length - 1) ds)[i]? = some (some si) := ei
      obtain ⟨x, e1, rfl⟩ := startD_get e2
      cases mi
    | zero =>
      cases j with
      | zero => exact absurd rfl ne
      | succ j =>
        have e2 : (startD (N.length - 1) ds)[j]? = some (some sj) := ej
        obtain ⟨x, e1, rfl⟩ := startD_get e2
        cases mj
  prs p hp := by cases hp

/-- THE RULE for a def over data: its body, and the body's reading -/
theorem okD {x qual : Str} {st : Stmt} {f : Addr} {fd : FuncData} {N ps : List Str} {k : Nat} {p : DSp} (F : Fun K x qual st f fd) (S : FnScope N ps (defScope st))
    (hbody : ∀ (cdv : Value) (A : Around) (outer : List Env) (s : Shared) (H : Hp) (E : XK), Room k (A.deeper (PyProof.Rows.envOfC qual (defScope st) s.heap.objs.size f cdv)) →
      ∃ t, DSs (cxOf CX0 P w K mg base N qual (defScope st) f cdv A outer s H E).nox (defBody st) t ∧ ∀ ds Q, ds.length = ps.length → p ds Q → t { nx := fun _ => Q (.sh .none), rt := fun r _ => Q r } (startD N.length ds)) : FnOk P w K mg base CX0 (k + 1) f fd ps (toSp K ps.length p) := by
  have hpl : ps.length ≤ N.length := by have := congrArg List.length S.pre; rw [List.length_take] at this; omega
  refine F.ok S (fun vs H Q E h => h.1) (fun cdv A outer s H vs Q E hr h => ?_)
  obtain ⟨hl, G, ds, sG, dp, hp⟩ := h
  obtain ⟨t, ht, hq⟩ := hbody cdv A outer s H E hr
  refine ⟨_, ht.run ⟨H, G, [], []⟩, G, startD N.length ds, _, rel_start (by rw [hl]; exact hpl) sG dp, ?_, hq ds _ (by rw [← DpAll.len dp]; exact hl) hp⟩
  have sH : ∀ {G' : Hp} {ρ' : DS} {σ' : St} {H' : Hp}, Rel K ⟨H, G, [], []⟩ G' ρ' σ' H' → Same H H' := fun r b o e => r.fr b o e fun p hp => by cases hp
  refine ⟨fun ρ' σ' G' H' q s r => q .non G' H' s r.same (sH r) r.nw .non, fun rv ρ' σ' G' H' v q s r k => q v G' H' s r.same (sH r) r.nw ?_, fun _ _ _ _ h => h.elim, fun _ _ _ _ h => h.elim⟩
  cases rv with
  | sh d => exact k
  | ow es =>
    obtain ⟨a, us, rfl, fr, d⟩ := k
    exact ⟨a, us, rfl, fr.at_, fr.g, fr.h0, d⟩
theorem okD1 {x qual : Str} {st : Stmt} {f : Addr} {fd : FuncData} {N ps : List Str} {k : Nat} {p : DSp1} (F : Fun K x qual st f fd) (S : FnScope N ps (defScope st))
    (hbody : ∀ (cdv : Value) (A : Around) (outer : List Env) (s : Shared) (H : Hp) (E : XK), Room k (A.deeper (PyProof.Rows.envOfC qual (defScope st) s.heap.objs.size f cdv)) →
      ∃ t, DSs (cxOf CX0 P w K mg base N qual (defScope st) f cdv A outer s H E).nox (defBody st) t ∧ ∀ cs ds Q, ds.length + 1 = ps.length → p cs ds Q →
        t { nx := fun ρ => ∀ cs', ρ[0]? = some (some (.bo cs')) → Q (.sh .none) cs', rt := fun r ρ => ∀ cs', ρ[0]? = some (some (.bo cs')) → Q r cs' } (startD1 N.length cs ds)) : FnOk P w K mg base CX0 (k + 1) f fd ps (toSp1 K ps.length p) := by
  have hpl : ps.length ≤ N.length := by have := congrArg List.length S.pre; rw [List.length_take] at this; omega
  refine F.ok S (fun vs H Q E h => h.1) (fun cdv A outer s H vs Q E hr h => ?_)
  obtain ⟨hl, G, a, us, ws, cs, ds, rfl, sG, ha, hg, dc, dp, hp⟩ := h
  obtain ⟨t, ht, hq⟩ := hbody cdv A outer s H E hr
  rw [List.length_cons] at hl
  refine ⟨_, ht.run ⟨H, G, [(0, a)], []⟩, G, startD1 N.length cs ds, _, rel_start1 (by omega) sG ha hg dc dp, ?_, hq cs ds _ (by rw [← DpAll.len dp]; exact hl) hp⟩
  have sH : ∀ {G' : Hp} {ρ' : DS} {σ' : St} {H' : Hp}, Rel K ⟨H, G, [(0, a)], []⟩ G' ρ' σ' H' → ∀ b o, b ≠ a → H b = some o → H' b = some o := fun r b o hb e => r.fr b o e fun p hp => by
    cases (List.mem_singleton.mp hp)
    exact fun z => hb z.symm
  have bS : ∀ {G' : Hp} {ρ' : DS} {σ' : St} {H' : Hp}, Rel K ⟨H, G, [(0, a)], []⟩ G' ρ' σ' H' → ∃ cs', ρ'[0]? = some (some (.bo cs')) ∧ ∃ ws', H' a = some (.lst ws') ∧ DpAll K G' ws' cs' := fun r => by
    obtain ⟨q1, cs', q2⟩ := r.bs (0, a) List.mem_cons_self
    obtain ⟨v, e1, a', ws', rfl, _, k3, _, k5⟩ := r.slot 0 _ q2
    rw [q1] at e1
    cases e1
    exact ⟨cs', q2, ws', k3, k5⟩
  refine ⟨fun ρ' σ' G' H' q s r => ?_, fun rv ρ' σ' G' H' v q s r k => ?_, fun _ _ _ _ h => h.elim, fun _ _ _ _ h => h.elim⟩
  · obtain ⟨cs', e1, e2⟩ := bS r
    exact q cs' e1 .non G' H' s r.same (sH r) r.nw e2 .non
  · obtain ⟨cs', e1, e2⟩ := bS r
    refine q cs' e1 v G' H' s r.same (sH r) r.nw e2 ?_
    cases rv with
    | sh d => exact k
    | ow es =>
      obtain ⟨b, us, rfl, fr, d⟩ := k
      exact ⟨b, us, rfl, fr.at_, fr.g, fr.h0, d⟩
end

/-! ## calls of defs -/
section
variable {X : Cx} {e a b c : Expr} {es : List Expr} {pos pos' : Pos}
/-- behind a call that lent nothing: the state is as it was, what came is there -/
theorem Rel.called {K : PySem.W.Frag} {C : DC} {G H G' H' : Hp} {ρ : DS} {σ : St} (R : Rel K C G ρ σ H) (s1 : Same G G') (s2 : Same G' H') (s3 : Same H H') (nw : ∀ b, G b = none → H b ≠ none → G' b = none) : Rel K C G' ρ σ H' where
  same := s2
  nw b h1 h2 := nw b (R.nw b h1 h2) fun e => by
    rcases q : C.H0 b with _ | o
    · exact h2 q
    · by_cases hb : ∀ p ∈ C.β, p.2 ≠ b
      · rw [R.fr b o q hb] at e; cases e
      · refine hb fun z hz ez => ?_
        obtain ⟨vs, hv⟩ := R.be z hz
        rw [ez, e] at hv; cases hv
  fr b o e k := s3 _ _ (R.fr b o e k)
  be p hp := by
    obtain ⟨vs, q⟩ := R.be p hp
    exact ⟨vs, s3 _ _ q⟩
  bs := R.bs
  len := R.len
  slot i sl e := by
    obtain ⟨v, e1, k⟩ := R.slot i sl e
    exact ⟨v, e1, k.mo s1 fun a vs q _ _ => ⟨s3 _ _ q, fun hg => nw a hg (by rw [q]; exact fun z => by cases z)⟩⟩
  sep := R.sep
  prs p hp := by
    obtain ⟨q1, q2, q3, q4⟩ := R.prs p hp
    exact ⟨s3 _ _ q1, nw _ q2 (by rw [q1]; exact fun z => by cases z), q3, q4⟩
/-- what came, as shared data -/
def RV.d : RV → PyData
  | .sh d => d
  | .ow ds => .list ds
theorem Rel.freshOf {K : PySem.W.Frag} {C : DC} {G H G' H' : Hp} {ρ : DS} {σ : St} (R : Rel K C G ρ σ H) (R' : Rel K C G' ρ σ H') {a : Addr} {vs : List V} (h1 : H' a = some (.lst vs)) (h2 : G' a = none) (h3 : H a = none) : Fresh C G' ρ σ H' a vs where
  at_ := h1
  g := h2
  h0 := R.h0 h3
  ns j sl e hm q := by
    obtain ⟨v, e1, k⟩ := R.slot j sl e
    rw [e1] at q
    cases q
    cases sl with
    | sh d => cases hm
    | ow ds =>
      obtain ⟨b, us, k1, k2, _⟩ := k
      cases k1
      rw [h3] at k2; cases k2
    | bo ds =>
      obtain ⟨b, us, k1, _, k2, _⟩ := k
      cases k1
      rw [h3] at k2; cases k2
  np p hp := ne_of_none (R.prs p hp).1 h3
def eCall (n : Nat) (p : DSp) (t : DTL) : DTE := fun ρ Q => t ρ fun ds ρ' => ds.length = n ∧ p ds fun r => Q r.d ρ'
structure SpMo (p : DSp) : Prop where
  mono : ∀ ds Q Q', (∀ r, Q r → Q' r) → p ds Q → p ds Q'
structure SpMo1 (p : DSp1) : Prop where
  mono : ∀ cs ds Q Q', (∀ r c, Q r c → Q' r c) → p cs ds Q → p cs ds Q'
theorem de_call {p : DSp} {t : DTL} {k n : Nat} {f : Addr} {fd : FuncData} {ps : List Str} {x : Str} {px : Pos} (F : FnOk X.prog X.w X.K X.mg X.base CX0 k f fd ps (toSp X.K n p)) (hm' : SpMo p) (hr : Room k X.A) (hg : Gl X x) (hm : X.mg x = some (.ref f)) (hk : PySem.W.keepIn X.K (.ref f) = true) (hb : Binds X.K fd ps [])
    (h : DA X (e :: es) t) (hdb : (x == ("__debug__" : Str)) = false := by decide) (he : starEach (e :: es) X.env = (false, eval e X.env) :: starEach es X.env := by rfl) (hpl : (backTo pos (starEach es X.env)).any (·.1) = false := by rfl) :
    DE X (.Call (.Name x px) (e :: es) [] pos) (eCall n p t) where
  run C := PE.imp (pe_call F hr hg hm hk hb .nil pass0 (h.run C) hdb he hpl) fun σ H Q ⟨G, ρ, r, q⟩ => goA h.mono r q fun ds ρ' vs G' H' p1 s r' dp => by
    rw [List.append_nil]
    refine ⟨by rw [DpAll.len dp]; exact p1.1, G', ds, r'.same, dp, hm'.mono _ _ _ (fun rv q v G2 H2 s1 s2 s3 nw rc => ?_) p1.2⟩
    have r2 := r'.called s1 s2 s3 nw
    cases rv with
    | sh d => exact q v G2 H2 (s.trans s1) r2 rc
    | ow es =>
      obtain ⟨a, us, rfl, k1, k2, k3, d⟩ := rc
      obtain ⟨s4, r4⟩ := r2.freeze (r'.freshOf r2 k1 k2 k3)
      exact q _ _ _ ((s.trans s1).trans s4) r4 (.lst (.inl (.inl upd_same)) (DpAll.mo s4 _ _ d))
  mono ρ Q Q' k q := h.mono _ _ _ (fun ds ρ' p1 => ⟨p1.1, hm'.mono _ _ _ (fun r => k _ _) p1.2⟩) q
/-- .. the list it hands back as one's own -/
def fCall (n : Nat) (p : DSp) (t : DTL) : DTL := fun ρ Q => t ρ fun ds ρ' => ds.length = n ∧ p ds fun r => match r with
  | .ow es => Q es ρ'
  | .sh _ => False
theorem df_call {p : DSp} {t : DTL} {k n : Nat} {f : Addr} {fd : FuncData} {ps : List Str} {x : Str} {px : Pos} (F : FnOk X.prog X.w X.K X.mg X.base CX0 k f fd ps (toSp X.K n p)) (hm' : SpMo p) (hr : Room k X.A) (hg : Gl X x) (hm : X.mg x = some (.ref f)) (hk : PySem.W.keepIn X.K (.ref f) = true) (hb : Binds X.K fd ps [])
    (h : DA X (e :: es) t) (hdb : (x == ("__debug__" : Str)) = false := by decide) (he : starEach (e :: es) X.env = (false, eval e X.env) :: starEach es X.env := by rfl) (hpl : (backTo pos (starEach es X.env)).any (·.1) = false := by rfl) :
    DF X (.Call (.Name x px) (e :: es) [] pos) (fCall n p t) where
  run C := PE.imp (pe_call F hr hg hm hk hb .nil pass0 (h.run C) hdb he hpl) fun σ H Q ⟨G, ρ, r, q⟩ => goA h.mono r q fun ds ρ' vs G' H' p1 s r' dp => by
    rw [List.append_nil]
    refine ⟨by rw [DpAll.len dp]; exact p1.1, G', ds, r'.same, dp, hm'.mono _ _ _ (fun rv q v G2 H2 s1 s2 s3 nw rc => ?_) p1.2⟩
    have r2 := r'.called s1 s2 s3 nw
    cases rv with
    | sh d => exact q.elim
    | ow es =>
      obtain ⟨a, us, rfl, k1, k2, k3, d⟩ := rc
      exact q _ _ _ _ (s.trans s1) r2 (r'.freshOf r2 k1 k2 k3) d
  mono ρ Q Q' k q := h.mono _ _ _ (fun ds ρ' p1 => ⟨p1.1, hm'.mono _ _ _ (fun r h => by cases r with | sh d => exact h | ow es => exact k _ _ h) p1.2⟩) q
/-- f() -/
theorem de_call0 {p : DSp} {k : Nat} {f : Addr} {fd : FuncData} {ps : List Str} {x : Str} {px : Pos} (F : FnOk X.prog X.w X.K X.mg X.base CX0 k f fd ps (toSp X.K 0 p)) (hm' : SpMo p) (hr : Room k X.A) (hg : Gl X x) (hm : X.mg x = some (.ref f)) (hk : PySem.W.keepIn X.K (.ref f) = true) (hb : Binds X.K fd ps [])
    (hdb : (x == ("__debug__" : Str)) = false := by decide) :
    DE X (.Call (.Name x px) [] [] pos) (eCall 0 p aNil) where
  run C := PE.imp (pe_call0 F hr hg hm hk hb .nil pass0 hdb) fun σ H Q ⟨G, ρ, r, q⟩ => by
    refine ⟨rfl, G, [], r.same, .nil, hm'.mono _ _ _ (fun rv q v G2 H2 s1 s2 s3 nw rc => ?_) q.2⟩
    have r2 := r.called s1 s2 s3 nw
    cases rv with
    | sh d => exact q v G2 H2 s1 r2 rc
    | ow es =>
      obtain ⟨a, us, rfl, k1, k2, k3, d⟩ := rc
      obtain ⟨s4, r4⟩ := r2.freeze (r.freshOf r2 k1 k2 k3)
      exact q _ _ _ (s1.trans s4) r4 (.lst (.inl (.inl upd_same)) (DpAll.mo s4 _ _ d))
  mono ρ Q Q' k q := ⟨q.1, hm'.mono _ _ _ (fun r => k _ _) q.2⟩
/-- behind a call that lent the list of the slot i -/
theorem Rel.lent {K : PySem.W.Frag} {C : DC} {G H G' H' : Hp} {ρ : DS} {σ : St} (R : Rel K C G ρ σ H) {i : Nat} {cs cs' : List PyData} {a : Addr} {ws' : List V} (hi : muN i ρ = some cs) (ea : σ[i]? = some (some (.ref a)))
    (s1 : Same G G') (s2 : Same G' H') (s3 : ∀ b o, b ≠ a → H b = some o → H' b = some o) (nw : ∀ b, G b = none → H b ≠ none → G' b = none) (ha : H' a = some (.lst ws')) (da : DpAll K G' ws' cs') : Rel K C G' (wrN i cs' ρ) σ H' := by
  obtain ⟨a', ws, k1, k2, k3, k4, k5⟩ := muN_ok R hi
  rw [ea] at k1
  cases k1
  -- the heap as it would be without the write at a
  have R1 : Rel K C G ρ σ H := R
  -- go over H'' = upd H' a (.lst ws), which keeps all of H
  have hH : Same H (upd H' a (.lst ws)) := fun b o e => by
    by_cases hb : b = a
    · subst hb
      rw [k2] at e
      cases e
      exact upd_same
    · rw [upd_ne hb]
      exact s3 b o hb e
  have ga : G' a = none := nw a k3 (by rw [k2]; exact fun z => by cases z)
  have hG : Same G' (upd H' a (.lst ws)) := fun b o e => by
    have hb : b ≠ a := fun z => by rw [z, ga] at e; cases e
    rw [upd_ne hb]
    exact s2 b o e
  have R2 : Rel K C G' ρ σ (upd H' a (.lst ws)) := R.called s1 hG hH nw
  obtain ⟨a', ws2, m1, m2, m3, m4, m5⟩ := muN_ok R2 hi
  rw [ea] at m1
  cases m1
  have R3 := m5 cs' ws' da
  rw [upd_upd] at R3
  have e : upd H' a (.lst ws') = H' := by
    funext b
    unfold upd
    split
    · rename_i hb
      rw [hb, ha]
    · rfl
  rw [e] at R3
  exact R3
def eCall1 (n : Nat) (p : DSp1) (i : Nat) (t : DTL) : DTE := fun ρ Q => (muN i ρ).isSome = true ∧ t ρ fun ds ρ' => ds.length + 1 = n ∧ match muN i ρ' with
  | some cs => p cs ds fun r cs' => Q r.d (wrN i cs' ρ')
  | none => False
theorem wrN_mu {i : Nat} {cs cs' : List PyData} {ρ : DS} (h : muN i ρ = some cs) : muN i (wrN i cs' ρ) = some cs' := by
  unfold muN at h
  split at h
  · rename_i e
    have hl : i < ρ.length := (List.getElem?_eq_some_iff.mp e).1
    unfold wrN
    rw [e]
    show muN i (ρ.set i (some (.ow cs'))) = _
    unfold muN
    rw [List.getElem?_set_self hl]
  · rename_i e
    have hl : i < ρ.length := (List.getElem?_eq_some_iff.mp e).1
    unfold wrN
    rw [e]
    show muN i (ρ.set i (some (.bo cs'))) = _
    unfold muN
    rw [List.getElem?_set_self hl]
  · cases h
theorem de_call1 (i : Nat) {p : DSp1} {t : DTL} {k n : Nat} {f : Addr} {fd : FuncData} {ps : List Str} {x y : Str} {px py : Pos} (F : FnOk X.prog X.w X.K X.mg X.base CX0 k f fd ps (toSp1 X.K n p)) (hm' : SpMo1 p) (hr : Room k X.A) (hg : Gl X x) (hm : X.mg x = some (.ref f)) (hk : PySem.W.keepIn X.K (.ref f) = true) (hb : Binds X.K fd ps [])
    (h : DA X es t) (hN : X.N[i]? = some y := by rfl) (hv : Vis X.env.scope y := by first | exact Or.inl rfl | exact Or.inr (Or.inl rfl) | exact Or.inr (Or.inr rfl)) (hd : (y == ("__debug__" : Str)) = false := by decide)
    (hcd : (y == ("__classdict__" : Str)) = false := by decide) (hst : starEach (.Name y py :: es) X.env = (false, eval (.Name y py) X.env) :: starEach es X.env := by rfl)
    (hdb : (x == ("__debug__" : Str)) = false := by decide) (hpl : (backTo pos (starEach es X.env)).any (·.1) = false := by rfl) :
    DE X (.Call (.Name x px) (.Name y py :: es) [] pos) (eCall1 n p i t) where
  run C := PE.imp (pe_call F hr hg hm hk hb .nil pass0 (pa_cons (pe_var hN hv hd hcd) (h.run C) hst) hdb hst hpl) fun σ H Q ⟨G, ρ, r, q1, q⟩ => by
    obtain ⟨cs0, e0⟩ := Option.isSome_iff_exists.mp q1
    obtain ⟨a, ws0, h1, h2, _⟩ := muN_ok r e0
    refine ⟨_, h1, goA h.mono r q fun ds ρ' vs G' H' p1 s r' dp => ?_⟩
    obtain ⟨pl, p1⟩ := p1
    (try dsimp only at p1)
    split at p1
    · rename_i cs e1
      obtain ⟨a', ws, k1, k2, k3, k4, k5⟩ := muN_ok r' e1
      rw [h1] at k1
      cases k1
      rw [List.append_nil]
      refine ⟨by rw [List.length_cons, DpAll.len dp]; exact pl, G', a, vs, ws, cs, ds, rfl, r'.same, k2, k3, k4, dp, hm'.mono _ _ _ _ (fun rv cs' q v G2 H2 s1 s2 s3 nw hw rc => ?_) p1⟩
      obtain ⟨ws', ha, da⟩ := hw
      have r2 := r'.lent e1 h1 s1 s2 s3 nw ha da
      cases rv with
      | sh d => exact q v G2 H2 (s.trans s1) r2 rc
      | ow es =>
        obtain ⟨b, us, rfl, m1, m2, m3, d⟩ := rc
        have f : Fresh C G2 (wrN i cs' ρ') σ H2 b us := by
          refine ⟨m1, m2, r'.h0 m3, fun j sl e hmu qj => ?_, fun p hp => ne_of_none (r'.prs p hp).1 m3⟩
          have hba : b ≠ a := (ne_of_none k2 m3).symm
          by_cases hj : j = i
          · subst hj
            rw [h1] at qj
            cases qj
            exact hba rfl
          · have e2 : ρ'[j]? = some (some sl) := by
              unfold wrN at e
              split at e <;> first | (rw [List.getElem?_set_ne (Ne.symm hj)] at e; exact e) | exact e
            obtain ⟨v, e3, kk⟩ := r'.slot j sl e2
            rw [e3] at qj
            cases qj
            cases sl with
            | sh d => cases hmu
            | ow ds =>
              obtain ⟨c, us2, k6, k7, _⟩ := kk
              cases k6
              rw [m3] at k7; cases k7
            | bo ds =>
              obtain ⟨c, us2, k6, _, k7, _⟩ := kk
              cases k6
              rw [m3] at k7; cases k7
        obtain ⟨s4, r4⟩ := r2.freeze f
        exact q _ _ _ ((s.trans s1).trans s4) r4 (.lst (.inl (.inl upd_same)) (DpAll.mo s4 _ _ d))
    · exact p1.elim
  mono ρ Q Q' k q := ⟨q.1, h.mono _ _ _ (fun ds ρ' p1 => ⟨p1.1, by
    have p1 := p1.2
    (try dsimp only at p1); (try dsimp only)
    split
    · rename_i cs e1
      rw [e1] at p1
      exact hm'.mono _ _ _ _ (fun r c => k _ _) p1
    · rename_i e1
      rw [e1] at p1
      exact p1⟩) q.2⟩
end
end DL

namespace DL
open PySem L2

/-! ## isinstance -/
def tyD : PyData → String
  | .none => "NoneType"
  | .bool _ => "bool"
  | .int _ => "int"
  | .str _ => "str"
  | .list _ => "list"
  | .tuple _ => "tuple"
  | .dict _ => "dict"
theorem ty_of {K : PySem.W.Frag} {G H : Hp} {v : V} {d : PyData} (s : Same G H) (h : Dv K G H v d) : TyX K H v (.type (tyD d)) := by
  rcases h with h | ⟨a, vs, es, rfl, rfl, h1, h2⟩
  · cases h with
    | non => exact .base .non
    | bl b => exact .base (.bl b)
    | int i => exact .base (.int i)
    | str x => exact .base (.str x)
    | lst hs ha =>
      rcases hs with (hs | ⟨o, hs⟩) | ⟨o, its, n, hk, hc, _⟩
      · exact .base (.lst (s _ _ hs))
      · exact .base (.frz (s _ _ hs))
      · exact .kList hk hc
    | tup hs ha =>
      rcases hs with (hs | ⟨o, hs⟩) | ⟨o, its, n, hk, hc, _⟩
      · exact .base (.tup (s _ _ hs))
      · exact .fTuple (s _ _ hs)
      · exact .kTuple hk hc
  · exact .base (.lst h1)
/-- isinstance by the type's name -/
def isiD (T : String) (d : PyData) : Bool := tyD d == T || (tyD d == "bool" && T == "int")
theorem kit_names : ∀ T ∈ ["int", "bool", "str", "list", "tuple"], ∀ a ∈ ["NoneType", "bool", "int", "str", "list", "tuple"], kitB a T = some (a == T || (a == "bool" && T == "int")) := by decide +kernel
theorem kit_D {K : PySem.W.Frag} {T : String} (hT : T ∈ ["int", "bool", "str", "list", "tuple"]) (d : PyData) (hd : ∀ k, d ≠ .dict k) : PySem.W.kitOne K (.type (tyD d)) (.type T) = some (isiD T d) := by
  refine kit_ty (kit_names T hT (tyD d) ?_)
  cases d <;> first
    | exact absurd rfl (hd _)
    | simp [tyD]
section
variable {X : Cx} {e a b c tg iter elt : Expr} {es ifs : List Expr} {pos pos' : Pos}
def eIsi (T : String) (t : DTO) : DTE := fun ρ Q => t ρ fun w ρ' => match w ρ' with
  | some d => Q (.bool (isiD T d)) ρ'
  | none => False
theorem Dv.ndict {K : PySem.W.Frag} {G H : Hp} {v : V} {d : PyData} (h : Dv K G H v d) : ∀ k, d ≠ .dict k := fun k e => by
  subst e
  rcases h with h | ⟨a, vs, es, rfl, e, h1, h2⟩
  · cases h
  · cases e
theorem de_isi {T : String} {t : DTO} {p p2 : Pos} (hT : T ∈ ["int", "bool", "str", "list", "tuple"]) {Tn : Str} (h : DO X e t) (hg : Gl X "isinstance") (hm : X.mg "isinstance" = none) (hgT : Gl X Tn) (hmT : X.mg Tn = none) (hvT : bootBuiltins Tn = some (.type T))
    (hnT : Tn ≠ "__name__") (hdT : (Tn == ("__debug__" : Str)) = false) (hv : bootBuiltins "isinstance" = some (.builtin "isinstance"))
    (he : starEach [e, .Name Tn p2] X.env = (false, eval e X.env) :: starEach [.Name Tn p2] X.env := by rfl) (he2 : starEach [.Name Tn p2] X.env = (false, eval (.Name Tn p2) X.env) :: starEach [] X.env := by rfl) (hpl : (backTo pos (starEach [.Name Tn p2] X.env)).any (·.1) = false := by rfl) :
    DE X (.Call (.Name "isinstance" p) [e, .Name Tn p2] [] pos) (eIsi T t) where
  run C := PE.imp (pe_callB call_isi hg hm hv (pa_cons (h.run C) (pa_cons (pe_bltn (v := .ty T) hgT hmT hvT rfl hnT hdT) pa_nil he2) he) (by decide) (by decide) he hpl) fun σ H Q ⟨G, ρ, r, q⟩ => goO h.mono r q fun w ρ' v G' H' p1 s r' o => by
    (try dsimp only at p1)
    split at p1
    · rename_i d e1
      have dv := o G' H' ρ' (Same.refl _) r' d e1
      exact ⟨v, .ty T, _, _, _, rfl, .ty T, ty_of r'.same dv, kit_D hT d dv.ndict, p1 _ G' H' s r' (.bl _)⟩
    · exact p1.elim
  mono ρ Q Q' k q := h.mono _ _ _ (fun w ρ' p => by
    (try dsimp only at p); (try dsimp only)
    split
    · rename_i x e1
      rw [e1] at p
      exact k _ _ p
    · rename_i e1
      rw [e1] at p
      exact p) q
/-! ## in-place operators -/
theorem ip_of {op : Operator} {r : R2} (h : OpR X (inplaceOp op) r) : PIp X op r := fun pins s σ H x y v u Q I rx ry q => h pins s σ H x y v u Q I rx ry q
def dAddI : D2 := fun d e Q => match d, e with
  | .int i, .int j => Q (.int (i + j))
  | .str i, .str j => i.length + j.length ≤ sizeLine ∧ Q (.str (i ++ j))
  | _, _ => False
theorem ip_add' : IpD X .Add dAddI where
  mono d e Q Q' k q := by
    unfold dAddI at q ⊢
    split at q <;> first | exact k _ q | exact ⟨q.1, k _ q.2⟩ | exact q.elim
  ok := ⟨_, ip_of (OpR.or iop_add iop_add_str), fun G H x y d e Q Qd s hx hy q K => by
    unfold dAddI at q
    split at q
    · rw [hx.int, hy.int]
      exact .inl ⟨_, _, rfl, rfl, K.v _ _ q (.int _)⟩
    · rw [hx.str, hy.str]
      exact .inr ⟨_, _, rfl, rfl, q.1, K.v _ _ q.2 (.str _)⟩
    · exact q.elim⟩
theorem ip_sub' : IpD X .Sub dSub where
  mono d e Q Q' k q := by
    unfold dSub at q ⊢
    split at q <;> first | exact k _ q | exact q.elim
  ok := ⟨_, ip_of iop_sub, fun G H x y d e Q Qd s hx hy q K => by
    unfold dSub at q
    split at q
    · rw [hx.int, hy.int]
      exact ⟨_, _, rfl, rfl, K.v _ _ q (.int _)⟩
    · exact q.elim⟩
/-! ## unpacking a tuple or a list -/
def gU (n : Nat) (t : DTGs) : DTG := fun d ρ Q => match d with
  | .tuple ds => ds.length = n ∧ t ds ρ Q
  | .list ds => ds.length = n ∧ t ds ρ Q
  | _ => False
theorem PG.or {tg : Expr} {g g' : TG} (h : PG X tg g) (h' : PG X tg g') : PG X tg (fun v σ H Q => g v σ H Q ∨ g' v σ H Q) := ⟨fun pins s σ H v u Q I r hw => hw.elim (h.run pins s σ H v u Q I r) (h'.run pins s σ H v u Q I r)⟩
theorem dg_u {k n : Nat} {t : DTGs} {ws : List Nat} (hc : X.calm = true) (h : DGs X es ws t)
    (hn : (assignEach es X.env).length = n := by rfl) (hst : (assignEach es X.env).findIdx? (·.1) = none := by rfl) : DG X (.Tuple es k pos) ws (gU n t) where
  run C := PG.imp (PG.or (pg_tup hc (h.run C) hn hst) (pg_unl hc (h.run C) hn hst)) fun v σ H Q ⟨G, ρ, d, r, dp, q⟩ => by
    unfold gU at q
    split at q
    · obtain ⟨a, vs, rfl, h1, h2⟩ := Dv.tup (H := H) r.same (.inl dp)
      exact .inl ⟨a, vs, rfl, h1, by rw [DpAll.len h2]; exact q.1, goGs h.mono r h2 q.2 fun ρ' σ' G' H' p bu s r' => p σ' G' H' bu s r'⟩
    · obtain ⟨a, vs, rfl, h1, h2⟩ := Dv.lst (H := H) r.same (.inl dp)
      exact .inr ⟨a, vs, rfl, h1, by rw [DpAll.len h2]; exact q.1, goGs h.mono r h2 q.2 fun ρ' σ' G' H' p bu s r' => p σ' G' H' bu s r'⟩
    · exact q.elim
  mono d ρ Q Q' k q := by
    unfold gU at q ⊢
    split at q
    · exact ⟨q.1, h.mono _ _ _ _ k q.2⟩
    · exact ⟨q.1, h.mono _ _ _ _ k q.2⟩
    · exact q.elim
end
end DL

namespace DL
open PySem L2
theorem units65 {k : Nat} {A : Around} (r : Room k A) : A.units + 65 < cLine := by have := r.un; omega
theorem SpMo.of {p : DSp} (h : ∀ ds Q Q', (∀ r, Q r → Q' r) → p ds Q → p ds Q') : SpMo p := ⟨h⟩
theorem SpMo1.of {p : DSp1} (h : ∀ cs ds Q Q', (∀ r c, Q r c → Q' r c) → p cs ds Q → p cs ds Q') : SpMo1 p := ⟨h⟩
/-! loops, the continuation a letter -/
theorem whBy {tc : DTT} {tb : DTS} {DD : DEn} {ρ : DS} (W : DS → Prop) (μ : DS → Nat) (h0 : W ρ)
    (hs : ∀ ρ (K : DS → Prop), W ρ → (∀ ρ', W ρ' → μ ρ' < μ ρ → K ρ') → tc ρ fun b ρ1 => if b = true then tb { nx := K, rt := DD.rt, bk := DD.nx, ct := K } ρ1 else DD.nx ρ1) : sWh tc tb DD ρ := by
  have key : ∀ n ρ, W ρ → μ ρ < n → whN tc tb DD n ρ := by
    intro n
    induction n with
    | zero => exact fun _ _ h => absurd h (Nat.not_lt_zero _)
    | succ n ih => exact fun ρ w h => hs ρ (whN tc tb DD n) w fun ρ' w' l => ih ρ' w' (by omega)
  exact ⟨μ ρ + 1, key _ ρ h0 (Nat.lt_succ_self _)⟩
theorem foBy {g : DTG} {tb : DTS} {DD : DEn} {items : List PyData} {ρ : DS} (W : Nat → DS → Prop) (h0 : W 0 ρ)
    (hs : ∀ i d ρ (K : DS → Prop), items[i]? = some d → W i ρ → (∀ ρ', W (i + 1) ρ' → K ρ') → g d ρ fun ρ' => tb { nx := K, rt := DD.rt, bk := DD.nx, ct := K } ρ') (hd : ∀ ρ, W items.length ρ → DD.nx ρ) : foX g tb DD items ρ := by
  refine fo_in ?_
  have key : ∀ n i ρ, i + n = items.length → W i ρ → foD g tb DD (items.drop i) ρ := by
    intro n
    induction n with
    | zero =>
      intro i ρ e w
      have e : i = items.length := by omega
      subst e
      rw [List.drop_length]
      exact hd ρ w
    | succ n ih =>
      intro i ρ e w
      have hlt : i < items.length := by omega
      obtain ⟨d, ed⟩ : ∃ d, items[i]? = some d := ⟨_, List.getElem?_eq_getElem hlt⟩
      rw [drop_at ed]
      exact hs i d ρ (foD g tb DD (items.drop (i + 1))) ed w fun ρ' w' => ih (i + 1) ρ' (by omega) w'
  have q := key items.length 0 ρ (by omega) h0
  rw [List.drop_zero] at q
  exact q
theorem cmBy {g : DTG} {tt : DTT} {te : DTE} {vs : List Nat} {Q : List PyData → DS → Prop} {items : List PyData} {ρ : DS} (W : Nat → List PyData → DS → Prop) (h0 : W 0 [] ρ)
    (hs : ∀ i d acc ρ (K : List PyData → DS → Prop), items[i]? = some d → W i acc ρ → (∀ acc' ρ', W (i + 1) acc' ρ' → K acc' ρ') → g d ρ fun ρ1 => tt ρ1 fun b ρ2 => if b = true then te ρ2 fun y ρ3 => K (acc ++ [y]) (wipeD ρ3 vs) else K acc (wipeD ρ2 vs))
    (hd : ∀ acc ρ, W items.length acc ρ → Q acc ρ) : cmX g tt te vs Q items [] ρ := by
  refine cm_in ?_
  have key : ∀ n i acc ρ, i + n = items.length → W i acc ρ → cmD g tt te vs Q (items.drop i) acc ρ := by
    intro n
    induction n with
    | zero =>
      intro i acc ρ e w
      have e : i = items.length := by omega
      subst e
      rw [List.drop_length]
      exact hd acc ρ w
    | succ n ih =>
      intro i acc ρ e w
      have hlt : i < items.length := by omega
      obtain ⟨d, ed⟩ : ∃ d, items[i]? = some d := ⟨_, List.getElem?_eq_getElem hlt⟩
      rw [drop_at ed]
      exact hs i d acc ρ (fun acc ρ => cmD g tt te vs Q (items.drop (i + 1)) acc ρ) ed w fun acc' ρ' w' => ih (i + 1) acc' ρ' (by omega) w'
  have q := key items.length 0 [] ρ (by omega) h0
  rw [List.drop_zero] at q
  exact q
/-- a comprehension that changes nothing -/
theorem cmFm0 {g : DTG} {tt : DTT} {te : DTE} {vs : List Nat} {Q : List PyData → DS → Prop} (f : PyData → Option PyData) (ρ0 : DS) : ∀ {items : List PyData} {acc : List PyData},
    (∀ d, d ∈ items → ∀ (KT : PyData → DS → Prop) (KF : DS → Prop), (∀ y, f d = some y → KT y ρ0) → (f d = none → KF ρ0) → g d ρ0 fun ρ1 => tt ρ1 fun b ρ2 => if b = true then te ρ2 fun y ρ3 => KT y (wipeD ρ3 vs) else KF (wipeD ρ2 vs)) →
    Q (acc ++ items.filterMap f) ρ0 → cmD g tt te vs Q items acc ρ0
  | [], acc, _, hQ => by
    rw [List.filterMap_nil, List.append_nil] at hQ
    exact hQ
  | x :: xs, acc, hs, hQ => hs x List.mem_cons_self (fun y ρ => cmD g tt te vs Q xs (acc ++ [y]) ρ) (fun ρ => cmD g tt te vs Q xs acc ρ)
      (fun y e => cmFm0 f ρ0 (fun d hd => hs d (List.mem_cons_of_mem _ hd)) (by
        rw [List.filterMap_cons, e] at hQ
        rw [List.append_assoc]
        exact hQ))
      (fun e => cmFm0 f ρ0 (fun d hd => hs d (List.mem_cons_of_mem _ hd)) (by
        rw [List.filterMap_cons, e] at hQ
        exact hQ))
theorem cmFm {g : DTG} {tt : DTT} {te : DTE} {vs : List Nat} {Q : List PyData → DS → Prop} (f : PyData → Option PyData) (ρ0 : DS) {items : List PyData} {acc : List PyData}
    (hs : ∀ d, d ∈ items → ∀ (KT : PyData → DS → Prop) (KF : DS → Prop), (∀ y, f d = some y → KT y ρ0) → (f d = none → KF ρ0) → g d ρ0 fun ρ1 => tt ρ1 fun b ρ2 => if b = true then te ρ2 fun y ρ3 => KT y (wipeD ρ3 vs) else KF (wipeD ρ2 vs))
    (hQ : Q (acc ++ items.filterMap f) ρ0) : cmX g tt te vs Q items acc ρ0 := cm_in (cmFm0 f ρ0 hs hQ)
/-- a comprehension's one turn; its end -/
theorem cm_cons {g : DTG} {tt : DTT} {te : DTE} {vs : List Nat} {Q : List PyData → DS → Prop} {x : PyData} {xs acc : List PyData} {ρ : DS}
    (h : g x ρ fun ρ1 => tt ρ1 fun b ρ2 => if b = true then te ρ2 fun y ρ3 => cmX g tt te vs Q xs (acc ++ [y]) (wipeD ρ3 vs) else cmX g tt te vs Q xs acc (wipeD ρ2 vs)) : cmX g tt te vs Q (x :: xs) acc ρ := by
  have e : @cmX = @cmD := by unfold cmX; rfl
  rw [e] at h ⊢
  exact h
theorem cm_nil {g : DTG} {tt : DTT} {te : DTE} {vs : List Nat} {Q : List PyData → DS → Prop} {acc : List PyData} {ρ : DS} (h : Q acc ρ) : cmX g tt te vs Q [] acc ρ := cm_in h
theorem fo_cons {g : DTG} {tb : DTS} {DD : DEn} {x : PyData} {xs : List PyData} {ρ : DS} (h : g x ρ fun ρ' => tb { nx := fun ρ => foX g tb DD xs ρ, rt := DD.rt, bk := DD.nx, ct := fun ρ => foX g tb DD xs ρ } ρ') : foX g tb DD (x :: xs) ρ := by
  have e : @foX = @foD := by unfold foX; rfl
  rw [e] at h ⊢
  exact h
theorem fo_nil {g : DTG} {tb : DTS} {DD : DEn} {ρ : DS} (h : DD.nx ρ) : foX g tb DD [] ρ := fo_in h
/-! ### statements in a row -/
theorem sSq_cut {t u : DTS} {DD : DEn} {ρ : DS} (M : DS → Prop) (hu : ∀ ρ', M ρ' → u DD ρ') (ht : ∀ K : DS → Prop, (∀ ρ', M ρ' → K ρ') → t { nx := K, rt := DD.rt, bk := DD.bk, ct := DD.ct } ρ) : sSq t u DD ρ := sq_go (ht (u DD) hu)
theorem rdT {b : Bool} (h : b = true) : b = true := h
end DL

namespace DL
open PySem L2

/-! ## comprehensions with two fors -/
theorem wipe_wipe {σ : St} {vs us : List Nat} (h : ∀ i ∈ us, i ∈ vs) : wipe (wipe σ us) vs = wipe σ vs := by
  have key : ∀ (us : List Nat), (∀ i ∈ us, i ∈ vs) → But vs (wipe σ vs) (wipe σ us) := by
    intro us hu
    refine ⟨by rw [wipe_length, wipe_length], fun i hi => ?_⟩
    rw [wipe_out hi, wipe_out fun z => hi (hu i z)]
  exact wipe_but (fun i z => z) (key us h)
def cm2D (g : DTG) (tt : DTT) (ti1 : DTL) (g1 : DTG) (tt1 : DTT) (te : DTE) (vs vs1 : List Nat) (Q : List PyData → DS → Prop) : List PyData → List PyData → DS → Prop
  | [], acc, ρ => Q acc ρ
  | x :: xs, acc, ρ => g x ρ fun ρ1 => tt ρ1 fun b ρ2 => if b = true then
      ti1 ρ2 fun items1 ρ3 => acc.length + items1.length ≤ sizeLine ∧ noBo ρ3 vs = true ∧ cmX g1 tt1 te vs1 (fun acc' ρ4 => cm2D g tt ti1 g1 tt1 te vs vs1 Q xs acc' (wipeD ρ4 vs)) items1 acc (wipeD ρ3 vs1)
    else cm2D g tt ti1 g1 tt1 te vs vs1 Q xs acc (wipeD ρ2 vs)
@[irreducible] def cm2X (g : DTG) (tt : DTT) (ti1 : DTL) (g1 : DTG) (tt1 : DTT) (te : DTE) (vs vs1 : List Nat) (Q : List PyData → DS → Prop) (items acc : List PyData) (ρ : DS) : Prop := cm2D g tt ti1 g1 tt1 te vs vs1 Q items acc ρ
section
variable {g g1 : DTG} {tt tt1 : DTT} {ti ti1 : DTL} {te : DTE} {vs vs1 : List Nat}
theorem cm2_in {Q : List PyData → DS → Prop} {items acc : List PyData} {ρ : DS} (h : cm2D g tt ti1 g1 tt1 te vs vs1 Q items acc ρ) : cm2X g tt ti1 g1 tt1 te vs vs1 Q items acc ρ := by unfold cm2X; exact h
theorem cm2_out {Q : List PyData → DS → Prop} {items acc : List PyData} {ρ : DS} (h : cm2X g tt ti1 g1 tt1 te vs vs1 Q items acc ρ) : cm2D g tt ti1 g1 tt1 te vs vs1 Q items acc ρ := by unfold cm2X at h; exact h
def fLc2 (ti : DTL) (g : DTG) (tt : DTT) (ti1 : DTL) (g1 : DTG) (tt1 : DTT) (te : DTE) (vs vs1 : List Nat) : DTL := fun ρ Q => ti ρ fun items ρ' => noBo ρ' vs = true ∧ cm2X g tt ti1 g1 tt1 te vs vs1 (fun out ρe => Q out (backD ρ' ρe vs)) items [] (wipeD ρ' vs)
theorem cm2D_mono {Q Q' : List PyData → DS → Prop} (k : ∀ d ρ, Q d ρ → Q' d ρ) (hg : ∀ d ρ Q Q', (∀ ρ', Q ρ' → Q' ρ') → g d ρ Q → g d ρ Q') (ht : ∀ ρ Q Q', (∀ d ρ', Q d ρ' → Q' d ρ') → tt ρ Q → tt ρ Q')
    (hi1 : ∀ ρ Q Q', (∀ d ρ', Q d ρ' → Q' d ρ') → ti1 ρ Q → ti1 ρ Q') (hg1 : ∀ d ρ Q Q', (∀ ρ', Q ρ' → Q' ρ') → g1 d ρ Q → g1 d ρ Q') (ht1 : ∀ ρ Q Q', (∀ d ρ', Q d ρ' → Q' d ρ') → tt1 ρ Q → tt1 ρ Q')
    (he : ∀ ρ Q Q', (∀ d ρ', Q d ρ' → Q' d ρ') → te ρ Q → te ρ Q') : ∀ (xs acc : List PyData) (ρ : DS), cm2D g tt ti1 g1 tt1 te vs vs1 Q xs acc ρ → cm2D g tt ti1 g1 tt1 te vs vs1 Q' xs acc ρ
  | [], acc, ρ, h => k _ _ h
  | x :: xs, acc, ρ, h => hg _ _ _ _ (fun ρ1 p => ht _ _ _ (fun b ρ2 p2 => by
    cases b with
    | true => exact hi1 _ _ _ (fun items1 ρ3 p3 => ⟨p3.1, p3.2.1, cm_in (cmD_mono (fun acc' ρ4 => cm2D_mono k hg ht hi1 hg1 ht1 he xs _ _) hg1 ht1 he _ _ _ (cm_out p3.2.2))⟩) p2
    | false => exact cm2D_mono k hg ht hi1 hg1 ht1 he xs _ _ p2) p) h
theorem lc2_run {ws ws1 : List Nat} {C : DC} {K : PySem.W.Frag} (hti : ∀ ρ Q Q', (∀ d ρ', Q d ρ' → Q' d ρ') → ti ρ Q → ti ρ Q')
    (hg : ∀ d ρ Q Q', (∀ ρ', Q ρ' → Q' ρ') → g d ρ Q → g d ρ Q') (ht : ∀ ρ Q Q', (∀ d ρ', Q d ρ' → Q' d ρ') → tt ρ Q → tt ρ Q')
    (hi1 : ∀ ρ Q Q', (∀ d ρ', Q d ρ' → Q' d ρ') → ti1 ρ Q → ti1 ρ Q') (hg1 : ∀ d ρ Q Q', (∀ ρ', Q ρ' → Q' ρ') → g1 d ρ Q → g1 d ρ Q') (ht1 : ∀ ρ Q Q', (∀ d ρ', Q d ρ' → Q' d ρ') → tt1 ρ Q → tt1 ρ Q')
    (he : ∀ ρ Q Q', (∀ d ρ', Q d ρ' → Q' d ρ') → te ρ Q → te ρ Q') (hw : ∀ i ∈ ws, i ∈ vs) (hw1 : ∀ i ∈ ws1, i ∈ vs1) (hv : ∀ i ∈ vs1, i ∈ vs)
    {σ : St} {H : Hp} {Q : VK} {G : Hp} {ρ : DS} {P : List PyData → DS → Prop} (rl : Rel K C G ρ σ H) (q : fLc2 ti g tt ti1 g1 tt1 te vs vs1 ρ P)
    (k : ∀ ds ρ' a us G' H', P ds ρ' → Same G G' → Rel K C G' ρ' σ H' → Fresh C G' ρ' σ H' a us → DpAll K G' us ds → Q (.ref a) H') :
    tLc2 (fun σ H R => liftI K C ti σ H R) (fun v σ H R => ∃ C', liftG K C' ws g v σ H R) (fun σ H R => ∃ C', liftT K C' tt σ H R) (fun σ H R => ∃ C', liftI K C' ti1 σ H R) (fun v σ H R => ∃ C', liftG K C' ws1 g1 v σ H R) (fun σ H R => ∃ C', liftT K C' tt1 σ H R) (fun σ H R => ∃ C', liftE K C' te σ H R) vs vs1 σ H Q := by
  refine goI hti rl q fun items ρ' J G' H' p s r' wk => ?_
  obtain ⟨hnb, p⟩ := p
  have p := cm2_out p
  intro D hD
  have hβ := r'.lentOut hnb
  have hβ1 : ∀ p ∈ C.β, p.1 ∉ vs1 := fun p hp z => hβ p hp (hv _ z)
  refine ⟨fun i m H => ∃ G2 ρ2 us acc, Same G' G2 ∧ Rel K { C with pr := (D, us) :: C.pr } G2 ρ2 (wipe σ vs) H ∧ DpAll K G2 us acc ∧ m = items.length - i ∧ i ≤ items.length ∧ ρ2.length = σ.length ∧
      cm2D g tt ti1 g1 tt1 te vs vs1 (fun out ρe => P out (backD ρ' ρe vs)) (items.drop i) acc ρ2, ?_, ?_⟩
  · have rw0 := Rel.wiped r' (r'.noBoOf hβ)
    have f0 := rw0.newF (vs := []) hD
    exact ⟨items.length, G', wipeD ρ' vs, [], [], Same.refl _, (rw0.newH hD).prPush f0, .nil, by omega, Nat.zero_le _, by rw [← rw0.len, wipe_length], by rw [List.drop_zero]; exact p⟩
  · rintro i m H ⟨G2, ρ2, us, acc, s2, r2, da, rfl, hi, hl, q2⟩
    have hnp : ∀ z ∈ C.pr, z.1 ≠ D := fun z hz => ne_of_none (r'.prs z hz).1 hD
    by_cases hlt : i < items.length
    · obtain ⟨d, ed⟩ : ∃ d, items[i]? = some d := ⟨_, List.getElem?_eq_getElem hlt⟩
      rw [drop_at ed] at q2
      refine .inr ⟨wk.go i d H ed (s2.trans r2.same), fun H => ∃ G2 ρ2 us acc, Same G' G2 ∧ Rel K { C with pr := (D, us) :: C.pr } G2 ρ2 (wipe σ vs) H ∧ DpAll K G2 us acc ∧ ρ2.length = σ.length ∧
        cm2D g tt ti1 g1 tt1 te vs vs1 (fun out ρe => P out (backD ρ' ρe vs)) (items.drop (i + 1)) acc ρ2, fun H' ⟨G3, ρ3, us3, acc3, a1, a2, a3, a5, a6⟩ => ⟨items.length - (i + 1), by omega, G3, ρ3, us3, acc3, a1, a2, a3, rfl, hlt, a5, a6⟩, fun x H' y => ?_⟩
      obtain ⟨G3, s3, r3, dp⟩ := wk.item s2 r2 ed y
      refine ⟨_, goG hg r3 dp q2 fun ρ4 σ4 G4 H4 p4 bu s4 r4 => ?_⟩
      have hl4 : σ4.length = σ.length := bu.1.trans (wipe_length _ _)
      have hwp : wipe σ4 vs = wipe σ vs := wipe_but hw bu
      refine ⟨hwp, _, goT ht r4 p4 fun b ρ5 G5 H5 p5 s5 r5 => ?_⟩
      have s05 := ((s2.trans s3).trans s4).trans s5
      have hl5 : ρ5.length = σ.length := by rw [← r5.len, hl4]
      cases b with
      | false =>
        refine ⟨G5, wipeD ρ5 vs, us, acc, s05, ?_, DpAll.mo ((s3.trans s4).trans s5) _ _ da, ?_, p5⟩
        · have r6 := Rel.wiped r5 (r5.noBoOf (show ∀ p ∈ C.β, p.1 ∉ vs from hβ))
          rw [hwp] at r6
          exact r6
        · rw [wipeD_len, hl5]
      | true =>
        refine ⟨_, goI hi1 r5 p5 fun items1 ρ6 J1 G6 H6 p6 s6 r6 wk1 => ?_⟩
        obtain ⟨hz6, hnb6, p6⟩ := p6
        have p6 := cm_out p6
        have s06 := s05.trans s6
        have hl6 : ρ6.length = σ.length := by rw [← r6.len, hl4]
        have da6 := DpAll.mo (((s3.trans s4).trans s5).trans s6) _ _ da
        have hw4 : wipe (wipe σ4 vs1) vs = wipe σ vs := (wipe_wipe hv).trans hwp
        refine ⟨fun j kk H => ∃ G7 ρ7 us7 acc7, Same G6 G7 ∧ Rel K { C with pr := (D, us7) :: C.pr } G7 ρ7 (wipe σ4 vs1) H ∧ DpAll K G7 us7 acc7 ∧ acc7.length ≤ acc.length + j ∧ kk = items1.length - j ∧ j ≤ items1.length ∧ ρ7.length = σ.length ∧
          cmD g1 tt1 te vs1 (fun acc' ρ4 => cm2D g tt ti1 g1 tt1 te vs vs1 (fun out ρe => P out (backD ρ' ρe vs)) (items.drop (i + 1)) acc' (wipeD ρ4 vs)) (items1.drop j) acc7 ρ7, ?_, ?_⟩
        · have r7 := Rel.wiped r6 (r6.noBoOf (show ∀ p ∈ C.β, p.1 ∉ vs1 from hβ1))
          exact ⟨items1.length, G6, wipeD ρ6 vs1, us, acc, Same.refl _, r7, da6, Nat.le_add_right _ _, by omega, Nat.zero_le _, by rw [wipeD_len, hl6], by rw [List.drop_zero]; exact p6⟩
        · rintro j kk H7 ⟨G7, ρ7, us7, acc7, s7, r7, da7, hacc, rfl, hj, hl7, q7⟩
          by_cases hlt1 : j < items1.length
          · obtain ⟨d1, ed1⟩ : ∃ d, items1[j]? = some d := ⟨_, List.getElem?_eq_getElem hlt1⟩
            rw [drop_at ed1] at q7
            refine .inr ⟨wk1.go j d1 H7 ed1 (s7.trans r7.same), fun H => ∃ G8 ρ8 us8 acc8, Same G6 G8 ∧ Rel K { C with pr := (D, us8) :: C.pr } G8 ρ8 (wipe σ4 vs1) H ∧ DpAll K G8 us8 acc8 ∧ acc8.length ≤ acc.length + (j + 1) ∧ ρ8.length = σ.length ∧
              cmD g1 tt1 te vs1 (fun acc' ρ4 => cm2D g tt ti1 g1 tt1 te vs vs1 (fun out ρe => P out (backD ρ' ρe vs)) (items.drop (i + 1)) acc' (wipeD ρ4 vs)) (items1.drop (j + 1)) acc8 ρ8,
              fun H' ⟨G8, ρ8, us8, acc8, a1, a2, a3, a4, a5, a6⟩ => ⟨items1.length - (j + 1), by omega, G8, ρ8, us8, acc8, a1, a2, a3, a4, rfl, hlt1, a5, a6⟩, fun x1 H8 y1 => ?_⟩
            obtain ⟨G8, s8, r8, dp1⟩ := wk1.item s7 r7 ed1 y1
            refine ⟨_, goG hg1 r8 dp1 q7 fun ρ9 σ9 G9 H9 p9 bu9 s9 r9 => ?_⟩
            have hl9 : σ9.length = σ.length := bu9.1.trans ((wipe_length _ _).trans hl4)
            have hwp9 : wipe σ9 vs1 = wipe σ4 vs1 := wipe_but hw1 bu9
            refine ⟨hwp9, _, goT ht1 r9 p9 fun b1 ρa Ga Ha pa sa ra => ?_⟩
            have s6a := ((s7.trans s8).trans s9).trans sa
            have hla : ρa.length = σ.length := by rw [← ra.len, hl9]
            cases b1 with
            | false =>
              refine ⟨Ga, wipeD ρa vs1, us7, acc7, s6a, ?_, DpAll.mo ((s8.trans s9).trans sa) _ _ da7, by omega, ?_, pa⟩
              · have rb := Rel.wiped ra (ra.noBoOf (show ∀ p ∈ C.β, p.1 ∉ vs1 from hβ1))
                rw [hwp9] at rb
                exact rb
              · rw [wipeD_len, hla]
            | true =>
              refine ⟨_, goE he ra pa fun y' ρb vb Gb Hb pb sb rb db => ?_⟩
              have s6b := s6a.trans sb
              obtain ⟨z1, z2, z3, z4⟩ := rb.prs (D, us7) List.mem_cons_self
              have hlen : us7.length < sizeLine := by rw [DpAll.len da7]; omega
              refine ⟨us7, z1, hlen, Gb, wipeD ρb vs1, us7 ++ [vb], acc7 ++ [y'], s6b, ?_, DpAll.app (DpAll.mo (((s8.trans s9).trans sa).trans sb) _ _ da7) (.cons db .nil), by rw [List.length_append, List.length_singleton]; omega, ?_, pb⟩
              · have rc := Rel.prGrow (C := C) (vs' := us7 ++ [vb]) rb hnp
                have rd := Rel.wiped rc (rc.noBoOf (show ∀ p ∈ C.β, p.1 ∉ vs1 from hβ1))
                rw [hwp9] at rd
                exact rd
              · rw [wipeD_len, ← rb.len, hl9]
          · have e : j = items1.length := by omega
            subst e
            rw [List.drop_length] at q7
            refine .inl ⟨wk1.stop _ H7 (Nat.le_refl _) (s7.trans r7.same), G7, wipeD ρ7 vs, us7, acc7, s06.trans s7, ?_, da7, by rw [wipeD_len, hl7], q7⟩
            have r8 := Rel.wiped r7 (r7.noBoOf (show ∀ p ∈ C.β, p.1 ∉ vs from hβ))
            rw [hw4] at r8
            exact r8
    · have e : i = items.length := by omega
      subst e
      rw [List.drop_length] at q2
      obtain ⟨r3, f3⟩ := Rel.prPop (C := C) r2 hnp
      have r4 := Rel.back r' s2 hβ r3 hl
      refine .inl ⟨wk.stop _ H (Nat.le_refl _) (s2.trans r2.same), k acc _ D us G2 H q2 (s.trans s2) r4 ⟨f3.at_, f3.g, f3.h0, fun j sl ej mj => ?_, f3.np⟩ da⟩
      exact backD_fresh f3 hl ej mj
end
section
variable {X : Cx} {e a b c tg iter elt tg1 iter1 : Expr} {es ifs ifs1 : List Expr} {pos pos' : Pos}
variable {g g1 : DTG} {tt tt1 : DTT} {ti ti1 : DTL} {te : DTE} {ws ws1 : List Nat} {scope : Scope} {own : List (Str × Nat)} {vs1 : List Nat}
theorem df_lc2 (vs1 : List Nat) (hc : X.calm = true) (hN : X.N.Nodup) (hi : DI X tg iter ti) (ok : blkC X.N X.env.scope scope own = true) (hw : ∀ i ∈ ws, i ∈ own.map (·.2)) (hw1 : ∀ i ∈ ws1, i ∈ vs1) (hv : ∀ i ∈ vs1, i ∈ own.map (·.2))
    (hg : ∀ (s : Shared) (H : Hp) (C : Addr) (cl : List (Str × Addr)) (fp : List Addr), DG (X.blk s H scope (compEnvC scope cl C X.env) fp) tg ws g) (ht : ∀ (s : Shared) (H : Hp) (C : Addr) (cl : List (Str × Addr)) (fp : List Addr), DTs (X.blk s H scope (compEnvC scope cl C X.env) fp) ifs tt)
    (hi1 : ∀ (s : Shared) (H : Hp) (C : Addr) (cl : List (Str × Addr)) (fp : List Addr), DI (X.blk s H scope (compEnvC scope cl C X.env) fp) tg1 iter1 ti1)
    (hg1 : ∀ (s : Shared) (H : Hp) (C : Addr) (cl : List (Str × Addr)) (fp : List Addr), DG (X.blk s H scope (compEnvC scope cl C X.env) fp) tg1 ws1 g1) (ht1 : ∀ (s : Shared) (H : Hp) (C : Addr) (cl : List (Str × Addr)) (fp : List Addr), DTs (X.blk s H scope (compEnvC scope cl C X.env) fp) ifs1 tt1)
    (he : ∀ (s : Shared) (H : Hp) (C : Addr) (cl : List (Str × Addr)) (fp : List Addr), DE (X.blk s H scope (compEnvC scope cl C X.env) fp) elt te) (hs : ∀ x, foldedSetIterable iter X.env x = pure x := by intro _; rfl) (hs1 : ∀ env x, foldedSetIterable iter1 env x = pure x := by intro _ _; rfl) :
    DF X (.ListComp elt [⟨tg, iter, ifs, 0⟩, ⟨tg1, iter1, ifs1, 0⟩] scope pos) (fLc2 ti g tt ti1 g1 tt1 te (own.map (·.2)) vs1) where
  run C := PE.imp (pe_lc2 hc hN (hi.run C) (blkOk_by ok) hv (fun s H c cl fp => ⟨fun pins s2 σ H2 v u Q I r ⟨C', h⟩ => ((hg s H c cl fp).run C').run pins s2 σ H2 v u Q I r h⟩) (fun s H c cl fp => ⟨fun pins s2 σ H2 Q I ⟨C', h⟩ => ((ht s H c cl fp).run C').run pins s2 σ H2 Q I h⟩)
      (fun s H c cl fp => ⟨fun pins s2 σ H2 R I ⟨C', h⟩ => ((hi1 s H c cl fp).run C').run pins s2 σ H2 R I h⟩)
      (fun s H c cl fp => ⟨fun pins s2 σ H2 v u Q I r ⟨C', h⟩ => ((hg1 s H c cl fp).run C').run pins s2 σ H2 v u Q I r h⟩) (fun s H c cl fp => ⟨fun pins s2 σ H2 Q I ⟨C', h⟩ => ((ht1 s H c cl fp).run C').run pins s2 σ H2 Q I h⟩)
      (fun s H c cl fp => ⟨fun pins s2 σ H2 Q I ⟨C', h⟩ => ((he s H c cl fp).run C').run pins s2 σ H2 Q I h⟩) hs hs1) fun σ H Q ⟨G, ρ, r, q⟩ =>
    lc2_run hi.mono (hg X.s_0 H 0 [] []).mono (ht X.s_0 H 0 [] []).mono (hi1 X.s_0 H 0 [] []).mono (hg1 X.s_0 H 0 [] []).mono (ht1 X.s_0 H 0 [] []).mono (he X.s_0 H 0 [] []).mono hw hw1 hv r q fun ds ρ' a us G' H' p s r' f d => p a us G' H' s r' f d
  mono ρ Q Q' k q := hi.mono _ _ _ (fun items ρ' p => ⟨p.1, cm2_in (cm2D_mono (fun d ρ2 => k _ _) (hg X.s_0 (fun _ => none) 0 [] []).mono (ht X.s_0 (fun _ => none) 0 [] []).mono (hi1 X.s_0 (fun _ => none) 0 [] []).mono (hg1 X.s_0 (fun _ => none) 0 [] []).mono (ht1 X.s_0 (fun _ => none) 0 [] []).mono (he X.s_0 (fun _ => none) 0 [] []).mono _ _ _ (cm2_out p.2))⟩) q
theorem ds_setLc2 (i : Nat) (vs1 : List Nat) {y : Str} {py spos : Pos} (hc : X.calm = true) (hN : X.N.Nodup) (hi : DI X tg iter ti) (ok : blkC X.N X.env.scope scope own = true) (hw : ∀ i ∈ ws, i ∈ own.map (·.2)) (hw1 : ∀ i ∈ ws1, i ∈ vs1) (hv : ∀ i ∈ vs1, i ∈ own.map (·.2))
    (hg : ∀ (s : Shared) (H : Hp) (C : Addr) (cl : List (Str × Addr)) (fp : List Addr), DG (X.blk s H scope (compEnvC scope cl C X.env) fp) tg ws g) (ht : ∀ (s : Shared) (H : Hp) (C : Addr) (cl : List (Str × Addr)) (fp : List Addr), DTs (X.blk s H scope (compEnvC scope cl C X.env) fp) ifs tt)
    (hi1 : ∀ (s : Shared) (H : Hp) (C : Addr) (cl : List (Str × Addr)) (fp : List Addr), DI (X.blk s H scope (compEnvC scope cl C X.env) fp) tg1 iter1 ti1)
    (hg1 : ∀ (s : Shared) (H : Hp) (C : Addr) (cl : List (Str × Addr)) (fp : List Addr), DG (X.blk s H scope (compEnvC scope cl C X.env) fp) tg1 ws1 g1) (ht1 : ∀ (s : Shared) (H : Hp) (C : Addr) (cl : List (Str × Addr)) (fp : List Addr), DTs (X.blk s H scope (compEnvC scope cl C X.env) fp) ifs1 tt1)
    (he : ∀ (s : Shared) (H : Hp) (C : Addr) (cl : List (Str × Addr)) (fp : List Addr), DE (X.blk s H scope (compEnvC scope cl C X.env) fp) elt te)
    (hy : X.N[i]? = some y := by rfl) (hyl : X.env.scope.names.lookup y = some .local := by rfl) (hsw : swapsWith (.ListComp elt [⟨tg, iter, ifs, 0⟩, ⟨tg1, iter1, ifs1, 0⟩] scope pos) (some (.Name y py)) spos.line X.env = pure true := by exact sw_true rfl rfl rfl (by decide +kernel))
    (hs : ∀ x, foldedSetIterable iter X.env x = pure x := by intro _; rfl) (hs1 : ∀ env x, foldedSetIterable iter1 env x = pure x := by intro _ _; rfl) :
    DSt X (.Assign [.Name y py] (.ListComp elt [⟨tg, iter, ifs, 0⟩, ⟨tg1, iter1, ifs1, 0⟩] scope pos) spos) (sAs (eF (fLc2 ti g tt ti1 g1 tt1 te (own.map (·.2)) vs1)) (gN i)) where
  run C := PS.imp (ps_setLc2 (i := i) hc hN hy hyl hsw (hi.run C) (blkOk_by ok) hv (fun s H c cl fp => ⟨fun pins s2 σ H2 v u Q I r ⟨C', h⟩ => ((hg s H c cl fp).run C').run pins s2 σ H2 v u Q I r h⟩) (fun s H c cl fp => ⟨fun pins s2 σ H2 Q I ⟨C', h⟩ => ((ht s H c cl fp).run C').run pins s2 σ H2 Q I h⟩)
      (fun s H c cl fp => ⟨fun pins s2 σ H2 R I ⟨C', h⟩ => ((hi1 s H c cl fp).run C').run pins s2 σ H2 R I h⟩)
      (fun s H c cl fp => ⟨fun pins s2 σ H2 v u Q I r ⟨C', h⟩ => ((hg1 s H c cl fp).run C').run pins s2 σ H2 v u Q I r h⟩) (fun s H c cl fp => ⟨fun pins s2 σ H2 Q I ⟨C', h⟩ => ((ht1 s H c cl fp).run C').run pins s2 σ H2 Q I h⟩)
      (fun s H c cl fp => ⟨fun pins s2 σ H2 Q I ⟨C', h⟩ => ((he s H c cl fp).run C').run pins s2 σ H2 Q I h⟩) hs hs1) fun D σ H ⟨G, ρ, DD, r, k, q⟩ =>
    lc2_run hi.mono (hg X.s_0 H 0 [] []).mono (ht X.s_0 H 0 [] []).mono (hi1 X.s_0 H 0 [] []).mono (hg1 X.s_0 H 0 [] []).mono (ht1 X.s_0 H 0 [] []).mono (he X.s_0 H 0 [] []).mono hw hw1 hv r q fun ds ρ' a us G' H' p s r' f d => by
      obtain ⟨s2, r2⟩ := r'.freeze f
      exact k.nx _ _ _ _ p.2 (s.trans s2) (r2.setSh (isBo_no p.1) (.lst (.inl (.inl upd_same)) (DpAll.mo s2 _ _ d)))
  mono DD DD' ρ l q := hi.mono _ _ _ (fun items ρ' p => ⟨p.1, cm2_in (cm2D_mono (fun d ρ2 q => ⟨q.1, l.nx _ q.2⟩) (hg X.s_0 (fun _ => none) 0 [] []).mono (ht X.s_0 (fun _ => none) 0 [] []).mono (hi1 X.s_0 (fun _ => none) 0 [] []).mono (hg1 X.s_0 (fun _ => none) 0 [] []).mono (ht1 X.s_0 (fun _ => none) 0 [] []).mono (he X.s_0 (fun _ => none) 0 [] []).mono _ _ _ (cm2_out p.2))⟩) q
theorem ds_ownLc2 (i : Nat) (vs1 : List Nat) {y : Str} {py spos : Pos} (hc : X.calm = true) (hN : X.N.Nodup) (hi : DI X tg iter ti) (ok : blkC X.N X.env.scope scope own = true) (hw : ∀ i ∈ ws, i ∈ own.map (·.2)) (hw1 : ∀ i ∈ ws1, i ∈ vs1) (hv : ∀ i ∈ vs1, i ∈ own.map (·.2))
    (hg : ∀ (s : Shared) (H : Hp) (C : Addr) (cl : List (Str × Addr)) (fp : List Addr), DG (X.blk s H scope (compEnvC scope cl C X.env) fp) tg ws g) (ht : ∀ (s : Shared) (H : Hp) (C : Addr) (cl : List (Str × Addr)) (fp : List Addr), DTs (X.blk s H scope (compEnvC scope cl C X.env) fp) ifs tt)
    (hi1 : ∀ (s : Shared) (H : Hp) (C : Addr) (cl : List (Str × Addr)) (fp : List Addr), DI (X.blk s H scope (compEnvC scope cl C X.env) fp) tg1 iter1 ti1)
    (hg1 : ∀ (s : Shared) (H : Hp) (C : Addr) (cl : List (Str × Addr)) (fp : List Addr), DG (X.blk s H scope (compEnvC scope cl C X.env) fp) tg1 ws1 g1) (ht1 : ∀ (s : Shared) (H : Hp) (C : Addr) (cl : List (Str × Addr)) (fp : List Addr), DTs (X.blk s H scope (compEnvC scope cl C X.env) fp) ifs1 tt1)
    (he : ∀ (s : Shared) (H : Hp) (C : Addr) (cl : List (Str × Addr)) (fp : List Addr), DE (X.blk s H scope (compEnvC scope cl C X.env) fp) elt te)
    (hy : X.N[i]? = some y := by rfl) (hyl : X.env.scope.names.lookup y = some .local := by rfl) (hsw : swapsWith (.ListComp elt [⟨tg, iter, ifs, 0⟩, ⟨tg1, iter1, ifs1, 0⟩] scope pos) (some (.Name y py)) spos.line X.env = pure true := by exact sw_true rfl rfl rfl (by decide +kernel))
    (hs : ∀ x, foldedSetIterable iter X.env x = pure x := by intro _; rfl) (hs1 : ∀ env x, foldedSetIterable iter1 env x = pure x := by intro _ _; rfl) :
    DSt X (.Assign [.Name y py] (.ListComp elt [⟨tg, iter, ifs, 0⟩, ⟨tg1, iter1, ifs1, 0⟩] scope pos) spos) (sOw (fLc2 ti g tt ti1 g1 tt1 te (own.map (·.2)) vs1) i) where
  run C := PS.imp (ps_setLc2 (i := i) hc hN hy hyl hsw (hi.run C) (blkOk_by ok) hv (fun s H c cl fp => ⟨fun pins s2 σ H2 v u Q I r ⟨C', h⟩ => ((hg s H c cl fp).run C').run pins s2 σ H2 v u Q I r h⟩) (fun s H c cl fp => ⟨fun pins s2 σ H2 Q I ⟨C', h⟩ => ((ht s H c cl fp).run C').run pins s2 σ H2 Q I h⟩)
      (fun s H c cl fp => ⟨fun pins s2 σ H2 R I ⟨C', h⟩ => ((hi1 s H c cl fp).run C').run pins s2 σ H2 R I h⟩)
      (fun s H c cl fp => ⟨fun pins s2 σ H2 v u Q I r ⟨C', h⟩ => ((hg1 s H c cl fp).run C').run pins s2 σ H2 v u Q I r h⟩) (fun s H c cl fp => ⟨fun pins s2 σ H2 Q I ⟨C', h⟩ => ((ht1 s H c cl fp).run C').run pins s2 σ H2 Q I h⟩)
      (fun s H c cl fp => ⟨fun pins s2 σ H2 Q I ⟨C', h⟩ => ((he s H c cl fp).run C').run pins s2 σ H2 Q I h⟩) hs hs1) fun D σ H ⟨G, ρ, DD, r, k, q⟩ =>
    lc2_run hi.mono (hg X.s_0 H 0 [] []).mono (ht X.s_0 H 0 [] []).mono (hi1 X.s_0 H 0 [] []).mono (hg1 X.s_0 H 0 [] []).mono (ht1 X.s_0 H 0 [] []).mono (he X.s_0 H 0 [] []).mono hw hw1 hv r q fun ds ρ' a us G' H' p s r' f d => k.nx _ _ _ _ p.2 s (r'.setOw (isBo_no p.1) f d)
  mono DD DD' ρ l q := hi.mono _ _ _ (fun items ρ' p => ⟨p.1, cm2_in (cm2D_mono (fun d ρ2 q => ⟨q.1, l.nx _ q.2⟩) (hg X.s_0 (fun _ => none) 0 [] []).mono (ht X.s_0 (fun _ => none) 0 [] []).mono (hi1 X.s_0 (fun _ => none) 0 [] []).mono (hg1 X.s_0 (fun _ => none) 0 [] []).mono (ht1 X.s_0 (fun _ => none) 0 [] []).mono (he X.s_0 (fun _ => none) 0 [] []).mono _ _ _ (cm2_out p.2))⟩) q
end
end DL

namespace DL
open PySem L2

section
variable {X : Cx} {e a b c : Expr} {es : List Expr} {pos pos' : Pos}
theorem de_callBf {x : Str} {p : Pos} {id : String} {r : DCl} {t : DTOs} (hc : ClD X (.builtin id) r) (hg : Gl X x) (hm : X.mg x = some (.builtin id)) (ha : DOs X (e :: es) t) (hdb : (x == ("__debug__" : Str)) = false := by decide)
    (he : starEach (e :: es) X.env = (false, eval e X.env) :: starEach es X.env := by rfl) (hpl : (backTo pos (starEach es X.env)).any (·.1) = false := by rfl) : DE X (.Call (.Name x p) (e :: es) [] pos) (eCl r t) where
  run C := by
    obtain ⟨r0, h0, hk⟩ := hc.ok
    exact PE.imp (pe_callBfun h0 hg hm (ha.run C) hdb he hpl) (eCl_run ha hk)
  mono := eCl_mono hc.mono ha
def cGcd : DCl := fun ds Q => match ds with
  | [.int a, .int b] => Q (.int (Int.gcd a b : Int))
  | _ => False
theorem cd_gcd : ClD X (.builtin "math.gcd") cGcd where
  mono ds Q Q' k q := by
    unfold cGcd at q ⊢
    split at q <;> first | exact k _ q | exact q.elim
  ok := ⟨_, cr_gcd, fun G H vs ds Q Qd s hv q K => by
    unfold cGcd at q
    split at q
    · cases hv with
      | cons h1 h2 =>
        cases h2 with
        | cons h3 h4 =>
          cases h4
          rw [h1.int, h3.int]
          exact ⟨_, _, rfl, K.v _ _ q (.int _)⟩
    · exact q.elim⟩
end
section
variable {P : Program} {w : World} {K : PySem.W.Frag} {mg : Str → Option Value} {base : Heap}
theorem ok_no {k n : Nat} {f : Addr} {fd : FuncData} {ps : List Str} : FnOk P w K mg base CX0 k f fd ps (toSp K n fun _ _ => False) :=
  ⟨fun vs H Q E h => by obtain ⟨_, _, _, _, _, h⟩ := h; exact h.elim, fun A outer s H args us vs Q E _ _ _ _ h => by obtain ⟨_, _, _, _, _, h⟩ := h; exact h.elim⟩
end
end DL

namespace DL
open PySem L2

/-! ## walking a mutable list that stays as it is: it is lent for the while -/
def DC.lend (C : DC) (i : Nat) (a : Addr) : DC := { C with β := (i, a) :: C.β }
section
variable {K : PySem.W.Frag} {C : DC} {G H : Hp} {ρ : DS} {σ : St}
theorem SlOk.lend {i j : Nat} {a : Addr} {v : V} : ∀ {sl : Sl}, SlOk K C G H j v sl → SlOk K (C.lend i a) G H j v sl
  | .sh d, h => h
  | .ow ds, h => h
  | .bo ds, ⟨b, vs, h1, h2, h3, h4, h5⟩ => ⟨b, vs, h1, List.mem_cons_of_mem _ h2, h3, h4, h5⟩
theorem set_at {α : Type} {l : List (Option α)} {i j : Nat} {x : Option α} {y : Option α} (h : (l.set i x)[j]? = some y) : (i = j ∧ x = y) ∨ (i ≠ j ∧ l[j]? = some y) := by
  by_cases e : i = j
  · subst e
    have hl : i < l.length := by
      have := (List.getElem?_eq_some_iff.mp h).1
      rwa [List.length_set] at this
    rw [List.getElem?_set_self hl] at h
    cases h
    exact .inl ⟨rfl, rfl⟩
  · rw [List.getElem?_set_ne e] at h
    exact .inr ⟨e, h⟩
theorem Rel.lend (R : Rel K C G ρ σ H) {i : Nat} {ds : List PyData} {a : Addr} (h : ρ[i]? = some (some (.ow ds))) (hi : σ[i]? = some (some (.ref a))) : Rel K (C.lend i a) G (ρ.set i (some (.bo ds))) σ H := by
  have hl : i < ρ.length := (List.getElem?_eq_some_iff.mp h).1
  obtain ⟨v, e1, a', vs, rfl, h2, h3, h4, h5⟩ := R.slot i _ h
  rw [hi] at e1
  cases e1
  have mu : ∀ {j : Nat} {sl : Sl}, (ρ.set i (some (.bo ds)))[j]? = some (some sl) → sl.mu = true → ∃ sl', ρ[j]? = some (some sl') ∧ sl'.mu = true := fun {j sl} e hm => by
    rcases set_at e with ⟨rfl, q⟩ | ⟨_, q⟩
    · exact ⟨_, h, rfl⟩
    · exact ⟨_, q, hm⟩
  refine ⟨R.same, R.nw, fun b o e k => R.fr b o e fun p hp => k p (List.mem_cons_of_mem _ hp), fun p hp => ?_, fun p hp => ?_, by rw [List.length_set, R.len], fun j sl e => ?_, fun j k sj sk b n ej ek mj mk qj => ?_, fun z hz => ?_⟩
  · rcases List.mem_cons.mp hp with e | hp
    · subst e
      exact ⟨vs, h2⟩
    · exact R.be p hp
  · rcases List.mem_cons.mp hp with e | hp
    · subst e
      exact ⟨hi, ds, List.getElem?_set_self hl⟩
    · obtain ⟨q1, es, q2⟩ := R.bs p hp
      refine ⟨q1, es, ?_⟩
      rw [List.getElem?_set_ne fun z => by rw [← z, h] at q2; cases q2]
      exact q2
  · rcases set_at e with ⟨rfl, q⟩ | ⟨_, q⟩
    · cases q
      exact ⟨_, hi, a, vs, rfl, List.mem_cons_self, h2, h3, h5⟩
    · obtain ⟨v, e1, k⟩ := R.slot j sl q
      exact ⟨v, e1, k.lend⟩
  · obtain ⟨sj', ej', mj'⟩ := mu ej mj
    obtain ⟨sk', ek', mk'⟩ := mu ek mk
    exact R.sep j k sj' sk' b n ej' ek' mj' mk' qj
  · obtain ⟨q1, q2, q3, q4⟩ := R.prs z hz
    exact ⟨q1, q2, q3, fun j sl e hm => by
      obtain ⟨sl', e', m'⟩ := mu e hm
      exact q4 j sl' e' m'⟩
/-- handed back -/
def unl (i : Nat) (ρ : DS) : DS := match ρ[i]? with
  | some (some (.bo ds)) => ρ.set i (some (.ow ds))
  | _ => ρ
theorem unl_mu {i j : Nat} {sl : Sl} (e : (unl i ρ)[j]? = some (some sl)) (hm : sl.mu = true) : ∃ sl', ρ[j]? = some (some sl') ∧ sl'.mu = true := by
  unfold unl at e
  split at e
  · rename_i ds h
    rcases set_at e with ⟨rfl, q⟩ | ⟨_, q⟩
    · exact ⟨_, h, rfl⟩
    · exact ⟨_, q, hm⟩
  · exact ⟨_, e, hm⟩
theorem Rel.unlend {i : Nat} {a : Addr} (R : Rel K (C.lend i a) G ρ σ H) (h0 : C.H0 a = none) (hn : ∀ p ∈ C.β, p.1 ≠ i) : Rel K C G (unl i ρ) σ H := by
  obtain ⟨hi, ds, h⟩ := R.bs (i, a) List.mem_cons_self
  have hi : σ[i]? = some (some (.ref a)) := hi
  have h : ρ[i]? = some (some (.bo ds)) := h
  have hl : i < ρ.length := (List.getElem?_eq_some_iff.mp h).1
  have eu : unl i ρ = ρ.set i (some (.ow ds)) := by unfold unl; rw [h]
  obtain ⟨v, e1, a', vs, rfl, h2, h3, h4, h5⟩ := R.slot i _ h
  rw [hi] at e1
  cases e1
  refine ⟨R.same, R.nw, fun b o e k => R.fr b o e fun p hp => ?_, fun p hp => R.be p (List.mem_cons_of_mem _ hp), fun p hp => ?_, by rw [eu, List.length_set, R.len], fun j sl e => ?_, fun j k sj sk b n ej ek mj mk qj => ?_, fun z hz => ?_⟩
  · rcases List.mem_cons.mp hp with q | hp
    · subst q
      intro z
      have z : a = b := z
      rw [← z] at e
      exact absurd (h0.symm.trans e) (by simp)
    · exact k p hp
  · obtain ⟨q1, es, q2⟩ := R.bs p (List.mem_cons_of_mem _ hp)
    refine ⟨q1, es, ?_⟩
    rw [eu, List.getElem?_set_ne fun z => hn p hp z.symm]
    exact q2
  · rw [eu] at e
    rcases set_at e with ⟨rfl, q⟩ | ⟨hne, q⟩
    · cases q
      exact ⟨_, hi, a, vs, rfl, h3, h4, h0, h5⟩
    · obtain ⟨v, e1, k⟩ := R.slot j sl q
      refine ⟨v, e1, ?_⟩
      cases sl with
      | sh d => exact k
      | ow es => exact k
      | bo es =>
        obtain ⟨b, us, k1, k2, k3, k4, k5⟩ := k
        rcases List.mem_cons.mp k2 with z | k2
        · cases z
          exact (hne rfl).elim
        · exact ⟨b, us, k1, k2, k3, k4, k5⟩
  · obtain ⟨sj', ej', mj'⟩ := unl_mu ej mj
    obtain ⟨sk', ek', mk'⟩ := unl_mu ek mk
    exact R.sep j k sj' sk' b n ej' ek' mj' mk' qj
  · obtain ⟨q1, q2, q3, q4⟩ := R.prs z hz
    exact ⟨q1, q2, q3, fun j sl e hm => by
      obtain ⟨sl', e', m'⟩ := unl_mu e hm
      exact q4 j sl' e' m'⟩
theorem Fresh.unlend {i : Nat} {a b : Addr} {us : List V} (F : Fresh (C.lend i a) G ρ σ H b us) : Fresh C G (unl i ρ) σ H b us :=
  ⟨F.at_, F.g, F.h0, fun j sl e hm => by
    obtain ⟨sl', e', m'⟩ := unl_mu e hm
    exact F.ns j sl' e' m', F.np⟩
theorem oit {i : Nat} {a : Addr} {items : List PyData} (r : Rel K C G ρ σ H) (hb : (i, a) ∈ C.β) (e : ρ[i]? = some (some (.bo items))) : ∃ vs, H a = some (.lst vs) ∧ DpAll K G vs items := by
  obtain ⟨v, e1, a', vs, rfl, h2, h3, h4, h5⟩ := r.slot i _ e
  have q := (r.bs _ hb).1
  rw [show σ[i]? = some (some (.ref a)) from q] at e1
  cases e1
  exact ⟨vs, h3, h5⟩
theorem oit_go {i j : Nat} {a : Addr} {items : List PyData} {d : PyData} (r : Rel K C G ρ σ H) (hb : (i, a) ∈ C.β) (e : ρ[i]? = some (some (.bo items))) (ed : items[j]? = some d) : (Itl K a).go j H := by
  obtain ⟨vs, h1, h2⟩ := oit r hb e
  obtain ⟨v, e1, _⟩ := DpAll.get h2 ed
  exact ⟨vs, v, .inl (.inl h1), e1⟩
theorem oit_yld {i j : Nat} {a : Addr} {items : List PyData} {d : PyData} {x : V} {H' : Hp} (r : Rel K C G ρ σ H) (hb : (i, a) ∈ C.β) (e : ρ[i]? = some (some (.bo items))) (ed : items[j]? = some d) (y : (Itl K a).yld j H x H') : H' = H ∧ Dp K G x d := by
  obtain ⟨vs, h1, h2⟩ := oit r hb e
  obtain ⟨rfl, y⟩ := y
  obtain ⟨d', e1, dp⟩ := DpAll.get' h2 (y vs (.inl (.inl h1)))
  rw [ed] at e1
  cases e1
  exact ⟨rfl, dp⟩
theorem oit_stop {i : Nat} {a : Addr} {items : List PyData} (r : Rel K C G ρ σ H) (hb : (i, a) ∈ C.β) (e : ρ[i]? = some (some (.bo items))) : (Itl K a).stop items.length H := by
  obtain ⟨vs, h1, h2⟩ := oit r hb e
  exact ⟨vs, .inl (.inl h1), by rw [DpAll.len h2]; exact Nat.le_refl _⟩
end
/-! ### comprehensions over it -/
def cmG (i : Nat) (all : List PyData) (g : DTG) (tt : DTT) (te : DTE) (vs : List Nat) (Q : List PyData → DS → Prop) : List PyData → List PyData → DS → Prop
  | [], acc, ρ => ρ[i]? = some (some (.bo all)) ∧ Q acc ρ
  | x :: xs, acc, ρ => ρ[i]? = some (some (.bo all)) ∧ g x ρ fun ρ1 => tt ρ1 fun b ρ2 => if b = true then te ρ2 fun y ρ3 => cmG i all g tt te vs Q xs (acc ++ [y]) (wipeD ρ3 vs) else cmG i all g tt te vs Q xs acc (wipeD ρ2 vs)
@[irreducible] def cmY (i : Nat) (all : List PyData) (g : DTG) (tt : DTT) (te : DTE) (vs : List Nat) (Q : List PyData → DS → Prop) (items acc : List PyData) (ρ : DS) : Prop := cmG i all g tt te vs Q items acc ρ
theorem cmg_in {i : Nat} {all : List PyData} {g : DTG} {tt : DTT} {te : DTE} {vs : List Nat} {Q : List PyData → DS → Prop} {items acc : List PyData} {ρ : DS} (h : cmG i all g tt te vs Q items acc ρ) : cmY i all g tt te vs Q items acc ρ := by unfold cmY; exact h
theorem cmg_out {i : Nat} {all : List PyData} {g : DTG} {tt : DTT} {te : DTE} {vs : List Nat} {Q : List PyData → DS → Prop} {items acc : List PyData} {ρ : DS} (h : cmY i all g tt te vs Q items acc ρ) : cmG i all g tt te vs Q items acc ρ := by unfold cmY at h; exact h
/-- the slots with the walked list lent -/
def lnd (i : Nat) (ρ : DS) : DS := match ρ[i]? with
  | some (some (.ow ds)) => ρ.set i (some (.bo ds))
  | _ => ρ
def fLcO (i : Nat) (g : DTG) (tt : DTT) (te : DTE) (vs : List Nat) : DTL := fun ρ Q => match ρ[i]? with
  | some (some (.ow ds)) => ds.length ≤ sizeLine ∧ noBo (lnd i ρ) vs = true ∧ cmY i ds g tt te vs (fun out ρe => Q out (unl i (backD (lnd i ρ) ρe vs))) ds [] (wipeD (lnd i ρ) vs)
  | some (some (.bo ds)) => ds.length ≤ sizeLine ∧ noBo ρ vs = true ∧ cmY i ds g tt te vs (fun out ρe => Q out (backD ρ ρe vs)) ds [] (wipeD ρ vs)
  | some (some (.sh (.list ds))) => ds.length ≤ sizeLine ∧ noBo ρ vs = true ∧ cmX g tt te vs (fun out ρe => Q out (backD ρ ρe vs)) ds [] (wipeD ρ vs)
  | _ => False
theorem cmG_mono {i : Nat} {all : List PyData} {g : DTG} {tt : DTT} {te : DTE} {vs : List Nat} {Q Q' : List PyData → DS → Prop} (k : ∀ d ρ, Q d ρ → Q' d ρ) (hg : ∀ d ρ Q Q', (∀ ρ', Q ρ' → Q' ρ') → g d ρ Q → g d ρ Q') (ht : ∀ ρ Q Q', (∀ d ρ', Q d ρ' → Q' d ρ') → tt ρ Q → tt ρ Q')
    (he : ∀ ρ Q Q', (∀ d ρ', Q d ρ' → Q' d ρ') → te ρ Q → te ρ Q') : ∀ (xs acc : List PyData) (ρ : DS), cmG i all g tt te vs Q xs acc ρ → cmG i all g tt te vs Q' xs acc ρ
  | [], acc, ρ, h => ⟨h.1, k _ _ h.2⟩
  | x :: xs, acc, ρ, h => ⟨h.1, hg _ _ _ _ (fun ρ1 p => ht _ _ _ (fun b ρ2 p2 => by
    cases b with
    | true => exact he _ _ _ (fun y ρ3 p3 => cmG_mono k hg ht he xs _ _ p3) p2
    | false => exact cmG_mono k hg ht he xs _ _ p2) p) h.2⟩
theorem fLcO_mono {i : Nat} {g : DTG} {tt : DTT} {te : DTE} {vs : List Nat} (hg : ∀ d ρ Q Q', (∀ ρ', Q ρ' → Q' ρ') → g d ρ Q → g d ρ Q') (ht : ∀ ρ Q Q', (∀ d ρ', Q d ρ' → Q' d ρ') → tt ρ Q → tt ρ Q')
    (he : ∀ ρ Q Q', (∀ d ρ', Q d ρ' → Q' d ρ') → te ρ Q → te ρ Q') (ρ : DS) (Q Q' : List PyData → DS → Prop) (k : ∀ d ρ, Q d ρ → Q' d ρ) (q : fLcO i g tt te vs ρ Q) : fLcO i g tt te vs ρ Q' := by
  unfold fLcO at q ⊢
  split
  · rename_i ds e
    rw [e] at q
    exact ⟨q.1, q.2.1, cmg_in (cmG_mono (fun d ρ2 => k _ _) hg ht he _ _ _ (cmg_out q.2.2))⟩
  · rename_i ds e
    rw [e] at q
    exact ⟨q.1, q.2.1, cmg_in (cmG_mono (fun d ρ2 => k _ _) hg ht he _ _ _ (cmg_out q.2.2))⟩
  · rename_i ds e
    rw [e] at q
    exact ⟨q.1, q.2.1, cm_in (cmD_mono (fun d ρ2 => k _ _) hg ht he _ _ _ (cm_out q.2.2))⟩
  · rename_i h1 h2 h3
    split at q
    · rename_i ds e
      exact (h1 _ e).elim
    · rename_i ds e
      exact (h2 _ e).elim
    · rename_i ds e
      exact (h3 _ e).elim
    · exact q
/-- the core: the walked list is lent -/
theorem lcG_run {i : Nat} {a0 : Addr} {items : List PyData} {g : DTG} {tt : DTT} {te : DTE} {ws vs : List Nat} {C : DC} {K : PySem.W.Frag}
    (hg : ∀ d ρ Q Q', (∀ ρ', Q ρ' → Q' ρ') → g d ρ Q → g d ρ Q') (ht : ∀ ρ Q Q', (∀ d ρ', Q d ρ' → Q' d ρ') → tt ρ Q → tt ρ Q') (he : ∀ ρ Q Q', (∀ d ρ', Q d ρ' → Q' d ρ') → te ρ Q → te ρ Q') (hw : ∀ i ∈ ws, i ∈ vs)
    {σ : St} {H : Hp} {Q : VK} {G' : Hp} {ρ' : DS} {P : List PyData → DS → Prop} (r' : Rel K C G' ρ' σ H) (hb : (i, a0) ∈ C.β) (hz : items.length ≤ sizeLine) (hnb : noBo ρ' vs = true) (p : cmG i items g tt te vs P items [] (wipeD ρ' vs))
    (k : ∀ ds ρe a us G2 H', P ds ρe → Same G' G2 → Rel K C G2 (backD ρ' ρe vs) σ H' → Fresh C G2 (backD ρ' ρe vs) σ H' a us → DpAll K G2 us ds → Q (.ref a) H') :
    ∀ D, H D = none → ∃ W : Nat → Nat → Hp → Prop, (∃ m, W 0 m (upd H D (.lst []))) ∧ ∀ i m H, W i m H →
      ((Itl K a0).stop i H ∧ Q (.ref D) H) ∨ ((Itl K a0).go i H ∧ ∃ Nx : Hp → Prop, (∀ H', Nx H' → ∃ m', m' < m ∧ W (i + 1) m' H') ∧ ∀ x H', (Itl K a0).yld i H x H' → (fun v σ H R => ∃ C', liftG K C' ws g v σ H R) x (wipe σ vs) H' fun σ2 H2 => wipe σ2 vs = wipe σ vs ∧ (fun σ H R => ∃ C', liftT K C' tt σ H R) σ2 H2 fun b H3 =>
        if b = true then (fun σ H R => ∃ C', liftE K C' te σ H R) σ2 H3 fun y H4 => ∃ acc, H4 D = some (.lst acc) ∧ acc.length < sizeLine ∧ Nx (upd H4 D (.lst (acc ++ [y]))) else Nx H3) := by
  intro D hD
  have hβ := r'.lentOut hnb
  refine ⟨fun j m H => ∃ G2 ρ2 us acc, Same G' G2 ∧ Rel K { C with pr := (D, us) :: C.pr } G2 ρ2 (wipe σ vs) H ∧ DpAll K G2 us acc ∧ acc.length ≤ j ∧ m = items.length - j ∧ j ≤ items.length ∧ ρ2.length = σ.length ∧
      cmG i items g tt te vs P (items.drop j) acc ρ2, ?_, ?_⟩
  · have rw0 := Rel.wiped r' (r'.noBoOf hβ)
    have f0 := rw0.newF (vs := []) hD
    exact ⟨items.length, G', wipeD ρ' vs, [], [], Same.refl _, (rw0.newH hD).prPush f0, .nil, Nat.zero_le _, by omega, Nat.zero_le _, by rw [← rw0.len, wipe_length], by rw [List.drop_zero]; exact p⟩
  · rintro j m H ⟨G2, ρ2, us, acc, s2, r2, da, hacc, rfl, hi, hl, q2⟩
    have hnp : ∀ z ∈ C.pr, z.1 ≠ D := fun z hz => ne_of_none (r'.prs z hz).1 hD
    have hb2 : (i, a0) ∈ ({ C with pr := (D, us) :: C.pr } : DC).β := hb
    by_cases hlt : j < items.length
    · obtain ⟨d, ed⟩ : ∃ d, items[j]? = some d := ⟨_, List.getElem?_eq_getElem hlt⟩
      rw [drop_at ed] at q2
      obtain ⟨q0, q2⟩ := q2
      refine .inr ⟨oit_go r2 hb2 q0 ed, fun H => ∃ G2 ρ2 us acc, Same G' G2 ∧ Rel K { C with pr := (D, us) :: C.pr } G2 ρ2 (wipe σ vs) H ∧ DpAll K G2 us acc ∧ acc.length ≤ j + 1 ∧ ρ2.length = σ.length ∧
        cmG i items g tt te vs P (items.drop (j + 1)) acc ρ2, fun H' ⟨G3, ρ3, us3, acc3, a1, a2, a3, a4, a5, a6⟩ => ⟨items.length - (j + 1), by omega, G3, ρ3, us3, acc3, a1, a2, a3, a4, rfl, hlt, a5, a6⟩, fun x H' y => ?_⟩
      obtain ⟨rfl, dp⟩ := oit_yld r2 hb2 q0 ed y
      refine ⟨_, goG hg r2 dp q2 fun ρ4 σ4 G4 H4 p4 bu s4 r4 => ?_⟩
      have hl4 : σ4.length = σ.length := bu.1.trans (wipe_length _ _)
      have hwp : wipe σ4 vs = wipe σ vs := wipe_but hw bu
      refine ⟨hwp, _, goT ht r4 p4 fun b ρ5 G5 H5 p5 s5 r5 => ?_⟩
      have s05 := (s2.trans s4).trans s5
      have hl5 : ρ5.length = σ.length := by rw [← r5.len, hl4]
      cases b with
      | false =>
        refine ⟨G5, wipeD ρ5 vs, us, acc, s05, ?_, DpAll.mo (s4.trans s5) _ _ da, Nat.le_succ_of_le hacc, ?_, p5⟩
        · have r6 := Rel.wiped r5 (r5.noBoOf (show ∀ p ∈ C.β, p.1 ∉ vs from hβ))
          rw [hwp] at r6
          exact r6
        · rw [wipeD_len, hl5]
      | true =>
        refine ⟨_, goE he r5 p5 fun y' ρ6 v6 G6 H6 p6 s6 r6 d6 => ?_⟩
        have s06 := s05.trans s6
        obtain ⟨q1, q2, q3, q4⟩ := r6.prs (D, us) List.mem_cons_self
        have hlen : us.length < sizeLine := by rw [DpAll.len da]; omega
        refine ⟨us, q1, hlen, G6, wipeD ρ6 vs, us ++ [v6], acc ++ [y'], s06, ?_, DpAll.app (DpAll.mo ((s4.trans s5).trans s6) _ _ da) (.cons d6 .nil), by rw [List.length_append, List.length_singleton]; omega, ?_, p6⟩
        · have r7 := Rel.prGrow (C := C) (vs' := us ++ [v6]) r6 hnp
          have r8 := Rel.wiped r7 (r7.noBoOf (show ∀ p ∈ C.β, p.1 ∉ vs from hβ))
          rw [hwp] at r8
          exact r8
        · rw [wipeD_len, ← r6.len, hl4]
    · have e : j = items.length := by omega
      subst e
      rw [List.drop_length] at q2
      obtain ⟨q0, q2⟩ := q2
      have hst := oit_stop r2 hb2 q0
      obtain ⟨r3, f3⟩ := Rel.prPop (C := C) r2 hnp
      have r4 := Rel.back r' s2 hβ r3 hl
      refine .inl ⟨hst, k acc _ D us G2 H q2 s2 r4 ⟨f3.at_, f3.g, f3.h0, fun j sl ej mj => ?_, f3.np⟩ da⟩
      exact backD_fresh f3 hl ej mj
theorem lnd_ow {i : Nat} {ρ : DS} {ds : List PyData} (h : ρ[i]? = some (some (.ow ds))) : lnd i ρ = ρ.set i (some (.bo ds)) := by unfold lnd; rw [h]
theorem lcO_run {X : Cx} {i : Nat} {g : DTG} {tt : DTT} {te : DTE} {ws vs : List Nat} {C : DC}
    (hg : ∀ d ρ Q Q', (∀ ρ', Q ρ' → Q' ρ') → g d ρ Q → g d ρ Q') (ht : ∀ ρ Q Q', (∀ d ρ', Q d ρ' → Q' d ρ') → tt ρ Q → tt ρ Q') (he : ∀ ρ Q Q', (∀ d ρ', Q d ρ' → Q' d ρ') → te ρ Q → te ρ Q') (hw : ∀ i ∈ ws, i ∈ vs)
    {σ : St} {H : Hp} {Q : VK} {G : Hp} {ρ : DS} {P : List PyData → DS → Prop} (rl : Rel X.K C G ρ σ H) (q : fLcO i g tt te vs ρ P)
    (k : ∀ ds ρ' a us G' H', P ds ρ' → Same G G' → Rel X.K C G' ρ' σ H' → Fresh C G' ρ' σ H' a us → DpAll X.K G' us ds → Q (.ref a) H') :
    tLc (iSq X.K (tVar i)) (fun v σ H R => ∃ C', liftG X.K C' ws g v σ H R) (fun σ H R => ∃ C', liftT X.K C' tt σ H R) (fun σ H R => ∃ C', liftE X.K C' te σ H R) vs σ H Q := by
  unfold fLcO at q
  split at q
  · rename_i ds e
    obtain ⟨hz, hnb, p⟩ := q
    obtain ⟨v, e1, a, us, rfl, h2, h3, h4, h5⟩ := rl.slot i _ e
    have r' := rl.lend e e1
    rw [← lnd_ow e] at r'
    refine ⟨_, e1, a, rfl, .inl ⟨⟨us, .inl (.inl h2)⟩, ?_⟩⟩
    refine lcG_run hg ht he hw r' (show (i, a) ∈ (C.lend i a).β from List.mem_cons_self) hz hnb (cmg_out p) fun ds' ρe b vs' G2 H2 q s r2 f d => ?_
    exact k _ _ b vs' G2 H2 q s (r2.unlend h4 (rl.notLent fun ds' z => by rw [e] at z; cases z)) f.unlend d
  · rename_i ds e
    obtain ⟨hz, hnb, p⟩ := q
    obtain ⟨v, e1, a, us, rfl, h2, h3, h4, h5⟩ := rl.slot i _ e
    refine ⟨_, e1, a, rfl, .inl ⟨⟨us, .inl (.inl h3)⟩, ?_⟩⟩
    exact lcG_run hg ht he hw rl h2 hz hnb (cmg_out p) fun ds' ρe b vs' G2 H2 q s r2 f d => k _ _ b vs' G2 H2 q s r2 f d
  · rename_i ds e
    have z := lc_run (C := C) (ti := fun ρ Q => ρ[i]? = some (some (.sh (.list ds))) ∧ Q ds ρ) (fun ρ Q Q' k q => ⟨q.1, k _ _ q.2⟩) hg ht he hw rl (show fLc (fun ρ Q => ρ[i]? = some (some (.sh (.list ds))) ∧ Q ds ρ) g tt te vs ρ P from ⟨e, q⟩) k
    obtain ⟨G0, ρ0, r0, e0, z⟩ := z
    obtain ⟨v, e1, dp⟩ := r0.slot i _ e0
    cases dp with
    | lst hs ha => exact ⟨_, e1, _, rfl, .inl ⟨⟨_, r0.same.seq hs⟩, z _ G0 H (Same.refl _) r0 (wk_list hs ha)⟩⟩
  · exact q.elim
section
variable {X : Cx} {e a b c tg elt : Expr} {es ifs : List Expr} {body : List Stmt} {pos pos' : Pos}
variable {g : DTG} {tt : DTT} {te : DTE} {ws : List Nat} {scope : Scope} {own : List (Str × Nat)}
theorem df_lcO (i : Nat) {x : Str} {px : Pos} (hc : X.calm = true) (hN : X.N.Nodup) (ok : blkC X.N X.env.scope scope own = true) (hw : ∀ i ∈ ws, i ∈ own.map (·.2))
    (hg : ∀ (s : Shared) (H : Hp) (C : Addr) (cl : List (Str × Addr)) (fp : List Addr), DG (X.blk s H scope (compEnvC scope cl C X.env) fp) tg ws g) (ht : ∀ (s : Shared) (H : Hp) (C : Addr) (cl : List (Str × Addr)) (fp : List Addr), DTs (X.blk s H scope (compEnvC scope cl C X.env) fp) ifs tt)
    (he : ∀ (s : Shared) (H : Hp) (C : Addr) (cl : List (Str × Addr)) (fp : List Addr), DE (X.blk s H scope (compEnvC scope cl C X.env) fp) elt te)
    (hNx : X.N[i]? = some x := by rfl) (hv : Vis X.env.scope x := by first | exact Or.inl rfl | exact Or.inr (Or.inl rfl) | exact Or.inr (Or.inr rfl)) (hd : (x == ("__debug__" : Str)) = false := by decide)
    (hcd : (x == ("__classdict__" : Str)) = false := by decide) (hs : ∀ y, foldedSetIterable (.Name x px) X.env y = pure y := by intro _; rfl) :
    DF X (.ListComp elt [⟨tg, .Name x px, ifs, 0⟩] scope pos) (fLcO i g tt te (own.map (·.2))) where
  run C := PE.imp (pe_lc hc hN (pi_sq (pe_var hNx hv hd hcd)) (blkOk_by ok) (fun s H c cl fp => ⟨fun pins s2 σ H2 v u Q I r ⟨C', h⟩ => ((hg s H c cl fp).run C').run pins s2 σ H2 v u Q I r h⟩) (fun s H c cl fp => ⟨fun pins s2 σ H2 Q I ⟨C', h⟩ => ((ht s H c cl fp).run C').run pins s2 σ H2 Q I h⟩)
      (fun s H c cl fp => ⟨fun pins s2 σ H2 Q I ⟨C', h⟩ => ((he s H c cl fp).run C').run pins s2 σ H2 Q I h⟩) hs) fun σ H Q ⟨G, ρ, r, q⟩ =>
    lcO_run (hg X.s_0 H 0 [] []).mono (ht X.s_0 H 0 [] []).mono (he X.s_0 H 0 [] []).mono hw r q fun ds ρ' a us G' H' p s r' f d => p a us G' H' s r' f d
  mono ρ Q Q' k q := fLcO_mono (hg X.s_0 (fun _ => none) 0 [] []).mono (ht X.s_0 (fun _ => none) 0 [] []).mono (he X.s_0 (fun _ => none) 0 [] []).mono ρ Q Q' k q
theorem ds_setLcO (j i : Nat) {x y : Str} {px py spos : Pos} (hc : X.calm = true) (hN : X.N.Nodup) (ok : blkC X.N X.env.scope scope own = true) (hw : ∀ i ∈ ws, i ∈ own.map (·.2))
    (hg : ∀ (s : Shared) (H : Hp) (C : Addr) (cl : List (Str × Addr)) (fp : List Addr), DG (X.blk s H scope (compEnvC scope cl C X.env) fp) tg ws g) (ht : ∀ (s : Shared) (H : Hp) (C : Addr) (cl : List (Str × Addr)) (fp : List Addr), DTs (X.blk s H scope (compEnvC scope cl C X.env) fp) ifs tt)
    (he : ∀ (s : Shared) (H : Hp) (C : Addr) (cl : List (Str × Addr)) (fp : List Addr), DE (X.blk s H scope (compEnvC scope cl C X.env) fp) elt te)
    (hNx : X.N[i]? = some x := by rfl) (hv : Vis X.env.scope x := by first | exact Or.inl rfl | exact Or.inr (Or.inl rfl) | exact Or.inr (Or.inr rfl)) (hd : (x == ("__debug__" : Str)) = false := by decide)
    (hcd : (x == ("__classdict__" : Str)) = false := by decide)
    (hy : X.N[j]? = some y := by rfl) (hyl : X.env.scope.names.lookup y = some .local := by rfl) (hsw : swapsWith (.ListComp elt [⟨tg, .Name x px, ifs, 0⟩] scope pos) (some (.Name y py)) spos.line X.env = pure true := by exact sw_true rfl rfl rfl (by decide +kernel))
    (hs : ∀ y, foldedSetIterable (.Name x px) X.env y = pure y := by intro _; rfl) : DSt X (.Assign [.Name y py] (.ListComp elt [⟨tg, .Name x px, ifs, 0⟩] scope pos) spos) (sAs (eF (fLcO i g tt te (own.map (·.2)))) (gN j)) where
  run C := PS.imp (ps_setLc (i := j) hc hN hy hyl hsw (pi_sq (pe_var hNx hv hd hcd)) (blkOk_by ok) (fun s H c cl fp => ⟨fun pins s2 σ H2 v u Q I r ⟨C', h⟩ => ((hg s H c cl fp).run C').run pins s2 σ H2 v u Q I r h⟩) (fun s H c cl fp => ⟨fun pins s2 σ H2 Q I ⟨C', h⟩ => ((ht s H c cl fp).run C').run pins s2 σ H2 Q I h⟩)
      (fun s H c cl fp => ⟨fun pins s2 σ H2 Q I ⟨C', h⟩ => ((he s H c cl fp).run C').run pins s2 σ H2 Q I h⟩) hs) fun D σ H ⟨G, ρ, DD, r, k, q⟩ =>
    lcO_run (hg X.s_0 H 0 [] []).mono (ht X.s_0 H 0 [] []).mono (he X.s_0 H 0 [] []).mono hw r q fun ds ρ' a us G' H' p s r' f d => by
      obtain ⟨s2, r2⟩ := r'.freeze f
      exact k.nx _ _ _ _ p.2 (s.trans s2) (r2.setSh (isBo_no p.1) (.lst (.inl (.inl upd_same)) (DpAll.mo s2 _ _ d)))
  mono DD DD' ρ l q := fLcO_mono (hg X.s_0 (fun _ => none) 0 [] []).mono (ht X.s_0 (fun _ => none) 0 [] []).mono (he X.s_0 (fun _ => none) 0 [] []).mono ρ _ _ (fun d ρ2 q => ⟨q.1, l.nx _ q.2⟩) q
theorem ds_ownLcO (j i : Nat) {x y : Str} {px py spos : Pos} (hc : X.calm = true) (hN : X.N.Nodup) (ok : blkC X.N X.env.scope scope own = true) (hw : ∀ i ∈ ws, i ∈ own.map (·.2))
    (hg : ∀ (s : Shared) (H : Hp) (C : Addr) (cl : List (Str × Addr)) (fp : List Addr), DG (X.blk s H scope (compEnvC scope cl C X.env) fp) tg ws g) (ht : ∀ (s : Shared) (H : Hp) (C : Addr) (cl : List (Str × Addr)) (fp : List Addr), DTs (X.blk s H scope (compEnvC scope cl C X.env) fp) ifs tt)
    (he : ∀ (s : Shared) (H : Hp) (C : Addr) (cl : List (Str × Addr)) (fp : List Addr), DE (X.blk s H scope (compEnvC scope cl C X.env) fp) elt te)
    (hNx : X.N[i]? = some x := by rfl) (hv : Vis X.env.scope x := by first | exact Or.inl rfl | exact Or.inr (Or.inl rfl) | exact Or.inr (Or.inr rfl)) (hd : (x == ("__debug__" : Str)) = false := by decide)
    (hcd : (x == ("__classdict__" : Str)) = false := by decide)
    (hy : X.N[j]? = some y := by rfl) (hyl : X.env.scope.names.lookup y = some .local := by rfl) (hsw : swapsWith (.ListComp elt [⟨tg, .Name x px, ifs, 0⟩] scope pos) (some (.Name y py)) spos.line X.env = pure true := by exact sw_true rfl rfl rfl (by decide +kernel))
    (hs : ∀ y, foldedSetIterable (.Name x px) X.env y = pure y := by intro _; rfl) : DSt X (.Assign [.Name y py] (.ListComp elt [⟨tg, .Name x px, ifs, 0⟩] scope pos) spos) (sOw (fLcO i g tt te (own.map (·.2))) j) where
  run C := PS.imp (ps_setLc (i := j) hc hN hy hyl hsw (pi_sq (pe_var hNx hv hd hcd)) (blkOk_by ok) (fun s H c cl fp => ⟨fun pins s2 σ H2 v u Q I r ⟨C', h⟩ => ((hg s H c cl fp).run C').run pins s2 σ H2 v u Q I r h⟩) (fun s H c cl fp => ⟨fun pins s2 σ H2 Q I ⟨C', h⟩ => ((ht s H c cl fp).run C').run pins s2 σ H2 Q I h⟩)
      (fun s H c cl fp => ⟨fun pins s2 σ H2 Q I ⟨C', h⟩ => ((he s H c cl fp).run C').run pins s2 σ H2 Q I h⟩) hs) fun D σ H ⟨G, ρ, DD, r, k, q⟩ =>
    lcO_run (hg X.s_0 H 0 [] []).mono (ht X.s_0 H 0 [] []).mono (he X.s_0 H 0 [] []).mono hw r q fun ds ρ' a us G' H' p s r' f d => k.nx _ _ _ _ p.2 s (r'.setOw (isBo_no p.1) f d)
  mono DD DD' ρ l q := fLcO_mono (hg X.s_0 (fun _ => none) 0 [] []).mono (ht X.s_0 (fun _ => none) 0 [] []).mono (he X.s_0 (fun _ => none) 0 [] []).mono ρ _ _ (fun d ρ2 q => ⟨q.1, l.nx _ q.2⟩) q
/-! ### for over it -/
def foG (i : Nat) (all : List PyData) (g : DTG) (tb : DTS) (DD : DEn) : List PyData → DS → Prop
  | [], ρ => ρ[i]? = some (some (.bo all)) ∧ DD.nx ρ
  | x :: xs, ρ => ρ[i]? = some (some (.bo all)) ∧ g x ρ fun ρ' => tb { nx := foG i all g tb DD xs, rt := DD.rt, bk := DD.nx, ct := foG i all g tb DD xs } ρ'
@[irreducible] def foY (i : Nat) (all : List PyData) (g : DTG) (tb : DTS) (DD : DEn) (items : List PyData) (ρ : DS) : Prop := foG i all g tb DD items ρ
theorem fog_in {i : Nat} {all : List PyData} {g : DTG} {tb : DTS} {DD : DEn} {items : List PyData} {ρ : DS} (h : foG i all g tb DD items ρ) : foY i all g tb DD items ρ := by unfold foY; exact h
theorem fog_out {i : Nat} {all : List PyData} {g : DTG} {tb : DTS} {DD : DEn} {items : List PyData} {ρ : DS} (h : foY i all g tb DD items ρ) : foG i all g tb DD items ρ := by unfold foY at h; exact h
/-- the ends, the walked list handed back -/
def DEn.unl (i : Nat) (DD : DEn) : DEn := { nx := fun ρ => DD.nx (DL.unl i ρ), rt := fun r ρ => DD.rt r (DL.unl i ρ), bk := fun ρ => DD.bk (DL.unl i ρ), ct := fun ρ => DD.ct (DL.unl i ρ) }
def sFoO (i : Nat) (g : DTG) (tb : DTS) : DTS := fun DD ρ => match ρ[i]? with
  | some (some (.ow ds)) => foY i ds g tb (DD.unl i) ds (lnd i ρ)
  | some (some (.bo ds)) => foY i ds g tb DD ds ρ
  | some (some (.sh (.list ds))) => foX g tb DD ds ρ
  | _ => False
theorem foG_mono {i : Nat} {all : List PyData} {g : DTG} {tb : DTS} {DD DD' : DEn} (l : DEn.le DD DD') (hg : ∀ d ρ Q Q', (∀ ρ', Q ρ' → Q' ρ') → g d ρ Q → g d ρ Q') (hb : ∀ DD DD' ρ, DEn.le DD DD' → tb DD ρ → tb DD' ρ) : ∀ (xs : List PyData) (ρ : DS), foG i all g tb DD xs ρ → foG i all g tb DD' xs ρ
  | [], ρ, h => ⟨h.1, l.nx ρ h.2⟩
  | x :: xs, ρ, h => ⟨h.1, hg _ _ _ _ (fun ρ' p => hb { nx := foG i all g tb DD xs, rt := DD.rt, bk := DD.nx, ct := foG i all g tb DD xs } { nx := foG i all g tb DD' xs, rt := DD'.rt, bk := DD'.nx, ct := foG i all g tb DD' xs } ρ' ⟨fun ρ2 q => foG_mono l hg hb xs ρ2 q, l.rt, l.nx, fun ρ2 q => foG_mono l hg hb xs ρ2 q⟩ p) h.2⟩
theorem EnOk.unl {K : PySem.W.Frag} {C : DC} {G : Hp} {DD : DEn} {D : Ends} {i : Nat} {a : Addr} (h : EnOk K C G DD D) (h0 : C.H0 a = none) (hn : ∀ p ∈ C.β, p.1 ≠ i) : EnOk K (C.lend i a) G (DD.unl i) D where
  nx ρ' σ' G' H' q s r := h.nx _ σ' G' H' q s (r.unlend h0 hn)
  rt rv ρ' σ' G' H' v q s r k := h.rt rv _ σ' G' H' v q s (r.unlend h0 hn) (by
    cases rv with
    | sh d => exact k
    | ow ds =>
      obtain ⟨b, vs, e, f, d⟩ := k
      exact ⟨b, vs, e, f.unlend, d⟩)
  bk ρ' σ' G' H' q s r := h.bk _ σ' G' H' q s (r.unlend h0 hn)
  ct ρ' σ' G' H' q s r := h.ct _ σ' G' H' q s (r.unlend h0 hn)
theorem foG_run {i : Nat} {a0 : Addr} {items : List PyData} {tb : DTS} {C : DC} {K : PySem.W.Frag} (hg : ∀ d ρ Q Q', (∀ ρ', Q ρ' → Q' ρ') → g d ρ Q → g d ρ Q')
    {σ : St} {H : Hp} {G : Hp} {ρ : DS} {DD : DEn} {D : Ends} (r : Rel K C G ρ σ H) (k : EnOk K C G DD D) (hb : (i, a0) ∈ C.β) (p : foG i items g tb DD items ρ) :
    ∃ W : Nat → Nat → St → Hp → Prop, (∃ m, W 0 m σ H) ∧ ∀ i m σ H, W i m σ H →
      ((Itl K a0).stop i H ∧ D.nx σ H) ∨ ((Itl K a0).go i H ∧ ∃ N : St → Hp → Prop, (∀ σ' H', N σ' H' → ∃ m', m' < m ∧ W (i + 1) m' σ' H') ∧ ∀ x H', (Itl K a0).yld i H x H' → (fun v σ H R => ∃ C', liftG K C' ws g v σ H R) x σ H' fun σ2 H2 => (fun D σ H => ∃ C', liftS K C' tb D σ H) { D with nx := N, ct := N, bk := D.nx } σ2 H2) := by
  refine ⟨fun j m σ H => ∃ G2 ρ, Same G G2 ∧ Rel K C G2 ρ σ H ∧ EnOk K C G2 DD D ∧ m = items.length - j ∧ j ≤ items.length ∧ foG i items g tb DD (items.drop j) ρ, ⟨items.length, G, ρ, Same.refl _, r, k, by omega, Nat.zero_le _, by rw [List.drop_zero]; exact p⟩, ?_⟩
  rintro j m σ H ⟨G2, ρ, s2, r2, k2, rfl, hi, q2⟩
  by_cases hlt : j < items.length
  · obtain ⟨d, ed⟩ : ∃ d, items[j]? = some d := ⟨_, List.getElem?_eq_getElem hlt⟩
    rw [drop_at ed] at q2
    obtain ⟨q0, q2⟩ := q2
    refine .inr ⟨oit_go r2 hb q0 ed, fun σ H => ∃ G3 ρ, Same G G3 ∧ Rel K C G3 ρ σ H ∧ EnOk K C G3 DD D ∧ foG i items g tb DD (items.drop (j + 1)) ρ,
      fun σ' H' ⟨G3, ρ, s3, r3, k3, q3⟩ => ⟨items.length - (j + 1), by omega, G3, ρ, s3, r3, k3, rfl, hlt, q3⟩, fun x H' y => ?_⟩
    obtain ⟨rfl, dp⟩ := oit_yld r2 hb q0 ed y
    refine ⟨_, goG hg r2 dp q2 fun ρ4 σ4 G4 H4 p4 _ s4 r4 => ?_⟩
    have k4 := k2.mo s4
    have s5 := s2.trans s4
    exact ⟨_, G4, ρ4, { nx := foG i items g tb DD (items.drop (j + 1)), rt := DD.rt, bk := DD.nx, ct := foG i items g tb DD (items.drop (j + 1)) }, r4, ⟨fun ρ5 σ5 G5 H5 q5 s6 r5 => ⟨G5, ρ5, s5.trans s6, r5, k4.mo s6, q5⟩, k4.rt, k4.nx, fun ρ5 σ5 G5 H5 q5 s6 r5 => ⟨G5, ρ5, s5.trans s6, r5, k4.mo s6, q5⟩⟩, p4⟩
  · have e : j = items.length := by omega
    subst e
    rw [List.drop_length] at q2
    exact .inl ⟨oit_stop r2 hb q2.1, k2.nx ρ σ G2 H q2.2 (Same.refl _) r2⟩
theorem foD_run {items : List PyData} {tb : DTS} {C : DC} {K : PySem.W.Frag} {J : It} (hg : ∀ d ρ Q Q', (∀ ρ', Q ρ' → Q' ρ') → g d ρ Q → g d ρ Q')
    {σ : St} {H : Hp} {G : Hp} {ρ : DS} {DD : DEn} {D : Ends} (r : Rel K C G ρ σ H) (k : EnOk K C G DD D) (wk : Wk K G J items) (p : foD g tb DD items ρ) :
    ∃ W : Nat → Nat → St → Hp → Prop, (∃ m, W 0 m σ H) ∧ ∀ i m σ H, W i m σ H →
      (J.stop i H ∧ D.nx σ H) ∨ (J.go i H ∧ ∃ N : St → Hp → Prop, (∀ σ' H', N σ' H' → ∃ m', m' < m ∧ W (i + 1) m' σ' H') ∧ ∀ x H', J.yld i H x H' → (fun v σ H R => ∃ C', liftG K C' ws g v σ H R) x σ H' fun σ2 H2 => (fun D σ H => ∃ C', liftS K C' tb D σ H) { D with nx := N, ct := N, bk := D.nx } σ2 H2) := by
  refine ⟨fun j m σ H => ∃ G2 ρ, Same G G2 ∧ Rel K C G2 ρ σ H ∧ EnOk K C G2 DD D ∧ m = items.length - j ∧ j ≤ items.length ∧ foD g tb DD (items.drop j) ρ, ⟨items.length, G, ρ, Same.refl _, r, k, by omega, Nat.zero_le _, by rw [List.drop_zero]; exact p⟩, ?_⟩
  rintro j m σ H ⟨G2, ρ, s2, r2, k2, rfl, hi, q2⟩
  by_cases hlt : j < items.length
  · obtain ⟨d, ed⟩ : ∃ d, items[j]? = some d := ⟨_, List.getElem?_eq_getElem hlt⟩
    rw [drop_at ed] at q2
    refine .inr ⟨wk.go j d H ed (s2.trans r2.same), fun σ H => ∃ G3 ρ, Same G G3 ∧ Rel K C G3 ρ σ H ∧ EnOk K C G3 DD D ∧ foD g tb DD (items.drop (j + 1)) ρ,
      fun σ' H' ⟨G3, ρ, s3, r3, k3, q3⟩ => ⟨items.length - (j + 1), by omega, G3, ρ, s3, r3, k3, rfl, hlt, q3⟩, fun x H' y => ?_⟩
    obtain ⟨G3, s3, r3, dp⟩ := wk.item s2 r2 ed y
    refine ⟨_, goG hg r3 dp q2 fun ρ4 σ4 G4 H4 p4 _ s4 r4 => ?_⟩
    have k4 := (k2.mo s3).mo s4
    have s5 := (s2.trans s3).trans s4
    exact ⟨_, G4, ρ4, { nx := foD g tb DD (items.drop (j + 1)), rt := DD.rt, bk := DD.nx, ct := foD g tb DD (items.drop (j + 1)) }, r4, ⟨fun ρ5 σ5 G5 H5 q5 s6 r5 => ⟨G5, ρ5, s5.trans s6, r5, k4.mo s6, q5⟩, k4.rt, k4.nx, fun ρ5 σ5 G5 H5 q5 s6 r5 => ⟨G5, ρ5, s5.trans s6, r5, k4.mo s6, q5⟩⟩, p4⟩
  · have e : j = items.length := by omega
    subst e
    rw [List.drop_length] at q2
    exact .inl ⟨wk.stop _ H (Nat.le_refl _) (s2.trans r2.same), k2.nx ρ σ G2 H q2 (Same.refl _) r2⟩
theorem ds_forO (i : Nat) {x : Str} {px : Pos} {tb : DTS} (hp : PassesOwn (model X.prog X.w) X.A X.env X.xe) (hc : X.calm = true) (hg : DG X tg ws g) (hb : DSs X body tb)
    (hNx : X.N[i]? = some x := by rfl) (hv : Vis X.env.scope x := by first | exact Or.inl rfl | exact Or.inr (Or.inl rfl) | exact Or.inr (Or.inr rfl)) (hd : (x == ("__debug__" : Str)) = false := by decide)
    (hcd : (x == ("__classdict__" : Str)) = false := by decide) (hs : ∀ y, foldedSetIterable (.Name x px) X.env y = pure y := by intro _; rfl) : DSt X (.For tg (.Name x px) body [] pos) (sFoO i g tb) where
  run C := PS.imp (ps_for hp hc (pi_sq (pe_var hNx hv hd hcd)) (g := fun v σ H R => ∃ C', liftG X.K C' ws g v σ H R) (tb := fun D σ H => ∃ C', liftS X.K C' tb D σ H) ⟨fun pins s2 σ H2 v u Q I r ⟨C', h⟩ => (hg.run C').run pins s2 σ H2 v u Q I r h⟩ ⟨fun pins s2 σ H2 D I ⟨C', h⟩ => (hb.run C').run pins s2 σ H2 D I h⟩ hs) fun D σ H ⟨G, ρ, DD, r, k, q⟩ => by
    unfold sFoO at q
    split at q
    · rename_i ds e
      obtain ⟨v, e1, a, us, rfl, h2, h3, h4, h5⟩ := r.slot i _ e
      have r' := r.lend e e1
      rw [← lnd_ow e] at r'
      exact ⟨_, e1, a, rfl, .inl ⟨⟨us, .inl (.inl h2)⟩, foG_run hg.mono r' (k.unl h4 (r.notLent fun ds' z => by rw [e] at z; cases z)) (show (i, a) ∈ (C.lend i a).β from List.mem_cons_self) (fog_out q)⟩⟩
    · rename_i ds e
      obtain ⟨v, e1, a, us, rfl, h2, h3, h4, h5⟩ := r.slot i _ e
      exact ⟨_, e1, a, rfl, .inl ⟨⟨us, .inl (.inl h3)⟩, foG_run hg.mono r k h2 (fog_out q)⟩⟩
    · rename_i ds e
      obtain ⟨v, e1, dp⟩ := r.slot i _ e
      cases dp with
      | lst hs ha => exact ⟨_, e1, _, rfl, .inl ⟨⟨_, r.same.seq hs⟩, foD_run hg.mono r k (wk_list hs ha) (fo_out q)⟩⟩
    · exact q.elim
  mono DD DD' ρ l q := by
    unfold sFoO at q ⊢
    split
    · rename_i ds e
      rw [e] at q
      exact fog_in (foG_mono (DD := DD.unl i) (DD' := DD'.unl i) ⟨fun ρ h => l.nx _ h, fun r ρ h => l.rt _ _ h, fun ρ h => l.bk _ h, fun ρ h => l.ct _ h⟩ hg.mono hb.mono _ _ (fog_out q))
    · rename_i ds e
      rw [e] at q
      exact fog_in (foG_mono l hg.mono hb.mono _ _ (fog_out q))
    · rename_i ds e
      rw [e] at q
      exact fo_in (foD_mono l hg.mono hb.mono _ _ (fo_out q))
    · rename_i h1 h2 h3
      split at q
      · rename_i ds e
        exact (h1 _ e).elim
      · rename_i ds e
        exact (h2 _ e).elim
      · rename_i ds e
        exact (h3 _ e).elim
      · exact q
end
/-! ### how a reading goes through them -/
theorem cg_cons {i : Nat} {all : List PyData} {g : DTG} {tt : DTT} {te : DTE} {vs : List Nat} {Q : List PyData → DS → Prop} {x : PyData} {xs acc : List PyData} {ρ : DS}
    (h0 : ρ[i]? = some (some (.bo all))) (h : g x ρ fun ρ1 => tt ρ1 fun b ρ2 => if b = true then te ρ2 fun y ρ3 => cmY i all g tt te vs Q xs (acc ++ [y]) (wipeD ρ3 vs) else cmY i all g tt te vs Q xs acc (wipeD ρ2 vs)) : cmY i all g tt te vs Q (x :: xs) acc ρ := by
  have e : @cmY = @cmG := by unfold cmY; rfl
  rw [e] at h ⊢
  exact ⟨h0, h⟩
theorem cg_nil {i : Nat} {all : List PyData} {g : DTG} {tt : DTT} {te : DTE} {vs : List Nat} {Q : List PyData → DS → Prop} {acc : List PyData} {ρ : DS} (h0 : ρ[i]? = some (some (.bo all))) (h : Q acc ρ) : cmY i all g tt te vs Q [] acc ρ := cmg_in ⟨h0, h⟩
theorem cgFm0 {i : Nat} {all : List PyData} {g : DTG} {tt : DTT} {te : DTE} {vs : List Nat} {Q : List PyData → DS → Prop} (f : PyData → Option PyData) (ρ0 : DS) (h0 : ρ0[i]? = some (some (.bo all))) : ∀ {items : List PyData} {acc : List PyData},
    (∀ d, d ∈ items → ∀ (KT : PyData → DS → Prop) (KF : DS → Prop), (∀ y, f d = some y → KT y ρ0) → (f d = none → KF ρ0) → g d ρ0 fun ρ1 => tt ρ1 fun b ρ2 => if b = true then te ρ2 fun y ρ3 => KT y (wipeD ρ3 vs) else KF (wipeD ρ2 vs)) →
    Q (acc ++ items.filterMap f) ρ0 → cmG i all g tt te vs Q items acc ρ0
  | [], acc, _, hQ => by
    rw [List.filterMap_nil, List.append_nil] at hQ
    exact ⟨h0, hQ⟩
  | x :: xs, acc, hs, hQ => ⟨h0, hs x List.mem_cons_self (fun y ρ => cmG i all g tt te vs Q xs (acc ++ [y]) ρ) (fun ρ => cmG i all g tt te vs Q xs acc ρ)
      (fun y e => cgFm0 f ρ0 h0 (fun d hd => hs d (List.mem_cons_of_mem _ hd)) (by
        rw [List.filterMap_cons, e] at hQ
        rw [List.append_assoc]
        exact hQ))
      (fun e => cgFm0 f ρ0 h0 (fun d hd => hs d (List.mem_cons_of_mem _ hd)) (by
        rw [List.filterMap_cons, e] at hQ
        exact hQ))⟩
theorem cgFm {i : Nat} {all : List PyData} {g : DTG} {tt : DTT} {te : DTE} {vs : List Nat} {Q : List PyData → DS → Prop} (f : PyData → Option PyData) (ρ0 : DS) {items : List PyData} {acc : List PyData} (h0 : ρ0[i]? = some (some (.bo all)))
    (hs : ∀ d, d ∈ items → ∀ (KT : PyData → DS → Prop) (KF : DS → Prop), (∀ y, f d = some y → KT y ρ0) → (f d = none → KF ρ0) → g d ρ0 fun ρ1 => tt ρ1 fun b ρ2 => if b = true then te ρ2 fun y ρ3 => KT y (wipeD ρ3 vs) else KF (wipeD ρ2 vs))
    (hQ : Q (acc ++ items.filterMap f) ρ0) : cmY i all g tt te vs Q items acc ρ0 := cmg_in (cgFm0 f ρ0 h0 hs hQ)
theorem fgBy {i : Nat} {all : List PyData} {g : DTG} {tb : DTS} {DD : DEn} {items : List PyData} {ρ : DS} (W : Nat → DS → Prop) (h0 : W 0 ρ) (hall : ∀ j ρ, W j ρ → ρ[i]? = some (some (.bo all)))
    (hs : ∀ j d ρ (K : DS → Prop), items[j]? = some d → W j ρ → (∀ ρ', W (j + 1) ρ' → K ρ') → g d ρ fun ρ' => tb { nx := K, rt := DD.rt, bk := DD.nx, ct := K } ρ') (hd : ∀ ρ, W items.length ρ → DD.nx ρ) : foY i all g tb DD items ρ := by
  refine fog_in ?_
  have key : ∀ n j ρ, j + n = items.length → W j ρ → foG i all g tb DD (items.drop j) ρ := by
    intro n
    induction n with
    | zero =>
      intro j ρ e w
      have e : j = items.length := by omega
      subst e
      rw [List.drop_length]
      exact ⟨hall _ _ w, hd ρ w⟩
    | succ n ih =>
      intro j ρ e w
      have hlt : j < items.length := by omega
      obtain ⟨d, ed⟩ : ∃ d, items[j]? = some d := ⟨_, List.getElem?_eq_getElem hlt⟩
      rw [drop_at ed]
      exact ⟨hall _ _ w, hs j d ρ (foG i all g tb DD (items.drop (j + 1))) ed w fun ρ' w' => ih (j + 1) ρ' (by omega) w'⟩
  have q := key items.length 0 ρ (by omega) h0
  rw [List.drop_zero] at q
  exact q
theorem fg_cons {i : Nat} {all : List PyData} {g : DTG} {tb : DTS} {DD : DEn} {x : PyData} {xs : List PyData} {ρ : DS} (h0 : ρ[i]? = some (some (.bo all))) (h : g x ρ fun ρ' => tb { nx := fun ρ => foY i all g tb DD xs ρ, rt := DD.rt, bk := DD.nx, ct := fun ρ => foY i all g tb DD xs ρ } ρ') : foY i all g tb DD (x :: xs) ρ := by
  have e : @foY = @foG := by unfold foY; rfl
  rw [e] at h ⊢
  exact ⟨h0, h⟩
theorem fg_nil {i : Nat} {all : List PyData} {g : DTG} {tb : DTS} {DD : DEn} {ρ : DS} (h0 : ρ[i]? = some (some (.bo all))) (h : DD.nx ρ) : foY i all g tb DD [] ρ := fog_in ⟨h0, h⟩
/-! ### two fors -/
theorem cm2_cons {g g1 : DTG} {tt tt1 : DTT} {ti1 : DTL} {te : DTE} {vs vs1 : List Nat} {Q : List PyData → DS → Prop} {x : PyData} {xs acc : List PyData} {ρ : DS}
    (h : g x ρ fun ρ1 => tt ρ1 fun b ρ2 => if b = true then
      ti1 ρ2 fun items1 ρ3 => acc.length + items1.length ≤ sizeLine ∧ noBo ρ3 vs = true ∧ cmX g1 tt1 te vs1 (fun acc' ρ4 => cm2X g tt ti1 g1 tt1 te vs vs1 Q xs acc' (wipeD ρ4 vs)) items1 acc (wipeD ρ3 vs1)
    else cm2X g tt ti1 g1 tt1 te vs vs1 Q xs acc (wipeD ρ2 vs)) : cm2X g tt ti1 g1 tt1 te vs vs1 Q (x :: xs) acc ρ := by
  have e : @cm2X = @cm2D := by unfold cm2X; rfl
  rw [e] at h ⊢
  exact h
theorem cm2_nil {g g1 : DTG} {tt tt1 : DTT} {ti1 : DTL} {te : DTE} {vs vs1 : List Nat} {Q : List PyData → DS → Prop} {acc : List PyData} {ρ : DS} (h : Q acc ρ) : cm2X g tt ti1 g1 tt1 te vs vs1 Q [] acc ρ := cm2_in h
end DL

namespace DL
open PySem L2
/-! ## the last statement, marked; normal forms of the slots -/
@[irreducible] def sLa (t : DTS) : DTS := t
theorem la_eq (t : DTS) : sLa t = t := by unfold sLa; rfl
theorem la_go {t : DTS} {DD : DEn} {ρ : DS} (h : t DD ρ) : sLa t DD ρ := by rw [la_eq]; exact h
theorem dss_la {X : Cx} {st : Stmt} {t : DTS} (h : DSt X st t) : DSs X [st] (sLa t) := by rw [la_eq]; exact dss_one h
theorem la_nm {t : DTS} {DD : DEn} {ρ ρ' : DS} (e : ρ = ρ') (h : t DD ρ') : sLa t DD ρ := by rw [la_eq, e]; exact h
theorem sq_nm {t u : DTS} {DD : DEn} {ρ ρ' : DS} (e : ρ = ρ') (h : t { nx := u DD, rt := DD.rt, bk := DD.bk, ct := DD.ct } ρ') : sSq t u DD ρ := by rw [e]; exact sq_go h
theorem cm_nm {g : DTG} {tt : DTT} {te : DTE} {vs : List Nat} {Q : List PyData → DS → Prop} {items acc : List PyData} {ρ ρ' : DS} (e : ρ = ρ') (h : cmX g tt te vs Q items acc ρ') : cmX g tt te vs Q items acc ρ := by rw [e]; exact h
theorem fo_nm {g : DTG} {tb : DTS} {DD : DEn} {items : List PyData} {ρ ρ' : DS} (e : ρ = ρ') (h : foX g tb DD items ρ') : foX g tb DD items ρ := by rw [e]; exact h
theorem cmc_nm {g : DTG} {tt : DTT} {te : DTE} {vs : List Nat} {Q : List PyData → DS → Prop} {x : PyData} {xs acc : List PyData} {ρ ρ' : DS} (e : ρ = ρ')
    (h : g x ρ' fun ρ1 => tt ρ1 fun b ρ2 => if b = true then te ρ2 fun y ρ3 => cmX g tt te vs Q xs (acc ++ [y]) (wipeD ρ3 vs) else cmX g tt te vs Q xs acc (wipeD ρ2 vs)) : cmX g tt te vs Q (x :: xs) acc ρ := by rw [e]; exact cm_cons h
theorem cmn_nm {g : DTG} {tt : DTT} {te : DTE} {vs : List Nat} {Q : List PyData → DS → Prop} {acc : List PyData} {ρ ρ' : DS} (e : ρ = ρ') (h : Q acc ρ') : cmX g tt te vs Q [] acc ρ := by rw [e]; exact cm_nil h
end DL

namespace DL
open PySem L2
section
variable {X : Cx} {e a b c : Expr} {es : List Expr} {pos : Pos}
/-! ## slices -/
abbrev DTPo := DS → (Option Int → DS → Prop) → Prop
def liftPo (K : PySem.W.Frag) (C : DC) (t : DTPo) : TO := fun σ H Q => ∃ G ρ, Rel K C G ρ σ H ∧ t ρ fun o ρ' => ∀ G' H', Same G G' → Rel K C G' ρ' σ H' → Q o H'
structure DPo (X : Cx) (e : Option Expr) (t : DTPo) : Prop where
  run : ∀ C, PO X e (liftPo X.K C t)
  mono : ∀ ρ Q Q', (∀ d ρ', Q d ρ' → Q' d ρ') → t ρ Q → t ρ Q'
theorem PO.imp {e : Option Expr} {t t0 : TO} (h : PO X e t0) (k : ∀ σ H Q, t σ H Q → t0 σ H Q) : PO X e t := ⟨fun pins s σ H Q I hw => h.run pins s σ H Q I (k _ _ _ hw)⟩
def poNo : DTPo := fun ρ Q => Q none ρ
def poSo (t : DTE) : DTPo := fun ρ Q => t ρ fun d ρ' => match d with
  | .int i => Q (some i) ρ'
  | _ => False
theorem dpo_no : DPo X none poNo := ⟨fun C => PO.imp po_none fun σ H Q ⟨G, ρ, r, q⟩ => q G H (Same.refl _) r, fun _ _ _ k q => k _ _ q⟩
theorem dpo_so {t : DTE} (h : DE X e t) : DPo X (some e) (poSo t) where
  run C := PO.imp (po_some (h.run C)) fun σ H Q ⟨G, ρ, r, q⟩ => goE h.mono r q fun d ρ' v G' H' p s r' dp => by
    cases d <;> first | exact p.elim | skip
    cases dp
    exact ⟨_, rfl, p G' H' s r'⟩
  mono ρ Q Q' k q := h.mono _ _ _ (fun d ρ' p => by
    cases d <;> first | exact k _ _ p | exact p) q
theorem goPo {t : DTPo} (m : ∀ ρ Q Q', (∀ d ρ', Q d ρ' → Q' d ρ') → t ρ Q → t ρ Q') {K : PySem.W.Frag} {C : DC} {G H : Hp} {ρ : DS} {σ : St} {R : Option Int → Hp → Prop} {P : Option Int → DS → Prop} (r : Rel K C G ρ σ H) (h : t ρ P)
    (k : ∀ o ρ' G' H', P o ρ' → Same G G' → Rel K C G' ρ' σ H' → R o H') : liftPo K C t σ H R := ⟨G, ρ, r, m _ _ _ (fun d ρ' p G' H' s r' => k d ρ' G' H' p s r') h⟩
def cutD (xs : List PyData) (lo hi : Option Int) : List PyData := (xs.drop (HT.sIx xs.length 0 lo)).take (HT.sIx xs.length xs.length hi - HT.sIx xs.length 0 lo)
theorem cut_all {K : PySem.W.Frag} {G : Hp} {vs : List V} {ds : List PyData} {lo hi : Option Int} (h : DpAll K G vs ds) : DpAll K G (cutV vs lo hi) (cutD ds lo hi) := by
  unfold cutV cutD
  rw [DpAll.len h]
  exact DpAll.take _ (DpAll.drop _ h)
theorem cutD_id {ds : List PyData} {lo hi : Option Int} (h : HT.sIx ds.length 0 lo = 0 ∧ HT.sIx ds.length ds.length hi = ds.length) : cutD ds lo hi = ds := by
  unfold cutD
  rw [h.1, h.2]
  simp
/-- what a slice is, by data -/
def slD (lo hi : Option Int) (d : PyData) : Option PyData := match d with
  | .list ds => some (.list (cutD ds lo hi))
  | .tuple ds => some (.tuple (cutD ds lo hi))
  | _ => none
def eSl (t : DTO) (tl th : DTPo) : DTE := fun ρ Q => t ρ fun w ρ1 => tl ρ1 fun lo ρ2 => th ρ2 fun hi ρ3 => match (w ρ3).bind (slD lo hi) with
  | some d => Q d ρ3
  | none => False
theorem de_sl {lo hi : Option Expr} {p2 : Pos} {t : DTO} {tl th : DTPo} (h : DO X e t) (h1 : DPo X lo tl) (h2 : DPo X hi th) : DE X (.Subscript e (.Slice lo hi none p2) pos) (eSl t tl th) where
  run C := PE.imp (pe_slice (SlR.or sl_list sl_tupA) (h.run C) (h1.run C) (h2.run C)) fun σ H Q ⟨G, ρ, r, q⟩ =>
    goO h.mono r q fun w ρ1 v1 G1 H1 p1 s1 r1 o1 => goPo h1.mono r1 p1 fun lo ρ2 G2 H2 p2 s2 r2 => goPo h2.mono r2 p2 fun hi ρ3 G3 H3 p3 s3 r3 => by
      (try dsimp only at p3)
      split at p3
      · rename_i d ed
        obtain ⟨d0, e0, ed⟩ := Option.bind_eq_some_iff.mp ed
        have dv := o1 G3 H3 ρ3 (s2.trans s3) r3 d0 e0
        have kk := Kon.of (P := fun d ρ' => ∀ v G' H', Same G G' → Rel X.K C G' ρ' σ H' → Dp X.K G' v d → Q v H') (C := C) r3 fun d p v G' H' s r' dd => p v G' H' ((s1.trans (s2.trans s3)).trans s) r' dd
        cases d0 with
        | list ds =>
          cases ed
          obtain ⟨a, ws, rfl, k1, k2⟩ := dv.lst r3.same
          exact .inl ⟨a, ws, rfl, k1, fun p hp => kk.l _ _ p p3 hp (cut_all k2)⟩
        | tuple ds =>
          cases ed
          obtain ⟨a, ws, rfl, k1, k2⟩ := dv.tup r3.same
          refine .inr ⟨a, ws, rfl, k1, fun hw => ?_, fun hw p hp => kk.t _ _ p p3 hp (cut_all k2)⟩
          rw [cutD_id (by rw [← DpAll.len k2]; exact hw)] at p3
          rcases dv with dp | ⟨_, _, _, _, z, _⟩
          · exact kk.v _ _ p3 dp
          · cases z
        | _ => cases ed
      · exact p3.elim
  mono ρ Q Q' k q := h.mono _ _ _ (fun w ρ1 p => h1.mono _ _ _ (fun lo ρ2 p => h2.mono _ _ _ (fun hi ρ3 p => by
    (try dsimp only at p); (try dsimp only)
    split
    · rename_i d ed
      rw [ed] at p
      exact k _ _ p
    · rename_i ed
      rw [ed] at p
      exact p) p) p) q
/-- a list's slice as a list of one's own -/
def fSl (t : DTO) (tl th : DTPo) : DTL := fun ρ Q => t ρ fun w ρ1 => tl ρ1 fun lo ρ2 => th ρ2 fun hi ρ3 => match w ρ3 with
  | some (.list ds) => Q (cutD ds lo hi) ρ3
  | _ => False
theorem df_sl {lo hi : Option Expr} {p2 : Pos} {t : DTO} {tl th : DTPo} (h : DO X e t) (h1 : DPo X lo tl) (h2 : DPo X hi th) : DF X (.Subscript e (.Slice lo hi none p2) pos) (fSl t tl th) where
  run C := PE.imp (pe_slice sl_list (h.run C) (h1.run C) (h2.run C)) fun σ H Q ⟨G, ρ, r, q⟩ =>
    goO h.mono r q fun w ρ1 v1 G1 H1 p1 s1 r1 o1 => goPo h1.mono r1 p1 fun lo ρ2 G2 H2 p2 s2 r2 => goPo h2.mono r2 p2 fun hi ρ3 G3 H3 p3 s3 r3 => by
      (try dsimp only at p3)
      split at p3
      · rename_i ds ed
        have dv := o1 G3 H3 ρ3 (s2.trans s3) r3 _ ed
        obtain ⟨a, ws, rfl, k1, k2⟩ := dv.lst r3.same
        exact ⟨a, ws, rfl, k1, fun p hp => p3 p _ G3 _ (s1.trans (s2.trans s3)) (r3.newH hp) (r3.newF hp) (cut_all k2)⟩
      · exact p3.elim
  mono ρ Q Q' k q := h.mono _ _ _ (fun w ρ1 p => h1.mono _ _ _ (fun lo ρ2 p => h2.mono _ _ _ (fun hi ρ3 p => by
    (try dsimp only at p); (try dsimp only)
    split
    · rename_i d ed
      rw [ed] at p
      exact k _ _ p
    · rename_i hno
      split at p
      · rename_i ds ed
        exact (hno _ ed).elim
      · exact p) p) p) q
/-- xs[::-1] of a list -/
theorem DpAll.rev {K : PySem.W.Frag} {G : Hp} : ∀ {vs : List V} {ds : List PyData}, DpAll K G vs ds → DpAll K G vs.reverse ds.reverse
  | _, _, .nil => .nil
  | _, _, .cons h1 h2 => by
    rw [List.reverse_cons, List.reverse_cons]
    exact DpAll.app (DpAll.rev h2) (.cons h1 .nil)
def fRv (t : DTO) : DTL := fun ρ Q => t ρ fun w ρ1 => match w ρ1 with
  | some (.list ds) => Q ds.reverse ρ1
  | _ => False
theorem df_rv {t : DTO} {k : Nat} {p1 p2 p3 : Pos} (h : DO X e t) : DF X (.Subscript e (.Slice none none (some (.UnaryOp .USub (.Constant (.int 1) k p1) p2)) p3) pos) (fRv t) where
  run C := PE.imp (pe_revL (h.run C)) fun σ H Q ⟨G, ρ, r, q⟩ =>
    goO h.mono r q fun w ρ1 v1 G1 H1 p1 s1 r1 o1 => by
      (try dsimp only at p1)
      split at p1
      · rename_i ds ed
        have dv := o1 G1 H1 ρ1 (Same.refl _) r1 _ ed
        obtain ⟨a, ws, rfl, k1, k2⟩ := dv.lst r1.same
        exact ⟨a, ws, rfl, k1, fun p hp => p1 p _ G1 _ s1 (r1.newH hp) (r1.newF hp) (DpAll.rev k2)⟩
      · exact p1.elim
  mono ρ Q Q' k q := h.mono _ _ _ (fun w ρ1 p => by
    (try dsimp only at p); (try dsimp only)
    split
    · rename_i d ed
      rw [ed] at p
      exact k _ _ p
    · rename_i hno
      split at p
      · rename_i ds ed
        exact (hno _ ed).elim
      · exact p) q
/-! ## a < b < c -/
def eCh (r r' : D2) (ta tb tc : DTO) : DTE := fun ρ Q => ta ρ fun w1 ρ1 => tb ρ1 fun w2 ρ2 => match w1 ρ2, w2 ρ2 with
  | some x, some y => r x y fun z => match z with
    | .bool true => tc ρ2 fun w3 ρ3 => match w2 ρ3, w3 ρ3 with
      | some y', some w => r' y' w fun z' => Q z' ρ3
      | _, _ => False
    | .bool false => Q (.bool false) ρ2
    | _ => False
  | _, _ => False
theorem eCh_mono {r r' : D2} {ta tb tc : DTO} (hm : ∀ d e Q Q', (∀ z, Q z → Q' z) → r d e Q → r d e Q') (hm' : ∀ d e Q Q', (∀ z, Q z → Q' z) → r' d e Q → r' d e Q') (h1 : DO X a ta) (h2 : DO X b tb) (h3 : DO X c tc) :
    ∀ ρ Q Q', (∀ d ρ', Q d ρ' → Q' d ρ') → eCh r r' ta tb tc ρ Q → eCh r r' ta tb tc ρ Q' := fun ρ Q Q' k q =>
  h1.mono _ _ _ (fun w1 ρ1 p => h2.mono _ _ _ (fun w2 ρ2 p2 => by
    (try dsimp only at p2); (try dsimp only)
    split
    · rename_i x y e1 e2
      rw [e1, e2] at p2
      refine hm _ _ _ _ (fun z pz => ?_) p2
      (try dsimp only at pz); (try dsimp only)
      split
      · refine h3.mono _ _ _ (fun w3 ρ3 p3 => ?_) pz
        (try dsimp only at p3); (try dsimp only)
        split
        · rename_i y' w e3 e4
          rw [e3, e4] at p3
          exact hm' _ _ _ _ (fun z => k z ρ3) p3
        · rename_i hno
          split at p3
          · rename_i y' w e3 e4
            exact (hno _ _ e3 e4).elim
          · exact p3
      · exact k _ _ pz
      · rename_i h1 h2
        split at pz
        · exact (h1 rfl).elim
        · exact (h2 rfl).elim
        · exact pz
    · rename_i hno
      split at p2
      · rename_i x y e1 e2
        exact (hno _ _ e1 e2).elim
      · exact p2) p) q
theorem eCh_run {r r' : D2} {ta tb tc : DTO} {r0 r0' : R2} {C : DC} (h1 : DO X a ta) (h2 : DO X b tb) (h3 : DO X c tc)
    (hk : ∀ (G H : Hp) (x y : V) (d e : PyData) (Q : VK) (Qd : PyData → Prop), Same G H → Dv X.K G H x d → Dv X.K G H y e → r d e Qd → Kon X.K G H Qd Q → r0 x y H Q)
    (hk' : ∀ (G H : Hp) (x y : V) (d e : PyData) (Q : VK) (Qd : PyData → Prop), Same G H → Dv X.K G H x d → Dv X.K G H y e → r' d e Qd → Kon X.K G H Qd Q → r0' x y H Q) :
    ∀ σ H Q, liftE X.K C (eCh r r' ta tb tc) σ H Q → tChain r0 r0' (liftO X.K C ta) (liftO X.K C tb) (liftO X.K C tc) σ H Q := fun σ H Q ⟨G, ρ, rl, q⟩ =>
  goO h1.mono rl q fun w1 ρ1 v1 G1 H1 p1 s1 r1 o1 => goO h2.mono r1 p1 fun w2 ρ2 v2 G2 H2 p2 s2 r2 o2 => by
    (try dsimp only at p2)
    split at p2
    · rename_i x y e1 e2
      refine hk G2 H2 v1 v2 x y _ _ r2.same (o1 G2 H2 ρ2 s2 r2 x e1) (o2 G2 H2 ρ2 (Same.refl _) r2 y e2) p2 ?_
      have key : ∀ (z : PyData) (v : V) (G3 H3 : Hp), (match z with
          | .bool true => tc ρ2 fun w3 ρ3 => match w2 ρ3, w3 ρ3 with
            | some y', some w => r' y' w fun z' => ∀ (v : V) (G' H' : Hp), Same G G' → Rel X.K C G' ρ3 σ H' → Dp X.K G' v z' → Q v H'
            | _, _ => False
          | .bool false => ∀ (v : V) (G' H' : Hp), Same G G' → Rel X.K C G' ρ2 σ H' → Dp X.K G' v (.bool false) → Q v H'
          | _ => False) → Same G2 G3 → Rel X.K C G3 ρ2 σ H3 → Dp X.K G3 v z → ∃ k, v = .bl k ∧ (if k = true then liftO X.K C tc σ H3 fun w' H4 => r0' v2 w' H4 Q else Q (.bl false) H3) := fun z v G3 H3 pz s3 r3 dz => by
        split at pz
        · cases dz
          refine ⟨true, rfl, ?_⟩
          rw [if_pos rfl]
          refine goO h3.mono r3 pz fun w3 ρ4 v3 G4 H4 p4 s4 r4 o3 => ?_
          (try dsimp only at p4)
          split at p4
          · rename_i y' w e3 e4
            exact hk' G4 H4 v2 v3 y' w Q _ r4.same (o2 G4 H4 ρ4 (s3.trans s4) r4 y' e3) (o3 G4 H4 ρ4 (Same.refl _) r4 w e4) p4
              (Kon.of (P := fun d ρ' => ∀ v G' H', Same G G' → Rel X.K C G' ρ' σ H' → Dp X.K G' v d → Q v H') r4 fun d p v G' H' s r' dd => p v G' H' ((s1.trans (s2.trans (s3.trans s4))).trans s) r' dd)
          · exact p4.elim
        · cases dz
          refine ⟨false, rfl, ?_⟩
          rw [if_neg (by decide)]
          exact pz _ G3 H3 ((s1.trans s2).trans s3) r3 (.bl false)
        · exact pz.elim
      exact Kon.of (P := fun z ρ' => match z with
          | .bool true => tc ρ' fun w3 ρ3 => match w2 ρ3, w3 ρ3 with
            | some y', some w => r' y' w fun z' => ∀ (v : V) (G' H' : Hp), Same G G' → Rel X.K C G' ρ3 σ H' → Dp X.K G' v z' → Q v H'
            | _, _ => False
          | .bool false => ∀ (v : V) (G' H' : Hp), Same G G' → Rel X.K C G' ρ' σ H' → Dp X.K G' v (.bool false) → Q v H'
          | _ => False) r2 fun z pz v G3 H3 s3 r3 dz => key z v G3 H3 pz s3 r3 dz
    · exact p2.elim
theorem de_chain {op op' : CmpOp} {r r' : D2} {ta tb tc : DTO} (ho : OpD X (compareOp op) r) (ho' : OpD X (compareOp op') r') (h1 : DO X a ta) (h2 : DO X b tb) (h3 : DO X c tc) (hm : lastMarks [op, op'] [b, c] = false := by with_unfolding_all rfl) :
    DE X (.Compare a [op, op'] [b, c] pos) (eCh r r' ta tb tc) where
  run C := by
    obtain ⟨r0, h0, hk⟩ := ho.ok
    obtain ⟨r0', h0', hk'⟩ := ho'.ok
    exact PE.imp (pe_chain h0 h0' (h1.run C) (h2.run C) (h3.run C) hm) (eCh_run h1 h2 h3 hk hk')
  mono := eCh_mono ho.mono ho'.mono h1 h2 h3
theorem dt_chain {op op' : CmpOp} {r r' : D2} {ta tb tc : DTO} (ho : OpD X (compareOp op) r) (ho' : OpD X (compareOp op') r') (h1 : DO X a ta) (h2 : DO X b tb) (h3 : DO X c tc) (hm : lastMarks [op, op'] [b, c] = false := by with_unfolding_all rfl) :
    DT X (.Compare a [op, op'] [b, c] pos) (tE (eCh r r' ta tb tc)) where
  run C := by
    obtain ⟨r0, h0, hk⟩ := ho.ok
    obtain ⟨r0', h0', hk'⟩ := ho'.ok
    refine PT.imp (pt_chain h0 h0' (h1.run C) (h2.run C) (h3.run C) hm) fun σ H Q h => ?_
    refine eCh_run (C := C) h1 h2 h3 hk hk' σ H _ ?_
    obtain ⟨G, ρ, r, q⟩ := h
    refine goE (eCh_mono ho.mono ho'.mono h1 h2 h3) r q fun d ρ' v G' H' p s r' dp => ?_
    cases d <;> first | exact p.elim | skip
    cases dp
    exact ⟨_, rfl, p G' H' s r'⟩
  mono := tE_mono (eCh_mono ho.mono ho'.mono h1 h2 h3)
/-! ## xs.insert(i, e), xs.pop() -/
def eIns (i : Nat) (t : DTL) : DTE := fun ρ Q => (muN i ρ).isSome = true ∧ t ρ fun ds ρ' => match muN i ρ', ds with
  | some xs, [.int k, d] => (xs.length < sizeLine ∧ 0 ≤ k ∧ k < 2 ^ 63) ∧ Q .none (wrN i (xs.take k.toNat ++ [d] ++ xs.drop k.toNat) ρ')
  | _, _ => False
theorem de_insert (i : Nat) {x : Str} {t : DTL} {e1 e2 : Expr} {px pa pos} (h : DA X [e1, e2] t) (hN : X.N[i]? = some x := by rfl) (hv : Vis X.env.scope x := by first | exact Or.inl rfl | exact Or.inr (Or.inl rfl) | exact Or.inr (Or.inr rfl)) (hd : (x == ("__debug__" : Str)) = false := by decide)
    (hcd : (x == ("__classdict__" : Str)) = false := by decide)
    (hb : ∀ {to : TE} {t : TA}, PE X (.Name x px) to → PA X [e1, e2] t → PE X (.Call (.Attribute (.Name x px) "insert" pa) [e1, e2] [] pos) (tBM X.K "list" (fun x vs H Q => ∃ (l : Addr) (xs : List V) (i : Int) (y : V), x = .ref l ∧ vs = [.int i, y] ∧ H l = some (.lst xs) ∧ xs.length < sizeLine ∧ 0 ≤ i ∧ i < 2 ^ 63 ∧
    Q .non (upd H l (.lst (xs.take i.toNat ++ [y] ++ xs.drop i.toNat)))) to t) := by intro _ _ h1 h2; exact pe_bm PySem.F.plainAttrs_list PySem.F.slot_list_insert PySem.F.type_list_insert mt_insert h1 h2) :
    DE X (.Call (.Attribute (.Name x px) "insert" pa) [e1, e2] [] pos) (eIns i t) where
  run C := PE.imp (hb (pe_var hN hv hd hcd) (h.run C)) fun σ H Q ⟨G, ρ, r, q1, q⟩ => by
    obtain ⟨ds0, e0⟩ := Option.isSome_iff_exists.mp q1
    obtain ⟨a, vs, h1, h2, _⟩ := muN_ok r e0
    refine ⟨_, h1, tyV_lst h2, goA h.mono r q fun ds ρ' ws G' H' p s r' dp => ?_⟩
    (try dsimp only at p)
    split at p
    · rename_i xs k d e1
      obtain ⟨a', vs', k1, k2, k3, k4, k5⟩ := muN_ok r' e1
      rw [h1] at k1
      cases k1
      obtain ⟨p1, p2⟩ := p
      cases dp with
      | cons d1 d2 =>
        cases d1
        cases d2 with
        | cons d3 d4 =>
          cases d4
          exact ⟨a, vs', k, _, rfl, rfl, k2, by rw [DpAll.len k4]; exact p1.1, p1.2.1, p1.2.2, p2 .non G' _ s (k5 _ _ (DpAll.app (DpAll.app (DpAll.take _ k4) (.cons d3 .nil)) (DpAll.drop _ k4))) .non⟩
    · exact p.elim
  mono ρ Q Q' k q := ⟨q.1, h.mono _ _ _ (fun d ρ' p => by
    (try dsimp only at p); (try dsimp only)
    split
    · rename_i xs z d' e2 
      rw [e2] at p
      exact ⟨p.1, k _ _ p.2⟩
    · rename_i hno
      split at p
      · rename_i xs z d' e2
        exact (hno _ _ _ e2 rfl).elim
      · exact p) q.2⟩
def ePop (i : Nat) : DTE := fun ρ Q => match muN i ρ with
  | some xs => match xs[xs.length - 1]? with
    | some d => Q d (wrN i xs.dropLast ρ)
    | none => False
  | none => False
theorem DpAll.init {K : PySem.W.Frag} {G : Hp} {vs : List V} {ds : List PyData} (h : DpAll K G vs ds) : DpAll K G vs.dropLast ds.dropLast := by
  rw [List.dropLast_eq_take, List.dropLast_eq_take, DpAll.len h]
  exact DpAll.take _ h
theorem de_pop (i : Nat) {x : Str} {px pa pos} (hN : X.N[i]? = some x := by rfl) (hv : Vis X.env.scope x := by first | exact Or.inl rfl | exact Or.inr (Or.inl rfl) | exact Or.inr (Or.inr rfl)) (hd : (x == ("__debug__" : Str)) = false := by decide)
    (hcd : (x == ("__classdict__" : Str)) = false := by decide)
    (hb : ∀ {to : TE}, PE X (.Name x px) to → PE X (.Call (.Attribute (.Name x px) "pop" pa) [] [] pos) (tBM0 X.K "list" rPop to) := by intro _ h1; exact pe_bm0 PySem.F.plainAttrs_list PySem.F.slot_list_pop PySem.F.type_list_pop mt_pop h1) :
    DE X (.Call (.Attribute (.Name x px) "pop" pa) [] [] pos) (ePop i) where
  run C := PE.imp (hb (pe_var hN hv hd hcd)) fun σ H Q ⟨G, ρ, r, q⟩ => by
    unfold ePop at q
    split at q
    · rename_i xs e0
      split at q
      · rename_i d ed
        obtain ⟨a, vs, h1, h2, h3, h4, h5⟩ := muN_ok r e0
        rw [← DpAll.len h4] at ed
        obtain ⟨v, ev, dv⟩ := DpAll.get h4 ed
        exact ⟨_, h1, tyV_lst h2, a, vs, v, rfl, rfl, h2, ev, q v G _ (Same.refl _) (h5 _ _ (DpAll.init h4)) dv⟩
      · exact q.elim
    · exact q.elim
  mono ρ Q Q' k q := by
    unfold ePop at q ⊢
    split
    · rename_i xs e0
      rw [e0] at q
      (try dsimp only at q)
      split
      · rename_i d ed
        rw [ed] at q
        exact k _ _ q
      · rename_i ed
        rw [ed] at q
        exact q
    · rename_i e0
      rw [e0] at q
      exact q
end
end DL
namespace DL
open PySem L2
/-! ## normal forms, on -/
theorem cmn_nf {g : DTG} {tt : DTT} {te : DTE} {vs : List Nat} {Q : List PyData → DS → Prop} {items acc acc' : List PyData} {ρ ρ' : DS} (ei : items = []) (ea : acc = acc') (e : ρ = ρ') (h : Q acc' ρ') : cmX g tt te vs Q items acc ρ := by rw [ei, ea, e]; exact cm_nil h
theorem cmc_nf {g : DTG} {tt : DTT} {te : DTE} {vs : List Nat} {Q : List PyData → DS → Prop} {x : PyData} {items xs acc acc' : List PyData} {ρ ρ' : DS} (ei : items = x :: xs) (ea : acc = acc') (e : ρ = ρ')
    (h : g x ρ' fun ρ1 => tt ρ1 fun b ρ2 => if b = true then te ρ2 fun y ρ3 => cmX g tt te vs Q xs (acc' ++ [y]) (wipeD ρ3 vs) else cmX g tt te vs Q xs acc' (wipeD ρ2 vs)) : cmX g tt te vs Q items acc ρ := by rw [ei, ea, e]; exact cm_cons h
theorem cmy_nf {g : DTG} {te : DTE} {vs : List Nat} {Q : List PyData → DS → Prop} {x : PyData} {items xs acc acc' : List PyData} {ρ ρ' : DS} (ei : items = x :: xs) (ea : acc = acc') (e : ρ = ρ')
    (h : g x ρ' fun ρ1 => te ρ1 fun y ρ3 => cmX g tYs te vs Q xs (acc' ++ [y]) (wipeD ρ3 vs)) : cmX g tYs te vs Q items acc ρ := cmc_nf ei ea e h
theorem fon_nf {g : DTG} {tb : DTS} {DD : DEn} {items : List PyData} {ρ ρ' : DS} (ei : items = []) (e : ρ = ρ') (h : DD.nx ρ') : foX g tb DD items ρ := by rw [ei, e]; exact fo_nil h
theorem foc_nf {g : DTG} {tb : DTS} {DD : DEn} {x : PyData} {items xs : List PyData} {ρ ρ' : DS} (ei : items = x :: xs) (e : ρ = ρ')
    (h : g x ρ' fun ρ' => tb { nx := fun ρ => foX g tb DD xs ρ, rt := DD.rt, bk := DD.nx, ct := fun ρ => foX g tb DD xs ρ } ρ') : foX g tb DD items ρ := by rw [ei, e]; exact fo_cons h
theorem c2n_nf {g g1 : DTG} {tt tt1 : DTT} {ti1 : DTL} {te : DTE} {vs vs1 : List Nat} {Q : List PyData → DS → Prop} {items acc acc' : List PyData} {ρ ρ' : DS} (ei : items = []) (ea : acc = acc') (e : ρ = ρ') (h : Q acc' ρ') : cm2X g tt ti1 g1 tt1 te vs vs1 Q items acc ρ := by rw [ei, ea, e]; exact cm2_nil h
theorem c2c_nf {g g1 : DTG} {tt tt1 : DTT} {ti1 : DTL} {te : DTE} {vs vs1 : List Nat} {Q : List PyData → DS → Prop} {x : PyData} {items xs acc acc' : List PyData} {ρ ρ' : DS} (ei : items = x :: xs) (ea : acc = acc') (e : ρ = ρ')
    (h : g x ρ' fun ρ1 => tt ρ1 fun b ρ2 => if b = true then
      ti1 ρ2 fun items1 ρ3 => acc'.length + items1.length ≤ sizeLine ∧ noBo ρ3 vs = true ∧ cmX g1 tt1 te vs1 (fun acc' ρ4 => cm2X g tt ti1 g1 tt1 te vs vs1 Q xs acc' (wipeD ρ4 vs)) items1 acc' (wipeD ρ3 vs1)
    else cm2X g tt ti1 g1 tt1 te vs vs1 Q xs acc' (wipeD ρ2 vs)) : cm2X g tt ti1 g1 tt1 te vs vs1 Q items acc ρ := by rw [ei, ea, e]; exact cm2_cons h
theorem cgn_nf {i : Nat} {all : List PyData} {g : DTG} {tt : DTT} {te : DTE} {vs : List Nat} {Q : List PyData → DS → Prop} {items acc acc' : List PyData} {ρ ρ' : DS} (ei : items = []) (ea : acc = acc') (e : ρ = ρ') (h0 : ρ'[i]? = some (some (.bo all))) (h : Q acc' ρ') : cmY i all g tt te vs Q items acc ρ := by rw [ei, ea, e]; exact cg_nil h0 h
theorem cgc_nf {i : Nat} {all : List PyData} {g : DTG} {tt : DTT} {te : DTE} {vs : List Nat} {Q : List PyData → DS → Prop} {x : PyData} {items xs acc acc' : List PyData} {ρ ρ' : DS} (ei : items = x :: xs) (ea : acc = acc') (e : ρ = ρ') (h0 : ρ'[i]? = some (some (.bo all)))
    (h : g x ρ' fun ρ1 => tt ρ1 fun b ρ2 => if b = true then te ρ2 fun y ρ3 => cmY i all g tt te vs Q xs (acc' ++ [y]) (wipeD ρ3 vs) else cmY i all g tt te vs Q xs acc' (wipeD ρ2 vs)) : cmY i all g tt te vs Q items acc ρ := by rw [ei, ea, e]; exact cg_cons h0 h
theorem cgy_nf {i : Nat} {all : List PyData} {g : DTG} {te : DTE} {vs : List Nat} {Q : List PyData → DS → Prop} {x : PyData} {items xs acc acc' : List PyData} {ρ ρ' : DS} (ei : items = x :: xs) (ea : acc = acc') (e : ρ = ρ') (h0 : ρ'[i]? = some (some (.bo all)))
    (h : g x ρ' fun ρ1 => te ρ1 fun y ρ3 => cmY i all g tYs te vs Q xs (acc' ++ [y]) (wipeD ρ3 vs)) : cmY i all g tYs te vs Q items acc ρ := cgc_nf ei ea e h0 h
theorem fgn_nf {i : Nat} {all : List PyData} {g : DTG} {tb : DTS} {DD : DEn} {items : List PyData} {ρ ρ' : DS} (ei : items = []) (e : ρ = ρ') (h0 : ρ'[i]? = some (some (.bo all))) (h : DD.nx ρ') : foY i all g tb DD items ρ := by rw [ei, e]; exact fg_nil h0 h
theorem fgc_nf {i : Nat} {all : List PyData} {g : DTG} {tb : DTS} {DD : DEn} {x : PyData} {items xs : List PyData} {ρ ρ' : DS} (ei : items = x :: xs) (e : ρ = ρ') (h0 : ρ'[i]? = some (some (.bo all)))
    (h : g x ρ' fun ρ' => tb { nx := fun ρ => foY i all g tb DD xs ρ, rt := DD.rt, bk := DD.nx, ct := fun ρ => foY i all g tb DD xs ρ } ρ') : foY i all g tb DD items ρ := by rw [ei, e]; exact fg_cons h0 h
theorem sSq_cut' {t : DTS} {DD : DEn} {ρ : DS} (M : DS → Prop) (hu : ∀ ρ', M ρ' → DD.nx ρ') (ht : ∀ K : DS → Prop, (∀ ρ', M ρ' → K ρ') → t { nx := K, rt := DD.rt, bk := DD.bk, ct := DD.ct } ρ) : t DD ρ := ht DD.nx hu
theorem whByN {tc : DTT} {tb : DTS} {DD : DEn} {ρ : DS} (W : Nat → DS → Prop) {n0 : Nat} (h0 : W n0 ρ)
    (hs : ∀ n ρ (K : DS → Prop), W n ρ → (∀ m ρ', m < n → W m ρ' → K ρ') → tc ρ fun b ρ1 => if b = true then tb { nx := K, rt := DD.rt, bk := DD.nx, ct := K } ρ1 else DD.nx ρ1) : sWh tc tb DD ρ := by
  have key : ∀ n m ρ, W m ρ → m < n → whN tc tb DD n ρ := by
    intro n
    induction n with
    | zero => exact fun _ _ _ h => absurd h (Nat.not_lt_zero _)
    | succ n ih => exact fun m ρ w h => hs m ρ (whN tc tb DD n) w fun m' ρ' l w' => ih m' ρ' w' (by omega)
  exact ⟨n0 + 1, key _ n0 ρ h0 (Nat.lt_succ_self _)⟩
theorem isBo_opt {ρ : DS} {i : Nat} {z : Option PyData} (h : ρ[i]? = some (z.map Sl.sh)) : isBo ρ i = false := by
  unfold isBo; rw [h]; cases z <;> rfl
theorem noBo_1 {ρ : DS} {i : Nat} (h : isBo ρ i = false) : noBo ρ [i] = true := by simp [noBo, h]
theorem noBo_2 {ρ : DS} {i j : Nat} (h : isBo ρ i = false) (k : isBo ρ j = false) : noBo ρ [i, j] = true := by simp [noBo, h, k]
theorem rng0_0 : rngD 0 0 = [] := rfl
theorem rng0_1 : rngD 0 1 = [.int 0] := rfl
theorem rng0_2 : rngD 0 2 = [.int 0, .int 1] := rfl
theorem rng0_3 : rngD 0 3 = [.int 0, .int 1, .int 2] := rfl
theorem rng0_4 : rngD 0 4 = [.int 0, .int 1, .int 2, .int 3] := rfl
theorem rng0_5 : rngD 0 5 = [.int 0, .int 1, .int 2, .int 3, .int 4] := rfl
theorem rng0_6 : rngD 0 6 = [.int 0, .int 1, .int 2, .int 3, .int 4, .int 5] := rfl
end DL

namespace DL
open PySem L2
/-! ## plain Lean values as data -/
structure EncOk {α : Type} [DecidableEq α] (e : α → PyData) (n : Nat) : Prop where
  eqv : ∀ a b, PyData.eqv (e a) (e b) = decide (a = b)
  lay : ∀ a, (e a).canLay0 = true
  dep : ∀ a, (e a).depth ≤ n
section
variable {α β γ : Type} [DecidableEq α] [DecidableEq β] [DecidableEq γ] {e : α → PyData} {f : β → PyData} {g : γ → PyData} {n m k : Nat}
theorem EncOk.shaped (h : EncOk e n) (hn : n ≤ 64) (a : α) : SeqAt.shaped (e a) = true := by
  unfold SeqAt.shaped
  rw [h.lay a, Bool.true_and]
  exact decide_eq_true (Nat.le_trans (h.dep a) hn)
theorem encInt : EncOk PyData.int 0 where
  eqv a b := by
    rw [Bool.eq_iff_iff, decide_eq_true_iff]
    show (a == b) = true ↔ _
    exact beq_iff_eq
  lay _ := rfl
  dep _ := Nat.le_refl 0
theorem eqvAll_map (h : EncOk e n) : ∀ xs ys : List α, PyData.eqvAll (xs.map e) (ys.map e) = decide (xs = ys)
  | [], [] => rfl
  | [], _ :: _ => rfl
  | _ :: _, [] => rfl
  | x :: xs, y :: ys => by
    show (PyData.eqv (e x) (e y) && PyData.eqvAll (xs.map e) (ys.map e)) = _
    rw [h.eqv, eqvAll_map h xs ys, Bool.eq_iff_iff]
    simp
theorem layAll_map (h : EncOk e n) : ∀ xs : List α, PyData.canLayAll0 (xs.map e) = true
  | [] => rfl
  | x :: xs => by
    show ((e x).canLay0 && PyData.canLayAll0 (xs.map e)) = true
    rw [h.lay x, layAll_map h xs]
    rfl
theorem depAll_map (h : EncOk e n) : ∀ xs : List α, PyData.depthAll (xs.map e) ≤ n
  | [] => Nat.zero_le _
  | x :: xs => by
    show max (e x).depth (PyData.depthAll (xs.map e)) ≤ n
    exact Nat.max_le.mpr ⟨h.dep x, depAll_map h xs⟩
def eL (e : α → PyData) (xs : List α) : PyData := .list (xs.map e)
def eT (e : α → PyData) (xs : List α) : PyData := .tuple (xs.map e)
theorem encL (h : EncOk e n) : EncOk (eL e) (n + 1) where
  eqv a b := eqvAll_map h a b
  lay a := layAll_map h a
  dep a := Nat.succ_le_succ (depAll_map h a)
theorem encT (h : EncOk e n) : EncOk (eT e) (n + 1) where
  eqv a b := eqvAll_map h a b
  lay a := layAll_map h a
  dep a := Nat.succ_le_succ (depAll_map h a)
def eP (e : α → PyData) (f : β → PyData) (p : α × β) : PyData := .tuple [e p.1, f p.2]
theorem encP (h : EncOk e n) (j : EncOk f m) : EncOk (eP e f) (max n m + 1) where
  eqv a b := by
    show (PyData.eqv (e a.1) (e b.1) && (PyData.eqv (f a.2) (f b.2) && true)) = _
    rw [h.eqv, j.eqv, Bool.eq_iff_iff]
    simp [Prod.ext_iff]
  lay a := by
    show ((e a.1).canLay0 && ((f a.2).canLay0 && true)) = true
    rw [h.lay, j.lay]; rfl
  dep a := by
    show max (e a.1).depth (max (f a.2).depth 0) + 1 ≤ _
    have := h.dep a.1
    have := j.dep a.2
    omega
def eQ (e : α → PyData) (f : β → PyData) (g : γ → PyData) (p : α × β × γ) : PyData := .tuple [e p.1, f p.2.1, g p.2.2]
theorem encQ (h : EncOk e n) (j : EncOk f m) (i : EncOk g k) : EncOk (eQ e f g) (max n (max m k) + 1) where
  eqv a b := by
    show (PyData.eqv (e a.1) (e b.1) && (PyData.eqv (f a.2.1) (f b.2.1) && (PyData.eqv (g a.2.2) (g b.2.2) && true))) = _
    rw [h.eqv, j.eqv, i.eqv, Bool.eq_iff_iff]
    simp [Prod.ext_iff]
  lay a := by
    show ((e a.1).canLay0 && ((f a.2.1).canLay0 && ((g a.2.2).canLay0 && true))) = true
    rw [h.lay, j.lay, i.lay]; rfl
  dep a := by
    show max (e a.1).depth (max (f a.2.1).depth (max (g a.2.2).depth 0)) + 1 ≤ _
    have := h.dep a.1
    have := j.dep a.2.1
    have := i.dep a.2.2
    omega
theorem any_map (h : EncOk e n) (xs : List α) (p : α) : (xs.map e).any (fun z => PyData.eqv z (e p)) = decide (p ∈ xs) := by
  rw [Bool.eq_iff_iff, decide_eq_true_iff, List.any_eq_true]
  constructor
  · rintro ⟨z, hz, hq⟩
    obtain ⟨a, ha, rfl⟩ := List.mem_map.mp hz
    rw [h.eqv] at hq
    exact of_decide_eq_true hq ▸ ha
  · intro hp
    exact ⟨e p, List.mem_map.mpr ⟨p, hp, rfl⟩, by rw [h.eqv]; exact decide_eq_true rfl⟩
theorem any_yes (h : EncOk e n) {xs : List α} {p : α} (hp : p ∈ xs) : (xs.map e).any (fun z => PyData.eqv z (e p)) = true := by rw [any_map h]; exact decide_eq_true hp
theorem any_no (h : EncOk e n) {xs : List α} {p : α} (hp : ¬ p ∈ xs) : (xs.map e).any (fun z => PyData.eqv z (e p)) = false := by rw [any_map h]; exact decide_eq_false hp
theorem inj_of (h : EncOk e n) {a b : α} (q : e a = e b) : a = b := by
  have := h.eqv a b
  rw [q, h.eqv b b] at this
  exact of_decide_eq_true (this.symm.trans (decide_eq_true rfl))
/-- in, not in -/
theorem in_map (h : EncOk e n) (hn : n ≤ 63) {xs : List α} {p : α} {Q : PyData → Prop} (q : Q (.bool (decide (p ∈ xs)))) : dIn (e p) (.list (xs.map e)) Q :=
  ⟨h.shaped (by omega) p, (encL h).shaped (by omega) xs, by rw [any_map h]; exact q⟩
theorem ni_map (h : EncOk e n) (hn : n ≤ 63) {xs : List α} {p : α} {Q : PyData → Prop} (q : Q (.bool (!decide (p ∈ xs)))) : dNi (e p) (.list (xs.map e)) Q :=
  ⟨h.shaped (by omega) p, (encL h).shaped (by omega) xs, by rw [any_map h]; exact q⟩
/-- ==, != -/
theorem eq_enc (h : EncOk e n) (hn : n ≤ 64) {a b : α} {Q : PyData → Prop} (q : Q (.bool (decide (a = b)))) : dEq (e a) (e b) Q := ⟨h.shaped hn a, h.shaped hn b, by rw [h.eqv]; exact q⟩
theorem ne_enc (h : EncOk e n) (hn : n ≤ 64) {a b : α} {Q : PyData → Prop} (q : Q (.bool (!decide (a = b)))) : dNe (e a) (e b) Q := ⟨h.shaped hn a, h.shaped hn b, by rw [h.eqv]; exact q⟩
end
end DL

namespace DL
open PySem PySem.Spec PyProof.Rows L2
section
variable {P : Program} {w : World} {A : Around} {E : Value → Shared → Prop} {s : Shared}
/-- the empty set's object -/
abbrev noSet (w : World) : Obj := { cls := .type "set", dict := none, data := .set #[] 0 (.fresh 0 0 (!w.params.followText "set-order")) }
set_option maxHeartbeats 3200000 in
/-- set(t), t a tuple of tuples of ints -/
theorem set_of_tuple {t : Addr} {us : Array Value} (ks : List (Addr × List Int)) {Q : Value → Shared → Prop} (calm : A.handled = none) (ht : s.heap.IsTuple t us) (hus : us.toList = ks.map fun p => Value.ref p.1)
    (each : ∀ p ∈ ks, IsT P w s.heap p.2 p.1) (few : ks.length < 64) (room : A.units + 3 < cLine)
    (go : ∀ (h' : Heap) (tk : Nat) L es ep tb, SetTR P w h' s.heap.objs.size L es ep tb → (∀ b o, s.heap.get? b = some o → h'.get? b = some o) → Q (.ref s.heap.objs.size) { s with heap := h', toks := tk }) : wpAny (model P w) A (call (.type "set") [.ref t]) Q E s := by
  have size_us : us.size = ks.length := by
    have e := congrArg List.length hus
    rwa [Array.length_toList, List.length_map] at e
  obtain ⟨mc, mt, rowMro⟩ := F.called_set.mro
  have rowMade := F.called_set.made
  have rowSub := F.called_set.sub
  have rowNot := F.called_set.notType
  have rowCan := F.called_set.canCreate
  have rowCall := F.typeCall_set_1 (.ref t)
  refine wpAny_call (codeAny_of_tree ?_)
  show wpAny _ _ (callAny (.type "set") _) _ _ _
  refine wpAny_pure ⟨Code.quiet_builtin _ (by decide +kernel), codeAny_builtin F.entry_type_call ?_⟩
  rw [Around.under_plain (weight_type_call_type "set" [.ref t] []) rfl]
  repeat (any_goals (first | assumption | wp_step))
  refine codeAny_mono (code_set_led1 (.ref t) (E := E) (Q₁ := fun x z => x = .ref s.heap.objs.size ∧ z = { s with heap := s.heap.push (noSet w) }) ⟨rfl, rfl⟩) fun res z hres => ?_
  cases res with
  | error _ => exact hres
  | ok flow =>
    cases flow with
    | ret x =>
      obtain ⟨rfl, rfl⟩ := hres
      have atS : (s.heap.push (noSet w)).get? s.heap.objs.size = some (noSet w) := Heap.get?_push_size _ rfl
      have tyS : Shared.TypeIs { s with heap := s.heap.push (noSet w) } (.ref s.heap.objs.size) "set" := ⟨_, atS, rfl⟩
      have rowLook := F.called_set.init.lookup
      have rowBind := F.called_set.init.bind (.ref s.heap.objs.size)
      repeat (any_goals (first | assumption | wp_step))
      refine codeAny_mono (codeAny_call_builtin (R := wants (fun r z => r = .none ∧ ∃ h' tk L es ep tb, z = { s with heap := h', toks := tk } ∧ SetTR P w h' s.heap.objs.size L es ep tb ∧ (∀ b o, s.heap.get? b = some o → h'.get? b = some o)) E)
        F.called_set.init.plain F.entry_set_init (check_set_init_1 tyS ?_)) fun res2 z2 hres2 => ?_
      · obtain ⟨⟨oc, od, oda, osl⟩, at_t, ec, nt, ed⟩ := ht
        simp only at ec ed
        subst ec; subst ed
        have at_t' : (s.heap.push (noSet w)).get? t = some { cls := .type "tuple", dict := od, data := .seq us nt, slots := osl } := Heap.get?_push_of_some _ at_t
        have s1 := F.sub_tuple_set
        have s2 := F.sub_tuple_frozenset
        have s3 : (Value.type "tuple" == Value.type "dict") = false := by decide
        have isT : (s.heap.push (noSet w)).IsTuple t us := ⟨_, at_t', rfl, nt, rfl⟩
        unfold Builtin.«set.__init__» noKeywords Builtin.Frozenset.updateFrom
        generalize hgi : pyIter = gi
        wp_walk
        subst hgi
        refine wpAny_pyIter_tuple isT ?_
        refine wpAny_bind (wpAny_runValue ?_)
        have lt_t : t < s.heap.objs.size := Heap.lt_size at_t
        have calm3 : A.in1.in1.in1.handled = none := by simp [calm]
        have szp : (s.heap.push (noSet w)).objs.size = s.heap.objs.size + 1 := Heap.size_push ..
        have ne_t : t ≠ (s.heap.push (noSet w)).objs.size := by rw [szp]; exact Nat.ne_of_lt (Nat.lt_succ_of_lt lt_t)
        have notin : s.heap.objs.size ∉ [(s.heap.push (noSet w)).objs.size, t] := by
          rw [szp]
          simp only [List.mem_cons, List.not_mem_nil, or_false, not_or]
          exact ⟨Nat.ne_of_lt (Nat.lt_succ_self _), Nat.ne_of_gt lt_t⟩
        have vals : ∀ (i : Nat) (v : Value), us[i]? = some v → ∃ p, ks[i]? = some p ∧ v = .ref p.1 := fun i v hv => by
          rw [← Array.getElem?_toList, hus, List.getElem?_map] at hv
          cases e : ks[i]? with
          | none => rw [e] at hv; cases hv
          | some p => rw [e] at hv; cases hv; exact ⟨p, rfl, rfl⟩
        have free : ∀ b, s.heap.objs.size ≤ b → s.heap.get? b = none := fun b hb => by
          cases e : s.heap.get? b with
          | none => rfl
          | some o => exact (Nat.not_lt.mpr hb (Heap.lt_size e)).elim
        refine set_update_tups ((Walks.tuple calm3 _ t ne_t us).toS) s.heap.objs.size notin ks size_us few vals s.heap each (free _ (Nat.le_refl _))
          (fun b hb => free b (by rw [List.mem_singleton.mp hb, szp]; exact Nat.le_succ _)) room (us.size - 0) 0 _ (by omega) (Nat.zero_le _)
          ⟨⟨_, Heap.get?_push_size _ rfl, rfl, rfl⟩, isT.push _⟩ (fun b o e => Heap.get?_push_of_some _ (Heap.get?_push_of_some _ e)) ?start ?stop
        case start => exact ⟨[], #[], 0, _, setTR_fresh (Heap.get?_push_of_some _ atS), Got.zero ks⟩
        case stop =>
          intro z L es ep tb moved made got kept
          obtain ⟨h', g', d', tk', o'⟩ := z
          have e1 : g' = s.gens := moved.gens
          have e2 : d' = s.drawn := moved.drawn
          have e3 : o' = s.os := moved.os
          subst e1; subst e2; subst e3
          show wpAny _ _ _ _ _ _
          refine wpAny_pure ?_
          show wpAny _ _ (ret Value.none) _ _ _
          exact wpAny_pure ⟨rfl, h', tk', L, es, ep, tb, rfl, made, kept⟩
      · cases res2 with
        | error _ => exact hres2
        | ok flow2 =>
          cases flow2 with
          | ret r =>
            obtain ⟨rfl, h', tk, L, es, ep, tb, rfl, made, kept⟩ := hres2
            repeat (any_goals (first | assumption | wp_step))
            exact go _ _ _ _ _ _ made kept
          | _ => exact hres2.elim
    | _ => exact hres.elim
end
end DL

namespace DL
open PySem PySem.Spec PyProof.Rows L2
section
variable {X : Cx} {e : Expr}
/-- len(set(t)), t a tuple of tuples of ints: some number -/
def tLsT (K : PySem.W.Frag) (ta : TE) : TE := fun σ H Q => ta σ H fun x H1 => ∃ (l : Addr) (ks : List (Addr × List Int)), x = V.ref l ∧ SqT K H1 l (ks.map fun p => V.ref p.1) ∧ (∀ p ∈ ks, SqT K H1 p.1 (p.2.map V.int)) ∧ ks.length < 64 ∧ ∀ n : Nat, Q (.int n) H1
theorem pe_lsT {ta : TE} {p p2 q pos : Pos} (hc : X.calm = true) (hu : X.A.units + 64 < cLine) (hg : Gl X "len") (hm : X.mg "len" = none) (hg2 : Gl X "set") (hm2 : X.mg "set" = none) (ha : PE X e ta)
    (na : starEach [e] X.env = (false, eval e X.env) :: starEach [] X.env := by rfl) : PE X (.Call (.Name "len" p) [.Call (.Name "set" p2) [e] [] q] [] pos) (tLsT X.K ta) := by
  refine ⟨fun pins s σ H Q I h => Call_ (ld_blt I hg hm PySem.boot_len (PyProof.Rows.callWith_builtin1 (PyProof.Rows.args_cons ?_ rfl) rfl rfl))⟩
  refine Call_ (ld_blt I hg2 hm2 PyProof.Rows.boot_set (PyProof.Rows.callWith_type1 (PyProof.Rows.args_cons (thn (ha.run pins s σ H _ I h) fun v s1 ⟨x, H1, I1, r1, l, ks, ex, hl, hk, few, q1⟩ => PyProof.Rows.args_nil ?_) na) na rfl))
  subst ex
  cases r1
  obtain ⟨its, r, pt, hz⟩ := I1.tuple hl
  refine set_of_tuple (P := X.prog) (w := X.w) ks (I1.ok.hd hc) pt (by simpa using refs_of_vals r) (fun p hp => I1.isT (hk p hp)) few (by omega) fun h' tk L es ep tb R kept => ?_
  refine PyProof.Rows.args_nil ?_
  obtain ⟨o, ho, hex, hd⟩ := R.ob
  have hes : es.size < 64 := by
    have e1 := congrArg List.length R.rows
    have := R.few
    unfold rowsOf at e1
    rw [Array.length_toList, List.length_map] at e1
    omega
  have I2 : Inv X pins σ H1 { s1 with heap := h', toks := tk } := I1.kept fun b o e => kept b o e
  exact call_len_set ho hex hd (SetTR.fits (s := { s1 with heap := h', toks := tk }) R) (by omega) ⟨.int es.size, H1, I2.tok _, ⟨_, rfl⟩, q1 es.size⟩
theorem DpAll.tups {K : PySem.W.Frag} {G : Hp} : ∀ {kss : List (List Int)} {vs : List V}, DpAll K G vs (kss.map fun k => .tuple (k.map PyData.int)) → ∃ ks : List (Addr × List Int), vs = ks.map (fun p => V.ref p.1) ∧ ks.length = kss.length ∧ ∀ p ∈ ks, SqT K G p.1 (p.2.map V.int)
  | [], _, h => by cases h; exact ⟨[], rfl, rfl, fun _ h => (nomatch h)⟩
  | k :: kss, _, h => by
    cases h with
    | cons h1 h2 =>
      obtain ⟨ks, rfl, hl, hk⟩ := DpAll.tups h2
      cases h1 with
      | tup hs ha =>
        rw [DpAll.ofInts ha] at hs
        refine ⟨(_, k) :: ks, rfl, by simp [hl], fun p hp => ?_⟩
        rcases List.mem_cons.mp hp with rfl | hp
        · exact hs
        · exact hk p hp
def eLs (t : DTO) : DTE := fun ρ Q => t ρ fun w ρ' => match w ρ' with
  | some (.tuple ds) => ∃ kss : List (List Int), ds = kss.map (fun k => .tuple (k.map PyData.int)) ∧ kss.length < 64 ∧ ∀ n : Nat, Q (.int n) ρ'
  | _ => False
theorem de_ls {t : DTO} {p p2 q pos : Pos} (hc : X.calm = true) (hu : X.A.units + 64 < cLine) (hg : Gl X "len") (hm : X.mg "len" = none) (hg2 : Gl X "set") (hm2 : X.mg "set" = none) (h : DO X e t)
    (na : starEach [e] X.env = (false, eval e X.env) :: starEach [] X.env := by rfl) : DE X (.Call (.Name "len" p) [.Call (.Name "set" p2) [e] [] q] [] pos) (eLs t) where
  run C := PE.imp (pe_lsT hc hu hg hm hg2 hm2 (h.run C) na) fun σ H Q ⟨G, ρ, r, q⟩ => goO h.mono r q fun w ρ1 v G1 H1 p1 s1 r1 o1 => by
    (try dsimp only at p1)
    split at p1
    · rename_i ds ed
      obtain ⟨kss, rfl, few, k⟩ := p1
      obtain ⟨a, vs, rfl, h1, h2⟩ := (o1 G1 H1 ρ1 (Same.refl _) r1 _ ed).tup r1.same
      obtain ⟨ks, rfl, hl, hk⟩ := DpAll.tups h2
      exact ⟨a, ks, rfl, h1, fun p hp => sameT r1.same (hk p hp), by omega, fun n => k n (.int n) G1 H1 s1 r1 (.int _)⟩
    · exact p1.elim
  mono ρ Q Q' k q := h.mono _ _ _ (fun w ρ1 p => by
    (try dsimp only at p); (try dsimp only)
    split
    · rename_i ds ed
      rw [ed] at p
      obtain ⟨kss, e, few, kk⟩ := p
      exact ⟨kss, e, few, fun n => k _ _ (kk n)⟩
    · rename_i hno
      split at p
      · rename_i ds ed
        exact (hno _ ed).elim
      · exact p) q
end
end DL

namespace Lw
/-! ### the generator x -> 48271 x mod 2^31 - 1 meets each number -/
def gp : Nat := 2147483647
def gg : Nat := 48271
/-- an injective map of the numbers below m into themselves meets each one -/
theorem inj_surj : ∀ (m : Nat) (f : Nat → Nat), (∀ i, i < m → f i < m) → (∀ i j, i < m → j < m → f i = f j → i = j) → ∀ y, y < m → ∃ i, i < m ∧ f i = y
  | 0, _, _, _, y, h => absurd h (Nat.not_lt_zero _)
  | m + 1, f, hf, hi, y, hy => by
    -- f with the place of m put out of the way
    let f' : Nat → Nat := fun i => if f i = m then f m else f i
    have h1 : ∀ i, i < m → f' i < m := fun i h => by
      show (if f i = m then f m else f i) < m
      by_cases e : f i = m
      · rw [if_pos e]
        have a := hf m (Nat.lt_succ_self m)
        have b : f m ≠ m := fun z => by have := hi i m (by omega) (by omega) (e.trans z.symm); omega
        omega
      · rw [if_neg e]
        have := hf i (by omega)
        omega
    have h2 : ∀ i j, i < m → j < m → f' i = f' j → i = j := fun i j a b e => by
      have e : (if f i = m then f m else f i) = (if f j = m then f m else f j) := e
      by_cases e1 : f i = m <;> by_cases e2 : f j = m
      · exact hi i j (by omega) (by omega) (e1.trans e2.symm)
      · rw [if_pos e1, if_neg e2] at e
        have := hi m j (by omega) (by omega) e
        omega
      · rw [if_neg e1, if_pos e2] at e
        have := hi i m (by omega) (by omega) e
        omega
      · rw [if_neg e1, if_neg e2] at e
        exact hi i j (by omega) (by omega) e
    have prv := inj_surj m f' h1 h2
    by_cases hm : f m = y
    · exact ⟨m, Nat.lt_succ_self m, hm⟩
    · by_cases hy2 : y = m
      · -- y = m: some i has f i = m, or f stays below m and misses f m
        subst hy2
        have hfm : f y < y := by have := hf y (Nat.lt_succ_self y); omega
        obtain ⟨i, a, b⟩ := prv (f y) hfm
        have b : (if f i = y then f y else f i) = f y := b
        by_cases e : f i = y
        · exact ⟨i, by omega, e⟩
        · rw [if_neg e] at b
          have := hi i y (by omega) (by omega) b
          omega
      · obtain ⟨i, a, b⟩ := prv y (by omega)
        have b : (if f i = m then f m else f i) = y := b
        by_cases e : f i = m
        · rw [if_pos e] at b
          exact absurd b hm
        · rw [if_neg e] at b
          exact ⟨i, by omega, b⟩
/-- powers by squares -/
def pmod (m : Nat) : Nat → Nat → Nat → Nat
  | 0, _, _ => 1 % m
  | k + 1, b, e => if e = 0 then 1 % m else if e % 2 = 1 then b * pmod m k (b * b % m) (e / 2) % m else pmod m k (b * b % m) (e / 2)
theorem pmod_eq (m : Nat) : ∀ (k b e : Nat), e < 2 ^ k → pmod m k b e = b ^ e % m
  | 0, b, e, h => by
    have : e = 0 := by simpa using h
    subst this
    rfl
  | k + 1, b, e, h => by
    unfold pmod
    by_cases e0 : e = 0
    · subst e0
      rw [if_pos rfl]
      rfl
    · rw [if_neg e0]
      have hk : e / 2 < 2 ^ k := by rw [Nat.pow_succ] at h; omega
      have ih := pmod_eq m k (b * b % m) (e / 2) hk
      have pw : (b * b % m) ^ (e / 2) % m = b ^ (2 * (e / 2)) % m := by
        rw [← Nat.pow_mod, Nat.pow_mul, Nat.pow_two]
      by_cases e1 : e % 2 = 1
      · rw [if_pos e1, ih, pw, Nat.mul_mod_mod]
        have : b ^ e = b * b ^ (2 * (e / 2)) := by
          rw [← Nat.pow_succ']
          congr 1
          omega
        rw [this]
      · rw [if_neg e1, ih, pw]
        have : 2 * (e / 2) = e := by omega
        rw [this]
theorem gg_cop : Nat.gcd gp gg = 1 := by decide +kernel
theorem pw_cop (n : Nat) : Nat.gcd gp (gg ^ n) = 1 := by
  have : Nat.Coprime gp gg := gg_cop
  exact Nat.Coprime.pow_right n this
theorem cancel {a x y : Nat} (h : Nat.gcd gp a = 1) (e : a * x % gp = a * y % gp) : x % gp = y % gp := by
  have key : ∀ {x y : Nat}, x ≤ y → a * x % gp = a * y % gp → x % gp = y % gp := fun {x y} hle e => by
    have d : gp ∣ a * (y - x) := by
      rw [Nat.mul_sub]
      exact (Nat.dvd_iff_mod_eq_zero).mpr (Nat.sub_mod_eq_zero_of_mod_eq e.symm)
    have d2 : gp ∣ y - x := Nat.Coprime.dvd_of_dvd_mul_left h d
    obtain ⟨c, hc⟩ := d2
    have : y = x + gp * c := by omega
    rw [this, Nat.add_mul_mod_self_left]
  rcases Nat.le_total x y with h1 | h1
  · exact key h1 e
  · exact (key h1 e.symm).symm
/-- exponents with power 1 -/
def One (k : Nat) : Prop := gg ^ k % gp = 1
theorem one_gcd : ∀ (n a b : Nat), a + b ≤ n → One a → One b → One (Nat.gcd a b) := by
  intro n
  induction n with
  | zero =>
    intro a b h ha hb
    have : a = 0 := by omega
    subst this
    rw [Nat.gcd_zero_left]; exact hb
  | succ n ih =>
    intro a b h ha hb
    by_cases a0 : a = 0
    · subst a0; rw [Nat.gcd_zero_left]; exact hb
    by_cases b0 : b = 0
    · subst b0; rw [Nat.gcd_zero_right]; exact ha
    have sub : ∀ {x y : Nat}, x ≤ y → One x → One y → One (y - x) := fun {x y} hle hx hy => by
      have hx : gg ^ x % gp = 1 := hx
      have hy : gg ^ y % gp = 1 := hy
      have e : gg ^ x * gg ^ (y - x) % gp = gg ^ x * 1 % gp := by
        rw [← Nat.pow_add, Nat.add_sub_cancel' hle, hy, Nat.mul_one, hx]
      have := cancel (pw_cop x) e
      show gg ^ (y - x) % gp = 1
      rw [this]
      rfl
    rcases Nat.le_total a b with hl | hl
    · have r := ih a (b - a) (by omega) ha (sub hl ha hb)
      rw [Nat.gcd_sub_self_right hl] at r
      exact r
    · have r := ih (a - b) b (by omega) (sub hl hb ha) hb
      rw [Nat.gcd_sub_self_left hl] at r
      exact r
theorem one_mul {k : Nat} (h : One k) (c : Nat) : One (k * c) := by
  show gg ^ (k * c) % gp = 1
  rw [Nat.pow_mul, Nat.pow_mod, show gg ^ k % gp = 1 from h, Nat.one_pow]
  rfl
def qs : List Nat := [2, 3, 7, 11, 31, 151, 331]
theorem prime_cop {q e : Nat} (hq : ∀ d, d ≤ q → d ∣ q → d = 1 ∨ d = q) (hp : 0 < q) (h : ¬ q ∣ e) : Nat.Coprime q e := by
  rcases hq (Nat.gcd q e) (Nat.le_of_dvd hp (Nat.gcd_dvd_left q e)) (Nat.gcd_dvd_left q e) with h1 | h1
  · exact h1
  · exact absurd (h1 ▸ Nat.gcd_dvd_right q e) h
theorem qs_prime : ∀ q ∈ qs, 0 < q ∧ ∀ d, d ≤ q → d ∣ q → d = 1 ∨ d = q := by decide +kernel
theorem qs_not : ∀ q ∈ qs, pmod gp 32 gg ((gp - 1) / q) ≠ 1 := by decide +kernel
theorem gp_pow : One (gp - 1) := by
  show gg ^ (gp - 1) % gp = 1
  rw [← pmod_eq gp 32 gg (gp - 1) (by decide)]
  decide +kernel
theorem ord {k : Nat} (h : One k) (h0 : 0 < k) : gp - 1 ≤ k := by
  have h1 := one_gcd _ k (gp - 1) (Nat.le_refl _) h gp_pow
  obtain ⟨e, he⟩ := Nat.gcd_dvd_right k (gp - 1)
  have hd : Nat.gcd k (gp - 1) ≤ k := Nat.le_of_dvd h0 (Nat.gcd_dvd_left k (gp - 1))
  generalize Nat.gcd k (gp - 1) = d at h1 he hd
  -- no prime divides e
  have hq : ∀ q ∈ qs, Nat.Coprime q e := fun q hq => by
    obtain ⟨a, b⟩ := qs_prime q hq
    refine prime_cop b a fun ⟨c, hc⟩ => ?_
    have e2 : (gp - 1) / q = d * c := by
      rw [he, hc, show d * (q * c) = q * (d * c) by rw [Nat.mul_left_comm]]
      exact Nat.mul_div_cancel_left _ a
    have := one_mul h1 c
    rw [← e2] at this
    have hlt : (gp - 1) / q < 2 ^ 32 := Nat.lt_of_le_of_lt (Nat.div_le_self _ _) (by decide)
    exact qs_not q hq (by rw [pmod_eq gp 32 gg _ hlt]; exact this)
  have f : gp - 1 = 2 * (3 * (3 * (7 * (11 * (31 * (151 * 331)))))) := by decide
  have all : Nat.Coprime (gp - 1) e := by
    rw [f]
    have h2 := hq 2 (by decide)
    have h3 := hq 3 (by decide)
    have h7 := hq 7 (by decide)
    have h11 := hq 11 (by decide)
    have h31 := hq 31 (by decide)
    have h151 := hq 151 (by decide)
    have h331 := hq 331 (by decide)
    exact Nat.Coprime.mul_left h2 (Nat.Coprime.mul_left h3 (Nat.Coprime.mul_left h3 (Nat.Coprime.mul_left h7 (Nat.Coprime.mul_left h11 (Nat.Coprime.mul_left h31 (Nat.Coprime.mul_left h151 h331))))))
  have e1 : e = 1 := by
    have : e ∣ gp - 1 := ⟨d, by rw [he, Nat.mul_comm]⟩
    have := Nat.Coprime.eq_one_of_dvd (Nat.Coprime.symm all) this
    exact this
  rw [e1, Nat.mul_one] at he
  omega
theorem pw_ne (n : Nat) : gg ^ n % gp ≠ 0 := fun h => by
  have d : gp ∣ gg ^ n := Nat.dvd_of_mod_eq_zero h
  have := pw_cop n
  have g : gp ∣ Nat.gcd gp (gg ^ n) := Nat.dvd_gcd (Nat.dvd_refl _) d
  rw [this] at g
  exact absurd (Nat.le_of_dvd (by decide) g) (by decide)
theorem logs (s : Nat) (h1 : 1 ≤ s) (h2 : s < gp) : ∃ a, a < gp - 1 ∧ gg ^ a % gp = s := by
  obtain ⟨a, ha, e⟩ := inj_surj (gp - 1) (fun i => gg ^ i % gp - 1) (fun i _ => by
      have a := Nat.mod_lt (gg ^ i) (show 0 < gp by decide)
      have b := pw_ne i
      have c : gp = 2147483647 := rfl
      omega) (fun i j hi hj e => by
      have e : gg ^ i % gp - 1 = gg ^ j % gp - 1 := e
      have b1 := pw_ne i
      have b2 := pw_ne j
      have e : gg ^ i % gp = gg ^ j % gp := by omega
      have key : ∀ {i j : Nat}, i < j → j < gp - 1 → gg ^ i % gp = gg ^ j % gp → False := fun {i j} hij hj e => by
        have e2 : gg ^ i * 1 % gp = gg ^ i * gg ^ (j - i) % gp := by
          rw [← Nat.pow_add, Nat.add_sub_cancel' (by omega), Nat.mul_one]
          exact e
        have := cancel (pw_cop i) e2
        have o : One (j - i) := by
          show gg ^ (j - i) % gp = 1
          rw [← this]
          rfl
        have := ord o (by omega)
        omega
      rcases Nat.lt_trichotomy i j with h | h | h
      · exact (key h hj e).elim
      · exact h
      · exact (key h hi e.symm).elim) (s - 1) (by omega)
  have b := pw_ne a
  exact ⟨a, ha, by omega⟩
/-- from each state the generator comes, by double steps, to 1 or to 48271 -/
theorem meets (s : Nat) (h1 : 1 ≤ s) (h2 : s < gp) : ∃ n, gg ^ (2 * n) * s % gp = 1 ∨ gg ^ (2 * n) * s % gp = gg := by
  obtain ⟨a, ha, e⟩ := logs s h1 h2
  have c : gp - 1 = 2147483646 := rfl
  by_cases ev : a % 2 = 0
  · refine ⟨(gp - 1 - a) / 2, .inl ?_⟩
    have q : 2 * ((gp - 1 - a) / 2) = gp - 1 - a := by omega
    rw [q, ← e, Nat.mul_mod_mod, ← Nat.pow_add, Nat.sub_add_cancel (by omega)]
    exact gp_pow
  · refine ⟨(gp - a) / 2, .inr ?_⟩
    have c2 : gp = 2147483647 := rfl
    have q : 2 * ((gp - a) / 2) = gp - a := by omega
    rw [q, ← e, Nat.mul_mod_mod, ← Nat.pow_add, Nat.sub_add_cancel (by omega)]
    have e3 : ∀ m n : Nat, m = n + 1 → gg ^ m = gg ^ n * gg := fun m n h => by rw [h, Nat.pow_succ]
    rw [e3 gp (gp - 1) (by decide), Nat.mul_mod, show gg ^ (gp - 1) % gp = 1 from gp_pow]
    decide
end Lw

namespace Lw
open PySem L2 DL
/-! ### sizes -/
structure Sz (n : Nat) (x : Int) : Prop where
  lt : x.natAbs < 2 ^ n
theorem Sz.mono {n m : Nat} {x : Int} (h : Sz n x) (k : n ≤ m) : Sz m x := ⟨Nat.lt_of_lt_of_le h.lt (Nat.pow_le_pow_right (by decide) k)⟩
theorem Sz.mul {n m : Nat} {x y : Int} (h : Sz n x) (k : Sz m y) : Sz (n + m) (x * y) := by
  refine ⟨?_⟩
  rw [Int.natAbs_mul, Nat.pow_add]
  exact Nat.mul_lt_mul'' h.lt k.lt
theorem two_le (n : Nat) : 1 ≤ 2 ^ n := Nat.one_le_two_pow
theorem Sz.add {n m : Nat} {x y : Int} (h : Sz n x) (k : Sz m y) : Sz (max n m + 1) (x + y) := by
  refine ⟨?_⟩
  have h1 : x.natAbs < 2 ^ max n m := Nat.lt_of_lt_of_le h.lt (Nat.pow_le_pow_right (by decide) (Nat.le_max_left _ _))
  have h2 : y.natAbs < 2 ^ max n m := Nat.lt_of_lt_of_le k.lt (Nat.pow_le_pow_right (by decide) (Nat.le_max_right _ _))
  rw [Nat.pow_succ]
  have := Int.natAbs_add_le x y
  omega
theorem Sz.neg {n : Nat} {x : Int} (h : Sz n x) : Sz n (-x) := by
  refine ⟨?_⟩
  rw [Int.natAbs_neg]; exact h.lt
theorem Sz.sub {n m : Nat} {x y : Int} (h : Sz n x) (k : Sz m y) : Sz (max n m + 1) (x - y) := by
  rw [Int.sub_eq_add_neg]
  exact h.add k.neg
theorem Sz.int {n : Nat} {x : Int} (h : x.natAbs < 2 ^ n) : Sz n x := ⟨h⟩
theorem Sz.mo {n m : Nat} {x y : Int} (h : Sz n x) (k : Sz m y) (e : n + m ≤ 900000) : MulOk x y := by
  have l1 : x.natAbs.log2 ≤ n := by
    by_cases n0 : n = 0
    · subst n0
      have : x.natAbs = 0 := by have h : x.natAbs < 1 := h.lt; omega
      rw [this]; exact Nat.le_refl 0
    · exact Nat.le_of_lt (PySem.Flt.log2_lt_of (by omega) h.lt)
  have l2 : y.natAbs.log2 ≤ m := by
    by_cases n0 : m = 0
    · subst n0
      have : y.natAbs = 0 := by have h : y.natAbs < 1 := k.lt; omega
      rw [this]; exact Nat.le_refl 0
    · exact Nat.le_of_lt (PySem.Flt.log2_lt_of (by omega) k.lt)
  exact .inr (show x.natAbs.log2 + y.natAbs.log2 < 1000000 by omega)
theorem log2_mono {a b : Nat} (h : a ≤ b) : a.log2 ≤ b.log2 := by
  by_cases ha : a = 0
  · subst ha; exact Nat.zero_le _
  · exact (Nat.le_log2 (by omega)).mpr (Nat.le_trans ((Nat.le_log2 ha).mp (Nat.le_refl _)) h)
theorem divOk_of {x y : Int} (h : x ≠ 0) (hy : y ≠ 0) (d : x ∣ y) (hs : Sz 9000 y) : DivOk x := by
  refine ⟨h, ?_⟩
  have hle : x.natAbs ≤ y.natAbs := Nat.le_of_dvd (by omega) (Int.natAbs_dvd_natAbs.mpr d)
  exact Nat.lt_of_le_of_lt (log2_mono hle) (PySem.Flt.log2_lt_of (by decide) hs.lt)
/-! ### a row in least terms -/
def gL (ns : List Int) : Nat := ns.foldl (fun g n => Nat.gcd g n.natAbs) 0
def leadL : List Int → Int
  | [] => 0
  | n :: ns => if n = 0 then leadL ns else n
def szL (ns : List Int) : Int := if leadL ns < 0 then 0 - (gL ns : Int) else (gL ns : Int)
def lowL (ns : List Int) : List Int := ns.map fun n => n.fdiv (szL ns)
def sc (k : Int) (ns : List Int) : List Int := ns.map fun n => k * n
theorem gL_dvd (ns : List Int) : ∀ n ∈ ns, (gL ns : Int) ∣ n := by
  have key : ∀ (ns : List Int) (g : Nat), (ns.foldl (fun g n => Nat.gcd g n.natAbs) g ∣ g) ∧ ∀ n ∈ ns, ns.foldl (fun g n => Nat.gcd g n.natAbs) g ∣ n.natAbs := by
    intro ns
    induction ns with
    | nil => exact fun g => ⟨Nat.dvd_refl g, fun n h => by cases h⟩
    | cons m ns ih =>
      intro g
      obtain ⟨a, b⟩ := ih (Nat.gcd g m.natAbs)
      refine ⟨Nat.dvd_trans a (Nat.gcd_dvd_left _ _), fun n hn => ?_⟩
      rcases List.mem_cons.mp hn with e | hn
      · subst e
        exact Nat.dvd_trans a (Nat.gcd_dvd_right _ _)
      · exact b n hn
  intro n hn
  exact Int.natAbs_dvd_natAbs.mp (by rw [Int.natAbs_natCast]; exact (key ns 0).2 n hn)
theorem gL_sc (k : Int) (ns : List Int) : gL (sc k ns) = k.natAbs * gL ns := by
  have key : ∀ (ns : List Int) (g : Nat), (sc k ns).foldl (fun g n => Nat.gcd g n.natAbs) (k.natAbs * g) = k.natAbs * ns.foldl (fun g n => Nat.gcd g n.natAbs) g := by
    intro ns
    induction ns with
    | nil => exact fun g => rfl
    | cons m ns ih =>
      intro g
      show (sc k ns).foldl _ (Nat.gcd (k.natAbs * g) (k * m).natAbs) = k.natAbs * ns.foldl _ (Nat.gcd g m.natAbs)
      rw [Int.natAbs_mul, Nat.gcd_mul_left]
      exact ih _
  have := key ns 0
  rw [Nat.mul_zero] at this
  exact this
theorem lead_sc {k : Int} (hk : k ≠ 0) : ∀ ns : List Int, leadL (sc k ns) = k * leadL ns
  | [] => by show (0 : Int) = k * 0; rw [Int.mul_zero]
  | n :: ns => by
    show (if k * n = 0 then leadL (sc k ns) else k * n) = k * (if n = 0 then leadL ns else n)
    by_cases e : n = 0
    · rw [if_pos e, if_pos (by rw [e, Int.mul_zero])]
      exact lead_sc hk ns
    · rw [if_neg e, if_neg (Int.mul_ne_zero hk e)]
theorem lead_ne {ns : List Int} (h : ∃ n ∈ ns, n ≠ 0) : leadL ns ≠ 0 ∧ leadL ns ∈ ns := by
  induction ns with
  | nil => obtain ⟨n, hn, _⟩ := h; cases hn
  | cons m ns ih =>
    by_cases e : m = 0
    · have : leadL (m :: ns) = leadL ns := by show (if m = 0 then _ else _) = _; rw [if_pos e]
      rw [this]
      obtain ⟨n, hn, n0⟩ := h
      rcases List.mem_cons.mp hn with q | hn
      · exact absurd (q ▸ e) n0
      · obtain ⟨a, b⟩ := ih ⟨n, hn, n0⟩
        exact ⟨a, List.mem_cons_of_mem _ b⟩
    · have : leadL (m :: ns) = m := by show (if m = 0 then _ else _) = _; rw [if_neg e]
      rw [this]
      exact ⟨e, List.mem_cons_self⟩
theorem gL_ne {ns : List Int} (h : ∃ n ∈ ns, n ≠ 0) : (gL ns : Int) ≠ 0 := fun e => by
  obtain ⟨n, hn, n0⟩ := h
  have d := gL_dvd ns n hn
  rw [e] at d
  exact n0 (Int.zero_dvd.mp d)
theorem sz_ne {ns : List Int} (h : ∃ n ∈ ns, n ≠ 0) : szL ns ≠ 0 ∧ ∀ n ∈ ns, szL ns ∣ n := by
  have g0 := gL_ne h
  unfold szL
  split
  · exact ⟨by omega, fun n hn => by rw [Int.zero_sub]; exact Int.neg_dvd.mpr (gL_dvd ns n hn)⟩
  · exact ⟨g0, gL_dvd ns⟩
theorem sz_sc {k : Int} (hk : k ≠ 0) {ns : List Int} (h : ∃ n ∈ ns, n ≠ 0) : szL (sc k ns) = k * szL ns := by
  unfold szL
  rw [lead_sc hk, gL_sc, Int.natCast_mul]
  have l0 := (lead_ne h).1
  rcases Int.lt_or_gt_of_ne hk with hneg | hpos
  · have ek : (k.natAbs : Int) = -k := by omega
    rcases Int.lt_or_gt_of_ne l0 with hl | hl
    · have q : ¬ k * leadL ns < 0 := by have := Int.mul_pos_of_neg_of_neg hneg hl; omega
      rw [if_neg q, if_pos hl, ek]; grind
    · have q : k * leadL ns < 0 := Int.mul_neg_of_neg_of_pos hneg hl
      rw [if_pos q, if_neg (by omega), ek]; grind
  · have ek : (k.natAbs : Int) = k := by omega
    rcases Int.lt_or_gt_of_ne l0 with hl | hl
    · have q : k * leadL ns < 0 := Int.mul_neg_of_pos_of_neg hpos hl
      rw [if_pos q, if_pos hl, ek]; grind
    · have q : ¬ k * leadL ns < 0 := by have := Int.mul_pos hpos hl; omega
      rw [if_neg q, if_neg (by omega), ek]
theorem low_spec {ns : List Int} (h : ∃ n ∈ ns, n ≠ 0) : sc (szL ns) (lowL ns) = ns := by
  obtain ⟨s0, sd⟩ := sz_ne h
  unfold sc lowL
  rw [List.map_map]
  refine (List.map_congr_left fun n hn => ?_).trans (List.map_id ns)
  exact Int.mul_fdiv_cancel' (sd n hn)
theorem low_sc {k : Int} (hk : k ≠ 0) {ns : List Int} (h : ∃ n ∈ ns, n ≠ 0) : lowL (sc k ns) = lowL ns := by
  obtain ⟨s0, sd⟩ := sz_ne h
  unfold lowL
  rw [sz_sc hk h]
  unfold sc
  rw [List.map_map]
  refine List.map_congr_left fun n hn => ?_
  show (k * n).fdiv (k * szL ns) = n.fdiv (szL ns)
  obtain ⟨c, hc⟩ := sd n hn
  generalize szL ns = s at s0 hc
  subst hc
  rw [← Int.mul_assoc, Int.mul_fdiv_cancel_left _ (Int.mul_ne_zero hk s0), Int.mul_fdiv_cancel_left _ s0]
theorem sc_ne {k : Int} {ns : List Int} (h : ∃ n ∈ sc k ns, n ≠ 0) : ∃ n ∈ ns, n ≠ 0 := by
  obtain ⟨n, hn, n0⟩ := h
  obtain ⟨m, hm, e⟩ := List.mem_map.mp hn
  exact ⟨m, hm, fun z => n0 (by rw [← e, z, Int.mul_zero])⟩
theorem low_low {ns : List Int} (h : ∃ n ∈ ns, n ≠ 0) : lowL (lowL ns) = lowL ns := by
  have e := low_spec h
  have h2 : ∃ n ∈ lowL ns, n ≠ 0 := sc_ne (k := szL ns) (by rw [e]; exact h)
  have := low_sc (sz_ne h).1 h2
  rw [e] at this
  exact this.symm
/-! ### triples -/
abbrev T3 := Int × Int × Int
abbrev T9 := T3 × T3 × T3
def e3 (p : T3) : PyData := .tuple [.int p.1, .int p.2.1, .int p.2.2]
def e9 (t : T9) : PyData := .tuple [e3 t.1, e3 t.2.1, e3 t.2.2]
def l3 (p : T3) : List Int := [p.1, p.2.1, p.2.2]
def l9 (t : T9) : List Int := [t.1.1, t.1.2.1, t.1.2.2, t.2.1.1, t.2.1.2.1, t.2.1.2.2, t.2.2.1, t.2.2.2.1, t.2.2.2.2]
def z3 : T3 := (0, 0, 0)
def sm (k : Int) (p : T3) : T3 := (k * p.1, k * p.2.1, k * p.2.2)
def cr (p q : T3) : T3 := (p.2.1 * q.2.2 - p.2.2 * q.2.1, p.2.2 * q.1 - p.1 * q.2.2, p.1 * q.2.1 - p.2.1 * q.1)
def dot (p q : T3) : Int := p.1 * q.1 + p.2.1 * q.2.1 + p.2.2 * q.2.2
def det (p q r : T3) : Int := dot (cr p q) r
def low (p : T3) : T3 := (p.1.fdiv (szL (l3 p)), p.2.1.fdiv (szL (l3 p)), p.2.2.fdiv (szL (l3 p)))
def Z3 (n : Nat) (p : T3) : Prop := Sz n p.1 ∧ Sz n p.2.1 ∧ Sz n p.2.2
theorem e3_inj {p q : T3} (h : e3 p = e3 q) : p = q := by
  obtain ⟨a, b, c⟩ := p
  obtain ⟨d, e, f⟩ := q
  unfold e3 at h
  simp only [PyData.tuple.injEq, List.cons.injEq, PyData.int.injEq] at h
  obtain ⟨h1, h2, h3, _⟩ := h
  rw [h1, h2, h3]
theorem l3_ne {p : T3} (h : p ≠ z3) : ∃ n ∈ l3 p, n ≠ 0 := by
  obtain ⟨a, b, c⟩ := p
  by_cases ha : a = 0
  · by_cases hb : b = 0
    · by_cases hc : c = 0
      · exact absurd (by rw [ha, hb, hc]; rfl) h
      · exact ⟨c, by simp [l3], hc⟩
    · exact ⟨b, by simp [l3], hb⟩
  · exact ⟨a, by simp [l3], ha⟩
theorem l3_low (p : T3) : l3 (low p) = lowL (l3 p) := rfl
theorem l3_sm (k : Int) (p : T3) : l3 (sm k p) = sc k (l3 p) := rfl
theorem l3_inj {p q : T3} (h : l3 p = l3 q) : p = q := by
  obtain ⟨a, b, c⟩ := p
  obtain ⟨d, e, f⟩ := q
  simp only [l3, List.cons.injEq] at h
  obtain ⟨h1, h2, h3, _⟩ := h
  rw [h1, h2, h3]
theorem sm_z (k : Int) : sm k z3 = z3 := by simp [sm, z3]
theorem low3 {p : T3} (h : p ≠ z3) : szL (l3 p) ≠ 0 ∧ sm (szL (l3 p)) (low p) = p ∧ low p ≠ z3 := by
  have e : sm (szL (l3 p)) (low p) = p := l3_inj (by rw [l3_sm, l3_low]; exact low_spec (l3_ne h))
  exact ⟨(sz_ne (l3_ne h)).1, e, fun z => h (by rw [← e, z, sm_z])⟩
theorem low_sm {k : Int} (hk : k ≠ 0) {p : T3} (h : p ≠ z3) : low (sm k p) = low p := l3_inj (by rw [l3_low, l3_low, l3_sm]; exact low_sc hk (l3_ne h))
/-- least terms -/
def Lst (p : T3) : Prop := p ≠ z3 ∧ low p = p
theorem lst_low {p : T3} (h : p ≠ z3) : Lst (low p) := ⟨(low3 h).2.2, l3_inj (by rw [l3_low, l3_low]; exact low_low (l3_ne h))⟩
theorem sm_ne {k : Int} (hk : k ≠ 0) {p : T3} (h : p ≠ z3) : sm k p ≠ z3 := fun e => by
  obtain ⟨a, b, c⟩ := p
  simp only [sm, z3, Prod.mk.injEq] at e
  obtain ⟨h1, h2, h3⟩ := e
  have h1 := (Int.mul_eq_zero.mp h1).resolve_left hk
  have h2 := (Int.mul_eq_zero.mp h2).resolve_left hk
  have h3 := (Int.mul_eq_zero.mp h3).resolve_left hk
  subst h1 h2 h3
  exact h rfl
/-- one is a multiple of the other -/
theorem low_par {k m : Int} (hk : k ≠ 0) (hm : m ≠ 0) {p q : T3} (hp : p ≠ z3) (e : sm k p = sm m q) : low p = low q := by
  have hq : q ≠ z3 := fun z => sm_ne hk hp (by rw [e, z, sm_z])
  rw [← low_sm hk hp, e, low_sm hm hq]
theorem low_cr {p q : T3} (hp : p ≠ z3) (hq : q ≠ z3) (h : cr p q = z3) : low p = low q := by
  obtain ⟨a, b, c⟩ := p
  obtain ⟨d, e, f⟩ := q
  simp only [cr, z3, Prod.mk.injEq] at h
  obtain ⟨h1, h2, h3⟩ := h
  by_cases ha : a = 0
  · subst ha
    by_cases hb : b = 0
    · subst hb
      have hc : c ≠ 0 := fun z => hp (by rw [z]; rfl)
      have d0 : d = 0 := (Int.mul_eq_zero.mp (show c * d = 0 by grind)).resolve_left hc
      have e0 : e = 0 := (Int.mul_eq_zero.mp (show c * e = 0 by grind)).resolve_left hc
      have f0 : f ≠ 0 := fun z => hq (by rw [d0, e0, z]; rfl)
      exact low_par f0 hc hp (by simp only [sm, Prod.mk.injEq]; grind)
    · have d0 : d = 0 := (Int.mul_eq_zero.mp (show b * d = 0 by grind)).resolve_left hb
      have e0 : e ≠ 0 := fun z => by
        have : f = 0 := (Int.mul_eq_zero.mp (show b * f = 0 by grind)).resolve_left hb
        exact hq (by rw [d0, z, this]; rfl)
      exact low_par e0 hb hp (by simp only [sm, Prod.mk.injEq]; grind)
  · have d0 : d ≠ 0 := fun z => by
      have e0 : e = 0 := (Int.mul_eq_zero.mp (show a * e = 0 by grind)).resolve_left ha
      have f0 : f = 0 := (Int.mul_eq_zero.mp (show a * f = 0 by grind)).resolve_left ha
      exact hq (by rw [z, e0, f0]; rfl)
    exact low_par d0 ha hp (by simp only [sm, Prod.mk.injEq]; grind)
theorem cr_low {p q : T3} (hp : Lst p) (hq : Lst q) (h : p ≠ q) : cr p q ≠ z3 := fun e => h (by
  have := low_cr hp.1 hq.1 e
  rw [hp.2, hq.2] at this
  exact this)
theorem cr_self (p : T3) : cr p p = z3 := by
  simp only [cr, z3, Prod.mk.injEq]; grind
theorem fdiv_abs (a b : Int) (h : b ∣ a) : (a.fdiv b).natAbs ≤ a.natAbs := by
  by_cases hb : b = 0
  · subst hb
    rw [Int.fdiv_zero]; exact Nat.zero_le _
  · obtain ⟨c, rfl⟩ := h
    rw [Int.mul_fdiv_cancel_left _ hb, Int.natAbs_mul]
    exact Nat.le_mul_of_pos_left _ (by omega)
theorem low_Z {n : Nat} {p : T3} (h : Z3 n p) (hp : p ≠ z3) : Z3 n (low p) := by
  obtain ⟨s0, sd⟩ := sz_ne (l3_ne hp)
  refine ⟨⟨Nat.lt_of_le_of_lt (fdiv_abs _ _ (sd _ (by simp [l3]))) h.1.lt⟩, ⟨Nat.lt_of_le_of_lt (fdiv_abs _ _ (sd _ (by simp [l3]))) h.2.1.lt⟩, ⟨Nat.lt_of_le_of_lt (fdiv_abs _ _ (sd _ (by simp [l3]))) h.2.2.lt⟩⟩
theorem szOk {ns : List Int} (h : ∃ n ∈ ns, n ≠ 0) (hs : ∀ n ∈ ns, Sz 9000 n) : DivOk (szL ns) := by
  obtain ⟨s0, sd⟩ := sz_ne h
  obtain ⟨n, hn, n0⟩ := h
  exact divOk_of s0 n0 (sd n hn) (hs n hn)
/-! ### tables -/
def mv (t : T9) (p : T3) : T3 := (dot t.1 p, dot t.2.1 p, dot t.2.2 p)
def c0 (t : T9) : T3 := (t.1.1, t.2.1.1, t.2.2.1)
def c1 (t : T9) : T3 := (t.1.2.1, t.2.1.2.1, t.2.2.2.1)
def c2 (t : T9) : T3 := (t.1.2.2, t.2.1.2.2, t.2.2.2.2)
def vm (r : T3) (t : T9) : T3 := (dot r (c0 t), dot r (c1 t), dot r (c2 t))
def mm (a b : T9) : T9 := (vm a.1 b, vm a.2.1 b, vm a.2.2 b)
def dt (t : T9) : Int := det t.1 t.2.1 t.2.2
def adj (t : T9) : T9 := ((t.2.1.2.1 * t.2.2.2.2 - t.2.1.2.2 * t.2.2.2.1, t.1.2.2 * t.2.2.2.1 - t.1.2.1 * t.2.2.2.2, t.1.2.1 * t.2.1.2.2 - t.1.2.2 * t.2.1.2.1),
  (t.2.1.2.2 * t.2.2.1 - t.2.1.1 * t.2.2.2.2, t.1.1 * t.2.2.2.2 - t.1.2.2 * t.2.2.1, t.1.2.2 * t.2.1.1 - t.1.1 * t.2.1.2.2),
  (t.2.1.1 * t.2.2.2.1 - t.2.1.2.1 * t.2.2.1, t.1.2.1 * t.2.2.1 - t.1.1 * t.2.2.2.1, t.1.1 * t.2.1.2.1 - t.1.2.1 * t.2.1.1))
def unit (k : Int) : T9 := ((k, 0, 0), (0, k, 0), (0, 0, k))
def sm9 (k : Int) (t : T9) : T9 := (sm k t.1, sm k t.2.1, sm k t.2.2)
def frm (a b c d : T3) : T9 := ((det d b c * a.1, det a d c * b.1, det a b d * c.1), (det d b c * a.2.1, det a d c * b.2.1, det a b d * c.2.1), (det d b c * a.2.2, det a d c * b.2.2, det a b d * c.2.2))
theorem mm_adj (t : T9) : mm t (adj t) = unit (dt t) ∧ mm (adj t) t = unit (dt t) := by
  obtain ⟨⟨a, b, c⟩, ⟨d, e, f⟩, ⟨g, h, i⟩⟩ := t
  constructor <;> (simp only [mm, vm, adj, unit, dt, det, dot, cr, c0, c1, c2, Prod.mk.injEq]; refine ⟨⟨?_, ?_, ?_⟩, ⟨?_, ?_, ?_⟩, ⟨?_, ?_, ?_⟩⟩ <;> grind)
theorem mv_mm (a b : T9) (p : T3) : mv (mm a b) p = mv a (mv b p) := by
  obtain ⟨⟨a1, a2, a3⟩, ⟨a4, a5, a6⟩, ⟨a7, a8, a9⟩⟩ := a
  obtain ⟨⟨b1, b2, b3⟩, ⟨b4, b5, b6⟩, ⟨b7, b8, b9⟩⟩ := b
  obtain ⟨x, y, z⟩ := p
  simp only [mm, mv, vm, dot, c0, c1, c2, Prod.mk.injEq]
  refine ⟨?_, ?_, ?_⟩ <;> grind
theorem mm_mm (a b c : T9) : mm (mm a b) c = mm a (mm b c) := by
  obtain ⟨⟨a1, a2, a3⟩, ⟨a4, a5, a6⟩, ⟨a7, a8, a9⟩⟩ := a
  obtain ⟨⟨b1, b2, b3⟩, ⟨b4, b5, b6⟩, ⟨b7, b8, b9⟩⟩ := b
  obtain ⟨⟨d1, d2, d3⟩, ⟨d4, d5, d6⟩, ⟨d7, d8, d9⟩⟩ := c
  simp only [mm, vm, dot, c0, c1, c2, Prod.mk.injEq]
  refine ⟨⟨?_, ?_, ?_⟩, ⟨?_, ?_, ?_⟩, ⟨?_, ?_, ?_⟩⟩ <;> grind
theorem mm_unit (a : T9) (k : Int) : mm a (unit k) = sm9 k a ∧ mm (unit k) a = sm9 k a := by
  obtain ⟨⟨a1, a2, a3⟩, ⟨a4, a5, a6⟩, ⟨a7, a8, a9⟩⟩ := a
  constructor <;> (simp only [mm, vm, dot, c0, c1, c2, unit, sm9, sm, Prod.mk.injEq]; refine ⟨⟨?_, ?_, ?_⟩, ⟨?_, ?_, ?_⟩, ⟨?_, ?_, ?_⟩⟩ <;> grind)
theorem mv_sm (t : T9) (k : Int) (p : T3) : mv t (sm k p) = sm k (mv t p) ∧ mv (sm9 k t) p = sm k (mv t p) := by
  obtain ⟨⟨a1, a2, a3⟩, ⟨a4, a5, a6⟩, ⟨a7, a8, a9⟩⟩ := t
  obtain ⟨x, y, z⟩ := p
  constructor <;> (simp only [mv, dot, sm9, sm, Prod.mk.injEq]; refine ⟨?_, ?_, ?_⟩ <;> grind)
theorem mv_unit (k : Int) (p : T3) : mv (unit k) p = sm k p := by
  obtain ⟨x, y, z⟩ := p
  simp only [mv, dot, unit, sm, Prod.mk.injEq]
  refine ⟨?_, ?_, ?_⟩ <;> grind
theorem mm_sm (k m : Int) (a b : T9) : mm (sm9 k a) (sm9 m b) = sm9 (k * m) (mm a b) := by
  obtain ⟨⟨a1, a2, a3⟩, ⟨a4, a5, a6⟩, ⟨a7, a8, a9⟩⟩ := a
  obtain ⟨⟨b1, b2, b3⟩, ⟨b4, b5, b6⟩, ⟨b7, b8, b9⟩⟩ := b
  simp only [mm, vm, dot, c0, c1, c2, sm9, sm, Prod.mk.injEq]
  refine ⟨⟨?_, ?_, ?_⟩, ⟨?_, ?_, ?_⟩, ⟨?_, ?_, ?_⟩⟩ <;> grind
theorem frm_dt (a b c d : T3) : dt (frm a b c d) = det d b c * det a d c * det a b d * det a b c := by
  obtain ⟨a1, a2, a3⟩ := a
  obtain ⟨b1, b2, b3⟩ := b
  obtain ⟨c1, c2, c3⟩ := c
  generalize e1 : det d (b1, b2, b3) (c1, c2, c3) = w0
  generalize e2 : det (a1, a2, a3) d (c1, c2, c3) = w1
  generalize e3 : det (a1, a2, a3) (b1, b2, b3) d = w2
  simp only [frm, e1, e2, e3]
  simp only [dt, det, dot, cr]
  grind
theorem frm_mv (a b c d : T3) : mv (frm a b c d) (1, 0, 0) = sm (det d b c) a ∧ mv (frm a b c d) (0, 1, 0) = sm (det a d c) b ∧ mv (frm a b c d) (0, 0, 1) = sm (det a b d) c ∧ mv (frm a b c d) (1, 1, 1) = sm (det a b c) d := by
  obtain ⟨a1, a2, a3⟩ := a
  obtain ⟨b1, b2, b3⟩ := b
  obtain ⟨x1, x2, x3⟩ := c
  obtain ⟨d1, d2, d3⟩ := d
  refine ⟨?_, ?_, ?_, ?_⟩ <;> (simp only [mv, frm, det, dot, cr, sm, Prod.mk.injEq]; refine ⟨?_, ?_, ?_⟩ <;> grind)
end Lw

namespace Lw
open PySem L2 DL
theorem cr_cr (p q r : T3) : cr (cr p q) (cr p r) = sm (det p q r) p := by
  obtain ⟨a, b, c⟩ := p
  obtain ⟨d, e, f⟩ := q
  obtain ⟨g, h, i⟩ := r
  simp only [cr, det, dot, sm, Prod.mk.injEq]
  refine ⟨?_, ?_, ?_⟩ <;> grind
theorem cr_sm (k m : Int) (p q : T3) : cr (sm k p) (sm m q) = sm (k * m) (cr p q) := by
  obtain ⟨a, b, c⟩ := p
  obtain ⟨d, e, f⟩ := q
  simp only [cr, sm, Prod.mk.injEq]
  refine ⟨?_, ?_, ?_⟩ <;> grind
theorem sm_sm (k m : Int) (p : T3) : sm k (sm m p) = sm (k * m) p := by
  obtain ⟨a, b, c⟩ := p
  simp only [sm, Prod.mk.injEq]
  refine ⟨?_, ?_, ?_⟩ <;> grind
theorem det_sm (k m n : Int) (p q r : T3) : det (sm k p) (sm m q) (sm n r) = k * m * n * det p q r := by
  obtain ⟨a, b, c⟩ := p
  obtain ⟨d, e, f⟩ := q
  obtain ⟨g, h, i⟩ := r
  simp only [cr, det, dot, sm]
  grind
theorem dot_sm (k : Int) (p q : T3) : dot p (sm k q) = k * dot p q := by
  obtain ⟨a, b, c⟩ := p
  obtain ⟨d, e, f⟩ := q
  simp only [dot, sm]
  grind
theorem dot_cr (p q : T3) : dot p (cr p q) = 0 ∧ dot q (cr p q) = 0 := by
  obtain ⟨a, b, c⟩ := p
  obtain ⟨d, e, f⟩ := q
  simp only [dot, cr]
  constructor <;> grind
theorem dot_comm (p q : T3) : dot p q = dot q p := by
  obtain ⟨a, b, c⟩ := p
  obtain ⟨d, e, f⟩ := q
  simp only [dot]
  grind
theorem det_perm (p q r : T3) : det q p r = - det p q r ∧ det p r q = - det p q r ∧ det r p q = det p q r ∧ det q r p = det p q r := by
  obtain ⟨a, b, c⟩ := p
  obtain ⟨d, e, f⟩ := q
  obtain ⟨g, h, i⟩ := r
  simp only [cr, det, dot]
  refine ⟨?_, ?_, ?_, ?_⟩ <;> grind
theorem sm_one (p : T3) : sm 1 p = p := by
  obtain ⟨a, b, c⟩ := p
  simp only [sm, Int.one_mul]
/-- a line of two points -/
theorem inc_low {p q : T3} (h : cr p q ≠ z3) : dot p (low (cr p q)) = 0 ∧ dot q (low (cr p q)) = 0 := by
  obtain ⟨s0, e, _⟩ := low3 h
  obtain ⟨h1, h2⟩ := dot_cr p q
  rw [← e, dot_sm] at h1 h2
  exact ⟨(Int.mul_eq_zero.mp h1).resolve_left s0, (Int.mul_eq_zero.mp h2).resolve_left s0⟩
theorem inc_det {p q r : T3} (h : cr p q ≠ z3) : dot r (low (cr p q)) = 0 ↔ det p q r = 0 := by
  obtain ⟨s0, e, _⟩ := low3 h
  have e2 : det p q r = szL (l3 (cr p q)) * dot r (low (cr p q)) := by
    rw [← dot_sm, e]
    show dot (cr p q) r = _
    exact dot_comm _ _
  rw [e2]
  exact ⟨fun z => by rw [z, Int.mul_zero], fun z => (Int.mul_eq_zero.mp z).resolve_left s0⟩
/-- two lines through a point meet there -/
theorem meet_back {p q r : T3} (hp : Lst p) (h1 : cr p q ≠ z3) (h2 : cr p r ≠ z3) (h3 : low (cr p r) ≠ low (cr p q)) : cr (low (cr p q)) (low (cr p r)) ≠ z3 ∧ low (cr (low (cr p q)) (low (cr p r))) = p := by
  have n := cr_low (lst_low h1) (lst_low h2) (fun z => h3 z.symm)
  obtain ⟨s1, e1, _⟩ := low3 h1
  obtain ⟨s2, e2, _⟩ := low3 h2
  refine ⟨n, ?_⟩
  have e : sm (szL (l3 (cr p q)) * szL (l3 (cr p r))) (cr (low (cr p q)) (low (cr p r))) = sm (det p q r) p := by rw [← cr_sm, e1, e2, cr_cr]
  have s12 := Int.mul_ne_zero s1 s2
  have d0 : det p q r ≠ 0 := fun z => by
    rw [z] at e
    refine sm_ne s12 n (e.trans ?_)
    obtain ⟨a, b, c⟩ := p
    simp [sm, z3]
  rw [low_par s12 d0 n e, hp.2]
/-! ### the table that brings four points to four -/
structure GP (a b c d : T3) : Prop where
  la : Lst a
  lb : Lst b
  lc : Lst c
  ld : Lst d
  abc : det a b c ≠ 0
  abd : det a b d ≠ 0
  acd : det a c d ≠ 0
  bcd : det b c d ≠ 0
variable {a b c d a' b' c' d' : T3}
theorem GP.w (g : GP a b c d) : det d b c ≠ 0 ∧ det a d c ≠ 0 := by
  refine ⟨by rw [(det_perm b c d).2.2.1]; exact g.bcd, ?_⟩
  rw [(det_perm a c d).2.1]
  have := g.acd
  omega
theorem GP.dt (g : GP a b c d) : dt (frm a b c d) ≠ 0 := by
  rw [frm_dt]
  exact Int.mul_ne_zero (Int.mul_ne_zero (Int.mul_ne_zero g.w.1 g.w.2) g.abd) g.abc
theorem GP.frame (g : GP a b c d) : low (mv (frm a b c d) (1, 0, 0)) = a ∧ low (mv (frm a b c d) (0, 1, 0)) = b ∧ low (mv (frm a b c d) (0, 0, 1)) = c ∧ low (mv (frm a b c d) (1, 1, 1)) = d := by
  obtain ⟨h1, h2, h3, h4⟩ := frm_mv a b c d
  refine ⟨?_, ?_, ?_, ?_⟩
  · rw [h1, low_sm g.w.1 g.la.1, g.la.2]
  · rw [h2, low_sm g.w.2 g.lb.1, g.lb.2]
  · rw [h3, low_sm g.abd g.lc.1, g.lc.2]
  · rw [h4, low_sm g.abc g.ld.1, g.ld.2]
theorem GP.frame_ne (g : GP a b c d) : mv (frm a b c d) (1, 0, 0) ≠ z3 ∧ mv (frm a b c d) (0, 1, 0) ≠ z3 ∧ mv (frm a b c d) (0, 0, 1) ≠ z3 ∧ mv (frm a b c d) (1, 1, 1) ≠ z3 := by
  obtain ⟨h1, h2, h3, h4⟩ := frm_mv a b c d
  exact ⟨by rw [h1]; exact sm_ne g.w.1 g.la.1, by rw [h2]; exact sm_ne g.w.2 g.lb.1, by rw [h3]; exact sm_ne g.abd g.lc.1, by rw [h4]; exact sm_ne g.abc g.ld.1⟩
def low9 (t : T9) : T9 := ((t.1.1.fdiv (szL (l9 t)), t.1.2.1.fdiv (szL (l9 t)), t.1.2.2.fdiv (szL (l9 t))), (t.2.1.1.fdiv (szL (l9 t)), t.2.1.2.1.fdiv (szL (l9 t)), t.2.1.2.2.fdiv (szL (l9 t))), (t.2.2.1.fdiv (szL (l9 t)), t.2.2.2.1.fdiv (szL (l9 t)), t.2.2.2.2.fdiv (szL (l9 t))))
theorem l9_low (t : T9) : l9 (low9 t) = lowL (l9 t) := rfl
theorem l9_inj {p q : T9} (h : l9 p = l9 q) : p = q := by
  obtain ⟨⟨a1, a2, a3⟩, ⟨a4, a5, a6⟩, ⟨a7, a8, a9⟩⟩ := p
  obtain ⟨⟨b1, b2, b3⟩, ⟨b4, b5, b6⟩, ⟨b7, b8, b9⟩⟩ := q
  simp only [l9, List.cons.injEq] at h
  obtain ⟨h1, h2, h3, h4, h5, h6, h7, h8, h9, _⟩ := h
  rw [h1, h2, h3, h4, h5, h6, h7, h8, h9]
theorem low9_spec {t : T9} (h : ∃ n ∈ l9 t, n ≠ 0) : szL (l9 t) ≠ 0 ∧ sm9 (szL (l9 t)) (low9 t) = t := ⟨(sz_ne h).1, l9_inj (by
  show sc _ (l9 (low9 t)) = _
  rw [l9_low]
  exact low_spec h)⟩
theorem dt_mm (a b : T9) : dt (mm a b) = dt a * dt b := by
  obtain ⟨⟨a1, a2, a3⟩, ⟨a4, a5, a6⟩, ⟨a7, a8, a9⟩⟩ := a
  obtain ⟨⟨b1, b2, b3⟩, ⟨b4, b5, b6⟩, ⟨b7, b8, b9⟩⟩ := b
  simp only [dt, det, dot, cr, mm, vm, c0, c1, c2]
  grind
theorem dt_unit (k : Int) : dt (unit k) = k * k * k := by
  simp only [dt, det, dot, cr, unit]
  grind
theorem l9_ne {t : T9} {p : T3} (h : mv t p ≠ z3) : ∃ n ∈ l9 t, n ≠ 0 := by
  refine Classical.byContradiction fun hn => h ?_
  have z : ∀ n ∈ l9 t, n = 0 := fun n hn' => Classical.byContradiction fun h0 => hn ⟨n, hn', h0⟩
  obtain ⟨⟨a1, a2, a3⟩, ⟨a4, a5, a6⟩, ⟨a7, a8, a9⟩⟩ := t
  have e1 := z a1 (by simp [l9])
  have e2 := z a2 (by simp [l9])
  have e3 := z a3 (by simp [l9])
  have e4 := z a4 (by simp [l9])
  have e5 := z a5 (by simp [l9])
  have e6 := z a6 (by simp [l9])
  have e7 := z a7 (by simp [l9])
  have e8 := z a8 (by simp [l9])
  have e9 := z a9 (by simp [l9])
  subst e1 e2 e3 e4 e5 e6 e7 e8 e9
  simp [mv, dot, z3]
/-- the table ahead of its least terms -/
def mvM (f g : T9) : T9 := mm g (adj f)
theorem mv_step {f g : T9} {e p q : T3} {k m : Int} (h1 : mv f e = sm k p) (h2 : mv g e = sm m q) : sm k (mv (mvM f g) p) = sm (dt f * m) q := by
  rw [← (mv_sm _ _ _).1, ← h1]
  show mv (mm g (adj f)) (mv f e) = _
  rw [mv_mm, ← mv_mm (adj f) f, (mm_adj f).2, mv_unit, (mv_sm _ _ _).1, h2, sm_sm]
theorem mv_goes {f g : T9} {e p q : T3} {k m : Int} (h1 : mv f e = sm k p) (h2 : mv g e = sm m q) (hk : k ≠ 0) (hm : m ≠ 0) (hd : dt f ≠ 0) (hq : Lst q) : mv (mvM f g) p ≠ z3 ∧ mv (low9 (mvM f g)) p ≠ z3 ∧ low (mv (low9 (mvM f g)) p) = q := by
  have e1 := mv_step h1 h2
  have dm := Int.mul_ne_zero hd hm
  have n : mv (mvM f g) p ≠ z3 := fun z => sm_ne dm hq.1 (by rw [← e1, z, sm_z])
  obtain ⟨s0, e2⟩ := low9_spec (l9_ne n)
  have e3 : sm (szL (l9 (mvM f g))) (mv (low9 (mvM f g)) p) = mv (mvM f g) p := by rw [← (mv_sm _ _ _).2, e2]
  have n2 : mv (low9 (mvM f g)) p ≠ z3 := fun z => n (by rw [← e3, z, sm_z])
  refine ⟨n, n2, ?_⟩
  rw [← low_sm s0 n2, e3, low_par hk dm n e1, hq.2]
theorem mov_ok (u : GP a b c d) (v : GP a' b' c' d') :
    let M := mvM (frm a b c d) (frm a' b' c' d')
    (∃ n ∈ l9 M, n ≠ 0) ∧ (mv (low9 M) a ≠ z3 ∧ mv (low9 M) b ≠ z3 ∧ mv (low9 M) c ≠ z3 ∧ mv (low9 M) d ≠ z3) ∧ low (mv (low9 M) a) = a' ∧ low (mv (low9 M) b) = b' ∧ low (mv (low9 M) c) = c' ∧ low (mv (low9 M) d) = d' := by
  obtain ⟨h1, h2, h3, h4⟩ := frm_mv a b c d
  obtain ⟨k1, k2, k3, k4⟩ := frm_mv a' b' c' d'
  have ra := mv_goes h1 k1 u.w.1 v.w.1 u.dt v.la
  have rb := mv_goes h2 k2 u.w.2 v.w.2 u.dt v.lb
  have rc := mv_goes h3 k3 u.abd v.abd u.dt v.lc
  have rd := mv_goes h4 k4 u.abc v.abc u.dt v.ld
  exact ⟨l9_ne ra.1, ⟨ra.2.1, rb.2.1, rc.2.1, rd.2.1⟩, ra.2.2, rb.2.2, rc.2.2, rd.2.2⟩
theorem sm9_sm9 (k m : Int) (t : T9) : sm9 k (sm9 m t) = sm9 (k * m) t := by
  show (sm _ _, sm _ _, sm _ _) = _
  rw [show (sm9 m t).1 = sm m t.1 from rfl, show (sm9 m t).2.1 = sm m t.2.1 from rfl, show (sm9 m t).2.2 = sm m t.2.2 from rfl, sm_sm, sm_sm, sm_sm]
  rfl
theorem mov_back {f g : T9} (hf : dt f ≠ 0) (hg : dt g ≠ 0) (h1 : ∃ n ∈ l9 (mvM f g), n ≠ 0) (h2 : ∃ n ∈ l9 (mvM g f), n ≠ 0) :
    ∃ k : Int, k ≠ 0 ∧ mm (low9 (mvM f g)) (low9 (mvM g f)) = unit k ∧ dt (low9 (mvM f g)) ≠ 0 := by
  obtain ⟨s0, e1⟩ := low9_spec h1
  obtain ⟨r0, e2⟩ := low9_spec h2
  have e : mm (mvM f g) (mvM g f) = unit (dt f * dt g) := by
    show mm (mm g (adj f)) (mm f (adj g)) = _
    rw [mm_mm, ← mm_mm (adj f) f, (mm_adj f).2, (mm_unit _ _).2]
    have : mm g (sm9 (dt f) (adj g)) = sm9 (dt f) (mm g (adj g)) := by
      have q := mm_sm 1 (dt f) g (adj g)
      have o : sm9 1 g = g := by
        show (sm 1 g.1, sm 1 g.2.1, sm 1 g.2.2) = g
        rw [sm_one, sm_one, sm_one]
      rw [o, Int.one_mul] at q
      exact q
    rw [this, (mm_adj g).1]
    simp [sm9, sm, unit]
  rw [← e1, ← e2, mm_sm] at e
  generalize hR : mm (low9 (mvM f g)) (low9 (mvM g f)) = R at e
  have sr := Int.mul_ne_zero s0 r0
  generalize szL (l9 (mvM f g)) * szL (l9 (mvM g f)) = s at e sr
  obtain ⟨⟨a1, a2, a3⟩, ⟨a4, a5, a6⟩, ⟨a7, a8, a9⟩⟩ := R
  simp only [sm9, sm, unit, Prod.mk.injEq] at e
  obtain ⟨⟨x1, x2, x3⟩, ⟨x4, x5, x6⟩, ⟨x7, x8, x9⟩⟩ := e
  have z : ∀ {y : Int}, s * y = 0 → y = 0 := fun h => (Int.mul_eq_zero.mp h).resolve_left sr
  have y2 := z x2
  have y3 := z x3
  have y4 := z x4
  have y6 := z x6
  have y7 := z x7
  have y8 := z x8
  have y5 : a5 = a1 := Int.eq_of_mul_eq_mul_left sr (x5.trans x1.symm)
  have y9 : a9 = a1 := Int.eq_of_mul_eq_mul_left sr (x9.trans x1.symm)
  have a0 : a1 ≠ 0 := fun q => by
    rw [q, Int.mul_zero] at x1
    exact Int.mul_ne_zero hf hg x1.symm
  have eu : mm (low9 (mvM f g)) (low9 (mvM g f)) = unit a1 := by
    rw [hR, y2, y3, y4, y5, y6, y7, y8, y9]; rfl
  refine ⟨a1, a0, by rw [← eu]; exact hR.symm, fun z => ?_⟩
  have q := dt_mm (low9 (mvM f g)) (low9 (mvM g f))
  rw [eu, dt_unit, z, Int.zero_mul] at q
  exact Int.mul_ne_zero (Int.mul_ne_zero a0 a0) a0 q
/-! ### cross ratios -/
abbrev P2 := Int × Int
def e2 (p : P2) : PyData := .tuple [.int p.1, .int p.2]
def br (n m : P2) : Int := n.1 * m.2 - n.2 * m.1
def comb (p q : T3) (n : P2) : T3 := (n.1 * p.1 + n.2 * q.1, n.1 * p.2.1 + n.2 * q.2.1, n.1 * p.2.2 + n.2 * q.2.2)
theorem det_comb (p q u : T3) (n m : P2) : det (comb p q n) (comb p q m) u = br n m * det p q u := by
  obtain ⟨a, b, c⟩ := p
  obtain ⟨d, e, f⟩ := q
  obtain ⟨g, h, i⟩ := u
  obtain ⟨x, y⟩ := n
  obtain ⟨z, w⟩ := m
  simp only [det, dot, cr, comb, br]
  grind
theorem br_plu (a b c : P2) : (br a b * c.1 = br a c * b.1 - br b c * a.1) ∧ (br a b * c.2 = br a c * b.2 - br b c * a.2) := by
  obtain ⟨x, y⟩ := a
  obtain ⟨z, w⟩ := b
  obtain ⟨s, t⟩ := c
  simp only [br]
  constructor <;> grind
theorem br_zero {a b c : P2} (h : br a b ≠ 0) (h1 : br a c = 0) (h2 : br b c = 0) : c = (0, 0) := by
  obtain ⟨e1, e2⟩ := br_plu a b c
  rw [h1, h2, Int.zero_mul, Int.zero_mul, Int.sub_zero] at e1 e2
  have := (Int.mul_eq_zero.mp e1).resolve_left h
  have := (Int.mul_eq_zero.mp e2).resolve_left h
  exact Prod.ext (by assumption) (by assumption)
theorem cr_comb (p q : T3) (n : P2) : cr p (comb p q n) = sm n.2 (cr p q) ∧ cr (comb p q n) q = sm n.1 (cr p q) := by
  obtain ⟨a, b, c⟩ := p
  obtain ⟨d, e, f⟩ := q
  obtain ⟨x, y⟩ := n
  constructor <;> (simp only [cr, comb, sm, Prod.mk.injEq]; refine ⟨?_, ?_, ?_⟩ <;> grind)
theorem comb_ne {p q : T3} (h : cr p q ≠ z3) {n : P2} (hn : n ≠ (0, 0)) : comb p q n ≠ z3 := fun z => by
  obtain ⟨e1, e2⟩ := cr_comb p q n
  rw [z] at e1 e2
  have a : sm n.2 (cr p q) = z3 := by
    rw [← e1]; simp [cr, z3]
  have b : sm n.1 (cr p q) = z3 := by
    rw [← e2]; simp [cr, z3]
  have a0 : n.2 = 0 := Classical.byContradiction fun q => sm_ne q h a
  have b0 : n.1 = 0 := Classical.byContradiction fun q => sm_ne q h b
  exact hn (Prod.ext b0 a0)
theorem comb_sm (p q : T3) (k : Int) (n : P2) : comb p q (k * n.1, k * n.2) = sm k (comb p q n) := by
  obtain ⟨a, b, c⟩ := p
  obtain ⟨d, e, f⟩ := q
  obtain ⟨x, y⟩ := n
  simp only [comb, sm, Prod.mk.injEq]
  refine ⟨?_, ?_, ?_⟩ <;> grind
theorem mv_comb (t : T9) (p q : T3) (n : P2) : mv t (comb p q n) = comb (mv t p) (mv t q) n := by
  obtain ⟨⟨a1, a2, a3⟩, ⟨a4, a5, a6⟩, ⟨a7, a8, a9⟩⟩ := t
  obtain ⟨a, b, c⟩ := p
  obtain ⟨d, e, f⟩ := q
  obtain ⟨x, y⟩ := n
  simp only [comb, mv, dot, Prod.mk.injEq]
  refine ⟨?_, ?_, ?_⟩ <;> grind
theorem det_mv (t : T9) (p q r : T3) : det (mv t p) (mv t q) (mv t r) = dt t * det p q r := by
  obtain ⟨⟨a1, a2, a3⟩, ⟨a4, a5, a6⟩, ⟨a7, a8, a9⟩⟩ := t
  obtain ⟨a, b, c⟩ := p
  obtain ⟨d, e, f⟩ := q
  obtain ⟨g, h, i⟩ := r
  simp only [det, dot, cr, mv, dt]
  grind
/-- a unit beside a line -/
theorem unit_beside {p q : T3} (h : cr p q ≠ z3) : det p q (1, 0, 0) ≠ 0 ∨ det p q (0, 1, 0) ≠ 0 ∨ det p q (0, 0, 1) ≠ 0 := by
  refine Classical.byContradiction fun hn => h ?_
  have e1 : det p q (1, 0, 0) = 0 := Classical.byContradiction fun z => hn (.inl z)
  have e2 : det p q (0, 1, 0) = 0 := Classical.byContradiction fun z => hn (.inr (.inl z))
  have e3 : det p q (0, 0, 1) = 0 := Classical.byContradiction fun z => hn (.inr (.inr z))
  simp only [det, dot] at e1 e2 e3
  refine Prod.ext ?_ (Prod.ext ?_ ?_)
  · show (cr p q).1 = 0; omega
  · show (cr p q).2.1 = 0; omega
  · show (cr p q).2.2 = 0; omega
theorem cr_mv {t : T9} (ht : dt t ≠ 0) {p q : T3} (h : cr p q ≠ z3) : cr (mv t p) (mv t q) ≠ z3 := fun z => by
  have key : ∀ u, det p q u = 0 := fun u => by
    have e := det_mv t p q u
    have : det (mv t p) (mv t q) (mv t u) = 0 := by
      show dot (cr (mv t p) (mv t q)) _ = 0
      rw [z]; simp [dot, z3]
    rw [this] at e
    exact (Int.mul_eq_zero.mp e.symm).resolve_left ht
  rcases unit_beside h with a | a | a
  · exact a (key _)
  · exact a (key _)
  · exact a (key _)
def nr (o u : Int) : P2 := (o.fdiv (szL [u, o]), u.fdiv (szL [u, o]))
theorem nr_low (o u : Int) : lowL [u, o] = [(nr o u).2, (nr o u).1] := rfl
theorem nr_sc {k o u : Int} (hk : k ≠ 0) (h : ¬ (o = 0 ∧ u = 0)) : nr (k * o) (k * u) = nr o u := by
  have hz : ∃ n ∈ [u, o], n ≠ 0 := by
    by_cases hu : u = 0
    · exact ⟨o, by simp, fun z => h ⟨z, hu⟩⟩
    · exact ⟨u, by simp, hu⟩
  have e := low_sc hk hz
  rw [show sc k [u, o] = [k * u, k * o] from rfl, nr_low, nr_low] at e
  simp only [List.cons.injEq] at e
  exact Prod.ext e.2.1 e.1
theorem low_facts {ns : List Int} (h : ∃ n ∈ ns, n ≠ 0) : 0 < leadL (lowL ns) ∧ gL (lowL ns) = 1 := by
  have e := low_spec h
  obtain ⟨s0, sd⟩ := sz_ne h
  have h2 : ∃ n ∈ lowL ns, n ≠ 0 := sc_ne (k := szL ns) (by rw [e]; exact h)
  have l1 := lead_sc s0 (lowL ns)
  have g1 := gL_sc (szL ns) (lowL ns)
  rw [e] at l1 g1
  have g0 := gL_ne h
  have sa : (szL ns).natAbs = gL ns := by
    unfold szL; split <;> omega
  have l0 := (lead_ne h2).1
  refine ⟨?_, ?_⟩
  · rcases Int.lt_or_gt_of_ne l0 with hl | hl
    · exfalso
      unfold szL at l1
      split at l1
      · rename_i hneg
        have : 0 < (0 - (gL ns : Int)) * leadL (lowL ns) := Int.mul_pos_of_neg_of_neg (by omega) hl
        omega
      · rename_i hneg
        have : (gL ns : Int) * leadL (lowL ns) < 0 := Int.mul_neg_of_pos_of_neg (by omega) hl
        omega
    · exact hl
  · rw [sa] at g1
    have : gL ns * 1 = gL ns * gL (lowL ns) := by rw [Nat.mul_one]; exact g1
    exact (Nat.eq_of_mul_eq_mul_left (by omega) this).symm
theorem nr_facts {o u : Int} (h : ¬ (o = 0 ∧ u = 0)) : (nr o u).1 * u = (nr o u).2 * o ∧ 0 ≤ (nr o u).2 ∧ ¬ ((nr o u).1 = 0 ∧ (nr o u).2 = 0) ∧ ((nr o u).2 = 0 → (nr o u).1 = 1) ∧ Int.gcd (nr o u).1 (nr o u).2 = 1 := by
  have hz : ∃ n ∈ [u, o], n ≠ 0 := by
    by_cases hu : u = 0
    · exact ⟨o, by simp, fun z => h ⟨z, hu⟩⟩
    · exact ⟨u, by simp, hu⟩
  have e := low_spec hz
  obtain ⟨f1, f2⟩ := low_facts hz
  rw [nr_low] at e f1 f2
  cases hxy : nr o u with
  | mk x y =>
  rw [hxy] at e f1 f2
  simp only [sc, List.map, List.cons.injEq] at e
  obtain ⟨e1, e2, _⟩ := e
  have g : Nat.gcd (Nat.gcd 0 y.natAbs) x.natAbs = 1 := f2
  rw [Nat.gcd_zero_left] at g
  have f1 : 0 < (if y = 0 then (if x = 0 then 0 else x) else y) := f1
  have y0 : 0 ≤ y := by split at f1 <;> omega
  have x1 : y = 0 → x = 1 := fun z => by
    subst z
    rw [if_pos rfl] at f1
    have : x.natAbs = 1 := by
      have g : Nat.gcd 0 x.natAbs = 1 := g
      rw [Nat.gcd_zero_left] at g
      exact g
    split at f1 <;> omega
  refine ⟨?_, y0, fun z => ?_, x1, by show Nat.gcd x.natAbs y.natAbs = 1; rw [Nat.gcd_comm]; exact g⟩
  · show x * u = y * o
    generalize szL [u, o] = s at e1 e2
    rw [← e1, ← e2]; grind
  · have := x1 z.2
    have := z.1
    omega
/-- the cross ratio of points of a line by their numbers -/
structure On (p q : T3) (n : P2) (k : Int) (x : T3) : Prop where
  k0 : k ≠ 0
  n0 : n ≠ (0, 0)
  e : sm k x = comb p q n
def crO (x0 x1 x2 x3 u : T3) : Int := det x0 x2 u * det x1 x3 u
def crU (x0 x1 x2 x3 u : T3) : Int := det x0 x3 u * det x1 x2 u
theorem On.det {p q : T3} {n m : P2} {k l : Int} {x y : T3} (h : On p q n k x) (j : On p q m l y) (u : T3) : k * l * det x y u = br n m * det p q u := by
  rw [← det_comb, ← h.e, ← j.e]
  have := det_sm k l 1 x y u
  rw [sm_one] at this
  rw [this]; grind
theorem ratio_ok {p q : T3} {n0 n1 n2 n3 : P2} {k0 k1 k2 k3 : Int} {x0 x1 x2 x3 u : T3} (h0 : On p q n0 k0 x0) (h1 : On p q n1 k1 x1) (h2 : On p q n2 k2 x2) (h3 : On p q n3 k3 x3)
    (b01 : br n0 n1 ≠ 0) (b02 : br n0 n2 ≠ 0) (b12 : br n1 n2 ≠ 0) (hu : Lw.det x0 x1 u ≠ 0) :
    ¬ (br n0 n2 * br n1 n3 = 0 ∧ br n0 n3 * br n1 n2 = 0) ∧ ¬ (crO x0 x1 x2 x3 u = 0 ∧ crU x0 x1 x2 x3 u = 0) ∧ nr (crO x0 x1 x2 x3 u) (crU x0 x1 x2 x3 u) = nr (br n0 n2 * br n1 n3) (br n0 n3 * br n1 n2) := by
  have d01 := h0.det h1 u
  have d02 := h0.det h2 u
  have d13 := h1.det h3 u
  have d03 := h0.det h3 u
  have d12 := h1.det h2 u
  have D0 : Lw.det p q u ≠ 0 := fun z => by
    rw [z, Int.mul_zero] at d01
    exact Int.mul_ne_zero (Int.mul_ne_zero h0.k0 h1.k0) hu d01
  generalize hD : Lw.det p q u = D at *
  have nz : ¬ (br n0 n2 * br n1 n3 = 0 ∧ br n0 n3 * br n1 n2 = 0) := fun ⟨a, b⟩ => by
    have a := (Int.mul_eq_zero.mp a).resolve_left b02
    have b := (Int.mul_eq_zero.mp b).resolve_right b12
    exact h3.n0 (br_zero b01 b a)
  have kk : k0 * k1 * k2 * k3 ≠ 0 := Int.mul_ne_zero (Int.mul_ne_zero (Int.mul_ne_zero h0.k0 h1.k0) h2.k0) h3.k0
  have DD : D * D ≠ 0 := Int.mul_ne_zero D0 D0
  have eo : (k0 * k1 * k2 * k3) * crO x0 x1 x2 x3 u = (D * D) * (br n0 n2 * br n1 n3) := by
    unfold crO
    have : (k0 * k1 * k2 * k3) * (Lw.det x0 x2 u * Lw.det x1 x3 u) = (k0 * k2 * Lw.det x0 x2 u) * (k1 * k3 * Lw.det x1 x3 u) := by grind
    rw [this, d02, d13]; grind
  have eu : (k0 * k1 * k2 * k3) * crU x0 x1 x2 x3 u = (D * D) * (br n0 n3 * br n1 n2) := by
    unfold crU
    have : (k0 * k1 * k2 * k3) * (Lw.det x0 x3 u * Lw.det x1 x2 u) = (k0 * k3 * Lw.det x0 x3 u) * (k1 * k2 * Lw.det x1 x2 u) := by grind
    rw [this, d03, d12]; grind
  have nz2 : ¬ (crO x0 x1 x2 x3 u = 0 ∧ crU x0 x1 x2 x3 u = 0) := fun ⟨a, b⟩ => nz (by
    rw [a, Int.mul_zero] at eo
    rw [b, Int.mul_zero] at eu
    exact ⟨(Int.mul_eq_zero.mp eo.symm).resolve_left DD, (Int.mul_eq_zero.mp eu.symm).resolve_left DD⟩)
  refine ⟨nz, nz2, ?_⟩
  rw [← nr_sc kk nz2, eo, eu, nr_sc DD nz]
/-- the fourth harmonic point -/
def hrN (n0 n1 n2 : P2) : P2 := (br n2 n1 * n0.1 - br n0 n2 * n1.1, br n2 n1 * n0.2 - br n0 n2 * n1.2)
def hrV (x0 x1 x2 u : T3) : T3 := (det x2 x1 u * x0.1 - det x0 x2 u * x1.1, det x2 x1 u * x0.2.1 - det x0 x2 u * x1.2.1, det x2 x1 u * x0.2.2 - det x0 x2 u * x1.2.2)
theorem br_hr (n0 n1 n2 : P2) : br (hrN n0 n1 n2) n1 = br n2 n1 * br n0 n1 ∧ br n0 (hrN n0 n1 n2) = - (br n0 n2 * br n0 n1) ∧ br n1 (hrN n0 n1 n2) = br n1 n2 * br n0 n1 := by
  obtain ⟨a, b⟩ := n0
  obtain ⟨c, d⟩ := n1
  obtain ⟨e, f⟩ := n2
  simp only [br, hrN]
  refine ⟨?_, ?_, ?_⟩ <;> grind
theorem hr_hr (n0 n1 n2 : P2) : hrN n0 n1 (hrN n0 n1 n2) = ((br n0 n1 * br n0 n1) * n2.1, (br n0 n1 * br n0 n1) * n2.2) := by
  obtain ⟨a, b⟩ := n0
  obtain ⟨c, d⟩ := n1
  obtain ⟨e, f⟩ := n2
  simp only [br, hrN, Prod.mk.injEq]
  refine ⟨?_, ?_⟩ <;> grind
theorem br_swap (n m : P2) : br n m = - br m n := by simp only [br]; grind
theorem hr_ok {p q : T3} {n0 n1 n2 : P2} {k0 k1 k2 : Int} {x0 x1 x2 u : T3} (hpq : cr p q ≠ z3) (h0 : On p q n0 k0 x0) (h1 : On p q n1 k1 x1) (h2 : On p q n2 k2 x2)
    (b01 : br n0 n1 ≠ 0) (b02 : br n0 n2 ≠ 0) (b12 : br n1 n2 ≠ 0) (hu : Lw.det x0 x1 u ≠ 0) :
    hrN n0 n1 n2 ≠ (0, 0) ∧ hrV x0 x1 x2 u ≠ z3 ∧ low (hrV x0 x1 x2 u) = low (comb p q (hrN n0 n1 n2)) := by
  have d01 := h0.det h1 u
  have d02 := h0.det h2 u
  have d21 := h2.det h1 u
  have D0 : Lw.det p q u ≠ 0 := fun z => by
    rw [z, Int.mul_zero] at d01
    exact Int.mul_ne_zero (Int.mul_ne_zero h0.k0 h1.k0) hu d01
  have nz : hrN n0 n1 n2 ≠ (0, 0) := fun z => by
    have e := (br_hr n0 n1 n2).1
    have : br (hrN n0 n1 n2) n1 = 0 := by rw [z]; simp [br]
    rw [this] at e
    refine Int.mul_ne_zero (fun q => b12 ?_) b01 e.symm
    rw [br_swap, q]; rfl
  have kk : k0 * k1 * k2 ≠ 0 := Int.mul_ne_zero (Int.mul_ne_zero h0.k0 h1.k0) h2.k0
  have e : sm (k0 * k1 * k2) (hrV x0 x1 x2 u) = sm (Lw.det p q u) (comb p q (hrN n0 n1 n2)) := by
    have a0 := h0.e
    have a1 := h1.e
    generalize Lw.det p q u = D at *
    generalize h21 : Lw.det x2 x1 u = d2 at *
    generalize h02 : Lw.det x0 x2 u = d1 at *
    generalize hb21 : br n2 n1 = b2 at *
    generalize hb02 : br n0 n2 = b1 at *
    clear d01 hu D0 nz
    obtain ⟨x, y, z⟩ := x0
    obtain ⟨x', y', z'⟩ := x1
    obtain ⟨p1, p2, p3⟩ := p
    obtain ⟨q1, q2, q3⟩ := q
    obtain ⟨m, m'⟩ := n0
    obtain ⟨l, l'⟩ := n1
    simp only [sm, comb, Prod.mk.injEq] at a0 a1
    obtain ⟨a01, a02, a03⟩ := a0
    obtain ⟨a11, a12, a13⟩ := a1
    simp only [hrV, hrN, h21, h02, hb21, hb02, sm, comb, Prod.mk.injEq]
    refine ⟨?_, ?_, ?_⟩
    · have : k0 * k1 * k2 * (d2 * x - d1 * x') = (k2 * k1 * d2) * (k0 * x) - (k0 * k2 * d1) * (k1 * x') := by grind
      rw [this, d21, d02, a01, a11]; grind
    · have : k0 * k1 * k2 * (d2 * y - d1 * y') = (k2 * k1 * d2) * (k0 * y) - (k0 * k2 * d1) * (k1 * y') := by grind
      rw [this, d21, d02, a02, a12]; grind
    · have : k0 * k1 * k2 * (d2 * z - d1 * z') = (k2 * k1 * d2) * (k0 * z) - (k0 * k2 * d1) * (k1 * z') := by grind
      rw [this, d21, d02, a03, a13]; grind
  have nc := comb_ne hpq nz
  have nv : hrV x0 x1 x2 u ≠ z3 := fun z => sm_ne D0 nc (by rw [← e, z, sm_z])
  exact ⟨nz, nv, low_par kk D0 nv e⟩
theorem On.of_comb {p q : T3} (hpq : cr p q ≠ z3) {n : P2} (hn : n ≠ (0, 0)) : On p q n (szL (l3 (comb p q n))) (low (comb p q n)) :=
  ⟨(low3 (comb_ne hpq hn)).1, hn, (low3 (comb_ne hpq hn)).2.1⟩
theorem On.mv {p q : T3} (hpq : cr p q ≠ z3) {t : T9} (ht : dt t ≠ 0) {n : P2} {k : Int} {x : T3} (h : On p q n k x) : Lw.mv t x ≠ z3 ∧ ∃ k', On (Lw.mv t p) (Lw.mv t q) n k' (low (Lw.mv t x)) := by
  have e : sm k (Lw.mv t x) = comb (Lw.mv t p) (Lw.mv t q) n := by rw [← (mv_sm t k x).1, h.e, mv_comb]
  have nc := comb_ne (cr_mv ht hpq) h.n0
  have nz : Lw.mv t x ≠ z3 := fun z => nc (by rw [← e, z, sm_z])
  obtain ⟨s0, e2, _⟩ := low3 nz
  refine ⟨nz, k * szL (l3 (Lw.mv t x)), Int.mul_ne_zero h.k0 s0, h.n0, ?_⟩
  rw [← sm_sm, e2, e]
theorem nr_minus {k : Int} (hk : k ≠ 0) : nr k (-k) = (-1, 1) := by
  have := nr_sc (k := k) (o := 1) (u := -1) hk (by decide)
  rw [Int.mul_one, Int.mul_neg, Int.mul_one] at this
  rw [this]; decide
/-- the ratio of the harmonic points -/
theorem ratio_hr {n0 n1 n2 : P2} (b01 : br n0 n1 ≠ 0) (b02 : br n0 n2 ≠ 0) (b12 : br n1 n2 ≠ 0) : nr (br n0 n2 * br n1 (hrN n0 n1 n2)) (br n0 (hrN n0 n1 n2) * br n1 n2) = (-1, 1) := by
  obtain ⟨h1, h2, h3⟩ := br_hr n0 n1 n2
  rw [h2, h3]
  have e : -(br n0 n2 * br n0 n1) * br n1 n2 = - (br n0 n2 * (br n1 n2 * br n0 n1)) := by grind
  rw [e]
  exact nr_minus (Int.mul_ne_zero b02 (Int.mul_ne_zero b12 b01))
theorem On.ne {p q : T3} (hpq : cr p q ≠ z3) {n m : P2} {k l : Int} {x y : T3} (h : On p q n k x) (j : On p q m l y) (b : br n m ≠ 0) : cr x y ≠ z3 := fun z => by
  have key : ∀ u, Lw.det p q u = 0 := fun u => by
    have e := h.det j u
    have : Lw.det x y u = 0 := by show dot (cr x y) u = 0; rw [z]; simp [dot, z3]
    rw [this, Int.mul_zero] at e
    exact (Int.mul_eq_zero.mp e.symm).resolve_left b
  rcases unit_beside hpq with a | a | a
  · exact a (key _)
  · exact a (key _)
  · exact a (key _)
end Lw

namespace Lw
open PySem L2 DL
/-! ### the generator -/
def il (ns : List Int) : List PyData := ns.map PyData.int
def stD (ns : List Int) (t : Nat × Nat × Nat) : List PyData := [.list (il ns), .int t.1, .int t.2.1, .int t.2.2]
def pk1 (ns : List Int) (t : Nat × Nat × Nat) : Nat × Nat × Nat :=
  if t.2.1 = 0 ∧ t.1 < ns.length then (if 10 ^ 18 ≤ (ns.getD t.1 0).natAbs then (t.1 + 1, (ns.getD t.1 0).natAbs, t.2.2) else (t.1 + 1, t.2.1, (t.2.2 * 48271 + (ns.getD t.1 0).natAbs) % 2147483646 + 1)) else t
def pk2 (l : Nat) (t : Nat × Nat × Nat) : Nat × Nat × Nat × Nat :=
  if 0 < t.2.1 then (t.2.1 % l, t.1, t.2.1 / l, t.2.2) else ((t.2.2 * 48271 % 2147483647 / 5 + (t.2.2 * 48271 % 2147483647) * (t.2.2 * 48271 % 2147483647) % 2147483629) % l, t.1, t.2.1, t.2.2 * 48271 % 2147483647)
def pk (ns : List Int) (l : Nat) (t : Nat × Nat × Nat) : Nat × Nat × Nat × Nat := pk2 l (pk1 ns t)
/-- the state's third number -/
def SOk (t : Nat × Nat × Nat) : Prop := 1 ≤ t.2.2 ∧ t.2.2 < gp
theorem lcg_ok {s : Nat} (h : 1 ≤ s ∧ s < gp) : 1 ≤ s * 48271 % 2147483647 ∧ s * 48271 % 2147483647 < gp := by
  refine ⟨?_, Nat.mod_lt _ (by decide)⟩
  refine Nat.one_le_iff_ne_zero.mpr fun z => ?_
  have d : gp ∣ gg * s := by
    rw [Nat.mul_comm]
    exact Nat.dvd_of_mod_eq_zero z
  have d2 : gp ∣ s := Nat.Coprime.dvd_of_dvd_mul_left gg_cop d
  have := Nat.le_of_dvd (by omega) d2
  omega
theorem pk1_ok {ns : List Int} {t : Nat × Nat × Nat} (h : SOk t) : SOk (pk1 ns t) := by
  unfold pk1
  split
  · split
    · exact h
    · refine ⟨by show 1 ≤ _ % 2147483646 + 1; omega, ?_⟩
      have := Nat.mod_lt (t.2.2 * 48271 + (ns.getD t.1 0).natAbs) (show 0 < 2147483646 by decide)
      show _ % 2147483646 + 1 < 2147483647
      omega
  · exact h
theorem pk2_ok {l : Nat} (hl : 0 < l) {t : Nat × Nat × Nat} (h : SOk t) : (pk2 l t).1 < l ∧ SOk (pk2 l t).2 := by
  unfold pk2
  split
  · exact ⟨Nat.mod_lt _ hl, h⟩
  · exact ⟨Nat.mod_lt _ hl, lcg_ok h⟩
theorem pk_ok {ns : List Int} {l : Nat} (hl : 0 < l) {t : Nat × Nat × Nat} (h : SOk t) : (pk ns l t).1 < l ∧ SOk (pk ns l t).2 := pk2_ok hl (pk1_ok h)
/-- the same, with any numbers -/
def SV (ns : List Int) (cs : List PyData) : Prop := ∃ t, SOk t ∧ cs = stD ns t
theorem fmod_nat (a b : Nat) : (a : Int).fmod (b : Int) = ((a % b : Nat) : Int) := by
  rw [Int.fmod_eq_emod_of_nonneg _ (Int.natCast_nonneg b)]; rfl
theorem fdiv_nat (a b : Nat) : (a : Int).fdiv (b : Int) = ((a / b : Nat) : Int) := by
  rw [Int.fdiv_eq_ediv_of_nonneg _ (Int.natCast_nonneg b)]; rfl
/-- depth of data -/
def shal : Nat → PyData → Bool
  | 0, _ => false
  | _ + 1, .none => true
  | _ + 1, .bool _ => true
  | _ + 1, .int _ => true
  | _ + 1, .str x => SeqAt.shaped (.str x) && PyData.eqv (.str x) (.str x)
  | n + 1, .list ds => decide (ds.length ≤ 1000000) && ds.all (shal n)
  | n + 1, .tuple ds => decide (ds.length ≤ 1000000) && ds.all (shal n)
  | _ + 1, .dict _ => false
def isNZ (d : PyData) : Option PyData := match d with
  | .int i => if i ≠ 0 then some (.int i) else none
  | _ => none
theorem nz_il (ns : List Int) : (il ns).filterMap isNZ = il (ns.filter fun n => n ≠ 0) := by
  induction ns with
  | nil => rfl
  | cons n ns ih =>
    show (PyData.int n :: il ns).filterMap isNZ = _
    rw [List.filterMap_cons]
    by_cases h : n = 0
    · have e : isNZ (.int n) = none := by simp [isNZ, h]
      rw [e, List.filter_cons_of_neg (by simp [h])]
      exact ih
    · have e : isNZ (.int n) = some (.int n) := by simp [isNZ, h]
      rw [e, List.filter_cons_of_pos (by simp [h])]
      show PyData.int n :: (il ns).filterMap isNZ = PyData.int n :: il _
      rw [ih]
theorem nz_lead {ns : List Int} (h : ∃ n ∈ ns, n ≠ 0) : ∃ r, ns.filter (fun n => n ≠ 0) = leadL ns :: r := by
  induction ns with
  | nil => obtain ⟨n, hn, _⟩ := h; cases hn
  | cons m ns ih =>
    by_cases e : m = 0
    · have : leadL (m :: ns) = leadL ns := by show (if m = 0 then _ else _) = _; rw [if_pos e]
      rw [this, List.filter_cons_of_neg (by simp [e])]
      obtain ⟨n, hn, n0⟩ := h
      rcases List.mem_cons.mp hn with q | hn
      · exact absurd (q ▸ e) n0
      · exact ih ⟨n, hn, n0⟩
    · have : leadL (m :: ns) = m := by show (if m = 0 then _ else _) = _; rw [if_neg e]
      rw [this, List.filter_cons_of_pos (by simp [e])]
      exact ⟨_, rfl⟩
theorem ix_l {xs : List PyData} {i : Int} {d : PyData} {Q : PyData → Prop} (e : atI xs i = some d) (q : Q d) : dIx (.list xs) (.int i) Q := by
  show match atI xs i with
    | some z => Q z
    | none => False
  rw [e]
  exact q
theorem ix_t {xs : List PyData} {i : Int} {d : PyData} {Q : PyData → Prop} (e : atI xs i = some d) (q : Q d) : dIx (.tuple xs) (.int i) Q := by
  show match atI xs i with
    | some z => Q z
    | none => False
  rw [e]
  exact q
theorem nz_turn {n : Int} {A B : Prop} (hT : isNZ (.int n) = some (.int n) → A) (hF : isNZ (.int n) = none → B) : if (!(PyData.int n).eqv (.int 0)) = true then A else B := by
  have e : (PyData.int n).eqv (.int 0) = (n == 0) := rfl
  rw [e]
  by_cases h : n = 0
  · rw [if_neg (by simp [h])]
    exact hF (by simp [isNZ, h])
  · rw [if_pos (by simp [h])]
    exact hT (by simp [isNZ, h])
def dvF (s : Int) (d : PyData) : Option PyData := match d with
  | .int i => some (.int (i.fdiv s))
  | _ => none
theorem dv_il (s : Int) (ns : List Int) : (il ns).filterMap (dvF s) = il (ns.map fun n => n.fdiv s) := by
  induction ns with
  | nil => rfl
  | cons n ns ih =>
    show PyData.int (n.fdiv s) :: (il ns).filterMap (dvF s) = _
    rw [ih]
    rfl
theorem gL_snoc (ns : List Int) (n : Int) : gL (ns ++ [n]) = Nat.gcd (gL ns) n.natAbs := by
  unfold gL
  rw [List.foldl_append]
  rfl
def units : List T3 := [(1, 0, 0), (0, 1, 0), (0, 0, 1)]
def Z9 (n : Nat) (t : T9) : Prop := Z3 n t.1 ∧ Z3 n t.2.1 ∧ Z3 n t.2.2
theorem Z3.mono {n m : Nat} {p : T3} (h : Z3 n p) (k : n ≤ m) : Z3 m p := ⟨h.1.mono k, h.2.1.mono k, h.2.2.mono k⟩
theorem Z9.mono {n m : Nat} {p : T9} (h : Z9 n p) (k : n ≤ m) : Z9 m p := ⟨h.1.mono k, h.2.1.mono k, h.2.2.mono k⟩
theorem shal_all {n : Nat} {xs : List PyData} (h : (decide (xs.length ≤ 1000000) && xs.all (shal n)) = true) : xs.length ≤ 1000000 ∧ ∀ d ∈ xs, shal n d = true := by
  rw [Bool.and_eq_true, decide_eq_true_iff, List.all_eq_true] at h
  exact h
theorem at_get {xs : List PyData} {k : Nat} (h : k < xs.length) : atI xs (k : Int) = some xs[k] := atI_nat (List.getElem?_eq_getElem h)
theorem two_ne {o w : Int} (h : ¬ (o = 0 ∧ w = 0)) : ∃ n ∈ [w, o], n ≠ 0 := by
  by_cases hw : w = 0
  · exact ⟨o, by simp, fun e => h ⟨e, hw⟩⟩
  · exact ⟨w, by simp, hw⟩
theorem sz_two (o w : Int) : ((w < 0 ∨ w = 0 ∧ o < 0) → 0 - (Int.gcd o w : Int) = szL [w, o]) ∧ (¬ (w < 0 ∨ w = 0 ∧ o < 0) → (Int.gcd o w : Int) = szL [w, o]) := by
  have g : (gL [w, o] : Int) = (Int.gcd o w : Int) := by
    show ((Nat.gcd (Nat.gcd 0 w.natAbs) o.natAbs : Nat) : Int) = ((Nat.gcd o.natAbs w.natAbs : Nat) : Int)
    rw [Nat.gcd_zero_left, Nat.gcd_comm]
  have l : leadL [w, o] < 0 ↔ (w < 0 ∨ w = 0 ∧ o < 0) := by
    show (if w = 0 then (if o = 0 then leadL [] else o) else w) < 0 ↔ _
    have e : leadL [] = 0 := rfl
    rw [e]
    split
    · split <;> omega
    · omega
  unfold szL
  rw [g]
  exact ⟨fun h => by rw [if_pos (l.mpr h)], fun h => by rw [if_neg (fun z => h (l.mp z))]⟩
theorem l9_Z {n : Nat} {t : T9} (h : Z9 n t) : ∀ x ∈ l9 t, Sz n x := by
  obtain ⟨⟨h1, h2, h3⟩, ⟨h4, h5, h6⟩, ⟨h7, h8, h9⟩⟩ := h
  intro x hx
  simp only [l9, List.mem_cons, List.not_mem_nil, or_false] at hx
  rcases hx with rfl | rfl | rfl | rfl | rfl | rfl | rfl | rfl | rfl <;> assumption
theorem fdiv_Z {n : Nat} {a b : Int} (h : Sz n a) (d : b ∣ a) : Sz n (a.fdiv b) := ⟨Nat.lt_of_le_of_lt (fdiv_abs a b d) h.lt⟩
theorem low9_Z {t : T9} (h : Z9 1250 t) (hn : ∃ n ∈ l9 t, n ≠ 0) : Z9 1300 (low9 t) := by
  have h : Z9 1300 t := h.mono (by decide)
  have d := (sz_ne hn).2
  have f : ∀ {x : Int}, x ∈ l9 t → Sz 1300 x → Sz 1300 (x.fdiv (szL (l9 t))) := fun hx hs => fdiv_Z hs (d _ hx)
  obtain ⟨⟨h1, h2, h3⟩, ⟨h4, h5, h6⟩, ⟨h7, h8, h9⟩⟩ := h
  exact ⟨⟨f (by simp [l9]) h1, f (by simp [l9]) h2, f (by simp [l9]) h3⟩, ⟨f (by simp [l9]) h4, f (by simp [l9]) h5, f (by simp [l9]) h6⟩, ⟨f (by simp [l9]) h7, f (by simp [l9]) h8, f (by simp [l9]) h9⟩⟩
theorem units_Z (u : T3) (h : u ∈ units) : Z3 20000 u := by
  have a : Sz 20000 0 := ⟨Nat.two_pow_pos _⟩
  have b : Sz 20000 1 := ⟨show 1 < 2 ^ 20000 from Nat.one_lt_two_pow (by decide)⟩
  simp only [units, List.mem_cons, List.not_mem_nil, or_false] at h
  rcases h with rfl | rfl | rfl
  · exact ⟨b, a, a⟩
  · exact ⟨a, b, a⟩
  · exact ⟨a, a, b⟩
theorem units_Z2 (u : T3) (h : u ∈ units) : Z3 1 u := by
  have a : Sz 1 0 := ⟨by decide⟩
  have b : Sz 1 1 := ⟨by decide⟩
  simp only [units, List.mem_cons, List.not_mem_nil, or_false] at h
  rcases h with rfl | rfl | rfl
  · exact ⟨b, a, a⟩
  · exact ⟨a, b, a⟩
  · exact ⟨a, a, b⟩
/-- units that are not on a line of two points -/
def nj (x y : T3) (d : PyData) : Option PyData := match d with
  | .tuple [.int a, .int b, .int c] => if det x y (a, b, c) = 0 then none else some d
  | _ => none
theorem nj_turn {x y u : T3} {A B : Prop} (hT : nj x y (e3 u) = some (e3 u) → A) (hF : nj x y (e3 u) = none → B) : if (!(decide (det x y u = 0))) = true then A else B := by
  by_cases h : det x y u = 0
  · rw [if_neg (by simp [h])]
    exact hF (show (if det x y u = 0 then none else some (e3 u)) = none by rw [if_pos h])
  · rw [if_pos (by simp [h])]
    exact hT (show (if det x y u = 0 then none else some (e3 u)) = some (e3 u) by rw [if_neg h])
theorem nj_first {x y : T3} (h : cr x y ≠ z3) : ∃ u r, u ∈ units ∧ det x y u ≠ 0 ∧ (units.map e3).filterMap (nj x y) = e3 u :: r := by
  have key : ∀ us : List T3, (∃ u ∈ us, det x y u ≠ 0) → ∃ u r, u ∈ us ∧ det x y u ≠ 0 ∧ (us.map e3).filterMap (nj x y) = e3 u :: r := by
    intro us
    induction us with
    | nil => rintro ⟨u, hu, _⟩; cases hu
    | cons v us ih =>
      rintro ⟨u, hu, hd⟩
      rw [List.map_cons, List.filterMap_cons]
      by_cases hv : det x y v = 0
      · have e : nj x y (e3 v) = none := by show (if det x y v = 0 then none else some (e3 v)) = none; rw [if_pos hv]
        rw [e]
        rcases List.mem_cons.mp hu with rfl | hu
        · exact absurd hv hd
        · obtain ⟨w, r, h1, h2, h3⟩ := ih ⟨u, hu, hd⟩
          exact ⟨w, r, List.mem_cons_of_mem _ h1, h2, h3⟩
      · have e : nj x y (e3 v) = some (e3 v) := by show (if det x y v = 0 then none else some (e3 v)) = some (e3 v); rw [if_neg hv]
        rw [e]
        exact ⟨v, _, List.mem_cons_self, hv, rfl⟩
  refine key units ?_
  rcases unit_beside h with h | h | h
  · exact ⟨_, by simp [units], h⟩
  · exact ⟨_, by simp [units], h⟩
  · exact ⟨_, by simp [units], h⟩
end Lw

namespace Lw
open PySem L2 DL
/-! ### lists of points, no three on a line -/
structure GPL (fs : List T3) : Prop where
  lst : ∀ p ∈ fs, Lst p
  nd : fs.Nodup
  gp : ∀ (j i k : Nat) (a b c : T3), j < i → i < k → fs[j]? = some a → fs[i]? = some b → fs[k]? = some c → det b a c ≠ 0
def flat (fs : List T3) (p : T3) : Prop := p ∈ fs ∨ ∃ (j i : Nat) (a b : T3), j < i ∧ fs[j]? = some a ∧ fs[i]? = some b ∧ det b a p = 0
open Classical in
noncomputable instance (fs : List T3) (p : T3) : Decidable (flat fs p) := inferInstance
theorem GPL.nil : GPL [] := ⟨fun _ h => (nomatch h), List.nodup_nil, fun j i k a b c _ _ h => by simp at h⟩
theorem snoc_get {α : Type} {fs : List α} {p c : α} {k : Nat} (h : (fs ++ [p])[k]? = some c) : fs[k]? = some c ∨ (k = fs.length ∧ c = p) := by
  by_cases hk : k < fs.length
  · rw [List.getElem?_append_left hk] at h
    exact .inl h
  · rw [List.getElem?_append_right (by omega)] at h
    have : k - fs.length = 0 := by
      by_cases e : k - fs.length = 0
      · exact e
      · obtain ⟨m, hm⟩ := Nat.exists_eq_succ_of_ne_zero e
        rw [hm] at h
        simp at h
    rw [this] at h
    refine .inr ⟨by omega, ?_⟩
    simpa using h.symm
theorem GPL.snoc {fs : List T3} {p : T3} (g : GPL fs) (hp : Lst p) (h : ¬ flat fs p) : GPL (fs ++ [p]) where
  lst q hq := by
    rcases List.mem_append.mp hq with hq | hq
    · exact g.lst q hq
    · rw [List.mem_singleton.mp hq]; exact hp
  nd := by
    rw [List.nodup_append]
    refine ⟨g.nd, by simp, fun a ha b hb e => ?_⟩
    rw [List.mem_singleton.mp hb] at e
    exact h (.inl (e ▸ ha))
  gp j i k a b c hji hik ha hb hc := by
    rcases snoc_get hc with hc | ⟨ek, rfl⟩
    · have hk : k < fs.length := (List.getElem?_eq_some_iff.mp hc).1
      rw [List.getElem?_append_left (by omega)] at ha hb
      exact g.gp j i k a b c hji hik ha hb hc
    · rw [List.getElem?_append_left (by omega)] at ha hb
      exact fun z => h (.inr ⟨j, i, a, b, hji, ha, hb, z⟩)
theorem GPL.gp4 {a b c d : T3} (g : GPL [a, b, c, d]) : GP a b c d where
  la := g.lst a (by simp)
  lb := g.lst b (by simp)
  lc := g.lst c (by simp)
  ld := g.lst d (by simp)
  abc := fun z => g.gp 0 1 2 a b c (by omega) (by omega) rfl rfl rfl (by rw [(det_perm a b c).1]; omega)
  abd := fun z => g.gp 0 1 3 a b d (by omega) (by omega) rfl rfl rfl (by rw [(det_perm a b d).1]; omega)
  acd := fun z => g.gp 0 2 3 a c d (by omega) (by omega) rfl rfl rfl (by rw [(det_perm a c d).1]; omega)
  bcd := fun z => g.gp 1 2 3 b c d (by omega) (by omega) rfl rfl rfl (by rw [(det_perm b c d).1]; omega)
/-! ### points of the parabola: few are flat -/
def par (t : Nat) : T3 := ((t : Int), (t : Int) * (t : Int), 1)
theorem lst_par {t : Nat} (h : 1 ≤ t) : Lst (par t) := by
  have e : szL (l3 (par t)) = 1 := by
    have l : leadL (l3 (par t)) = t := by
      show (if (t : Int) = 0 then _ else (t : Int)) = t
      rw [if_neg (by omega)]
    have g : gL (l3 (par t)) = 1 := by
      show Nat.gcd (Nat.gcd (Nat.gcd 0 (t : Int).natAbs) ((t : Int) * (t : Int)).natAbs) (1 : Int).natAbs = 1
      exact Nat.gcd_one_right _
    unfold szL
    rw [l, g, if_neg (by omega)]
    rfl
  refine ⟨fun z => ?_, ?_⟩
  · have : (par t).2.2 = 0 := by rw [z]; rfl
    cases this
  · unfold low
    rw [e]
    simp
theorem par_inj {s t : Nat} (h : par s = par t) : s = t := by
  have : ((s : Nat) : Int) = (t : Nat) := congrArg (fun p : T3 => p.1) h
  omega
theorem three_roots {n1 n2 n3 x y z : Int} (hxy : x ≠ y) (hxz : x ≠ z) (hyz : y ≠ z) (h1 : n1 * x + n2 * (x * x) + n3 * 1 = 0) (h2 : n1 * y + n2 * (y * y) + n3 * 1 = 0) (h3 : n1 * z + n2 * (z * z) + n3 * 1 = 0) : n1 = 0 ∧ n2 = 0 ∧ n3 = 0 := by
  have a : (x - y) * (n1 + n2 * (x + y)) = 0 := by grind
  have b : (x - z) * (n1 + n2 * (x + z)) = 0 := by grind
  have a := (Int.mul_eq_zero.mp a).resolve_left (by omega)
  have b := (Int.mul_eq_zero.mp b).resolve_left (by omega)
  have c : (y - z) * n2 = 0 := by grind
  have c := (Int.mul_eq_zero.mp c).resolve_left (by omega)
  subst c
  have : n1 = 0 := by grind
  subst this
  refine ⟨rfl, rfl, by grind⟩
theorem few {p : Nat → Prop} (h : ∀ a b c : Nat, a ≠ b → a ≠ c → b ≠ c → p a → p b → p c → False) : ∀ (L : List Nat), L.Nodup → (∀ t ∈ L, p t) → L.length ≤ 2
  | [], _, _ => by simp
  | [_], _, _ => by simp
  | [_, _], _, _ => by simp
  | a :: b :: c :: r, hn, hp => by
    simp only [List.nodup_cons, List.mem_cons, not_or] at hn
    exact (h a b c hn.1.1 hn.1.2.1 hn.2.1.1 (hp a (by simp)) (hp b (by simp)) (hp c (by simp))).elim
open Classical in
theorem cover : ∀ (ps : List (Nat → Prop)) (L : List Nat), L.Nodup → (∀ p ∈ ps, ∀ a b c : Nat, a ≠ b → a ≠ c → b ≠ c → p a → p b → p c → False) → (∀ t ∈ L, ∃ p ∈ ps, p t) → L.length ≤ 2 * ps.length
  | [], L, _, _, h => by
    cases L with
    | nil => simp
    | cons t L => obtain ⟨p, hp, _⟩ := h t List.mem_cons_self; cases hp
  | p :: ps, L, hn, h2, h => by
    have e : L.length = (L.filter fun t => decide (p t)).length + (L.filter fun t => !decide (p t)).length := by
      rw [← List.countP_eq_length_filter, ← List.countP_eq_length_filter]
      rw [List.length_eq_countP_add_countP (fun t => decide (p t))]
      congr 1
      apply List.countP_congr
      intro x _
      simp
    have a := few (h2 p List.mem_cons_self) (L.filter fun t => decide (p t)) (hn.filter _) (fun t ht => of_decide_eq_true (List.mem_filter.mp ht).2)
    have b := cover ps (L.filter fun t => !decide (p t)) (hn.filter _) (fun q hq => h2 q (List.mem_cons_of_mem _ hq)) (fun t ht => by
      obtain ⟨h3, h4⟩ := List.mem_filter.mp ht
      obtain ⟨q, hq, hqt⟩ := h t h3
      rcases List.mem_cons.mp hq with rfl | hq
      · simp [hqt] at h4
      · exact ⟨q, hq, hqt⟩)
    rw [List.length_cons]
    omega
theorem det_par (a b : T3) (t : Nat) : det b a (par t) = (cr b a).1 * t + (cr b a).2.1 * ((t : Int) * t) + (cr b a).2.2 * 1 := rfl
theorem few_flat {fs : List T3} (g : GPL fs) {L : List Nat} (hn : L.Nodup) (h : ∀ t ∈ L, flat fs (par t)) : L.length ≤ 2 * (fs.length + fs.length * fs.length) := by
  have key := cover (fs.map (fun p t => par t = p) ++ fs.flatMap fun a => fs.map fun b => (fun t : Nat => cr b a ≠ z3 ∧ det b a (par t) = 0)) L hn ?_ ?_
  · have e : (fs.map (fun p (t : Nat) => par t = p) ++ fs.flatMap fun a => fs.map fun b => (fun t : Nat => cr b a ≠ z3 ∧ det b a (par t) = 0)).length = fs.length + fs.length * fs.length := by
      rw [List.length_append, List.length_map, List.length_flatMap]
      have : (fs.map fun a => (fs.map fun b => (fun t : Nat => cr b a ≠ z3 ∧ det b a (par t) = 0)).length) = List.replicate fs.length fs.length := by
        rw [List.eq_replicate_iff]
        refine ⟨by simp, fun b hb => ?_⟩
        obtain ⟨a, _, rfl⟩ := List.mem_map.mp hb
        simp
      rw [this, List.sum_replicate_nat]
    rw [e] at key
    exact key
  · intro p hp a b c h1 h2 h3 ha hb hc
    rcases List.mem_append.mp hp with hp | hp
    · obtain ⟨q, _, rfl⟩ := List.mem_map.mp hp
      exact h1 (par_inj (ha.trans hb.symm))
    · obtain ⟨x, _, hp⟩ := List.mem_flatMap.mp hp
      obtain ⟨y, _, rfl⟩ := List.mem_map.mp hp
      obtain ⟨e1, e2, e3⟩ := three_roots (x := a) (y := b) (z := c) (by omega) (by omega) (by omega) (det_par x y a ▸ ha.2) (det_par x y b ▸ hb.2) (det_par x y c ▸ hc.2)
      exact ha.1 (Prod.ext e1 (Prod.ext e2 e3))
  · intro t ht
    rcases h t ht with hm | ⟨j, i, a, b, hji, ha, hb, z⟩
    · exact ⟨_, List.mem_append_left _ (List.mem_map.mpr ⟨par t, hm, rfl⟩), rfl⟩
    · have ma := List.mem_of_getElem? ha
      have mb := List.mem_of_getElem? hb
      refine ⟨fun t : Nat => cr b a ≠ z3 ∧ det b a (par t) = 0, List.mem_append_right _ (List.mem_flatMap.mpr ⟨a, ma, List.mem_map.mpr ⟨b, mb, rfl⟩⟩), ?_, z⟩
      refine cr_low (g.lst b mb) (g.lst a ma) fun e => ?_
      subst e
      have := (List.getElem?_inj (by exact (List.getElem?_eq_some_iff.mp ha).1) g.nd).mp (ha.trans hb.symm)
      omega
theorem cr_Z {n m k : Nat} {p q : T3} (h : Z3 n p) (j : Z3 m q) (e : n + m + 1 ≤ k) : Z3 k (cr p q) := by
  obtain ⟨h1, h2, h3⟩ := h
  obtain ⟨j1, j2, j3⟩ := j
  exact ⟨((h2.mul j3).sub (h3.mul j2)).mono (by omega), ((h3.mul j1).sub (h1.mul j3)).mono (by omega), ((h1.mul j2).sub (h2.mul j1)).mono (by omega)⟩
theorem dot_Z {n m k : Nat} {p q : T3} (h : Z3 n p) (j : Z3 m q) (e : n + m + 2 ≤ k) : Sz k (dot p q) := by
  obtain ⟨h1, h2, h3⟩ := h
  obtain ⟨j1, j2, j3⟩ := j
  exact (((h1.mul j1).add (h2.mul j2)).add (h3.mul j3)).mono (by omega)
theorem det_Z {n m l k : Nat} {p q r : T3} (h : Z3 n p) (j : Z3 m q) (i : Z3 l r) (e : n + m + l + 3 ≤ k) : Sz k (det p q r) := dot_Z (cr_Z h j (Nat.le_refl _)) i (by omega)
theorem frm_Z {n m : Nat} {a b c d : T3} (ha : Z3 n a) (hb : Z3 n b) (hc : Z3 n c) (hd : Z3 n d) (e : 4 * n + 3 ≤ m) : Z9 m (frm a b c d) := by
  have s1 : Sz (3 * n + 3) (det d b c) := det_Z hd hb hc (by omega)
  have s2 : Sz (3 * n + 3) (det a d c) := det_Z ha hd hc (by omega)
  have s3 : Sz (3 * n + 3) (det a b d) := det_Z ha hb hd (by omega)
  exact ⟨⟨(s1.mul ha.1).mono (by omega), (s2.mul hb.1).mono (by omega), (s3.mul hc.1).mono (by omega)⟩, ⟨(s1.mul ha.2.1).mono (by omega), (s2.mul hb.2.1).mono (by omega), (s3.mul hc.2.1).mono (by omega)⟩, ⟨(s1.mul ha.2.2).mono (by omega), (s2.mul hb.2.2).mono (by omega), (s3.mul hc.2.2).mono (by omega)⟩⟩
theorem adj_Z {n m : Nat} {t : T9} (h : Z9 n t) (e : 2 * n + 1 ≤ m) : Z9 m (adj t) := by
  obtain ⟨⟨h1, h2, h3⟩, ⟨h4, h5, h6⟩, ⟨h7, h8, h9⟩⟩ := h
  have f : ∀ {a b c d : Int}, Sz n a → Sz n b → Sz n c → Sz n d → Sz m (a * b - c * d) := fun ha hb hc hd => ((ha.mul hb).sub (hc.mul hd)).mono (by omega)
  exact ⟨⟨f h5 h9 h6 h8, f h3 h8 h2 h9, f h2 h6 h3 h5⟩, ⟨f h6 h7 h4 h9, f h1 h9 h3 h7, f h3 h4 h1 h6⟩, ⟨f h4 h8 h5 h7, f h2 h7 h1 h8, f h1 h5 h2 h4⟩⟩
theorem mm_Z {n m k : Nat} {s t : T9} (h : Z9 n s) (j : Z9 m t) (e : n + m + 2 ≤ k) : Z9 k (mm s t) := by
  obtain ⟨⟨j1, j2, j3⟩, ⟨j4, j5, j6⟩, ⟨j7, j8, j9⟩⟩ := j
  have f : ∀ {p : T3}, Z3 n p → Z3 k (vm p t) := fun hp => ⟨dot_Z hp ⟨j1, j4, j7⟩ e, dot_Z hp ⟨j2, j5, j8⟩ e, dot_Z hp ⟨j3, j6, j9⟩ e⟩
  exact ⟨f h.1, f h.2.1, f h.2.2⟩
/-- the search for points, no three on a line: n tries, the last c of them flat ones of the parabola -/
structure FrI (many : Nat) (fs : List T3) (n c : Nat) : Prop where
  g : GPL fs
  len : fs.length ≤ many
  z : ∀ p ∈ fs, Z3 30 p
  cn : c ≤ n - 80
  bad : ∀ t, n - c < t → t ≤ n → flat fs (par t)
  n1 : n ≤ 80 + 61 * fs.length + c
theorem frI_nil {many : Nat} : FrI many [] 0 0 := ⟨.nil, Nat.zero_le _, fun _ h => (nomatch h), Nat.zero_le _, fun t h1 h2 => by omega, Nat.zero_le _⟩
theorem FrI.c60 {many : Nat} {fs : List T3} {n c : Nat} (h : FrI many fs n c) (hl : fs.length ≤ 5) : c ≤ 60 := by
  have q := few_flat h.g (L := List.range' (n - c + 1) c) List.nodup_range' (fun t ht => by
    obtain ⟨h1, h2⟩ := List.mem_range'_1.mp ht
    have := h.cn
    exact h.bad t (by omega) (by omega))
  rw [List.length_range'] at q
  have : fs.length * fs.length ≤ 5 * 5 := Nat.mul_le_mul hl hl
  omega
theorem FrI.bound {many : Nat} {fs : List T3} {n c : Nat} (h : FrI many fs n c) (hm : many ≤ 6) (hl : fs.length < many) : n ≤ 500 := by
  have := h.c60 (by omega)
  have := h.n1
  omega
/-- one more try -/
theorem FrI.skip {many : Nat} {fs : List T3} {n c : Nat} (h : FrI many fs n c) (hm : many ≤ 6) (hl : fs.length < many) {p : T3} (hp : 80 < n + 1 → p = par (n + 1)) (hf : flat fs p) : ∃ c', FrI many fs (n + 1) c' := by
  by_cases h80 : 80 < n + 1
  · have e := hp h80
    subst e
    refine ⟨c + 1, h.g, h.len, h.z, ?_, fun t h1 h2 => ?_, ?_⟩
    · have := h.cn; omega
    · by_cases e : t = n + 1
      · subst e; exact hf
      · exact h.bad t (by omega) (by omega)
    · have := h.n1; omega
  · exact ⟨0, h.g, h.len, h.z, by omega, fun t h1 h2 => by omega, by omega⟩
theorem FrI.add {many : Nat} {fs : List T3} {n c : Nat} (h : FrI many fs n c) (hm : many ≤ 6) (hl : fs.length < many) {p : T3} (hp : Lst p) (hz : Z3 30 p) (hf : ¬ flat fs p) : FrI many (fs ++ [p]) (n + 1) 0 where
  g := h.g.snoc hp hf
  len := by rw [List.length_append, List.length_singleton]; exact hl
  z q hq := by
    rcases List.mem_append.mp hq with hq | hq
    · exact h.z q hq
    · rw [List.mem_singleton.mp hq]; exact hz
  cn := by omega
  bad t h1 h2 := by omega
  n1 := by
    have := h.c60 (by omega)
    have := h.n1
    rw [List.length_append, List.length_singleton]
    omega
theorem par_Z {t : Nat} (h : t ≤ 1000) : Z3 30 (par t) := by
  have : t * t ≤ 1000 * 1000 := Nat.mul_le_mul h h
  have e : ((t : Int) * (t : Int)).natAbs = t * t := by rw [Int.natAbs_mul]; rfl
  have c : (2 : Nat) ^ 30 = 1073741824 := by decide
  exact ⟨⟨by show (t : Int).natAbs < 2 ^ 30; omega⟩, ⟨by show ((t : Int) * (t : Int)).natAbs < 2 ^ 30; omega⟩, ⟨show (1 : Int).natAbs < 2 ^ 30 by decide⟩⟩
/-- flat, as the walk tells it: pairs i, j with j below i, row by row -/
def flR (fs : List T3) (p : T3) (i j : Nat) : Bool := match fs[i]?, fs[j]? with
  | some b, some a => decide (det b a p = 0)
  | _, _ => false
def flB (fs : List T3) (p : T3) (i j : Nat) : Bool := decide (p ∈ fs) || (List.range i).any (fun i' => (List.range i').any fun j' => flR fs p i' j') || (List.range j).any fun j' => flR fs p i j'
theorem flB_step {fs : List T3} {p : T3} {i j : Nat} : flB fs p i (j + 1) = (flB fs p i j || flR fs p i j) := by
  unfold flB
  rw [List.range_succ, List.any_append, List.any_cons, List.any_nil, Bool.or_false, Bool.or_assoc, Bool.or_assoc, Bool.or_assoc]
theorem flB_row {fs : List T3} {p : T3} {i : Nat} : flB fs p i i = flB fs p (i + 1) 0 := by
  unfold flB
  rw [List.range_succ, List.any_append, List.any_cons, List.any_nil, Bool.or_false, List.range_zero, List.any_nil, Bool.or_false, Bool.or_assoc]
theorem flB_iff {fs : List T3} {p : T3} : flB fs p fs.length 0 = true ↔ flat fs p := by
  unfold flB flat
  rw [List.range_zero, List.any_nil, Bool.or_false, Bool.or_eq_true, decide_eq_true_iff]
  refine or_congr Iff.rfl ?_
  rw [List.any_eq_true]
  constructor
  · rintro ⟨i, hi, h⟩
    obtain ⟨j, hj, h⟩ := List.any_eq_true.mp h
    rw [List.mem_range] at hi hj
    unfold flR at h
    split at h
    · rename_i b a hb ha
      exact ⟨j, i, a, b, hj, ha, hb, of_decide_eq_true h⟩
    · cases h
  · rintro ⟨j, i, a, b, hji, ha, hb, z⟩
    refine ⟨i, List.mem_range.mpr (List.getElem?_eq_some_iff.mp hb).1, List.any_eq_true.mpr ⟨j, List.mem_range.mpr hji, ?_⟩⟩
    unfold flR
    rw [hb, ha]
    exact decide_eq_true z
theorem flB_zero {fs : List T3} {p : T3} : flB fs p 0 0 = decide (p ∈ fs) := by
  unfold flB
  simp
theorem range'_nodup (s n : Nat) : (List.range' s n).Nodup := List.nodup_range'
end Lw

namespace Lw
open PySem L2 DL
/-! ### one point, or line, told by different numbers -/
def Pe (x y : T3) : Prop := ∃ k l : Int, k ≠ 0 ∧ l ≠ 0 ∧ sm k x = sm l y
theorem Pe.refl (x : T3) : Pe x x := ⟨1, 1, by decide, by decide, rfl⟩
theorem Pe.symm {x y : T3} (h : Pe x y) : Pe y x := by
  obtain ⟨k, l, hk, hl, e⟩ := h
  exact ⟨l, k, hl, hk, e.symm⟩
theorem Pe.trans {x y z : T3} (h : Pe x y) (j : Pe y z) : Pe x z := by
  obtain ⟨k, l, hk, hl, e⟩ := h
  obtain ⟨m, n, hm, hn, f⟩ := j
  refine ⟨m * k, l * n, Int.mul_ne_zero hm hk, Int.mul_ne_zero hl hn, ?_⟩
  rw [← sm_sm, e, ← sm_sm, ← f, sm_sm, sm_sm, Int.mul_comm]
theorem Pe.of_sm {k : Int} (hk : k ≠ 0) (x : T3) : Pe (sm k x) x := ⟨1, k, by decide, hk, by rw [sm_one]⟩
theorem Pe.cr {x y z w : T3} (h : Pe x y) (j : Pe z w) : Pe (cr x z) (cr y w) := by
  obtain ⟨k, l, hk, hl, e⟩ := h
  obtain ⟨m, n, hm, hn, f⟩ := j
  exact ⟨k * m, l * n, Int.mul_ne_zero hk hm, Int.mul_ne_zero hl hn, by rw [← cr_sm, ← cr_sm, e, f]⟩
theorem Pe.mv {x y : T3} (t : T9) (h : Pe x y) : Pe (mv t x) (mv t y) := by
  obtain ⟨k, l, hk, hl, e⟩ := h
  exact ⟨k, l, hk, hl, by rw [← (mv_sm t k x).1, ← (mv_sm t l y).1, e]⟩
theorem Pe.low {x : T3} (h : x ≠ z3) : Pe (low x) x := ⟨szL (l3 x), 1, (low3 h).1, by decide, by rw [(low3 h).2.1, sm_one]⟩
theorem Pe.ne {x y : T3} (h : Pe x y) (hy : y ≠ z3) : x ≠ z3 := fun e => by
  obtain ⟨k, l, hk, hl, f⟩ := h
  rw [e, sm_z] at f
  exact sm_ne hl hy f.symm
theorem Pe.eq {x y : T3} (h : Pe x y) (hy : y ≠ z3) : Lw.low x = Lw.low y := by
  have hx := h.ne hy
  obtain ⟨k, l, hk, hl, f⟩ := h
  exact low_par hk hl hx f
theorem Pe.lst {x y : T3} (h : Pe x y) (hx : Lst x) (hy : Lst y) : x = y := by
  rw [← hx.2, ← hy.2]
  exact h.eq hy.1
theorem Pe.det {x y z x' y' z' : T3} (h : Pe x x') (j : Pe y y') (i : Pe z z') : det x y z = 0 ↔ det x' y' z' = 0 := by
  obtain ⟨k, l, hk, hl, e⟩ := h
  obtain ⟨m, n, hm, hn, f⟩ := j
  obtain ⟨o, p, ho, hp, g⟩ := i
  have a := det_sm k m o x y z
  have b := det_sm l n p x' y' z'
  rw [e, f, g] at a
  rw [a] at b
  have u := Int.mul_ne_zero (Int.mul_ne_zero hk hm) ho
  have v := Int.mul_ne_zero (Int.mul_ne_zero hl hn) hp
  constructor
  · intro h
    rw [h, Int.mul_zero] at b
    exact (Int.mul_eq_zero.mp b.symm).resolve_left v
  · intro h
    rw [h, Int.mul_zero] at b
    exact (Int.mul_eq_zero.mp b).resolve_left u
theorem det_ne {x y z : T3} (h : det x y z ≠ 0) : cr x y ≠ z3 ∧ x ≠ z3 ∧ y ≠ z3 := by
  refine ⟨fun e => h ?_, fun e => h ?_, fun e => h ?_⟩
  · show dot (cr x y) z = 0
    rw [e]; simp [dot, z3]
  · rw [e]; simp [det, cr, dot, z3]
  · rw [e]; simp [det, cr, dot, z3]
/-! ### tables and lines -/
def cof (t : T9) : T9 := ((t.2.1.2.1 * t.2.2.2.2 - t.2.1.2.2 * t.2.2.2.1, t.2.1.2.2 * t.2.2.1 - t.2.1.1 * t.2.2.2.2, t.2.1.1 * t.2.2.2.1 - t.2.1.2.1 * t.2.2.1),
  (t.1.2.2 * t.2.2.2.1 - t.1.2.1 * t.2.2.2.2, t.1.1 * t.2.2.2.2 - t.1.2.2 * t.2.2.1, t.1.2.1 * t.2.2.1 - t.1.1 * t.2.2.2.1),
  (t.1.2.1 * t.2.1.2.2 - t.1.2.2 * t.2.1.2.1, t.1.2.2 * t.2.1.1 - t.1.1 * t.2.1.2.2, t.1.1 * t.2.1.2.1 - t.1.2.1 * t.2.1.1))
theorem cr_cof (t : T9) (x y : T3) : cr (mv t x) (mv t y) = mv (cof t) (cr x y) := by
  obtain ⟨⟨a1, a2, a3⟩, ⟨a4, a5, a6⟩, ⟨a7, a8, a9⟩⟩ := t
  obtain ⟨x1, x2, x3⟩ := x
  obtain ⟨y1, y2, y3⟩ := y
  simp only [cr, mv, dot, cof, Prod.mk.injEq]
  refine ⟨?_, ?_, ?_⟩ <;> grind
theorem cof_cof (t : T9) : cof (cof t) = sm9 (dt t) t := by
  obtain ⟨⟨a1, a2, a3⟩, ⟨a4, a5, a6⟩, ⟨a7, a8, a9⟩⟩ := t
  simp only [cof, sm9, sm, dt, det, dot, cr, Prod.mk.injEq]
  refine ⟨⟨?_, ?_, ?_⟩, ⟨?_, ?_, ?_⟩, ⟨?_, ?_, ?_⟩⟩ <;> grind
theorem meet_mv (t : T9) (x y z w : T3) : cr (cr (mv t x) (mv t y)) (cr (mv t z) (mv t w)) = sm (dt t) (mv t (cr (cr x y) (cr z w))) := by
  rw [cr_cof, cr_cof, cr_cof, cof_cof, (mv_sm t (dt t) _).2]
theorem mv_ne {t : T9} (ht : dt t ≠ 0) {x : T3} (hx : x ≠ z3) : mv t x ≠ z3 := fun e => by
  have h := mv_mm (adj t) t x
  rw [e, (mm_adj t).2, mv_unit] at h
  have : mv (adj t) z3 = z3 := by simp [mv, dot, z3]
  rw [this] at h
  exact sm_ne ht hx h
/-- the table with three points as its columns -/
def bas (o p q : T3) : T9 := ((o.1, p.1, q.1), (o.2.1, p.2.1, q.2.1), (o.2.2, p.2.2, q.2.2))
theorem bas_dt (o p q : T3) : dt (bas o p q) = det o p q := by
  simp only [bas, dt, det, dot, cr]; grind
theorem comb_bas1 (o p q : T3) (n : P2) : comb o p n = mv (bas o p q) (n.1, n.2, 0) := by
  simp only [comb, mv, bas, dot, Prod.mk.injEq]
  refine ⟨?_, ?_, ?_⟩ <;> grind
theorem comb_bas2 (o p q : T3) (n : P2) : comb o q n = mv (bas o p q) (n.1, 0, n.2) := by
  simp only [comb, mv, bas, dot, Prod.mk.injEq]
  refine ⟨?_, ?_, ?_⟩ <;> grind
/-! ### Pappus -/
theorem pappus0 (a b c d e f : P2) : det (cr (cr (a.1, a.2, 0) (e.1, 0, e.2)) (cr (b.1, b.2, 0) (d.1, 0, d.2))) (cr (cr (a.1, a.2, 0) (f.1, 0, f.2)) (cr (c.1, c.2, 0) (d.1, 0, d.2))) (cr (cr (b.1, b.2, 0) (f.1, 0, f.2)) (cr (c.1, c.2, 0) (e.1, 0, e.2))) = 0 := by
  simp only [det, dot, cr]
  grind
def X4 (x y z w : T3) : T3 := cr (cr x y) (cr z w)
theorem pappus1 (o p q : T3) (a b c d e f : P2) : det (X4 (comb o p a) (comb o q e) (comb o p b) (comb o q d)) (X4 (comb o p a) (comb o q f) (comb o p c) (comb o q d)) (X4 (comb o p b) (comb o q f) (comb o p c) (comb o q e)) = 0 := by
  unfold X4
  rw [comb_bas1 o p q a, comb_bas1 o p q b, comb_bas1 o p q c, comb_bas2 o p q d, comb_bas2 o p q e, comb_bas2 o p q f, meet_mv, meet_mv, meet_mv, det_sm, det_mv, pappus0]
  simp
/-! ### Desargues -/
theorem cr_vec (x y z w : T3) : cr (cr x y) (cr z w) = ((det x z w) * y.1 - (det y z w) * x.1, (det x z w) * y.2.1 - (det y z w) * x.2.1, (det x z w) * y.2.2 - (det y z w) * x.2.2) := by
  obtain ⟨x1, x2, x3⟩ := x
  obtain ⟨y1, y2, y3⟩ := y
  obtain ⟨z1, z2, z3⟩ := z
  obtain ⟨w1, w2, w3⟩ := w
  simp only [cr, det, dot, Prod.mk.injEq]
  refine ⟨?_, ?_, ?_⟩ <;> grind
theorem des0 (x y z : T3) (a b c d e f : Int) : det (a * y.1 - b * x.1, a * y.2.1 - b * x.2.1, a * y.2.2 - b * x.2.2) (c * z.1 - d * x.1, c * z.2.1 - d * x.2.1, c * z.2.2 - d * x.2.2) (e * z.1 - f * y.1, e * z.2.1 - f * y.2.1, e * z.2.2 - f * y.2.2) = det x y z * (a * d * e - b * c * f) := by
  obtain ⟨x1, x2, x3⟩ := x
  obtain ⟨y1, y2, y3⟩ := y
  obtain ⟨z1, z2, z3⟩ := z
  simp only [det, dot, cr]
  grind
theorem des1 (p0 p1 p2 q0 q1 q2 : T3) : det p0 q0 q1 * det p2 q0 q2 * det p1 q1 q2 - det p1 q0 q1 * det p0 q0 q2 * det p2 q1 q2 = - (det q0 q1 q2 * det (cr p0 q0) (cr p1 q1) (cr p2 q2)) := by
  obtain ⟨x1, x2, x3⟩ := p0
  obtain ⟨y1, y2, y3⟩ := p1
  obtain ⟨z1, z2, z3⟩ := p2
  obtain ⟨u1, u2, u3⟩ := q0
  obtain ⟨v1, v2, v3⟩ := q1
  obtain ⟨w1, w2, w3⟩ := q2
  simp only [det, dot, cr]
  grind
theorem desargues (p0 p1 p2 q0 q1 q2 : T3) : det (X4 p0 p1 q0 q1) (X4 p0 p2 q0 q2) (X4 p1 p2 q1 q2) = - (det p0 p1 p2 * (det q0 q1 q2 * det (cr p0 q0) (cr p1 q1) (cr p2 q2))) := by
  unfold X4
  rw [cr_vec p0 p1, cr_vec p0 p2, cr_vec p1 p2, des0, des1, Int.mul_neg]
/-- sides meet on a line exactly if the lines of corners have a common point -/
theorem des_iff {p0 p1 p2 q0 q1 q2 : T3} (hp : det p0 p1 p2 ≠ 0) (hq : det q0 q1 q2 ≠ 0) : det (X4 p0 p1 q0 q1) (X4 p0 p2 q0 q2) (X4 p1 p2 q1 q2) = 0 ↔ det (cr p0 q0) (cr p1 q1) (cr p2 q2) = 0 := by
  rw [desargues]
  constructor
  · intro h
    have h := Int.neg_eq_zero.mp h
    exact ((Int.mul_eq_zero.mp ((Int.mul_eq_zero.mp h).resolve_left hp)).resolve_left hq)
  · intro h
    rw [h]; simp
/-- lines through one point -/
theorem det_through {o l m n : T3} (ho : o ≠ z3) (hl : dot o l = 0) (hm : dot o m = 0) (hn : dot o n = 0) : det l m n = 0 := by
  have key : sm (det l m n) o = z3 := by
    obtain ⟨a, b, c⟩ := o
    obtain ⟨l1, l2, l3⟩ := l
    obtain ⟨m1, m2, m3⟩ := m
    obtain ⟨n1, n2, n3⟩ := n
    simp only [dot] at hl hm hn
    simp only [sm, det, cr, dot, z3, Prod.mk.injEq]
    refine ⟨?_, ?_, ?_⟩ <;> grind
  exact Classical.byContradiction fun z => sm_ne z ho key
/-! ### points of two lines through one point -/
theorem cr_two (o p q : T3) (a e : P2) : dot (cr (comb o p a) (comb o q e)) o = a.2 * e.2 * det o p q := by
  obtain ⟨o1, o2, o3⟩ := o
  obtain ⟨p1, p2, p3⟩ := p
  obtain ⟨q1, q2, q3⟩ := q
  simp only [comb, cr, dot, det]
  grind
theorem line_ne {o p q : T3} (h : det o p q ≠ 0) {a e : P2} (ha : a.2 ≠ 0) (he : e.2 ≠ 0) : cr (comb o p a) (comb o q e) ≠ z3 := fun z => by
  have := cr_two o p q a e
  rw [z] at this
  exact Int.mul_ne_zero (Int.mul_ne_zero ha he) h (this.symm.trans (by simp [dot, z3]))
theorem det_aed (o p q : T3) (a e d : P2) : det (comb o p a) (comb o q e) (comb o q d) = a.2 * br e d * det o p q * (-1) := by
  obtain ⟨o1, o2, o3⟩ := o
  obtain ⟨p1, p2, p3⟩ := p
  obtain ⟨q1, q2, q3⟩ := q
  simp only [comb, cr, dot, det, br]
  grind
/-- the crosswise lines are not one -/
theorem meet_ne {o p q : T3} (h : det o p q ≠ 0) {a b e d : P2} (ha : a.2 ≠ 0) (hb : b.2 ≠ 0) (he : e.2 ≠ 0) (hd : d.2 ≠ 0) (hed : br e d ≠ 0) : X4 (comb o p a) (comb o q e) (comb o p b) (comb o q d) ≠ z3 := fun z => by
  have n1 := line_ne h ha he
  have n2 := line_ne h hb hd
  have l := low_cr n1 n2 z
  have i : dot (comb o q d) (low (cr (comb o p b) (comb o q d))) = 0 := (inc_low n2).2
  rw [← l] at i
  have j := (inc_det (r := comb o q d) n1).mp i
  rw [det_aed] at j
  have : a.2 * br e d * det o p q ≠ 0 := Int.mul_ne_zero (Int.mul_ne_zero ha hed) h
  omega
theorem cr_combs (o p : T3) (a b : P2) : cr (comb o p a) (comb o p b) = sm (br a b) (cr o p) := by
  obtain ⟨o1, o2, o3⟩ := o
  obtain ⟨p1, p2, p3⟩ := p
  simp only [comb, cr, sm, br, Prod.mk.injEq]
  refine ⟨?_, ?_, ?_⟩ <;> grind
/-! ### drawing points of a line comes to an end -/
structure OnL (xs : List P2) : Prop where
  a : ∀ n ∈ xs, 1 ≤ n.1 ∧ n.1 ≤ 5
  b : ∀ n ∈ xs, n.2 ≠ 0 ∧ Sz 9 n.2
  pw : xs.Pairwise fun m n => br m n ≠ 0
theorem OnL.z {xs : List P2} (h : OnL xs) {n : P2} (hn : n ∈ xs) : n ≠ (0, 0) := fun e => by
  have := (h.a n hn).1
  rw [e] at this
  exact absurd this (by decide)
structure OnI (many : Nat) (xs : List P2) (n c : Nat) : Prop where
  g : OnL xs
  len : xs.length ≤ many
  cn : c ≤ n - 40
  bad : ∀ t, n - c < t → t ≤ n → ∃ m ∈ xs, ∃ a : Int, 1 ≤ a ∧ a ≤ 5 ∧ m.1 * (t : Int) = m.2 * a
  n1 : n ≤ 40 + 21 * xs.length + c
theorem onI_nil {many : Nat} : OnI many [] 0 0 := ⟨⟨fun _ h => (nomatch h), fun _ h => (nomatch h), .nil⟩, Nat.zero_le _, Nat.zero_le _, fun t h1 h2 => by omega, Nat.zero_le _⟩
theorem OnI.c20 {many : Nat} {xs : List P2} {n c : Nat} (h : OnI many xs n c) (hl : xs.length ≤ 2) : c ≤ 20 := by
  have q := cover (xs.flatMap fun m => [1, 2, 3, 4, 5].map fun (a : Int) => (fun t : Nat => 1 ≤ m.1 ∧ m.1 * (t : Int) = m.2 * a)) (List.range' (n - c + 1) c) List.nodup_range' ?_ ?_
  · rw [List.length_range'] at q
    have e : (xs.flatMap fun m => [1, 2, 3, 4, 5].map fun (a : Int) => (fun t : Nat => 1 ≤ m.1 ∧ m.1 * (t : Int) = m.2 * a)).length = 5 * xs.length := by
      rw [List.length_flatMap]
      have : (xs.map fun m => ([1, 2, 3, 4, 5].map fun (a : Int) => (fun t : Nat => 1 ≤ m.1 ∧ m.1 * (t : Int) = m.2 * a)).length) = List.replicate xs.length 5 := by
        rw [List.eq_replicate_iff]
        refine ⟨by simp, fun b hb => ?_⟩
        obtain ⟨m, _, rfl⟩ := List.mem_map.mp hb
        rfl
      rw [this, List.sum_replicate_nat, Nat.mul_comm]
    rw [e] at q
    omega
  · intro p hp a b c hab hac hbc pa pb pc
    obtain ⟨m, _, hp⟩ := List.mem_flatMap.mp hp
    obtain ⟨x, _, rfl⟩ := List.mem_map.mp hp
    have e : m.1 * ((a : Int) - (b : Int)) = 0 := by
      have := pa.2
      have := pb.2
      rw [Int.mul_sub]; omega
    rcases Int.mul_eq_zero.mp e with e | e
    · have := pa.1; omega
    · omega
  · intro t ht
    obtain ⟨h1, h2⟩ := List.mem_range'_1.mp ht
    have := h.cn
    obtain ⟨m, hm, a, a1, a5, e⟩ := h.bad t (by omega) (by omega)
    refine ⟨fun t : Nat => 1 ≤ m.1 ∧ m.1 * (t : Int) = m.2 * a, List.mem_flatMap.mpr ⟨m, hm, List.mem_map.mpr ⟨a, ?_, rfl⟩⟩, (h.g.a m hm).1, e⟩
    have : a = 1 ∨ a = 2 ∨ a = 3 ∨ a = 4 ∨ a = 5 := by omega
    rcases this with rfl | rfl | rfl | rfl | rfl <;> decide
theorem OnI.bound {many : Nat} {xs : List P2} {n c : Nat} (h : OnI many xs n c) (hm : many ≤ 3) (hl : xs.length < many) : n ≤ 110 := by
  have := h.c20 (by omega)
  have := h.n1
  omega
theorem OnI.skip {many : Nat} {xs : List P2} {n c : Nat} (h : OnI many xs n c) (hm : many ≤ 3) (hl : xs.length < many) {a b : Int} (ha : 1 ≤ a ∧ a ≤ 5) (hb : 40 < n + 1 → b = ((n + 1 : Nat) : Int)) (hf : ∃ m ∈ xs, br m (a, b) = 0) : ∃ c', OnI many xs (n + 1) c' := by
  by_cases h40 : 40 < n + 1
  · have e := hb h40
    subst e
    refine ⟨c + 1, h.g, h.len, ?_, fun t h1 h2 => ?_, ?_⟩
    · have := h.cn; omega
    · by_cases e : t = n + 1
      · subst e
        obtain ⟨m, hm, e⟩ := hf
        refine ⟨m, hm, a, ha.1, ha.2, ?_⟩
        unfold br at e
        simp only at e
        omega
      · exact h.bad t (by omega) (by omega)
    · have := h.n1; omega
  · exact ⟨0, h.g, h.len, by omega, fun t h1 h2 => by omega, by omega⟩
theorem OnI.add {many : Nat} {xs : List P2} {n c : Nat} (h : OnI many xs n c) (hm : many ≤ 3) (hl : xs.length < many) {d : P2} (ha : 1 ≤ d.1 ∧ d.1 ≤ 5) (hb : d.2 ≠ 0 ∧ Sz 9 d.2) (hf : ∀ m ∈ xs, br m d ≠ 0) : OnI many (xs ++ [d]) (n + 1) 0 where
  g := {
    a := fun q hq => by
      rcases List.mem_append.mp hq with hq | hq
      · exact h.g.a q hq
      · rw [List.mem_singleton.mp hq]; exact ha
    b := fun q hq => by
      rcases List.mem_append.mp hq with hq | hq
      · exact h.g.b q hq
      · rw [List.mem_singleton.mp hq]; exact hb
    pw := by
      rw [List.pairwise_append]
      refine ⟨h.g.pw, List.pairwise_singleton _ _, fun a ha b hb => ?_⟩
      rw [List.mem_singleton.mp hb]
      exact hf a ha }
  len := by rw [List.length_append, List.length_singleton]; exact hl
  cn := by omega
  bad t h1 h2 := by omega
  n1 := by
    have := h.c20 (by omega)
    have := h.n1
    rw [List.length_append, List.length_singleton]
    omega
/-- points of a line are one exactly if their numbers are alike -/
theorem low_comb {p q : T3} (hpq : cr p q ≠ z3) {m n : P2} (hm : m ≠ (0, 0)) (hn : n ≠ (0, 0)) : low (comb p q m) = low (comb p q n) ↔ br m n = 0 := by
  have cm := comb_ne hpq hm
  have cn := comb_ne hpq hn
  constructor
  · intro e
    have pe : Pe (comb p q m) (comb p q n) := (Pe.low cm).symm.trans (by rw [e]; exact Pe.low cn)
    have z : cr (comb p q m) (comb p q n) = z3 := by
      have := pe.cr (Pe.refl (comb p q n))
      rw [cr_self] at this
      obtain ⟨k, l, hk, hl, e⟩ := this
      rw [sm_z] at e
      exact Classical.byContradiction fun q => sm_ne hk q e
    rw [cr_combs] at z
    exact Classical.byContradiction fun q => sm_ne q hpq z
  · intro e
    refine low_cr cm cn ?_
    rw [cr_combs, e]
    simp [sm, z3]
theorem comb_Z2 {p q : T3} {n : P2} (h : (1 ≤ n.1 ∧ n.1 ≤ 5) ∧ Sz 9 n.2) (zp : Z3 40 p) (zq : Z3 40 q) : Z3 60 (comb p q n) := by
  have h1 : Sz 3 n.1 := ⟨by have := h.1; show n.1.natAbs < 2 ^ 3; omega⟩
  exact ⟨((h1.mul zp.1).add (h.2.mul zq.1)).mono (by decide), ((h1.mul zp.2.1).add (h.2.mul zq.2.1)).mono (by decide), ((h1.mul zp.2.2).add (h.2.mul zq.2.2)).mono (by decide)⟩
/-! ### meetings, as the program tells them -/
theorem X4_low {x y z w : T3} (h1 : cr x y ≠ z3) (h2 : cr z w ≠ z3) : Pe (cr (low (cr x y)) (low (cr z w))) (X4 x y z w) := (Pe.low h1).cr (Pe.low h2)
theorem X4_pe {x y z w x' y' z' w' : T3} (a : Pe x x') (b : Pe y y') (c : Pe z z') (d : Pe w w') : Pe (X4 x y z w) (X4 x' y' z' w') := (a.cr b).cr (c.cr d)
theorem Pe.zero {x y : T3} (h : Pe x y) : x = z3 ↔ y = z3 := by
  constructor
  · intro e; exact Classical.byContradiction fun q => h.ne q e
  · intro e; exact Classical.byContradiction fun q => h.symm.ne q e
structure PapH (o p q : T3) (a b c d e f : P2) (A B C D E F : T3) : Prop where
  h : det o p q ≠ 0
  a2 : a.2 ≠ 0
  b2 : b.2 ≠ 0
  c2 : c.2 ≠ 0
  d2 : d.2 ≠ 0
  e2 : e.2 ≠ 0
  f2 : f.2 ≠ 0
  ed : br e d ≠ 0
  fd : br f d ≠ 0
  fe : br f e ≠ 0
  pa : Pe A (comb o p a)
  pb : Pe B (comb o p b)
  pc : Pe C (comb o p c)
  pd : Pe D (comb o q d)
  pe : Pe E (comb o q e)
  pf : Pe F (comb o q f)
section
variable {o p q : T3} {a b c d e f : P2} {A B C D E F : T3}
theorem PapH.lines (H : PapH o p q a b c d e f A B C D E F) : cr A E ≠ z3 ∧ cr B D ≠ z3 ∧ cr A F ≠ z3 ∧ cr C D ≠ z3 ∧ cr B F ≠ z3 ∧ cr C E ≠ z3 :=
  ⟨(H.pa.cr H.pe).ne (line_ne H.h H.a2 H.e2), (H.pb.cr H.pd).ne (line_ne H.h H.b2 H.d2), (H.pa.cr H.pf).ne (line_ne H.h H.a2 H.f2), (H.pc.cr H.pd).ne (line_ne H.h H.c2 H.d2),
    (H.pb.cr H.pf).ne (line_ne H.h H.b2 H.f2), (H.pc.cr H.pe).ne (line_ne H.h H.c2 H.e2)⟩
theorem PapH.meets (H : PapH o p q a b c d e f A B C D E F) : X4 A E B D ≠ z3 ∧ X4 A F C D ≠ z3 ∧ X4 B F C E ≠ z3 :=
  ⟨(X4_pe H.pa H.pe H.pb H.pd).ne (meet_ne H.h H.a2 H.b2 H.e2 H.d2 H.ed), (X4_pe H.pa H.pf H.pc H.pd).ne (meet_ne H.h H.a2 H.c2 H.f2 H.d2 H.fd),
    (X4_pe H.pb H.pf H.pc H.pe).ne (meet_ne H.h H.b2 H.c2 H.f2 H.e2 H.fe)⟩
theorem PapH.joined (H : PapH o p q a b c d e f A B C D E F) : det (low (X4 A E B D)) (low (X4 A F C D)) (low (X4 B F C E)) = 0 := by
  obtain ⟨h1, h2, h3⟩ := H.meets
  refine (((Pe.low h1).trans (X4_pe H.pa H.pe H.pb H.pd)).det ((Pe.low h2).trans (X4_pe H.pa H.pf H.pc H.pd)) ((Pe.low h3).trans (X4_pe H.pb H.pf H.pc H.pe))).mpr ?_
  exact pappus1 o p q a b c d e f
end
/-! moved by a table -/
theorem mv_low_pe {t : T9} (ht : dt t ≠ 0) {x : T3} (hx : x ≠ z3) : Pe (low (mv t x)) (mv t x) := Pe.low (mv_ne ht hx)
theorem cr_mv_ne {t : T9} (ht : dt t ≠ 0) {x y : T3} (hx : x ≠ z3) (hy : y ≠ z3) (h : cr x y ≠ z3) : cr (low (mv t x)) (low (mv t y)) ≠ z3 :=
  ((mv_low_pe ht hx).cr (mv_low_pe ht hy)).ne (cr_mv ht h)
theorem X4_mv {t : T9} (ht : dt t ≠ 0) {x y z w : T3} (hx : x ≠ z3) (hy : y ≠ z3) (hz : z ≠ z3) (hw : w ≠ z3) : Pe (X4 (low (mv t x)) (low (mv t y)) (low (mv t z)) (low (mv t w))) (mv t (X4 x y z w)) := by
  refine (X4_pe (mv_low_pe ht hx) (mv_low_pe ht hy) (mv_low_pe ht hz) (mv_low_pe ht hw)).trans ?_
  unfold X4
  rw [meet_mv]
  exact Pe.of_sm ht _
theorem X4_mv_low {t : T9} (ht : dt t ≠ 0) {x y z w : T3} (hx : x ≠ z3) (hy : y ≠ z3) (hz : z ≠ z3) (hw : w ≠ z3) (h : X4 x y z w ≠ z3) :
    X4 (low (mv t x)) (low (mv t y)) (low (mv t z)) (low (mv t w)) ≠ z3 ∧ low (X4 (low (mv t x)) (low (mv t y)) (low (mv t z)) (low (mv t w))) = low (mv t (low (X4 x y z w))) := by
  have p := X4_mv ht hx hy hz hw
  have n := mv_ne ht h
  refine ⟨p.ne n, ?_⟩
  have n2 := mv_ne ht (Pe.ne (Pe.low h) h)
  exact (p.trans ((Pe.low h).mv t).symm).eq n2
theorem X4_mv_zero {t : T9} (ht : dt t ≠ 0) {x y z w : T3} (hx : x ≠ z3) (hy : y ≠ z3) (hz : z ≠ z3) (hw : w ≠ z3) (h : X4 x y z w = z3) : X4 (low (mv t x)) (low (mv t y)) (low (mv t z)) (low (mv t w)) = z3 := by
  refine (X4_mv ht hx hy hz hw).zero.mpr ?_
  rw [h]; simp [mv, dot, z3]
/-- corners on lines through a point -/
theorem corner_ne {o p : T3} (h : cr o p ≠ z3) {n : P2} (hn : 1 ≤ n.1) {P : T3} (hP : Pe P (comb o p n)) : cr p P ≠ z3 ∧ dot o (cr p P) = 0 := by
  have e : cr p (comb o p n) = sm (- n.1) (cr o p) := by
    obtain ⟨o1, o2, o3⟩ := o
    obtain ⟨p1, p2, p3⟩ := p
    simp only [comb, cr, sm, Prod.mk.injEq]
    refine ⟨?_, ?_, ?_⟩ <;> grind
  have n0 : cr p (comb o p n) ≠ z3 := by rw [e]; exact sm_ne (by omega) h
  have pe := (Pe.refl p).cr hP
  refine ⟨pe.ne n0, ?_⟩
  obtain ⟨k, l, hk, hl, f⟩ := pe
  have g : k * dot o (cr p P) = 0 := by
    rw [← dot_sm, f, dot_sm, e, dot_sm, (dot_cr o p).1]
    simp
  exact (Int.mul_eq_zero.mp g).resolve_left hk
end Lw

namespace Lw
open PySem L2 DL
local macro_rules | `(tactic| walk_at "nf") => `(tactic| ((conv => lhs; try simp only [List.set_cons_zero, List.set_cons_succ, startD, startD1, List.map_cons, List.map_nil, List.length_cons, List.length_nil, List.replicate_succ, List.replicate_zero, List.nil_append, List.cons_append, wrN, unl, lnd, wipeD, backD, bkS_sh, bkS_no, bkS_ow, bkS_opt, List.getElem?_cons_zero, List.getElem?_cons_succ, Nat.reduceSub, Nat.reduceAdd, Nat.zero_add, Int.reduceToNat]) <;> rfl))
local macro_rules | `(tactic| walk_at "ni") => `(tactic| ((conv => lhs; try simp only [List.map_cons, List.map_nil, List.length_cons, List.length_nil, Int.toNat_natCast, Int.reduceToNat, Nat.reduceAdd, Nat.zero_add, Int.sub_zero, rng0_0, rng0_1, rng0_2, rng0_3, rng0_4, rng0_5, rng0_6]) <;> rfl))
local macro_rules | `(tactic| walk_at "n1") => `(tactic| first | (apply sq_nm; · walk_at "nf") | (apply la_nm; · walk_at "nf"))
local macro_rules | `(tactic| walk_at "na") => `(tactic| (conv => lhs; try simp only [List.nil_append, List.cons_append]) <;> rfl)
local macro_rules | `(tactic| walk_at "n2") => `(tactic| first | (apply cmn_nf; (· walk_at "ni"); (· walk_at "na"); (· walk_at "nf"); skip) | (apply cmy_nf; (· walk_at "ni"); (· walk_at "na"); (· walk_at "nf"); skip) | (apply fon_nf; (· walk_at "ni"); (· walk_at "nf"); skip) | (apply foc_nf; (· walk_at "ni"); (· walk_at "nf"); skip) | (apply c2n_nf; (· walk_at "ni"); (· walk_at "na"); (· walk_at "nf"); skip) | (apply c2c_nf; (· walk_at "ni"); (· walk_at "na"); (· walk_at "nf"); skip) | (apply cgn_nf; (· walk_at "ni"); (· walk_at "na"); (· walk_at "nf"); (· rfl); skip) | (apply cgy_nf; (· walk_at "ni"); (· walk_at "na"); (· walk_at "nf"); (· rfl); skip) | (apply fgn_nf; (· walk_at "ni"); (· walk_at "nf"); (· rfl); skip) | (apply fgc_nf; (· walk_at "ni"); (· walk_at "nf"); (· rfl); skip))
local macro_rules | `(tactic| walk_at "n3") => `(tactic| first | (apply cmc_nf; (· walk_at "ni"); (· walk_at "na"); (· walk_at "nf"); skip) | (apply cgc_nf; (· walk_at "ni"); (· walk_at "na"); (· walk_at "nf"); (· rfl); skip))
local macro_rules | `(tactic| walk_at "go") => `(tactic| repeat (first | refine ⟨rfl, ?_⟩ | refine ⟨Nat.le_of_ble_eq_true rfl, ?_⟩ | refine ⟨isBo_opt rfl, ?_⟩ | refine ⟨noBo_1 (isBo_opt rfl), ?_⟩ | walk_at "n1"))
local macro_rules | `(tactic| walk_at "gu") => `(tactic| repeat (first | refine ⟨rfl, ?_⟩ | refine ⟨Nat.le_of_ble_eq_true rfl, ?_⟩ | refine ⟨isBo_opt rfl, ?_⟩ | refine ⟨noBo_1 (isBo_opt rfl), ?_⟩ | walk_at "n1" | walk_at "n2" | refine ⟨by decide, ?_⟩))
local macro_rules | `(tactic| walk_at "aw") => `(tactic| repeat (first | refine ⟨rfl, ?_⟩ | refine ⟨Nat.le_of_ble_eq_true rfl, ?_⟩ | refine ⟨isBo_opt rfl, ?_⟩ | refine ⟨noBo_1 (isBo_opt rfl), ?_⟩ | walk_at "n2" | refine ⟨by decide, ?_⟩))
local macro_rules | `(tactic| walk_at "nx") => `(tactic| repeat (first | refine ⟨rfl, ?_⟩ | refine ⟨Nat.le_of_ble_eq_true rfl, ?_⟩ | refine ⟨isBo_opt rfl, ?_⟩ | refine ⟨noBo_1 (isBo_opt rfl), ?_⟩))
local macro_rules | `(tactic| walk_at "st") => `(tactic| repeat (first | refine ⟨rfl, ?_⟩ | refine ⟨Nat.le_of_ble_eq_true rfl, ?_⟩ | refine ⟨isBo_opt rfl, ?_⟩ | refine ⟨noBo_1 (isBo_opt rfl), ?_⟩))

def topS (i : Nat) : Stmt := PySem.Challenge.pw_pointwright_k24_whole_pappus_and_desargu.main.body.getD i (.Pass ⟨0, 0, 0, 0⟩)
abbrev s_lowest : Stmt := topS 2
abbrev s_across : Stmt := topS 3
abbrev s_table_value : Stmt := topS 4
abbrev s_are_joined : Stmt := topS 5
abbrev s_applied_table : Stmt := topS 6
abbrev s_adjoint : Stmt := topS 7
abbrev s_table_product : Stmt := topS 8
abbrev s_frame_table : Stmt := topS 9
abbrev s_moving_table : Stmt := topS 10
abbrev s_pappus_points : Stmt := topS 11
abbrev s_side_points : Stmt := topS 12
abbrev s_corner_lines : Stmt := topS 13
abbrev s__law_start : Stmt := topS 15
abbrev s__law_pick : Stmt := topS 16
abbrev s__law_same : Stmt := topS 17
abbrev s__law_cross : Stmt := topS 18
abbrev s__law_value : Stmt := topS 19
abbrev s__law_least : Stmt := topS 20
abbrev s__law_point : Stmt := topS 21
abbrev s__law_frame : Stmt := topS 22
abbrev s__law_on : Stmt := topS 23
abbrev s_law : Stmt := topS 24
structure Tx (K : PySem.W.Frag) (mg : Str → Option Value) where
  f_lowest : Addr
  d_lowest : FuncData
  F_lowest : Fun K "lowest" "lowest" s_lowest f_lowest d_lowest
  b_lowest : Binds K d_lowest ["some"] []
  g_lowest : mg "lowest" = some (.ref f_lowest)
  f_across : Addr
  d_across : FuncData
  F_across : Fun K "across" "across" s_across f_across d_across
  b_across : Binds K d_across ["first", "second"] []
  g_across : mg "across" = some (.ref f_across)
  f_table_value : Addr
  d_table_value : FuncData
  F_table_value : Fun K "table_value" "table_value" s_table_value f_table_value d_table_value
  b_table_value : Binds K d_table_value ["rows"] []
  g_table_value : mg "table_value" = some (.ref f_table_value)
  f_are_joined : Addr
  d_are_joined : FuncData
  F_are_joined : Fun K "are_joined" "are_joined" s_are_joined f_are_joined d_are_joined
  b_are_joined : Binds K d_are_joined ["first", "second", "third"] []
  g_are_joined : mg "are_joined" = some (.ref f_are_joined)
  f_applied_table : Addr
  d_applied_table : FuncData
  F_applied_table : Fun K "applied_table" "applied_table" s_applied_table f_applied_table d_applied_table
  b_applied_table : Binds K d_applied_table ["table", "triple"] []
  g_applied_table : mg "applied_table" = some (.ref f_applied_table)
  f_adjoint : Addr
  d_adjoint : FuncData
  F_adjoint : Fun K "adjoint" "adjoint" s_adjoint f_adjoint d_adjoint
  b_adjoint : Binds K d_adjoint ["table"] []
  g_adjoint : mg "adjoint" = some (.ref f_adjoint)
  f_table_product : Addr
  d_table_product : FuncData
  F_table_product : Fun K "table_product" "table_product" s_table_product f_table_product d_table_product
  b_table_product : Binds K d_table_product ["first", "second"] []
  g_table_product : mg "table_product" = some (.ref f_table_product)
  f_frame_table : Addr
  d_frame_table : FuncData
  F_frame_table : Fun K "frame_table" "frame_table" s_frame_table f_frame_table d_frame_table
  b_frame_table : Binds K d_frame_table ["four"] []
  g_frame_table : mg "frame_table" = some (.ref f_frame_table)
  f_moving_table : Addr
  d_moving_table : FuncData
  F_moving_table : Fun K "moving_table" "moving_table" s_moving_table f_moving_table d_moving_table
  b_moving_table : Binds K d_moving_table ["first", "second"] []
  g_moving_table : mg "moving_table" = some (.ref f_moving_table)
  f_pappus_points : Addr
  d_pappus_points : FuncData
  F_pappus_points : Fun K "pappus_points" "pappus_points" s_pappus_points f_pappus_points d_pappus_points
  b_pappus_points : Binds K d_pappus_points ["first", "second"] []
  g_pappus_points : mg "pappus_points" = some (.ref f_pappus_points)
  f_side_points : Addr
  d_side_points : FuncData
  F_side_points : Fun K "side_points" "side_points" s_side_points f_side_points d_side_points
  b_side_points : Binds K d_side_points ["first", "second"] []
  g_side_points : mg "side_points" = some (.ref f_side_points)
  f_corner_lines : Addr
  d_corner_lines : FuncData
  F_corner_lines : Fun K "corner_lines" "corner_lines" s_corner_lines f_corner_lines d_corner_lines
  b_corner_lines : Binds K d_corner_lines ["first", "second"] []
  g_corner_lines : mg "corner_lines" = some (.ref f_corner_lines)
  f__law_start : Addr
  d__law_start : FuncData
  F__law_start : Fun K "_law_start" "_law_start" s__law_start f__law_start d__law_start
  b__law_start : Binds K d__law_start ["script"] []
  g__law_start : mg "_law_start" = some (.ref f__law_start)
  f__law_pick : Addr
  d__law_pick : FuncData
  F__law_pick : Fun K "_law_pick" "_law_pick" s__law_pick f__law_pick d__law_pick
  b__law_pick : Binds K d__law_pick ["state", "limit"] []
  g__law_pick : mg "_law_pick" = some (.ref f__law_pick)
  f__law_same : Addr
  d__law_same : FuncData
  F__law_same : Fun K "_law_same" "_law_same" s__law_same f__law_same d__law_same
  b__law_same : Binds K d__law_same ["told", "due"] []
  g__law_same : mg "_law_same" = some (.ref f__law_same)
  f__law_cross : Addr
  d__law_cross : FuncData
  F__law_cross : Fun K "_law_cross" "_law_cross" s__law_cross f__law_cross d__law_cross
  b__law_cross : Binds K d__law_cross ["p", "q"] []
  g__law_cross : mg "_law_cross" = some (.ref f__law_cross)
  f__law_value : Addr
  d__law_value : FuncData
  F__law_value : Fun K "_law_value" "_law_value" s__law_value f__law_value d__law_value
  b__law_value : Binds K d__law_value ["p", "q", "r"] []
  g__law_value : mg "_law_value" = some (.ref f__law_value)
  f__law_least : Addr
  d__law_least : FuncData
  F__law_least : Fun K "_law_least" "_law_least" s__law_least f__law_least d__law_least
  b__law_least : Binds K d__law_least ["some"] []
  g__law_least : mg "_law_least" = some (.ref f__law_least)
  f__law_point : Addr
  d__law_point : FuncData
  F__law_point : Fun K "_law_point" "_law_point" s__law_point f__law_point d__law_point
  b__law_point : Binds K d__law_point ["state"] []
  g__law_point : mg "_law_point" = some (.ref f__law_point)
  f__law_frame : Addr
  d__law_frame : FuncData
  F__law_frame : Fun K "_law_frame" "_law_frame" s__law_frame f__law_frame d__law_frame
  b__law_frame : Binds K d__law_frame ["state", "many"] []
  g__law_frame : mg "_law_frame" = some (.ref f__law_frame)
  f__law_on : Addr
  d__law_on : FuncData
  F__law_on : Fun K "_law_on" "_law_on" s__law_on f__law_on d__law_on
  b__law_on : Binds K d__law_on ["state", "p", "q", "many"] []
  g__law_on : mg "_law_on" = some (.ref f__law_on)
  f_law : Addr
  d_law : FuncData
  F_law : Fun K "law" "law" s_law f_law d_law
  b_law : Binds K d_law ["script"] []
  g_law : mg "law" = some (.ref f_law)
  z_abs : mg "abs" = none
  z_bool : mg "bool" = none
  z_int : mg "int" = none
  z_isinstance : mg "isinstance" = none
  z_len : mg "len" = none
  z_list : mg "list" = none
  z_range : mg "range" = none
  z_set : mg "set" = none
  z_str : mg "str" = none
  z_sum : mg "sum" = none
  z_tuple : mg "tuple" = none
  z_gcd : mg "gcd" = some (.builtin "math.gcd")
theorem sc_lowest : FnScope ["some", "size", "first", "one"] ["some"] (defScope s_lowest) := ⟨rfl, rfl, rfl, by decide +kernel, rfl, by decide +kernel, by decide +kernel⟩
theorem sc_across : FnScope ["first", "second", "a", "b", "c", "d", "e", "f", "told"] ["first", "second"] (defScope s_across) := ⟨rfl, rfl, rfl, by decide +kernel, rfl, by decide +kernel, by decide +kernel⟩
theorem sc_table_value : FnScope ["rows", "a", "b", "c", "d", "e", "f", "g", "h", "i"] ["rows"] (defScope s_table_value) := ⟨rfl, rfl, rfl, by decide +kernel, rfl, by decide +kernel, by decide +kernel⟩
theorem sc_are_joined : FnScope ["first", "second", "third"] ["first", "second", "third"] (defScope s_are_joined) := ⟨rfl, rfl, rfl, by decide +kernel, rfl, by decide +kernel, by decide +kernel⟩
theorem sc_applied_table : FnScope ["table", "triple", "row", "k"] ["table", "triple"] (defScope s_applied_table) := ⟨rfl, rfl, rfl, by decide +kernel, rfl, by decide +kernel, by decide +kernel⟩
theorem sc_adjoint : FnScope ["table", "a", "b", "c", "d", "e", "f", "g", "h", "i"] ["table"] (defScope s_adjoint) := ⟨rfl, rfl, rfl, by decide +kernel, rfl, by decide +kernel, by decide +kernel⟩
theorem sc_table_product : FnScope ["first", "second", "found", "row", "j", "k"] ["first", "second"] (defScope s_table_product) := ⟨rfl, rfl, rfl, by decide +kernel, rfl, by decide +kernel, by decide +kernel⟩
theorem sc_frame_table : FnScope ["four", "a", "b", "c", "d", "weights", "k"] ["four"] (defScope s_frame_table) := ⟨rfl, rfl, rfl, by decide +kernel, rfl, by decide +kernel, by decide +kernel⟩
theorem sc_moving_table : FnScope ["first", "second", "table", "numbers", "size", "one", "lead", "row"] ["first", "second"] (defScope s_moving_table) := ⟨rfl, rfl, rfl, by decide +kernel, rfl, by decide +kernel, by decide +kernel⟩
theorem sc_pappus_points : FnScope ["first", "second", "a", "b", "c", "d", "e", "f", "rows", "p", "q", "r", "s"] ["first", "second"] (defScope s_pappus_points) := ⟨rfl, rfl, rfl, by decide +kernel, rfl, by decide +kernel, by decide +kernel⟩
theorem sc_side_points : FnScope ["first", "second", "pairs", "i", "j"] ["first", "second"] (defScope s_side_points) := ⟨rfl, rfl, rfl, by decide +kernel, rfl, by decide +kernel, by decide +kernel⟩
theorem sc_corner_lines : FnScope ["first", "second", "k"] ["first", "second"] (defScope s_corner_lines) := ⟨rfl, rfl, rfl, by decide +kernel, rfl, by decide +kernel, by decide +kernel⟩
theorem sc__law_start : FnScope ["script"] ["script"] (defScope s__law_start) := ⟨rfl, rfl, rfl, by decide +kernel, rfl, by decide +kernel, by decide +kernel⟩
theorem sc__law_pick : FnScope ["state", "limit", "cell", "drawn"] ["state", "limit"] (defScope s__law_pick) := ⟨rfl, rfl, rfl, by decide +kernel, rfl, by decide +kernel, by decide +kernel⟩
theorem sc__law_same : FnScope ["told", "due", "k"] ["told", "due"] (defScope s__law_same) := ⟨rfl, rfl, rfl, by decide +kernel, rfl, by decide +kernel, by decide +kernel⟩
theorem sc__law_cross : FnScope ["p", "q"] ["p", "q"] (defScope s__law_cross) := ⟨rfl, rfl, rfl, by decide +kernel, rfl, by decide +kernel, by decide +kernel⟩
theorem sc__law_value : FnScope ["p", "q", "r", "told"] ["p", "q", "r"] (defScope s__law_value) := ⟨rfl, rfl, rfl, by decide +kernel, rfl, by decide +kernel, by decide +kernel⟩
theorem sc__law_least : FnScope ["some", "size", "one"] ["some"] (defScope s__law_least) := ⟨rfl, rfl, rfl, by decide +kernel, rfl, by decide +kernel, by decide +kernel⟩
theorem sc__law_point : FnScope ["state", "some"] ["state"] (defScope s__law_point) := ⟨rfl, rfl, rfl, by decide +kernel, rfl, by decide +kernel, by decide +kernel⟩
theorem sc__law_frame : FnScope ["state", "many", "found", "tries", "point", "flat", "i", "j"] ["state", "many"] (defScope s__law_frame) := ⟨rfl, rfl, rfl, by decide +kernel, rfl, by decide +kernel, by decide +kernel⟩
theorem sc__law_on : FnScope ["state", "p", "q", "many", "found", "tries", "a", "b", "point", "k"] ["state", "p", "q", "many"] (defScope s__law_on) := ⟨rfl, rfl, rfl, by decide +kernel, rfl, by decide +kernel, by decide +kernel⟩
theorem sc_law : FnScope ["script", "state", "center", "p", "q", "r", "first", "second", "told", "a", "b", "c", "d", "e", "f", "due", "one", "two", "three", "four", "lines", "sides", "other", "table", "moved", "again", "k", "corner", "x"] ["script"] (defScope s_law) := ⟨rfl, rfl, rfl, by decide +kernel, rfl, by decide +kernel, by decide +kernel⟩

local macro_rules | `(tactic| walk_at "sz") => `(tactic| first | assumption | (with_reducible apply Sz.mul <;> walk_at "sz") | (with_reducible apply Sz.add <;> walk_at "sz") | (with_reducible apply Sz.sub <;> walk_at "sz") | (with_reducible apply Sz.neg <;> walk_at "sz") | exact Sz.int (n := 40) (by decide))
local macro_rules | `(tactic| walk_at "mo") => `(tactic| (apply Sz.mo; walk_at "sz"; walk_at "sz"; exact Nat.le_of_ble_eq_true rfl))
theorem mo_bit {x : Int} {b : Bool} : MulOk x (if b = true then 1 else 0) := .inl (.inr (by cases b <;> exact ⟨by decide, by decide⟩))
local macro_rules | `(tactic| walk_at "ar") => `(tactic| repeat (first | refine ⟨rfl, ?_⟩ | refine ⟨Nat.le_of_ble_eq_true rfl, ?_⟩ | refine ⟨isBo_opt rfl, ?_⟩ | refine ⟨noBo_1 (isBo_opt rfl), ?_⟩ | walk_at "n1" | walk_at "n2" | refine ⟨mo_bit, ?_⟩ | refine ⟨by walk_at "mo", ?_⟩ | refine ⟨by decide, ?_⟩))
local macro_rules | `(tactic| walk_at "dv") => `(tactic| repeat (first | refine ⟨rfl, ?_⟩ | refine ⟨Nat.le_of_ble_eq_true rfl, ?_⟩ | refine ⟨isBo_opt rfl, ?_⟩ | refine ⟨noBo_1 (isBo_opt rfl), ?_⟩ | walk_at "n1" | walk_at "n2" | refine ⟨by assumption, ?_⟩))
def p_lowest : DSp := fun ds Q => ∃ p : T3, (ds = [.tuple (il (l3 p))] ∨ ds = [.list (il (l3 p))]) ∧ p ≠ z3 ∧ Z3 8000 p ∧ Q (.sh (e3 (low p)))
theorem mo_lowest : SpMo p_lowest := .of fun ds Q Q' k ⟨a, e, h1, h2, q⟩ => ⟨a, e, h1, h2, k _ q⟩
/-- what is_triple is asked here -/
inductive TrIn : PyData → Bool → Prop
  | ok (p : T3) : Z3 8000 p → TrIn (e3 p) (decide (p ≠ z3 ∧ low p = p))
  | no : TrIn .none false
  | lst (xs : List PyData) : TrIn (.list xs) false
  | four (a b c d : PyData) : TrIn (.tuple [a, b, c, d]) false
  | bl : TrIn (.tuple [.bool true, .int 0, .int 0]) false
def p_is_triple : DSp := fun ds Q => ∃ d b, ds = [d] ∧ TrIn d b ∧ Q (.sh (.bool b))
theorem mo_is_triple : SpMo p_is_triple := .of fun ds Q Q' k ⟨a, b, e, h1, q⟩ => ⟨a, b, e, h1, k _ q⟩
def p_across : DSp := fun ds Q => ∃ p q : T3, ds = [e3 p, e3 q] ∧ Z3 3900 p ∧ Z3 3900 q ∧ Q (.sh (if cr p q = z3 then .none else e3 (low (cr p q))))
theorem mo_across : SpMo p_across := .of fun ds Q Q' k ⟨a, b, e, h1, h2, q⟩ => ⟨a, b, e, h1, h2, k _ q⟩
def p_table_value : DSp := fun ds Q => ∃ t : T9, ds = [e9 t] ∧ Z9 20000 t ∧ Q (.sh (.int (dt t)))
theorem mo_table_value : SpMo p_table_value := .of fun ds Q Q' k ⟨a, e, h1, q⟩ => ⟨a, e, h1, k _ q⟩
def p_are_joined : DSp := fun ds Q => ∃ p q r : T3, ds = [e3 p, e3 q, e3 r] ∧ Z9 20000 (p, q, r) ∧ Q (.sh (.bool (decide (det p q r = 0))))
theorem mo_are_joined : SpMo p_are_joined := .of fun ds Q Q' k ⟨a, b, c, e, h1, q⟩ => ⟨a, b, c, e, h1, k _ q⟩
def p_is_incident : DSp := fun ds Q => ∃ p q : T3, ds = [e3 p, e3 q] ∧ Z3 20000 p ∧ Z3 20000 q ∧ Q (.sh (.bool (decide (dot p q = 0))))
theorem mo_is_incident : SpMo p_is_incident := .of fun ds Q Q' k ⟨a, b, e, h1, h2, q⟩ => ⟨a, b, e, h1, h2, k _ q⟩
def p_raised : DSp := fun ds Q => ∃ p : P2, ds = [e2 p] ∧ Sz 1000 p.1 ∧ Sz 1000 p.2 ∧ Q (.sh (e3 (low (p.1, p.2, 1))))
theorem mo_raised : SpMo p_raised := .of fun ds Q Q' k ⟨a, e, h1, h2, q⟩ => ⟨a, e, h1, h2, k _ q⟩
def p_lowered : DSp := fun ds Q => ∃ p : T3, ds = [e3 p] ∧ Q (.sh (if p.2.2 = 0 then .none else if 0 < p.2.2 then e3 p else e3 (0 - p.1, 0 - p.2.1, 0 - p.2.2)))
theorem mo_lowered : SpMo p_lowered := .of fun ds Q Q' k ⟨a, e, q⟩ => ⟨a, e, k _ q⟩
def p_applied_table : DSp := fun ds Q => ∃ (t : T9) (p : T3), ds = [e9 t, e3 p] ∧ Z9 3900 t ∧ Z3 3900 p ∧ mv t p ≠ z3 ∧ Q (.sh (e3 (low (mv t p))))
theorem mo_applied_table : SpMo p_applied_table := .of fun ds Q Q' k ⟨a, b, e, h1, h2, h3, q⟩ => ⟨a, b, e, h1, h2, h3, k _ q⟩
def p_adjoint : DSp := fun ds Q => ∃ t : T9, ds = [e9 t] ∧ Z9 20000 t ∧ Q (.sh (e9 (adj t)))
theorem mo_adjoint : SpMo p_adjoint := .of fun ds Q Q' k ⟨a, e, h1, q⟩ => ⟨a, e, h1, k _ q⟩
def p_table_product : DSp := fun ds Q => ∃ s t : T9, ds = [e9 s, e9 t] ∧ Z9 20000 s ∧ Z9 20000 t ∧ Q (.sh (e9 (mm s t)))
theorem mo_table_product : SpMo p_table_product := .of fun ds Q Q' k ⟨a, b, e, h1, h2, q⟩ => ⟨a, b, e, h1, h2, k _ q⟩
def p_frame_table : DSp := fun ds Q => ∃ a b c d : T3, ds = [.list [e3 a, e3 b, e3 c, e3 d]] ∧ Z9 20000 (a, b, c) ∧ Z3 20000 d ∧ Q (.sh (e9 (frm a b c d)))
theorem mo_frame_table : SpMo p_frame_table := .of fun ds Q Q' k ⟨a, b, c, d, e, h1, h2, q⟩ => ⟨a, b, c, d, e, h1, h2, k _ q⟩
def p_moving_table : DSp := fun ds Q => ∃ a b c d a' b' c' d' : T3, ds = [.list [e3 a, e3 b, e3 c, e3 d], .list [e3 a', e3 b', e3 c', e3 d']] ∧ (Z9 100 (a, b, c) ∧ Z3 100 d ∧ Z9 100 (a', b', c') ∧ Z3 100 d') ∧ (∃ n ∈ l9 (mvM (frm a b c d) (frm a' b' c' d')), n ≠ 0) ∧
  (Z9 1300 (low9 (mvM (frm a b c d) (frm a' b' c' d'))) → Q (.sh (e9 (low9 (mvM (frm a b c d) (frm a' b' c' d'))))))
theorem mo_moving_table : SpMo p_moving_table := .of fun ds Q Q' k ⟨a, b, c, d, a', b', c', d', e, h1, h2, q⟩ => ⟨a, b, c, d, a', b', c', d', e, h1, h2, fun z => k _ (q z)⟩
def p_cross_ratio : DSp := fun ds Q => ∃ x0 x1 x2 x3 : T3, ds = [e3 x0, e3 x1, e3 x2, e3 x3] ∧ Z9 2000 (x0, x1, x2) ∧ Z3 2000 x3 ∧ cr x0 x1 ≠ z3 ∧ ∀ u ∈ units, det x0 x1 u ≠ 0 → ¬ (crO x0 x1 x2 x3 u = 0 ∧ crU x0 x1 x2 x3 u = 0) ∧ Q (.sh (e2 (nr (crO x0 x1 x2 x3 u) (crU x0 x1 x2 x3 u))))
theorem mo_cross_ratio : SpMo p_cross_ratio := .of fun ds Q Q' k ⟨a, b, c, d, e, h1, h2, h3, q⟩ => ⟨a, b, c, d, e, h1, h2, h3, fun u hu hd => ⟨(q u hu hd).1, k _ (q u hu hd).2⟩⟩
def p_harmonic : DSp := fun ds Q => ∃ x0 x1 x2 : T3, ds = [e3 x0, e3 x1, e3 x2] ∧ Z9 2000 (x0, x1, x2) ∧ cr x0 x1 ≠ z3 ∧ ∀ u ∈ units, det x0 x1 u ≠ 0 → hrV x0 x1 x2 u ≠ z3 ∧ Q (.sh (e3 (low (hrV x0 x1 x2 u))))
theorem mo_harmonic : SpMo p_harmonic := .of fun ds Q Q' k ⟨a, b, c, e, h1, h3, q⟩ => ⟨a, b, c, e, h1, h3, fun u hu hd => ⟨(q u hu hd).1, k _ (q u hu hd).2⟩⟩
def p__law_start : DSp := fun ds Q => ∃ d, ds = [d] ∧ Q (.ow [d, .int 0, .int 0, .int 7])
theorem mo__law_start : SpMo p__law_start := .of fun ds Q Q' k ⟨a, e, q⟩ => ⟨a, e, k _ q⟩
def p__law_pick : DSp1 := fun cs ds Q => ∃ (ns : List Int) (t : Nat × Nat × Nat) (l : Nat), cs = stD ns t ∧ SOk t ∧ ds = [.int l] ∧ 0 < l ∧ l < 1000 ∧ ns.length ≤ 63 ∧ Q (.sh (.int (pk ns l t).1)) (stD ns (pk ns l t).2)
theorem mo__law_pick : SpMo1 p__law_pick := .of fun cs ds Q Q' k ⟨a, b, c, e, h1, h2, h3, h4, h5, q⟩ => ⟨a, b, c, e, h1, h2, h3, h4, h5, k _ _ q⟩
def p__law_same (n : Nat) : DSp := fun ds Q => match n with
  | 0 => False
  | n => ∃ d, ds = [d, d] ∧ shal n d = true ∧ Q (.sh (.bool true))
theorem mo__law_same {n : Nat} : SpMo (p__law_same n) := .of fun ds Q Q' k h => by
  cases n with
  | zero => exact h
  | succ n =>
    obtain ⟨d, h1, h2, q⟩ := h
    exact ⟨d, h1, h2, k _ q⟩
def p__law_cross : DSp := fun ds Q => ∃ p q : T3, ds = [e3 p, e3 q] ∧ Z3 20000 p ∧ Z3 20000 q ∧ Q (.sh (e3 (cr p q)))
theorem mo__law_cross : SpMo p__law_cross := .of fun ds Q Q' k ⟨a, b, e, h1, h2, q⟩ => ⟨a, b, e, h1, h2, k _ q⟩
def p__law_value : DSp := fun ds Q => ∃ p q r : T3, ds = [e3 p, e3 q, e3 r] ∧ Z9 20000 (p, q, r) ∧ Q (.sh (.int (det p q r)))
theorem mo__law_value : SpMo p__law_value := .of fun ds Q Q' k ⟨a, b, c, e, h1, q⟩ => ⟨a, b, c, e, h1, k _ q⟩
def p__law_least : DSp := fun ds Q => ∃ ns : List Int, (ds = [.list (il ns)] ∨ ds = [.tuple (il ns)]) ∧ ns.length ≤ 1000 ∧ (∃ n ∈ ns, n ≠ 0) ∧ (∀ n ∈ ns, Sz 9000 n) ∧ Q (.sh (.tuple (il (lowL ns))))
theorem mo__law_least : SpMo p__law_least := .of fun ds Q Q' k ⟨a, e, h0, h1, h2, q⟩ => ⟨a, e, h0, h1, h2, k _ q⟩
def p__law_point : DSp1 := fun cs ds Q => ∃ ns : List Int, SV ns cs ∧ ds = [] ∧ ns.length ≤ 63 ∧ ∀ p cs', Lst p → Z3 3 p → SV ns cs' → Q (.sh (e3 p)) cs'
theorem mo__law_point : SpMo1 p__law_point := .of fun cs ds Q Q' k ⟨a, h1, h2, h3, q⟩ => ⟨a, h1, h2, h3, fun p c x y z => k _ _ (q p c x y z)⟩
def p__law_frame : DSp1 := fun cs ds Q => ∃ (ns : List Int) (many : Nat), SV ns cs ∧ ds = [.int (many : Nat)] ∧ many ≤ 6 ∧ ns.length ≤ 63 ∧ ∀ fs cs', GPL fs → fs.length = many → (∀ p ∈ fs, Z3 30 p) → SV ns cs' → Q (.sh (.list (fs.map e3))) cs'
theorem mo__law_frame : SpMo1 p__law_frame := .of fun cs ds Q Q' k ⟨a, m, h1, h2, h3, h4, q⟩ => ⟨a, m, h1, h2, h3, h4, fun fs e x y z w => k _ _ (q fs e x y z w)⟩--H
theorem gcd3 (p : T3) : ((Int.gcd (Int.gcd p.1 p.2.1 : Int) p.2.2 : Nat) : Int) = (gL (l3 p) : Int) := by
  show ((Nat.gcd (Int.gcd p.1 p.2.1 : Int).natAbs p.2.2.natAbs : Nat) : Int) = ((Nat.gcd (Nat.gcd (Nat.gcd 0 p.1.natAbs) p.2.1.natAbs) p.2.2.natAbs : Nat) : Int)
  rw [Int.natAbs_natCast, Nat.gcd_zero_left]
  rfl
theorem eqv_e3 (p q : T3) : PyData.eqv (e3 p) (e3 q) = decide (p = q) := by
  obtain ⟨a, b, c⟩ := p
  obtain ⟨d, e, f⟩ := q
  show ((a == d) && ((b == e) && ((c == f) && true))) = _
  rw [Bool.eq_iff_iff]
  simp [Prod.ext_iff]
theorem eqv_l3 (p q : T3) : PyData.eqv (.list (il (l3 p))) (.list (il (l3 q))) = decide (p = q) := by
  obtain ⟨a, b, c⟩ := p
  obtain ⟨d, e, f⟩ := q
  show ((a == d) && ((b == e) && ((c == f) && true))) = _
  rw [Bool.eq_iff_iff]
  simp [Prod.ext_iff]
theorem eqv_z3 (p : T3) : PyData.eqv (e3 p) (.tuple [.int 0, .int 0, .int 0]) = decide (p = z3) := eqv_e3 p z3
theorem qb {Q : RV → Prop} {a b : Bool} (k : Q (.sh (.bool b))) (e : a = b) : Q (.sh (.bool a)) := e ▸ k
theorem qi {Q : RV → Prop} {a b : Int} (k : Q (.sh (.int b))) (e : a = b) : Q (.sh (.int a)) := e ▸ k
theorem qd {Q : RV → Prop} {a b : PyData} (k : Q (.sh b)) (e : a = b) : Q (.sh a) := e ▸ k
theorem sum3 (a b c : Int) : [a, b, c].sum = a + b + c := by simp [List.sum_cons]; omega
theorem lst3 {a b c x y z : Int} (h1 : a = x) (h2 : b = y) (h3 : c = z) : PyData.tuple [.int a, .int b, .int c] = .tuple [.int x, .int y, .int z] := by rw [h1, h2, h3]
theorem gch9 (T : T9) : ((Int.gcd ((Int.gcd ((Int.gcd ((Int.gcd ((Int.gcd ((Int.gcd ((Int.gcd ((Int.gcd ((Int.gcd 0 T.1.1 : Nat) : Int) T.1.2.1 : Nat) : Int) T.1.2.2 : Nat) : Int) T.2.1.1 : Nat) : Int) T.2.1.2.1 : Nat) : Int) T.2.1.2.2 : Nat) : Int) T.2.2.1 : Nat) : Int) T.2.2.2.1 : Nat) : Int) T.2.2.2.2 : Nat) : Int) = (gL (l9 T) : Int) := rfl
theorem abs_nat (i : Int) : (if i < 0 then -i else i) = ((i.natAbs : Nat) : Int) := by split <;> omega
theorem at_il {ns : List Int} {k : Nat} (h : k < ns.length) : atI (il ns) (k : Int) = some (.int (ns.getD k 0)) := by
  refine atI_nat ?_
  rw [il, List.getElem?_map, List.getElem?_eq_getElem h, List.getD_eq_getElem?_getD, List.getElem?_eq_getElem h]
  rfl
theorem cpow : CPow 10 18 := ⟨by decide, by decide, by decide⟩
theorem divok_nat {l : Nat} (h0 : 0 < l) (h1 : l < 1000) : DivOk (l : Int) := ⟨by omega, Nat.lt_of_le_of_lt (log2_mono (b := 1000) (by omega)) (by decide)⟩
theorem divok5 : DivOk 5 := divok_nat (l := 5) (by decide) (by decide)
theorem pk1_a {ns : List Int} {t0 t2 : Nat} (h : t0 < ns.length) (h2 : 10 ^ 18 ≤ (ns.getD t0 0).natAbs) : pk1 ns (t0, 0, t2) = (t0 + 1, (ns.getD t0 0).natAbs, t2) := by
  unfold pk1; rw [if_pos ⟨rfl, h⟩, if_pos h2]
theorem pk1_b {ns : List Int} {t0 t2 : Nat} (h : t0 < ns.length) (h2 : ¬ 10 ^ 18 ≤ (ns.getD t0 0).natAbs) : pk1 ns (t0, 0, t2) = (t0 + 1, 0, (t2 * 48271 + (ns.getD t0 0).natAbs) % 2147483646 + 1) := by
  unfold pk1; rw [if_pos ⟨rfl, h⟩, if_neg h2]
theorem pk1_c {ns : List Int} {t0 t1 t2 : Nat} (h : ¬ (t1 = 0 ∧ t0 < ns.length)) : pk1 ns (t0, t1, t2) = (t0, t1, t2) := by
  unfold pk1; rw [if_neg h]
theorem pk2_a {l u0 u1 u2 : Nat} (h : 0 < u1) : pk2 l (u0, u1, u2) = (u1 % l, u0, u1 / l, u2) := by
  unfold pk2; rw [if_pos h]
theorem pk2_b {l u0 u1 u2 : Nat} (h : ¬ 0 < u1) : pk2 l (u0, u1, u2) = ((u2 * 48271 % 2147483647 / 5 + (u2 * 48271 % 2147483647) * (u2 * 48271 % 2147483647) % 2147483629) % l, u0, u1, u2 * 48271 % 2147483647) := by
  unfold pk2; rw [if_neg h]
def i2 : DS → Nat
  | [_, _, some (.sh (.int b))] => b.toNat
  | _ => 0
theorem sv_pick {ns : List Int} {cs : List PyData} (h : SV ns cs) {l : Nat} (hl : 0 < l) (hl1 : l < 1000) (hn : ns.length ≤ 63) {Q : RV → List PyData → Prop} (k : ∀ r cs', r < l → SV ns cs' → Q (.sh (.int (r : Nat))) cs') : p__law_pick cs [.int (l : Nat)] Q := by
  obtain ⟨t, sok, rfl⟩ := h
  have := pk_ok (ns := ns) hl sok
  exact ⟨ns, t, l, rfl, sok, rfl, hl, hl1, hn, k _ _ this.1 ⟨_, this.2, rfl⟩⟩
theorem foBy2 {g : DTG} {tb : DTS} {DD : DEn} {n : Nat} {ρ : DS} (W : Nat → DS → Prop) (h0 : W 0 ρ)
    (hs : ∀ j ρ (K : DS → Prop), j < n → W j ρ → (∀ ρ', W (j + 1) ρ' → K ρ') → g (.int (j : Nat)) ρ fun ρ' => tb { nx := K, rt := DD.rt, bk := DD.nx, ct := K } ρ') (hd : ∀ ρ, W n ρ → DD.nx ρ) : foX g tb DD (rngD 0 n) ρ := by
  refine foBy W h0 (fun j d ρ K e w k => ?_) (by rw [rngD_len]; exact hd)
  have hj : j < n := by
    have := (List.getElem?_eq_some_iff.mp e).1
    rwa [rngD_len] at this
  rw [rngD_get hj] at e
  have e : d = .int (j : Nat) := by rw [← Option.some.inj e, Int.zero_add]
  rw [e]
  exact hs j ρ K hj w k
theorem at_e3 {fs : List T3} {k : Nat} {a : T3} (h : fs[k]? = some a) : atI (fs.map e3) (k : Int) = some (e3 a) := by
  refine atI_nat ?_
  rw [List.getElem?_map, h]
  rfl
def mu3 : DS → Nat
  | [_, _, _, some (.sh (.int n)), _, _, _, _] => 1000 - n.toNat
  | _ => 0
theorem enc3 : EncOk e3 1 := encQ encInt encInt encInt
theorem beq_int (i : Int) : (PyData.int i).eqv (.int i) = true := beq_self_eq_true i
theorem eqv3 (p : T3) : (PyData.eqv (e3 p) (e3 p)) = true := (eqv_e3 p p).trans (decide_eq_true rfl)
theorem ne3 (p : T3) : (!(PyData.eqv (e3 p) (e3 p))) = false := by rw [eqv3]; rfl
theorem nob {b : Bool} {A : Prop} (h : b = false) (k : b = true) : A := by rw [h] at k; cases k
theorem lst_least {p : T3} (h0 : p ≠ z3) {n : Nat} (hz : Z3 n p) (hn : n ≤ 9000) {d : PyData} (hd : d = .tuple (il (l3 p)) ∨ d = .list (il (l3 p))) {Q : RV → Prop} (k : Q (.sh (e3 (low p)))) : p__law_least [d] Q :=
  ⟨l3 p, hd.elim (fun e => .inr (by rw [e])) (fun e => .inl (by rw [e])), Nat.le_of_ble_eq_true rfl, l3_ne h0, fun m hm => by
    simp only [l3, List.mem_cons, List.not_mem_nil, or_false] at hm
    rcases hm with rfl | rfl | rfl
    · exact hz.1.mono hn
    · exact hz.2.1.mono hn
    · exact hz.2.2.mono hn, k⟩
theorem sv_pk {ns : List Int} {t : Nat × Nat × Nat} (sok : SOk t) {l : Nat} (hl : 0 < l) (hl1 : l < 1000) (hn : ns.length ≤ 63) {Q : RV → List PyData → Prop} (k : Q (.sh (.int ((pk ns l t).1 : Nat))) (stD ns (pk ns l t).2)) : p__law_pick (stD ns t) [.int (l : Nat)] Q :=
  ⟨ns, t, l, rfl, sok, rfl, hl, hl1, hn, k⟩
theorem enc2 : EncOk e2 1 := encP encInt encInt
theorem same_ok {d d' : PyData} (e : d = d') (hs : shal 6 d = true) {Q : RV → Prop} (k : Q (.sh (.bool true))) : p__law_same 6 [d, d'] Q := by
  subst e
  exact ⟨d, rfl, hs, k⟩
theorem ne4 (a b c d : T3) : (!(PyData.eqv (.list [e3 a, e3 b, e3 c, e3 d]) (.list [e3 a, e3 b, e3 c, e3 d]))) = false := by
  show (!(PyData.eqv (eL e3 [a, b, c, d]) (eL e3 [a, b, c, d]))) = false
  rw [(encL enc3).eqv]; simp
theorem ne9 (t : T9) : (!(PyData.eqv (e9 t) (e9 t))) = false := by
  show (!(PyData.eqv (eQ e3 e3 e3 t) (eQ e3 e3 e3 t))) = false
  rw [(encQ enc3 enc3 enc3).eqv]; simp
theorem ur0 (V : Int) : (!(PyData.eqv (e3 (V, 0, 0)) (.tuple [.int (V * 1), .int (V * 0), .int (V * 0)]))) = false := by
  simp only [Int.mul_one, Int.mul_zero]; exact ne3 (V, 0, 0)
theorem ur1 (V : Int) : (!(PyData.eqv (e3 (0, V, 0)) (.tuple [.int (V * 0), .int (V * 1), .int (V * 0)]))) = false := by
  simp only [Int.mul_one, Int.mul_zero]; exact ne3 (0, V, 0)
theorem ur2 (V : Int) : (!(PyData.eqv (e3 (0, 0, V)) (.tuple [.int (V * 0), .int (V * 0), .int (V * 1)]))) = false := by
  simp only [Int.mul_one, Int.mul_zero]; exact ne3 (0, 0, V)
theorem four_of {α : Type} {xs : List α} (h : xs.length = 4) : ∃ a b c d, xs = [a, b, c, d] := by
  match xs, h with
  | [a, b, c, d], _ => exact ⟨a, b, c, d, rfl⟩
local macro_rules | `(tactic| walk_at "sm") => `(tactic| (refine same_ok ?_ ?_ ?_; (· rfl); (· rfl)))

/-- the meeting of two lines, or the line of two points, as the program tells it -/
def acr (x y : T3) : PyData := if cr x y = z3 then .none else e3 (low (cr x y))
def mtg (x y z w : T3) : PyData := acr (low (cr x y)) (low (cr z w))
def p_pappus_points : DSp := fun ds Q => ∃ a b c d e f : T3, ds = [.list [e3 a, e3 b, e3 c], .list [e3 d, e3 e, e3 f]] ∧ (Z9 1500 (a, b, c) ∧ Z9 1500 (d, e, f)) ∧ (cr a e ≠ z3 ∧ cr b d ≠ z3 ∧ cr a f ≠ z3 ∧ cr c d ≠ z3 ∧ cr b f ≠ z3 ∧ cr c e ≠ z3) ∧ Q (.sh (.tuple [mtg a e b d, mtg a f c d, mtg b f c e]))
theorem mo_pappus_points : SpMo p_pappus_points := .of fun ds Q Q' k ⟨a, b, c, d, e, f, h1, h2, h3, q⟩ => ⟨a, b, c, d, e, f, h1, h2, h3, k _ q⟩
def p_side_points : DSp := fun ds Q => ∃ a b c d e f : T3, ds = [.list [e3 a, e3 b, e3 c], .list [e3 d, e3 e, e3 f]] ∧ (Z9 1500 (a, b, c) ∧ Z9 1500 (d, e, f)) ∧ (cr a b ≠ z3 ∧ cr a c ≠ z3 ∧ cr b c ≠ z3 ∧ cr d e ≠ z3 ∧ cr d f ≠ z3 ∧ cr e f ≠ z3) ∧ Q (.sh (.tuple [mtg a b d e, mtg a c d f, mtg b c e f]))
theorem mo_side_points : SpMo p_side_points := .of fun ds Q Q' k ⟨a, b, c, d, e, f, h1, h2, h3, q⟩ => ⟨a, b, c, d, e, f, h1, h2, h3, k _ q⟩
def p_corner_lines : DSp := fun ds Q => ∃ a b c d e f : T3, ds = [.list [e3 a, e3 b, e3 c], .list [e3 d, e3 e, e3 f]] ∧ (Z9 1500 (a, b, c) ∧ Z9 1500 (d, e, f)) ∧ Q (.sh (.tuple [acr a d, acr b e, acr c f]))
theorem mo_corner_lines : SpMo p_corner_lines := .of fun ds Q Q' k ⟨a, b, c, d, e, f, h1, h2, q⟩ => ⟨a, b, c, d, e, f, h1, h2, k _ q⟩
def p__law_on : DSp1 := fun cs ds Q => ∃ (ns : List Int) (p q : T3) (many : Nat), SV ns cs ∧ ds = [e3 p, e3 q, .int (many : Nat)] ∧ many ≤ 3 ∧ ns.length ≤ 63 ∧ cr p q ≠ z3 ∧ Z3 40 p ∧ Z3 40 q ∧
  ∀ xs cs', OnL xs → xs.length = many → SV ns cs' → Q (.sh (.list (xs.map fun n => e3 (low (comb p q n))))) cs'
theorem mo__law_on : SpMo1 p__law_on := .of fun cs ds Q Q' k ⟨a, b, c, d, h1, h2, h3, h4, h5, h6, h7, q⟩ => ⟨a, b, c, d, h1, h2, h3, h4, h5, h6, h7, fun xs c x y z => k _ _ (q xs c x y z)⟩
def p_law : DSp := fun ds Q => ∃ ns : List Int, ds = [.list (il ns)] ∧ ns.length ≤ 63 ∧ Q (.sh (.bool true))
theorem mo_law : SpMo p_law := .of fun ds Q Q' k ⟨a, e, h1, q⟩ => ⟨a, e, h1, k _ q⟩

def t_lowest : DTS := (sSq (sAs (eCl cGcd (osCons (oE (eCl cGcd (osCons (oE (eOp dIx (oN 0) (oE (eC (.int 0))))) (osCons (oE (eOp dIx (oN 0) (oE (eC (.int 1))))) osNil)))) (osCons (oE (eOp dIx (oN 0) (oE (eC (.int 2))))) osNil))) (gN 1))
  (sSq (sAs (eOp dIx (oE (eF (fLc (iE (eN 0)) (gN 3) (tE (eOp dNe (oN 3) (oE (eC (.int 0))))) (eN 3) [3]))) (oE (eC (.int 0)))) (gN 2))
  (sSq (sIf (tE (eOp dLt (oN 2) (oE (eC (.int 0))))) (sLa (sAs (eOp dSub (oE (eC (.int 0))) (oN 1)) (gN 1))) sNx)
  (sLa (sRt (eCl cTuple (osCons (oE (eF (fLc (iE (eN 0)) (gN 3) tYs (eOp dFdiv (oN 3) (oN 1)) [3]))) osNil)))))))

theorem rd_lowest (ds : List PyData) (Q : RV → Prop) (hl : ds.length = 1) (h : p_lowest ds Q) : t_lowest { nx := fun _ => Q (.sh .none), rt := fun r _ => Q r } (startD 4 ds) := by
  obtain ⟨p, hd, h0, hz, q⟩ := h
  have hn := l3_ne h0
  obtain ⟨r, hr⟩ := nz_lead hn
  have dk := szOk hn (fun n hn => by
    rcases List.mem_cons.mp hn with e | hn
    · rw [e]; exact hz.1.mono (by decide)
    rcases List.mem_cons.mp hn with e | hn
    · rw [e]; exact hz.2.1.mono (by decide)
    rcases List.mem_cons.mp hn with e | hn
    · rw [e]; exact hz.2.2.mono (by decide)
    · cases hn)
  rcases hd with rfl | rfl
  all_goals
    walk_at "go"
    refine cmFm isNZ _ ?_ ?_
    · intro d hd KT KF hT hF
      obtain ⟨n, hn, rfl⟩ := List.mem_map.mp hd
      walk_at "go"
      exact nz_turn (fun e => hT _ e) (fun e => hF e)
    · rw [List.nil_append, nz_il, hr, gcd3]
      refine ix_l (atI_nat (j := 0) rfl) ?_
      walk_at "go"
      refine ite2 (fun h => ?_) (fun h => ?_)
      · have e : szL (l3 p) = 0 - (gL (l3 p) : Int) := by unfold szL; rw [if_pos (of_decide_eq_true h)]
        walk_at "go"
        refine cmFm (dvF (szL (l3 p))) _ ?_ ?_
        · intro d hd KT KF hT hF
          obtain ⟨n, hn, rfl⟩ := List.mem_map.mp hd
          walk_at "go"
          refine ⟨by rw [← e]; exact dk, ?_⟩
          have := hT _ rfl
          rw [e] at this
          exact this
        · rw [List.nil_append, dv_il]
          walk_at "go"
          exact q
      · have e : szL (l3 p) = (gL (l3 p) : Int) := by unfold szL; rw [if_neg (of_decide_eq_false (by simpa using h))]
        walk_at "go"
        refine cmFm (dvF (szL (l3 p))) _ ?_ ?_
        · intro d hd KT KF hT hF
          obtain ⟨n, hn, rfl⟩ := List.mem_map.mp hd
          walk_at "go"
          refine ⟨by rw [← e]; exact dk, ?_⟩
          have := hT _ rfl
          rw [e] at this
          exact this
        · rw [List.nil_append, dv_il]
          walk_at "go"
          exact q

theorem der_lowest {P : Program} {w : World} {base : Heap} {K : PySem.W.Frag} {mg : Str → Option Value} (T : Tx K mg) (cdv : Value) (A : Around) (outer : List Env) (s : Shared) (H : Hp) (E : XK) (hr : Room 0 (A.deeper (PyProof.Rows.envOfC "lowest" (defScope s_lowest) s.heap.objs.size T.f_lowest cdv))) :
    DSs (cxOf CX0 P w K mg base ["some", "size", "first", "one"] "lowest" (defScope s_lowest) T.f_lowest cdv A outer s H E).nox (defBody s_lowest) t_lowest :=
  (dss_cons (ds_set 1 (de_callBf cd_gcd (by rfl) T.z_gcd (dos_cons (do_e (de_callBf cd_gcd (by rfl) T.z_gcd (dos_cons (do_e (de_ix xd_ix (do_n 0) (do_e de_int))) (dos_cons (do_e (de_ix xd_ix (do_n 0) (do_e de_int))) dos_nil)))) (dos_cons (do_e (de_ix xd_ix (do_n 0) (do_e de_int))) dos_nil))) sc_lowest.nd)
  (dss_cons (ds_set 2 (de_ix xd_ix (do_e (de_f (df_lc (own := [("one", 3)]) rfl sc_lowest.nd (di_e (de_n 0)) (by kernel_rfl) (by decide) (fun _ _ _ _ _ => (dg_n 3 sc_lowest.nd)) (fun _ _ _ _ _ => (dts_one (dt_cmp (od_ne hr.units) (do_n 3) (do_e de_int)))) (fun _ _ _ _ _ => (de_n 3))))) (do_e de_int)) sc_lowest.nd)
  (dss_cons (ds_if (dt_cmp (od_lt hr.units0) (do_n 2) (do_e de_int)) (dss_la (ds_set 1 (de_op od_sub (do_e de_int) (do_n 1)) sc_lowest.nd)) dss_nil)
  (dss_la (ds_ret (de_callTy cd_tuple (by rfl) T.z_tuple (by decide +kernel) (dos_cons (do_e (de_f (df_lc (own := [("one", 3)]) rfl sc_lowest.nd (di_e (de_n 0)) (by kernel_rfl) (by decide) (fun _ _ _ _ _ => (dg_n 3 sc_lowest.nd)) (fun _ _ _ _ _ => dts_nil) (fun _ _ _ _ _ => (de_op od_fdiv (do_n 3) (do_n 1)))))) dos_nil)))))))
theorem ok_lowest {P : Program} {w : World} {base : Heap} {K : PySem.W.Frag} {mg : Str → Option Value} (T : Tx K mg) : FnOk P w K mg base CX0 1 T.f_lowest T.d_lowest ["some"] (toSp K 1 p_lowest) :=
  okD T.F_lowest sc_lowest fun cdv A outer s H E hr => ⟨t_lowest, der_lowest T cdv A outer s H E hr, rd_lowest⟩

def t_across : DTS := (sSq (sAs (eN 0) (gU 3 (gsCons (gN 2) (gsCons (gN 3) (gsCons (gN 4) gsNil)))))
  (sSq (sAs (eN 1) (gU 3 (gsCons (gN 5) (gsCons (gN 6) (gsCons (gN 7) gsNil)))))
  (sSq (sAs (eTup (aCons (eOp dSub (oE (eOp dMul (oN 3) (oN 7))) (oE (eOp dMul (oN 4) (oN 6)))) (aCons (eOp dSub (oE (eOp dMul (oN 4) (oN 5))) (oE (eOp dMul (oN 2) (oN 7)))) (aCons (eOp dSub (oE (eOp dMul (oN 2) (oN 6))) (oE (eOp dMul (oN 3) (oN 5)))) aNil)))) (gN 8))
  (sLa (sRt (eIf (tE (eOp dEq (oN 8) (oE (eTup (aCons (eC (.int 0)) (aCons (eC (.int 0)) (aCons (eC (.int 0)) aNil))))))) (eC .none) (eCall 1 p_lowest (aCons (eN 8) aNil))))))))

theorem rd_across (ds : List PyData) (Q : RV → Prop) (hl : ds.length = 2) (h : p_across ds Q) : t_across { nx := fun _ => Q (.sh .none), rt := fun r _ => Q r } (startD 9 ds) := by
  obtain ⟨p, q, rfl, ⟨h1, h2, h3⟩, ⟨h4, h5, h6⟩, k⟩ := h
  walk_at "ar"
  refine ite2 (fun h => ?_) (fun h => ?_)
  · have h := (eqv_z3 (cr p q)).symm.trans h
    rw [if_pos (of_decide_eq_true h)] at k
    walk_at "ar"
    exact k
  · have h : cr p q ≠ z3 := fun e => h (((eqv_z3 (cr p q)).trans (decide_eq_true e)))
    rw [if_neg h] at k
    walk_at "ar"
    refine ⟨cr p q, .inl rfl, h, ?_, ?_⟩
    · exact cr_Z ⟨h1, h2, h3⟩ ⟨h4, h5, h6⟩ (by decide)
    · walk_at "ar"
      exact k

theorem der_across {P : Program} {w : World} {base : Heap} {K : PySem.W.Frag} {mg : Str → Option Value} (T : Tx K mg) (cdv : Value) (A : Around) (outer : List Env) (s : Shared) (H : Hp) (E : XK) (hr : Room 1 (A.deeper (PyProof.Rows.envOfC "across" (defScope s_across) s.heap.objs.size T.f_across cdv))) :
    DSs (cxOf CX0 P w K mg base ["first", "second", "a", "b", "c", "d", "e", "f", "told"] "across" (defScope s_across) T.f_across cdv A outer s H E).nox (defBody s_across) t_across :=
  (dss_cons (ds_asg (de_n 0) (dg_u rfl (dgs_cons (dg_n 2 sc_across.nd) (dgs_cons (dg_n 3 sc_across.nd) (dgs_cons (dg_n 4 sc_across.nd) dgs_nil)))))
  (dss_cons (ds_asg (de_n 1) (dg_u rfl (dgs_cons (dg_n 5 sc_across.nd) (dgs_cons (dg_n 6 sc_across.nd) (dgs_cons (dg_n 7 sc_across.nd) dgs_nil)))))
  (dss_cons (ds_set 8 (de_tup (da_cons (de_op od_sub (do_e (de_op od_mul (do_n 3) (do_n 7))) (do_e (de_op od_mul (do_n 4) (do_n 6)))) (da_cons (de_op od_sub (do_e (de_op od_mul (do_n 4) (do_n 5))) (do_e (de_op od_mul (do_n 2) (do_n 7)))) (da_cons (de_op od_sub (do_e (de_op od_mul (do_n 2) (do_n 6))) (do_e (de_op od_mul (do_n 3) (do_n 5)))) da_nil)))) sc_across.nd)
  (dss_la (ds_ret (de_if (dt_cmp (od_eq hr.units) (do_n 8) (do_e (de_tup (da_cons de_int (da_cons de_int (da_cons de_int da_nil)))))) de_non (de_call (n := 1) (ok_lowest T) mo_lowest (hr.mono (by decide)) (by rfl) T.g_lowest T.F_lowest.kp T.b_lowest (da_cons (de_n 8) da_nil))))))))
theorem ok_across {P : Program} {w : World} {base : Heap} {K : PySem.W.Frag} {mg : Str → Option Value} (T : Tx K mg) : FnOk P w K mg base CX0 2 T.f_across T.d_across ["first", "second"] (toSp K 2 p_across) :=
  okD T.F_across sc_across fun cdv A outer s H E hr => ⟨t_across, der_across T cdv A outer s H E hr, rd_across⟩

def t_table_value : DTS := (sSq (sAs (eN 0) (gU 3 (gsCons (gU 3 (gsCons (gN 1) (gsCons (gN 2) (gsCons (gN 3) gsNil)))) (gsCons (gU 3 (gsCons (gN 4) (gsCons (gN 5) (gsCons (gN 6) gsNil)))) (gsCons (gU 3 (gsCons (gN 7) (gsCons (gN 8) (gsCons (gN 9) gsNil)))) gsNil)))))
  (sLa (sRt (eOp dAdd (oE (eOp dSub (oE (eOp dMul (oN 1) (oE (eOp dSub (oE (eOp dMul (oN 5) (oN 9))) (oE (eOp dMul (oN 6) (oN 8))))))) (oE (eOp dMul (oN 2) (oE (eOp dSub (oE (eOp dMul (oN 4) (oN 9))) (oE (eOp dMul (oN 6) (oN 7))))))))) (oE (eOp dMul (oN 3) (oE (eOp dSub (oE (eOp dMul (oN 4) (oN 8))) (oE (eOp dMul (oN 5) (oN 7)))))))))))

theorem rd_table_value (ds : List PyData) (Q : RV → Prop) (hl : ds.length = 1) (h : p_table_value ds Q) : t_table_value { nx := fun _ => Q (.sh .none), rt := fun r _ => Q r } (startD 10 ds) := by
  obtain ⟨t, rfl, ⟨⟨h1, h2, h3⟩, ⟨h4, h5, h6⟩, ⟨h7, h8, h9⟩⟩, k⟩ := h
  walk_at "ar"
  refine qi k ?_
  simp only [dt, det, dot, cr]
  grind

theorem der_table_value {P : Program} {w : World} {base : Heap} {K : PySem.W.Frag} {mg : Str → Option Value} (T : Tx K mg) (cdv : Value) (A : Around) (outer : List Env) (s : Shared) (H : Hp) (E : XK) (hr : Room 0 (A.deeper (PyProof.Rows.envOfC "table_value" (defScope s_table_value) s.heap.objs.size T.f_table_value cdv))) :
    DSs (cxOf CX0 P w K mg base ["rows", "a", "b", "c", "d", "e", "f", "g", "h", "i"] "table_value" (defScope s_table_value) T.f_table_value cdv A outer s H E).nox (defBody s_table_value) t_table_value :=
  (dss_cons (ds_asg (de_n 0) (dg_u rfl (dgs_cons (dg_u rfl (dgs_cons (dg_n 1 sc_table_value.nd) (dgs_cons (dg_n 2 sc_table_value.nd) (dgs_cons (dg_n 3 sc_table_value.nd) dgs_nil)))) (dgs_cons (dg_u rfl (dgs_cons (dg_n 4 sc_table_value.nd) (dgs_cons (dg_n 5 sc_table_value.nd) (dgs_cons (dg_n 6 sc_table_value.nd) dgs_nil)))) (dgs_cons (dg_u rfl (dgs_cons (dg_n 7 sc_table_value.nd) (dgs_cons (dg_n 8 sc_table_value.nd) (dgs_cons (dg_n 9 sc_table_value.nd) dgs_nil)))) dgs_nil)))))
  (dss_la (ds_ret (de_op od_add (do_e (de_op od_sub (do_e (de_op od_mul (do_n 1) (do_e (de_op od_sub (do_e (de_op od_mul (do_n 5) (do_n 9))) (do_e (de_op od_mul (do_n 6) (do_n 8))))))) (do_e (de_op od_mul (do_n 2) (do_e (de_op od_sub (do_e (de_op od_mul (do_n 4) (do_n 9))) (do_e (de_op od_mul (do_n 6) (do_n 7))))))))) (do_e (de_op od_mul (do_n 3) (do_e (de_op od_sub (do_e (de_op od_mul (do_n 4) (do_n 8))) (do_e (de_op od_mul (do_n 5) (do_n 7)))))))))))
theorem ok_table_value {P : Program} {w : World} {base : Heap} {K : PySem.W.Frag} {mg : Str → Option Value} (T : Tx K mg) : FnOk P w K mg base CX0 1 T.f_table_value T.d_table_value ["rows"] (toSp K 1 p_table_value) :=
  okD T.F_table_value sc_table_value fun cdv A outer s H E hr => ⟨t_table_value, der_table_value T cdv A outer s H E hr, rd_table_value⟩

def t_are_joined : DTS := (sLa (sRt (eOp dEq (oE (eCall 1 p_table_value (aCons (eTup (aCons (eN 0) (aCons (eN 1) (aCons (eN 2) aNil)))) aNil))) (oE (eC (.int 0))))))

theorem rd_are_joined (ds : List PyData) (Q : RV → Prop) (hl : ds.length = 3) (h : p_are_joined ds Q) : t_are_joined { nx := fun _ => Q (.sh .none), rt := fun r _ => Q r } (startD 3 ds) := by
  obtain ⟨p, q, r, rfl, h1, k⟩ := h
  walk_at "ar"
  refine ⟨(p, q, r), rfl, h1, ?_⟩
  walk_at "ar"
  refine qb k ?_
  rfl

theorem der_are_joined {P : Program} {w : World} {base : Heap} {K : PySem.W.Frag} {mg : Str → Option Value} (T : Tx K mg) (cdv : Value) (A : Around) (outer : List Env) (s : Shared) (H : Hp) (E : XK) (hr : Room 1 (A.deeper (PyProof.Rows.envOfC "are_joined" (defScope s_are_joined) s.heap.objs.size T.f_are_joined cdv))) :
    DSs (cxOf CX0 P w K mg base ["first", "second", "third"] "are_joined" (defScope s_are_joined) T.f_are_joined cdv A outer s H E).nox (defBody s_are_joined) t_are_joined :=
  (dss_la (ds_ret (de_cmp (od_eq hr.units) (do_e (de_call (n := 1) (ok_table_value T) mo_table_value (hr.mono (by decide)) (by rfl) T.g_table_value T.F_table_value.kp T.b_table_value (da_cons (de_tup (da_cons (de_n 0) (da_cons (de_n 1) (da_cons (de_n 2) da_nil)))) da_nil))) (do_e de_int))))
theorem ok_are_joined {P : Program} {w : World} {base : Heap} {K : PySem.W.Frag} {mg : Str → Option Value} (T : Tx K mg) : FnOk P w K mg base CX0 2 T.f_are_joined T.d_are_joined ["first", "second", "third"] (toSp K 3 p_are_joined) :=
  okD T.F_are_joined sc_are_joined fun cdv A outer s H E hr => ⟨t_are_joined, der_are_joined T cdv A outer s H E hr, rd_are_joined⟩

def t_applied_table : DTS := (sLa (sRt (eCall 1 p_lowest (aCons (eCl cTuple (osCons (oE (eF (fLc (iE (eN 0)) (gN 2) tYs (eCl cSum (osCons (oE (eF (fLc (iR1 (aCons (eC (.int 3)) aNil)) (gN 3) tYs (eOp dMul (oE (eOp dIx (oN 2) (oN 3))) (oE (eOp dIx (oN 1) (oN 3)))) [3]))) osNil)) [2]))) osNil)) aNil))))

theorem rd_applied_table (ds : List PyData) (Q : RV → Prop) (hl : ds.length = 2) (h : p_applied_table ds Q) : t_applied_table { nx := fun _ => Q (.sh .none), rt := fun r _ => Q r } (startD 4 ds) := by
  obtain ⟨t, p, rfl, ⟨⟨h1, h2, h3⟩, ⟨h4, h5, h6⟩, ⟨h7, h8, h9⟩⟩, ⟨h10, h11, h12⟩, h0, k⟩ := h
  walk_at "ar"
  refine ⟨mv t p, .inl (by simp only [il, l3, mv, dot, sum3, List.map_cons, List.map_nil, List.nil_append, List.cons_append]), h0, ⟨dot_Z ⟨h1, h2, h3⟩ ⟨h10, h11, h12⟩ (by decide), dot_Z ⟨h4, h5, h6⟩ ⟨h10, h11, h12⟩ (by decide), dot_Z ⟨h7, h8, h9⟩ ⟨h10, h11, h12⟩ (by decide)⟩, ?_⟩
  walk_at "ar"
  exact k

theorem der_applied_table {P : Program} {w : World} {base : Heap} {K : PySem.W.Frag} {mg : Str → Option Value} (T : Tx K mg) (cdv : Value) (A : Around) (outer : List Env) (s : Shared) (H : Hp) (E : XK) (hr : Room 1 (A.deeper (PyProof.Rows.envOfC "applied_table" (defScope s_applied_table) s.heap.objs.size T.f_applied_table cdv))) :
    DSs (cxOf CX0 P w K mg base ["table", "triple", "row", "k"] "applied_table" (defScope s_applied_table) T.f_applied_table cdv A outer s H E).nox (defBody s_applied_table) t_applied_table :=
  (dss_la (ds_ret (de_call (n := 1) (ok_lowest T) mo_lowest (hr.mono (by decide)) (by rfl) T.g_lowest T.F_lowest.kp T.b_lowest (da_cons (de_callTy cd_tuple (by rfl) T.z_tuple (by decide +kernel) (dos_cons (do_e (de_f (df_lc (own := [("row", 2)]) rfl sc_applied_table.nd (di_e (de_n 0)) (by kernel_rfl) (by decide) (fun _ _ _ _ _ => (dg_n 2 sc_applied_table.nd)) (fun _ _ _ _ _ => dts_nil) (fun _ _ _ _ _ => (de_callB (cd_sum rfl) (by rfl) T.z_sum (by decide +kernel) (dos_cons (do_e (de_f (df_lc (own := [("k", 3)]) rfl sc_applied_table.nd (di_r1 (by rfl) T.z_range (da_cons de_int da_nil)) (by kernel_rfl) (by decide) (fun _ _ _ _ _ => (dg_n 3 sc_applied_table.nd)) (fun _ _ _ _ _ => dts_nil) (fun _ _ _ _ _ => (de_op od_mul (do_e (de_ix xd_ix (do_n 2) (do_n 3))) (do_e (de_ix xd_ix (do_n 1) (do_n 3)))))))) dos_nil)))))) dos_nil)) da_nil))))
theorem ok_applied_table {P : Program} {w : World} {base : Heap} {K : PySem.W.Frag} {mg : Str → Option Value} (T : Tx K mg) : FnOk P w K mg base CX0 2 T.f_applied_table T.d_applied_table ["table", "triple"] (toSp K 2 p_applied_table) :=
  okD T.F_applied_table sc_applied_table fun cdv A outer s H E hr => ⟨t_applied_table, der_applied_table T cdv A outer s H E hr, rd_applied_table⟩

def t_adjoint : DTS := (sSq (sAs (eN 0) (gU 3 (gsCons (gU 3 (gsCons (gN 1) (gsCons (gN 2) (gsCons (gN 3) gsNil)))) (gsCons (gU 3 (gsCons (gN 4) (gsCons (gN 5) (gsCons (gN 6) gsNil)))) (gsCons (gU 3 (gsCons (gN 7) (gsCons (gN 8) (gsCons (gN 9) gsNil)))) gsNil)))))
  (sLa (sRt (eTup (aCons (eTup (aCons (eOp dSub (oE (eOp dMul (oN 5) (oN 9))) (oE (eOp dMul (oN 6) (oN 8)))) (aCons (eOp dSub (oE (eOp dMul (oN 3) (oN 8))) (oE (eOp dMul (oN 2) (oN 9)))) (aCons (eOp dSub (oE (eOp dMul (oN 2) (oN 6))) (oE (eOp dMul (oN 3) (oN 5)))) aNil)))) (aCons (eTup (aCons (eOp dSub (oE (eOp dMul (oN 6) (oN 7))) (oE (eOp dMul (oN 4) (oN 9)))) (aCons (eOp dSub (oE (eOp dMul (oN 1) (oN 9))) (oE (eOp dMul (oN 3) (oN 7)))) (aCons (eOp dSub (oE (eOp dMul (oN 3) (oN 4))) (oE (eOp dMul (oN 1) (oN 6)))) aNil)))) (aCons (eTup (aCons (eOp dSub (oE (eOp dMul (oN 4) (oN 8))) (oE (eOp dMul (oN 5) (oN 7)))) (aCons (eOp dSub (oE (eOp dMul (oN 2) (oN 7))) (oE (eOp dMul (oN 1) (oN 8)))) (aCons (eOp dSub (oE (eOp dMul (oN 1) (oN 5))) (oE (eOp dMul (oN 2) (oN 4)))) aNil)))) aNil)))))))

theorem rd_adjoint (ds : List PyData) (Q : RV → Prop) (hl : ds.length = 1) (h : p_adjoint ds Q) : t_adjoint { nx := fun _ => Q (.sh .none), rt := fun r _ => Q r } (startD 10 ds) := by
  obtain ⟨t, rfl, ⟨⟨h1, h2, h3⟩, ⟨h4, h5, h6⟩, ⟨h7, h8, h9⟩⟩, k⟩ := h
  walk_at "ar"
  exact k

theorem der_adjoint {P : Program} {w : World} {base : Heap} {K : PySem.W.Frag} {mg : Str → Option Value} (T : Tx K mg) (cdv : Value) (A : Around) (outer : List Env) (s : Shared) (H : Hp) (E : XK) (hr : Room 0 (A.deeper (PyProof.Rows.envOfC "adjoint" (defScope s_adjoint) s.heap.objs.size T.f_adjoint cdv))) :
    DSs (cxOf CX0 P w K mg base ["table", "a", "b", "c", "d", "e", "f", "g", "h", "i"] "adjoint" (defScope s_adjoint) T.f_adjoint cdv A outer s H E).nox (defBody s_adjoint) t_adjoint :=
  (dss_cons (ds_asg (de_n 0) (dg_u rfl (dgs_cons (dg_u rfl (dgs_cons (dg_n 1 sc_adjoint.nd) (dgs_cons (dg_n 2 sc_adjoint.nd) (dgs_cons (dg_n 3 sc_adjoint.nd) dgs_nil)))) (dgs_cons (dg_u rfl (dgs_cons (dg_n 4 sc_adjoint.nd) (dgs_cons (dg_n 5 sc_adjoint.nd) (dgs_cons (dg_n 6 sc_adjoint.nd) dgs_nil)))) (dgs_cons (dg_u rfl (dgs_cons (dg_n 7 sc_adjoint.nd) (dgs_cons (dg_n 8 sc_adjoint.nd) (dgs_cons (dg_n 9 sc_adjoint.nd) dgs_nil)))) dgs_nil)))))
  (dss_la (ds_ret (de_tup (da_cons (de_tup (da_cons (de_op od_sub (do_e (de_op od_mul (do_n 5) (do_n 9))) (do_e (de_op od_mul (do_n 6) (do_n 8)))) (da_cons (de_op od_sub (do_e (de_op od_mul (do_n 3) (do_n 8))) (do_e (de_op od_mul (do_n 2) (do_n 9)))) (da_cons (de_op od_sub (do_e (de_op od_mul (do_n 2) (do_n 6))) (do_e (de_op od_mul (do_n 3) (do_n 5)))) da_nil)))) (da_cons (de_tup (da_cons (de_op od_sub (do_e (de_op od_mul (do_n 6) (do_n 7))) (do_e (de_op od_mul (do_n 4) (do_n 9)))) (da_cons (de_op od_sub (do_e (de_op od_mul (do_n 1) (do_n 9))) (do_e (de_op od_mul (do_n 3) (do_n 7)))) (da_cons (de_op od_sub (do_e (de_op od_mul (do_n 3) (do_n 4))) (do_e (de_op od_mul (do_n 1) (do_n 6)))) da_nil)))) (da_cons (de_tup (da_cons (de_op od_sub (do_e (de_op od_mul (do_n 4) (do_n 8))) (do_e (de_op od_mul (do_n 5) (do_n 7)))) (da_cons (de_op od_sub (do_e (de_op od_mul (do_n 2) (do_n 7))) (do_e (de_op od_mul (do_n 1) (do_n 8)))) (da_cons (de_op od_sub (do_e (de_op od_mul (do_n 1) (do_n 5))) (do_e (de_op od_mul (do_n 2) (do_n 4)))) da_nil)))) da_nil)))))))
theorem ok_adjoint {P : Program} {w : World} {base : Heap} {K : PySem.W.Frag} {mg : Str → Option Value} (T : Tx K mg) : FnOk P w K mg base CX0 1 T.f_adjoint T.d_adjoint ["table"] (toSp K 1 p_adjoint) :=
  okD T.F_adjoint sc_adjoint fun cdv A outer s H E hr => ⟨t_adjoint, der_adjoint T cdv A outer s H E hr, rd_adjoint⟩

def t_table_product : DTS := (sSq (sOw (fLst aNil) 2)
  (sSq (sFo (iE (eN 0)) (gN 3) (sLa (sEx (eApp 2 (eCl cTuple (osCons (oE (eF (fLc (iR1 (aCons (eC (.int 3)) aNil)) (gN 4) tYs (eCl cSum (osCons (oE (eF (fLc (iR1 (aCons (eC (.int 3)) aNil)) (gN 5) tYs (eOp dMul (oE (eOp dIx (oN 3) (oN 5))) (oE (eOp dIx (oE (eOp dIx (oN 1) (oN 5))) (oN 4)))) [5]))) osNil)) [4]))) osNil))))))
  (sLa (sRt (eCl cTuple (osCons (oN 2) osNil))))))

theorem rd_table_product (ds : List PyData) (Q : RV → Prop) (hl : ds.length = 2) (h : p_table_product ds Q) : t_table_product { nx := fun _ => Q (.sh .none), rt := fun r _ => Q r } (startD 6 ds) := by
  obtain ⟨s, t, rfl, ⟨⟨h1, h2, h3⟩, ⟨h4, h5, h6⟩, ⟨h7, h8, h9⟩⟩, ⟨⟨j1, j2, j3⟩, ⟨j4, j5, j6⟩, ⟨j7, j8, j9⟩⟩, k⟩ := h
  walk_at "ar"
  refine qd k ?_
  simp only [e9, e3, mm, vm, c0, c1, c2, dot, sum3]

theorem der_table_product {P : Program} {w : World} {base : Heap} {K : PySem.W.Frag} {mg : Str → Option Value} (T : Tx K mg) (cdv : Value) (A : Around) (outer : List Env) (s : Shared) (H : Hp) (E : XK) (hr : Room 0 (A.deeper (PyProof.Rows.envOfC "table_product" (defScope s_table_product) s.heap.objs.size T.f_table_product cdv))) :
    DSs (cxOf CX0 P w K mg base ["first", "second", "found", "row", "j", "k"] "table_product" (defScope s_table_product) T.f_table_product cdv A outer s H E).nox (defBody s_table_product) t_table_product :=
  (dss_cons (ds_own 2 (df_lst da_nil) sc_table_product.nd)
  (dss_cons (ds_for PassesOwn.never rfl (di_e (de_n 0)) (dg_n 3 sc_table_product.nd) (dss_la (ds_expr (de_append 2 (de_callTy cd_tuple (by rfl) T.z_tuple (by decide +kernel) (dos_cons (do_e (de_f (df_lc (own := [("j", 4)]) rfl sc_table_product.nd (di_r1 (by rfl) T.z_range (da_cons de_int da_nil)) (by kernel_rfl) (by decide) (fun _ _ _ _ _ => (dg_n 4 sc_table_product.nd)) (fun _ _ _ _ _ => dts_nil) (fun _ _ _ _ _ => (de_callB (cd_sum rfl) (by rfl) T.z_sum (by decide +kernel) (dos_cons (do_e (de_f (df_lc (own := [("k", 5)]) rfl sc_table_product.nd (di_r1 (by rfl) T.z_range (da_cons de_int da_nil)) (by kernel_rfl) (by decide) (fun _ _ _ _ _ => (dg_n 5 sc_table_product.nd)) (fun _ _ _ _ _ => dts_nil) (fun _ _ _ _ _ => (de_op od_mul (do_e (de_ix xd_ix (do_n 3) (do_n 5))) (do_e (de_ix xd_ix (do_e (de_ix xd_ix (do_n 1) (do_n 5))) (do_n 4)))))))) dos_nil)))))) dos_nil))))))
  (dss_la (ds_ret (de_callTy cd_tuple (by rfl) T.z_tuple (by decide +kernel) (dos_cons (do_n 2) dos_nil))))))
theorem ok_table_product {P : Program} {w : World} {base : Heap} {K : PySem.W.Frag} {mg : Str → Option Value} (T : Tx K mg) : FnOk P w K mg base CX0 1 T.f_table_product T.d_table_product ["first", "second"] (toSp K 2 p_table_product) :=
  okD T.F_table_product sc_table_product fun cdv A outer s H E hr => ⟨t_table_product, der_table_product T cdv A outer s H E hr, rd_table_product⟩

def t_frame_table : DTS := (sSq (sAs (eN 0) (gU 4 (gsCons (gN 1) (gsCons (gN 2) (gsCons (gN 3) (gsCons (gN 4) gsNil))))))
  (sSq (sAs (eTup (aCons (eCall 1 p_table_value (aCons (eTup (aCons (eN 4) (aCons (eN 2) (aCons (eN 3) aNil)))) aNil)) (aCons (eCall 1 p_table_value (aCons (eTup (aCons (eN 1) (aCons (eN 4) (aCons (eN 3) aNil)))) aNil)) (aCons (eCall 1 p_table_value (aCons (eTup (aCons (eN 1) (aCons (eN 2) (aCons (eN 4) aNil)))) aNil)) aNil)))) (gN 5))
  (sLa (sRt (eCl cTuple (osCons (oE (eF (fLc (iR1 (aCons (eC (.int 3)) aNil)) (gN 6) tYs (eTup (aCons (eOp dMul (oE (eOp dIx (oN 5) (oE (eC (.int 0))))) (oE (eOp dIx (oN 1) (oN 6)))) (aCons (eOp dMul (oE (eOp dIx (oN 5) (oE (eC (.int 1))))) (oE (eOp dIx (oN 2) (oN 6)))) (aCons (eOp dMul (oE (eOp dIx (oN 5) (oE (eC (.int 2))))) (oE (eOp dIx (oN 3) (oN 6)))) aNil)))) [6]))) osNil))))))

theorem rd_frame_table (ds : List PyData) (Q : RV → Prop) (hl : ds.length = 1) (h : p_frame_table ds Q) : t_frame_table { nx := fun _ => Q (.sh .none), rt := fun r _ => Q r } (startD 7 ds) := by
  obtain ⟨a, b, c, d, rfl, ⟨h1, h2, h3⟩, h4, k⟩ := h
  walk_at "ar"
  refine ⟨(d, b, c), rfl, ⟨h4, h2, h3⟩, ?_⟩
  walk_at "ar"
  refine ⟨(a, d, c), rfl, ⟨h1, h4, h3⟩, ?_⟩
  walk_at "ar"
  refine ⟨(a, b, d), rfl, ⟨h1, h2, h4⟩, ?_⟩
  have s1 : Sz 80000 (det d b c) := det_Z h4 h2 h3 (by decide)
  have s2 : Sz 80000 (det a d c) := det_Z h1 h4 h3 (by decide)
  have s3 : Sz 80000 (det a b d) := det_Z h1 h2 h4 (by decide)
  obtain ⟨a1, a2, a3⟩ := h1
  obtain ⟨b1, b2, b3⟩ := h2
  obtain ⟨c1, c2, c3⟩ := h3
  walk_at "ar"
  exact k

theorem der_frame_table {P : Program} {w : World} {base : Heap} {K : PySem.W.Frag} {mg : Str → Option Value} (T : Tx K mg) (cdv : Value) (A : Around) (outer : List Env) (s : Shared) (H : Hp) (E : XK) (hr : Room 1 (A.deeper (PyProof.Rows.envOfC "frame_table" (defScope s_frame_table) s.heap.objs.size T.f_frame_table cdv))) :
    DSs (cxOf CX0 P w K mg base ["four", "a", "b", "c", "d", "weights", "k"] "frame_table" (defScope s_frame_table) T.f_frame_table cdv A outer s H E).nox (defBody s_frame_table) t_frame_table :=
  (dss_cons (ds_asg (de_n 0) (dg_u rfl (dgs_cons (dg_n 1 sc_frame_table.nd) (dgs_cons (dg_n 2 sc_frame_table.nd) (dgs_cons (dg_n 3 sc_frame_table.nd) (dgs_cons (dg_n 4 sc_frame_table.nd) dgs_nil))))))
  (dss_cons (ds_set 5 (de_tup (da_cons (de_call (n := 1) (ok_table_value T) mo_table_value (hr.mono (by decide)) (by rfl) T.g_table_value T.F_table_value.kp T.b_table_value (da_cons (de_tup (da_cons (de_n 4) (da_cons (de_n 2) (da_cons (de_n 3) da_nil)))) da_nil)) (da_cons (de_call (n := 1) (ok_table_value T) mo_table_value (hr.mono (by decide)) (by rfl) T.g_table_value T.F_table_value.kp T.b_table_value (da_cons (de_tup (da_cons (de_n 1) (da_cons (de_n 4) (da_cons (de_n 3) da_nil)))) da_nil)) (da_cons (de_call (n := 1) (ok_table_value T) mo_table_value (hr.mono (by decide)) (by rfl) T.g_table_value T.F_table_value.kp T.b_table_value (da_cons (de_tup (da_cons (de_n 1) (da_cons (de_n 2) (da_cons (de_n 4) da_nil)))) da_nil)) da_nil)))) sc_frame_table.nd)
  (dss_la (ds_ret (de_callTy cd_tuple (by rfl) T.z_tuple (by decide +kernel) (dos_cons (do_e (de_f (df_lc (own := [("k", 6)]) rfl sc_frame_table.nd (di_r1 (by rfl) T.z_range (da_cons de_int da_nil)) (by kernel_rfl) (by decide) (fun _ _ _ _ _ => (dg_n 6 sc_frame_table.nd)) (fun _ _ _ _ _ => dts_nil) (fun _ _ _ _ _ => (de_tup (da_cons (de_op od_mul (do_e (de_ix xd_ix (do_n 5) (do_e de_int))) (do_e (de_ix xd_ix (do_n 1) (do_n 6)))) (da_cons (de_op od_mul (do_e (de_ix xd_ix (do_n 5) (do_e de_int))) (do_e (de_ix xd_ix (do_n 2) (do_n 6)))) (da_cons (de_op od_mul (do_e (de_ix xd_ix (do_n 5) (do_e de_int))) (do_e (de_ix xd_ix (do_n 3) (do_n 6)))) da_nil)))))))) dos_nil))))))
theorem ok_frame_table {P : Program} {w : World} {base : Heap} {K : PySem.W.Frag} {mg : Str → Option Value} (T : Tx K mg) : FnOk P w K mg base CX0 2 T.f_frame_table T.d_frame_table ["four"] (toSp K 1 p_frame_table) :=
  okD T.F_frame_table sc_frame_table fun cdv A outer s H E hr => ⟨t_frame_table, der_frame_table T cdv A outer s H E hr, rd_frame_table⟩

def t_moving_table : DTS := (sSq (sAs (eCall 2 p_table_product (aCons (eCall 1 p_frame_table (aCons (eN 1) aNil)) (aCons (eCall 1 p_adjoint (aCons (eCall 1 p_frame_table (aCons (eN 0) aNil)) aNil)) aNil))) (gN 2))
  (sSq (sAs (eF (fLc2 (iE (eN 2)) (gN 7) tYs (iE (eN 7)) (gN 5) tYs (eN 5) [7, 5] [5])) (gN 3))
  (sSq (sAs (eC (.int 0)) (gN 4))
  (sSq (sFo (iE (eN 3)) (gN 5) (sLa (sAs (eCl cGcd (osCons (oN 4) (osCons (oN 5) osNil))) (gN 4))))
  (sSq (sAs (eOp dIx (oE (eF (fLc (iE (eN 3)) (gN 5) (tE (eOp dNe (oN 5) (oE (eC (.int 0))))) (eN 5) [5]))) (oE (eC (.int 0)))) (gN 6))
  (sSq (sIf (tE (eOp dLt (oN 6) (oE (eC (.int 0))))) (sLa (sAs (eOp dSub (oE (eC (.int 0))) (oN 4)) (gN 4))) sNx)
  (sLa (sRt (eCl cTuple (osCons (oE (eF (fLc (iE (eN 2)) (gN 7) tYs (eCl cTuple (osCons (oE (eF (fLc (iE (eN 7)) (gN 5) tYs (eOp dFdiv (oN 5) (oN 4)) [5]))) osNil)) [7]))) osNil))))))))))

theorem rd_moving_table (ds : List PyData) (Q : RV → Prop) (hl : ds.length = 2) (h : p_moving_table ds Q) : t_moving_table { nx := fun _ => Q (.sh .none), rt := fun r _ => Q r } (startD 8 ds) := by
  obtain ⟨a, b, c, d, a', b', c', d', rfl, ⟨⟨h1, h2, h3⟩, h4, ⟨j1, j2, j3⟩, j4⟩, hn, k⟩ := h
  walk_at "ar"
  refine ⟨a', b', c', d', rfl, ⟨j1.mono (by decide), j2.mono (by decide), j3.mono (by decide)⟩, j4.mono (by decide), ?_⟩
  walk_at "ar"
  refine ⟨a, b, c, d, rfl, ⟨h1.mono (by decide), h2.mono (by decide), h3.mono (by decide)⟩, h4.mono (by decide), ?_⟩
  have f1 : Z9 410 (frm a b c d) := frm_Z h1 h2 h3 h4 (by decide)
  have f2 : Z9 410 (frm a' b' c' d') := frm_Z j1 j2 j3 j4 (by decide)
  walk_at "ar"
  refine ⟨_, rfl, f1.mono (by decide), ?_⟩
  have f3 : Z9 830 (adj (frm a b c d)) := adj_Z f1 (by decide)
  walk_at "ar"
  refine ⟨_, _, rfl, f2.mono (by decide), f3.mono (by decide), ?_⟩
  have f4 : Z9 1250 (mvM (frm a b c d) (frm a' b' c' d')) := mm_Z f2 f3 (by decide)
  obtain ⟨T, hT⟩ : ∃ T, T = mm (frm a' b' c' d') (adj (frm a b c d)) := ⟨_, rfl⟩
  rw [← hT]
  have hn : ∃ n ∈ l9 T, n ≠ 0 := by rw [hT]; exact hn
  have k : Z9 1300 (low9 T) → Q (.sh (e9 (low9 T))) := by rw [hT]; exact k
  have f4 : Z9 1250 T := by rw [hT]; exact f4
  clear hT
  walk_at "ar"
  obtain ⟨r, hr⟩ := nz_lead hn
  have dk := szOk hn (l9_Z (f4.mono (by decide : 1250 ≤ 9000)))
  show cmX _ _ _ _ _ (il (l9 T)) [] _
  refine cmFm isNZ _ ?_ ?_
  · intro d hd KT KF hT hF
    obtain ⟨n, hn, rfl⟩ := List.mem_map.mp hd
    walk_at "go"
    exact nz_turn (fun e => hT _ e) (fun e => hF e)
  · rw [List.nil_append, nz_il, hr, gch9]
    refine ix_l (atI_nat (j := 0) rfl) ?_
    walk_at "go"
    have k := k (low9_Z f4 hn)
    refine ite2 (fun h => ?_) (fun h => ?_)
    · have e : 0 - (gL (l9 T) : Int) = szL (l9 T) := by unfold szL; rw [if_pos (of_decide_eq_true h)]
      walk_at "go"
      rw [e]
      walk_at "dv"
      exact k
    · have e : (gL (l9 T) : Int) = szL (l9 T) := by unfold szL; rw [if_neg (of_decide_eq_false (by simpa using h))]
      rw [e]
      walk_at "dv"
      exact k

theorem der_moving_table {P : Program} {w : World} {base : Heap} {K : PySem.W.Frag} {mg : Str → Option Value} (T : Tx K mg) (cdv : Value) (A : Around) (outer : List Env) (s : Shared) (H : Hp) (E : XK) (hr : Room 2 (A.deeper (PyProof.Rows.envOfC "moving_table" (defScope s_moving_table) s.heap.objs.size T.f_moving_table cdv))) :
    DSs (cxOf CX0 P w K mg base ["first", "second", "table", "numbers", "size", "one", "lead", "row"] "moving_table" (defScope s_moving_table) T.f_moving_table cdv A outer s H E).nox (defBody s_moving_table) t_moving_table :=
  (dss_cons (ds_set 2 (de_call (n := 2) (ok_table_product T) mo_table_product (hr.mono (by decide)) (by rfl) T.g_table_product T.F_table_product.kp T.b_table_product (da_cons (de_call (n := 1) (ok_frame_table T) mo_frame_table (hr.mono (by decide)) (by rfl) T.g_frame_table T.F_frame_table.kp T.b_frame_table (da_cons (de_n 1) da_nil)) (da_cons (de_call (n := 1) (ok_adjoint T) mo_adjoint (hr.mono (by decide)) (by rfl) T.g_adjoint T.F_adjoint.kp T.b_adjoint (da_cons (de_call (n := 1) (ok_frame_table T) mo_frame_table (hr.mono (by decide)) (by rfl) T.g_frame_table T.F_frame_table.kp T.b_frame_table (da_cons (de_n 0) da_nil)) da_nil)) da_nil))) sc_moving_table.nd)
  (dss_cons (ds_setLc2 3 [5] (own := [("row", 7), ("one", 5)]) rfl sc_moving_table.nd (di_e (de_n 2)) (by kernel_rfl) (by decide) (by decide) (by decide) (fun _ _ _ _ _ => (dg_n 7 sc_moving_table.nd)) (fun _ _ _ _ _ => dts_nil) (fun _ _ _ _ _ => (di_e (de_n 7))) (fun _ _ _ _ _ => (dg_n 5 sc_moving_table.nd)) (fun _ _ _ _ _ => dts_nil) (fun _ _ _ _ _ => (de_n 5)))
  (dss_cons (ds_set 4 de_int sc_moving_table.nd)
  (dss_cons (ds_for PassesOwn.never rfl (di_e (de_n 3)) (dg_n 5 sc_moving_table.nd) (dss_la (ds_set 4 (de_callBf cd_gcd (by rfl) T.z_gcd (dos_cons (do_n 4) (dos_cons (do_n 5) dos_nil))) sc_moving_table.nd)))
  (dss_cons (ds_set 6 (de_ix xd_ix (do_e (de_f (df_lc (own := [("one", 5)]) rfl sc_moving_table.nd (di_e (de_n 3)) (by kernel_rfl) (by decide) (fun _ _ _ _ _ => (dg_n 5 sc_moving_table.nd)) (fun _ _ _ _ _ => (dts_one (dt_cmp (od_ne hr.units) (do_n 5) (do_e de_int)))) (fun _ _ _ _ _ => (de_n 5))))) (do_e de_int)) sc_moving_table.nd)
  (dss_cons (ds_if (dt_cmp (od_lt hr.units0) (do_n 6) (do_e de_int)) (dss_la (ds_set 4 (de_op od_sub (do_e de_int) (do_n 4)) sc_moving_table.nd)) dss_nil)
  (dss_la (ds_ret (de_callTy cd_tuple (by rfl) T.z_tuple (by decide +kernel) (dos_cons (do_e (de_f (df_lc (own := [("row", 7)]) rfl sc_moving_table.nd (di_e (de_n 2)) (by kernel_rfl) (by decide) (fun _ _ _ _ _ => (dg_n 7 sc_moving_table.nd)) (fun _ _ _ _ _ => dts_nil) (fun _ _ _ _ _ => (de_callTy cd_tuple (by rfl) T.z_tuple (by decide +kernel) (dos_cons (do_e (de_f (df_lc (own := [("one", 5)]) rfl sc_moving_table.nd (di_e (de_n 7)) (by kernel_rfl) (by decide) (fun _ _ _ _ _ => (dg_n 5 sc_moving_table.nd)) (fun _ _ _ _ _ => dts_nil) (fun _ _ _ _ _ => (de_op od_fdiv (do_n 5) (do_n 4)))))) dos_nil)))))) dos_nil))))))))))
theorem ok_moving_table {P : Program} {w : World} {base : Heap} {K : PySem.W.Frag} {mg : Str → Option Value} (T : Tx K mg) : FnOk P w K mg base CX0 3 T.f_moving_table T.d_moving_table ["first", "second"] (toSp K 2 p_moving_table) :=
  okD T.F_moving_table sc_moving_table fun cdv A outer s H E hr => ⟨t_moving_table, der_moving_table T cdv A outer s H E hr, rd_moving_table⟩

def t_pappus_points : DTS := (sSq (sAs (eN 0) (gU 3 (gsCons (gN 2) (gsCons (gN 3) (gsCons (gN 4) gsNil)))))
  (sSq (sAs (eN 1) (gU 3 (gsCons (gN 5) (gsCons (gN 6) (gsCons (gN 7) gsNil)))))
  (sSq (sAs (eTup (aCons (eTup (aCons (eN 2) (aCons (eN 6) (aCons (eN 3) (aCons (eN 5) aNil))))) (aCons (eTup (aCons (eN 2) (aCons (eN 7) (aCons (eN 4) (aCons (eN 5) aNil))))) (aCons (eTup (aCons (eN 3) (aCons (eN 7) (aCons (eN 4) (aCons (eN 6) aNil))))) aNil)))) (gN 8))
  (sLa (sRt (eCl cTuple (osCons (oE (eF (fLc (iE (eN 8)) (gU 4 (gsCons (gN 9) (gsCons (gN 10) (gsCons (gN 11) (gsCons (gN 12) gsNil))))) tYs (eCall 2 p_across (aCons (eCall 2 p_across (aCons (eN 9) (aCons (eN 10) aNil))) (aCons (eCall 2 p_across (aCons (eN 11) (aCons (eN 12) aNil))) aNil))) [9, 10, 11, 12]))) osNil)))))))

theorem acr_ok {x y : T3} {n : Nat} (hx : Z3 n x) (hy : Z3 n y) (hn : n ≤ 3900) {Q : RV → Prop} (k : Q (.sh (acr x y))) : p_across [e3 x, e3 y] Q := ⟨x, y, rfl, hx.mono hn, hy.mono hn, k⟩
theorem acr_ne {x y : T3} (h : cr x y ≠ z3) : acr x y = e3 (low (cr x y)) := if_neg h
theorem rd_pappus_points (ds : List PyData) (Q : RV → Prop) (hl : ds.length = 2) (h : p_pappus_points ds Q) : t_pappus_points { nx := fun _ => Q (.sh .none), rt := fun r _ => Q r } (startD 13 ds) := by
  obtain ⟨a, b, c, d, e, f, rfl, ⟨⟨za, zb, zc⟩, ⟨zd, ze, zf⟩⟩, ⟨n1, n2, n3, n4, n5, n6⟩, k⟩ := h
  have zz : ∀ {x y : T3}, Z3 1500 x → Z3 1500 y → cr x y ≠ z3 → Z3 3900 (low (cr x y)) := fun hx hy h0 => (low_Z (cr_Z hx hy (Nat.le_refl _)) h0).mono (by decide)
  walk_at "ar"
  refine acr_ok za ze (by decide) ?_
  rw [acr_ne n1]
  walk_at "ar"
  refine acr_ok zb zd (by decide) ?_
  rw [acr_ne n2]
  walk_at "ar"
  refine acr_ok (zz za ze n1) (zz zb zd n2) (by decide) ?_
  walk_at "ar"
  refine acr_ok za zf (by decide) ?_
  rw [acr_ne n3]
  walk_at "ar"
  refine acr_ok zc zd (by decide) ?_
  rw [acr_ne n4]
  walk_at "ar"
  refine acr_ok (zz za zf n3) (zz zc zd n4) (by decide) ?_
  walk_at "ar"
  refine acr_ok zb zf (by decide) ?_
  rw [acr_ne n5]
  walk_at "ar"
  refine acr_ok zc ze (by decide) ?_
  rw [acr_ne n6]
  walk_at "ar"
  refine acr_ok (zz zb zf n5) (zz zc ze n6) (by decide) ?_
  walk_at "ar"
  exact k

theorem der_pappus_points {P : Program} {w : World} {base : Heap} {K : PySem.W.Frag} {mg : Str → Option Value} (T : Tx K mg) (cdv : Value) (A : Around) (outer : List Env) (s : Shared) (H : Hp) (E : XK) (hr : Room 2 (A.deeper (PyProof.Rows.envOfC "pappus_points" (defScope s_pappus_points) s.heap.objs.size T.f_pappus_points cdv))) :
    DSs (cxOf CX0 P w K mg base ["first", "second", "a", "b", "c", "d", "e", "f", "rows", "p", "q", "r", "s"] "pappus_points" (defScope s_pappus_points) T.f_pappus_points cdv A outer s H E).nox (defBody s_pappus_points) t_pappus_points :=
  (dss_cons (ds_asg (de_n 0) (dg_u rfl (dgs_cons (dg_n 2 sc_pappus_points.nd) (dgs_cons (dg_n 3 sc_pappus_points.nd) (dgs_cons (dg_n 4 sc_pappus_points.nd) dgs_nil)))))
  (dss_cons (ds_asg (de_n 1) (dg_u rfl (dgs_cons (dg_n 5 sc_pappus_points.nd) (dgs_cons (dg_n 6 sc_pappus_points.nd) (dgs_cons (dg_n 7 sc_pappus_points.nd) dgs_nil)))))
  (dss_cons (ds_set 8 (de_tup (da_cons (de_tup (da_cons (de_n 2) (da_cons (de_n 6) (da_cons (de_n 3) (da_cons (de_n 5) da_nil))))) (da_cons (de_tup (da_cons (de_n 2) (da_cons (de_n 7) (da_cons (de_n 4) (da_cons (de_n 5) da_nil))))) (da_cons (de_tup (da_cons (de_n 3) (da_cons (de_n 7) (da_cons (de_n 4) (da_cons (de_n 6) da_nil))))) da_nil)))) sc_pappus_points.nd)
  (dss_la (ds_ret (de_callTy cd_tuple (by rfl) T.z_tuple (by decide +kernel) (dos_cons (do_e (de_f (df_lc (own := [("p", 9), ("q", 10), ("r", 11), ("s", 12)]) rfl sc_pappus_points.nd (di_e (de_n 8)) (by kernel_rfl) (by decide) (fun _ _ _ _ _ => (dg_u rfl (dgs_cons (dg_n 9 sc_pappus_points.nd) (dgs_cons (dg_n 10 sc_pappus_points.nd) (dgs_cons (dg_n 11 sc_pappus_points.nd) (dgs_cons (dg_n 12 sc_pappus_points.nd) dgs_nil)))))) (fun _ _ _ _ _ => dts_nil) (fun _ _ _ _ _ => (de_call (n := 2) (ok_across T) mo_across (hr.mono (by decide)) (by rfl) T.g_across T.F_across.kp T.b_across (da_cons (de_call (n := 2) (ok_across T) mo_across (hr.mono (by decide)) (by rfl) T.g_across T.F_across.kp T.b_across (da_cons (de_n 9) (da_cons (de_n 10) da_nil))) (da_cons (de_call (n := 2) (ok_across T) mo_across (hr.mono (by decide)) (by rfl) T.g_across T.F_across.kp T.b_across (da_cons (de_n 11) (da_cons (de_n 12) da_nil))) da_nil))))))) dos_nil)))))))
theorem ok_pappus_points {P : Program} {w : World} {base : Heap} {K : PySem.W.Frag} {mg : Str → Option Value} (T : Tx K mg) : FnOk P w K mg base CX0 3 T.f_pappus_points T.d_pappus_points ["first", "second"] (toSp K 2 p_pappus_points) :=
  okD T.F_pappus_points sc_pappus_points fun cdv A outer s H E hr => ⟨t_pappus_points, der_pappus_points T cdv A outer s H E hr, rd_pappus_points⟩

def t_side_points : DTS := (sSq (sAs (eTup (aCons (eTup (aCons (eC (.int 0)) (aCons (eC (.int 1)) aNil))) (aCons (eTup (aCons (eC (.int 0)) (aCons (eC (.int 2)) aNil))) (aCons (eTup (aCons (eC (.int 1)) (aCons (eC (.int 2)) aNil))) aNil)))) (gN 2))
  (sLa (sRt (eCl cTuple (osCons (oE (eF (fLc (iE (eN 2)) (gU 2 (gsCons (gN 3) (gsCons (gN 4) gsNil))) tYs (eCall 2 p_across (aCons (eCall 2 p_across (aCons (eOp dIx (oN 0) (oN 3)) (aCons (eOp dIx (oN 0) (oN 4)) aNil))) (aCons (eCall 2 p_across (aCons (eOp dIx (oN 1) (oN 3)) (aCons (eOp dIx (oN 1) (oN 4)) aNil))) aNil))) [3, 4]))) osNil)))))

theorem rd_side_points (ds : List PyData) (Q : RV → Prop) (hl : ds.length = 2) (h : p_side_points ds Q) : t_side_points { nx := fun _ => Q (.sh .none), rt := fun r _ => Q r } (startD 5 ds) := by
  obtain ⟨a, b, c, d, e, f, rfl, ⟨⟨za, zb, zc⟩, ⟨zd, ze, zf⟩⟩, ⟨n1, n3, n5, n2, n4, n6⟩, k⟩ := h
  have zz : ∀ {x y : T3}, Z3 1500 x → Z3 1500 y → cr x y ≠ z3 → Z3 3900 (low (cr x y)) := fun hx hy h0 => (low_Z (cr_Z hx hy (Nat.le_refl _)) h0).mono (by decide)
  walk_at "ar"
  refine acr_ok za zb (by decide) ?_
  rw [acr_ne n1]
  walk_at "ar"
  refine acr_ok zd ze (by decide) ?_
  rw [acr_ne n2]
  walk_at "ar"
  refine acr_ok (zz za zb n1) (zz zd ze n2) (by decide) ?_
  walk_at "ar"
  refine acr_ok za zc (by decide) ?_
  rw [acr_ne n3]
  walk_at "ar"
  refine acr_ok zd zf (by decide) ?_
  rw [acr_ne n4]
  walk_at "ar"
  refine acr_ok (zz za zc n3) (zz zd zf n4) (by decide) ?_
  walk_at "ar"
  refine acr_ok zb zc (by decide) ?_
  rw [acr_ne n5]
  walk_at "ar"
  refine acr_ok ze zf (by decide) ?_
  rw [acr_ne n6]
  walk_at "ar"
  refine acr_ok (zz zb zc n5) (zz ze zf n6) (by decide) ?_
  walk_at "ar"
  exact k

theorem der_side_points {P : Program} {w : World} {base : Heap} {K : PySem.W.Frag} {mg : Str → Option Value} (T : Tx K mg) (cdv : Value) (A : Around) (outer : List Env) (s : Shared) (H : Hp) (E : XK) (hr : Room 2 (A.deeper (PyProof.Rows.envOfC "side_points" (defScope s_side_points) s.heap.objs.size T.f_side_points cdv))) :
    DSs (cxOf CX0 P w K mg base ["first", "second", "pairs", "i", "j"] "side_points" (defScope s_side_points) T.f_side_points cdv A outer s H E).nox (defBody s_side_points) t_side_points :=
  (dss_cons (ds_set 2 (de_tup (da_cons (de_tup (da_cons de_int (da_cons de_int da_nil))) (da_cons (de_tup (da_cons de_int (da_cons de_int da_nil))) (da_cons (de_tup (da_cons de_int (da_cons de_int da_nil))) da_nil)))) sc_side_points.nd)
  (dss_la (ds_ret (de_callTy cd_tuple (by rfl) T.z_tuple (by decide +kernel) (dos_cons (do_e (de_f (df_lc (own := [("i", 3), ("j", 4)]) rfl sc_side_points.nd (di_e (de_n 2)) (by kernel_rfl) (by decide) (fun _ _ _ _ _ => (dg_u rfl (dgs_cons (dg_n 3 sc_side_points.nd) (dgs_cons (dg_n 4 sc_side_points.nd) dgs_nil)))) (fun _ _ _ _ _ => dts_nil) (fun _ _ _ _ _ => (de_call (n := 2) (ok_across T) mo_across (hr.mono (by decide)) (by rfl) T.g_across T.F_across.kp T.b_across (da_cons (de_call (n := 2) (ok_across T) mo_across (hr.mono (by decide)) (by rfl) T.g_across T.F_across.kp T.b_across (da_cons (de_ix xd_ix (do_n 0) (do_n 3)) (da_cons (de_ix xd_ix (do_n 0) (do_n 4)) da_nil))) (da_cons (de_call (n := 2) (ok_across T) mo_across (hr.mono (by decide)) (by rfl) T.g_across T.F_across.kp T.b_across (da_cons (de_ix xd_ix (do_n 1) (do_n 3)) (da_cons (de_ix xd_ix (do_n 1) (do_n 4)) da_nil))) da_nil))))))) dos_nil)))))
theorem ok_side_points {P : Program} {w : World} {base : Heap} {K : PySem.W.Frag} {mg : Str → Option Value} (T : Tx K mg) : FnOk P w K mg base CX0 3 T.f_side_points T.d_side_points ["first", "second"] (toSp K 2 p_side_points) :=
  okD T.F_side_points sc_side_points fun cdv A outer s H E hr => ⟨t_side_points, der_side_points T cdv A outer s H E hr, rd_side_points⟩

def t_corner_lines : DTS := (sLa (sRt (eCl cTuple (osCons (oE (eF (fLc (iR1 (aCons (eC (.int 3)) aNil)) (gN 2) tYs (eCall 2 p_across (aCons (eOp dIx (oN 0) (oN 2)) (aCons (eOp dIx (oN 1) (oN 2)) aNil))) [2]))) osNil))))

theorem rd_corner_lines (ds : List PyData) (Q : RV → Prop) (hl : ds.length = 2) (h : p_corner_lines ds Q) : t_corner_lines { nx := fun _ => Q (.sh .none), rt := fun r _ => Q r } (startD 3 ds) := by
  obtain ⟨a, b, c, d, e, f, rfl, ⟨⟨za, zb, zc⟩, ⟨zd, ze, zf⟩⟩, k⟩ := h
  walk_at "ar"
  refine acr_ok za zd (by decide) ?_
  walk_at "ar"
  refine acr_ok zb ze (by decide) ?_
  walk_at "ar"
  refine acr_ok zc zf (by decide) ?_
  walk_at "ar"
  exact k

theorem der_corner_lines {P : Program} {w : World} {base : Heap} {K : PySem.W.Frag} {mg : Str → Option Value} (T : Tx K mg) (cdv : Value) (A : Around) (outer : List Env) (s : Shared) (H : Hp) (E : XK) (hr : Room 2 (A.deeper (PyProof.Rows.envOfC "corner_lines" (defScope s_corner_lines) s.heap.objs.size T.f_corner_lines cdv))) :
    DSs (cxOf CX0 P w K mg base ["first", "second", "k"] "corner_lines" (defScope s_corner_lines) T.f_corner_lines cdv A outer s H E).nox (defBody s_corner_lines) t_corner_lines :=
  (dss_la (ds_ret (de_callTy cd_tuple (by rfl) T.z_tuple (by decide +kernel) (dos_cons (do_e (de_f (df_lc (own := [("k", 2)]) rfl sc_corner_lines.nd (di_r1 (by rfl) T.z_range (da_cons de_int da_nil)) (by kernel_rfl) (by decide) (fun _ _ _ _ _ => (dg_n 2 sc_corner_lines.nd)) (fun _ _ _ _ _ => dts_nil) (fun _ _ _ _ _ => (de_call (n := 2) (ok_across T) mo_across (hr.mono (by decide)) (by rfl) T.g_across T.F_across.kp T.b_across (da_cons (de_ix xd_ix (do_n 0) (do_n 2)) (da_cons (de_ix xd_ix (do_n 1) (do_n 2)) da_nil))))))) dos_nil))))
theorem ok_corner_lines {P : Program} {w : World} {base : Heap} {K : PySem.W.Frag} {mg : Str → Option Value} (T : Tx K mg) : FnOk P w K mg base CX0 3 T.f_corner_lines T.d_corner_lines ["first", "second"] (toSp K 2 p_corner_lines) :=
  okD T.F_corner_lines sc_corner_lines fun cdv A outer s H E hr => ⟨t_corner_lines, der_corner_lines T cdv A outer s H E hr, rd_corner_lines⟩

def t__law_start : DTS := (sLa (sRtF (fLst (aCons (eN 0) (aCons (eC (.int 0)) (aCons (eC (.int 0)) (aCons (eC (.int 7)) aNil)))))))

theorem rd__law_start (ds : List PyData) (Q : RV → Prop) (hl : ds.length = 1) (h : p__law_start ds Q) : t__law_start { nx := fun _ => Q (.sh .none), rt := fun r _ => Q r } (startD 1 ds) := by
  obtain ⟨d, rfl, k⟩ := h
  walk_at "ar"
  exact k

theorem der__law_start {P : Program} {w : World} {base : Heap} {K : PySem.W.Frag} {mg : Str → Option Value} (T : Tx K mg) (cdv : Value) (A : Around) (outer : List Env) (s : Shared) (H : Hp) (E : XK) (hr : Room 0 (A.deeper (PyProof.Rows.envOfC "_law_start" (defScope s__law_start) s.heap.objs.size T.f__law_start cdv))) :
    DSs (cxOf CX0 P w K mg base ["script"] "_law_start" (defScope s__law_start) T.f__law_start cdv A outer s H E).nox (defBody s__law_start) t__law_start :=
  (dss_la (ds_retF (df_lst (da_cons (de_n 0) (da_cons de_int (da_cons de_int (da_cons de_int da_nil)))))))
theorem ok__law_start {P : Program} {w : World} {base : Heap} {K : PySem.W.Frag} {mg : Str → Option Value} (T : Tx K mg) : FnOk P w K mg base CX0 1 T.f__law_start T.d__law_start ["script"] (toSp K 1 p__law_start) :=
  okD T.F__law_start sc__law_start fun cdv A outer s H E hr => ⟨t__law_start, der__law_start T cdv A outer s H E hr, rd__law_start⟩

def t__law_pick : DTS := (sSq (sIf (tAn (tE (eOp dEq (oE (eOp dIx (oN 0) (oE (eC (.int 2))))) (oE (eC (.int 0))))) (tE (eOp dLt (oE (eOp dIx (oN 0) (oE (eC (.int 1))))) (oE (eCl cLen (osCons (oE (eOp dIx (oN 0) (oE (eC (.int 0))))) osNil)))))) (sSq (sAs (eCl cAbs (osCons (oE (eOp dIx (oE (eOp dIx (oN 0) (oE (eC (.int 0))))) (oE (eOp dIx (oN 0) (oE (eC (.int 1))))))) osNil)) (gN 2))
  (sSq (sSt 0 (eOp dAdd (oE (eOp dIx (oN 0) (oE (eC (.int 1))))) (oE (eC (.int 1)))) (eC (.int 1)))
  (sLa (sIf (tE (eOp dGe (oN 2) (oE (eOp dPow (oE (eC (.int 10))) (oE (eC (.int 18))))))) (sLa (sSt 0 (eN 2) (eC (.int 2)))) (sLa (sSt 0 (eOp dAdd (oE (eOp dMod (oE (eCl cInt (osCons (oE (eOp dAdd (oE (eOp dMul (oE (eOp dIx (oN 0) (oE (eC (.int 3))))) (oE (eC (.int 48271))))) (oN 2))) osNil))) (oE (eC (.int 2147483646))))) (oE (eC (.int 1)))) (eC (.int 3)))))))) sNx)
  (sSq (sIf (tE (eOp dGt (oE (eOp dIx (oN 0) (oE (eC (.int 2))))) (oE (eC (.int 0))))) (sSq (sAs (eOp dMod (oE (eCl cInt (osCons (oE (eOp dIx (oN 0) (oE (eC (.int 2))))) osNil))) (oN 1)) (gN 3))
  (sSq (sSt 0 (eOp dFdiv (oE (eOp dIx (oN 0) (oE (eC (.int 2))))) (oN 1)) (eC (.int 2)))
  (sLa (sRt (eN 3))))) sNx)
  (sSq (sSt 0 (eOp dMod (oE (eCl cInt (osCons (oE (eOp dMul (oE (eOp dIx (oN 0) (oE (eC (.int 3))))) (oE (eC (.int 48271))))) osNil))) (oE (eC (.int 2147483647)))) (eC (.int 3)))
  (sLa (sRt (eOp dMod (oE (eCl cInt (osCons (oE (eOp dAdd (oE (eOp dFdiv (oE (eOp dIx (oN 0) (oE (eC (.int 3))))) (oE (eC (.int 5))))) (oE (eOp dMod (oE (eCl cInt (osCons (oE (eOp dMul (oE (eOp dIx (oN 0) (oE (eC (.int 3))))) (oE (eOp dIx (oN 0) (oE (eC (.int 3))))))) osNil))) (oE (eC (.int 2147483629))))))) osNil))) (oN 1)))))))

theorem rd__law_pick (cs ds : List PyData) (Q : RV → List PyData → Prop) (hl : ds.length + 1 = 2) (h : p__law_pick cs ds Q) :
    t__law_pick { nx := fun ρ => ∀ cs', ρ[0]? = some (some (.bo cs')) → Q (.sh .none) cs', rt := fun r ρ => ∀ cs', ρ[0]? = some (some (.bo cs')) → Q r cs' } (startD1 4 cs ds) := by
  obtain ⟨ns, t, l, rfl, sok, rfl, hl0, hl1, hn, k⟩ := h
  refine sSq_cut (fun ρ => ∃ z : Option PyData, ρ = [some (.bo (stD ns (pk1 ns t))), some (.sh (.int l)), z.map Sl.sh, none]) ?_ ?_
  · rintro ρ ⟨z, rfl⟩
    have sok := pk1_ok (ns := ns) sok
    have k : Q (.sh (.int (pk2 l (pk1 ns t)).1)) (stD ns (pk2 l (pk1 ns t)).2) := k
    generalize pk1 ns t = u at *
    obtain ⟨u0, u1, u2⟩ := u
    have mc : ∀ {x : Int}, MulOk x 48271 := fun {x} => .inl (.inr ⟨by decide, by decide⟩)
    have dl := divok_nat hl0 hl1
    simp only [stD] at k
    unfold stD
    walk_at "ar"
    refine ite2 (fun h => ?_) (fun h => ?_)
    · have h : 0 < u1 := by have := of_decide_eq_true h; omega
      walk_at "ar"
      refine ⟨by omega, ?_⟩
      walk_at "ar"
      refine ⟨dl, ?_⟩
      walk_at "ar"
      intro cs' e
      cases e
      rw [pk2_a h] at k
      rw [fmod_nat, fdiv_nat]
      exact k
    · have h : u1 = 0 := by have : ¬ (0 : Int) < u1 := fun z => h (decide_eq_true z); omega
      have e : ((u2 : Int) * 48271).fmod 2147483647 = ((u2 * 48271 % 2147483647 : Nat) : Int) := by
        have := fmod_nat (u2 * 48271) 2147483647
        simpa using this
      walk_at "ar"
      refine ⟨mc, ?_⟩
      walk_at "ar"
      rw [e]
      have k := k
      rw [pk2_b (show ¬ 0 < u1 by omega)] at k
      have hb : u2 * 48271 % 2147483647 < 2147483647 := Nat.mod_lt _ (by decide)
      generalize u2 * 48271 % 2147483647 = s at *
      refine ⟨divok5, ?_⟩
      walk_at "ar"
      refine ⟨.inl (.inl ⟨by omega, by omega⟩), ?_⟩
      walk_at "ar"
      refine ⟨by omega, ?_⟩
      walk_at "ar"
      intro cs' e
      cases e
      have e2 : (((s : Nat) : Int).fdiv 5 + (((s : Nat) : Int) * ((s : Nat) : Int)).fmod 2147483629).fmod ((l : Nat) : Int) = (((s / 5 + s * s % 2147483629) % l : Nat) : Int) := by
        have a := fdiv_nat s 5
        have b := fmod_nat (s * s) 2147483629
        have c := fmod_nat (s / 5 + s * s % 2147483629) l
        rw [← c, Int.natCast_add, ← a, ← b, Int.natCast_mul]
        rfl
      rw [e2]
      exact k
  · intro K hK
    have mc : ∀ {x : Int}, MulOk x 48271 := fun {x} => .inl (.inr ⟨by decide, by decide⟩)
    obtain ⟨t0, t1, t2⟩ := t
    simp only [stD] at k hK ⊢
    walk_at "ar"
    by_cases h1 : t1 = 0
    · subst h1
      walk_at "ar"
      by_cases h2 : t0 < ns.length
      · refine ite2 (fun _ => ?_) (fun h => absurd (decide_eq_true (by rw [il, List.length_map]; omega)) h)
        walk_at "ar"
        refine ix_l (at_il h2) ?_
        walk_at "ar"
        rw [abs_nat]
        refine ⟨cpow, ?_⟩
        walk_at "ar"
        refine ite2 (fun h => ?_) (fun h => ?_)
        · have h : 10 ^ 18 ≤ (ns.getD t0 0).natAbs := by
            have := of_decide_eq_true h
            have e : ((10 : Int) ^ Int.toNat 18) = ((10 ^ 18 : Nat) : Int) := rfl
            rw [e] at this
            omega
          walk_at "ar"
          refine hK _ ⟨some (.int (ns.getD t0 0).natAbs), ?_⟩
          rw [pk1_a h2 h]
          rfl
        · have h : ¬ 10 ^ 18 ≤ (ns.getD t0 0).natAbs := fun z => h (decide_eq_true (by
            have e : ((10 : Int) ^ Int.toNat 18) = ((10 ^ 18 : Nat) : Int) := rfl
            rw [e]
            omega))
          walk_at "ar"
          refine ⟨mc, ?_⟩
          walk_at "ar"
          refine hK _ ⟨some (.int (ns.getD t0 0).natAbs), ?_⟩
          rw [pk1_b h2 h]
          have e := fmod_nat (t2 * 48271 + (ns.getD t0 0).natAbs) 2147483646
          have e : ((t2 : Int) * 48271 + ((ns.getD t0 0).natAbs : Int)).fmod 2147483646 = (((t2 * 48271 + (ns.getD t0 0).natAbs) % 2147483646 : Nat) : Int) := by
            rw [← e, Int.natCast_add, Int.natCast_mul]
            rfl
          rw [e]
          rfl
      · refine ite2 (fun h => absurd (of_decide_eq_true h) (by rw [il, List.length_map]; show ¬ ((t0 : Int) < _); omega)) (fun h => ?_)
        walk_at "ar"
        refine hK _ ⟨none, ?_⟩
        rw [pk1_c (show ¬ ((0 : Nat) = 0 ∧ t0 < ns.length) by omega)]
        rfl
    · refine ite2 (fun h => absurd (by simpa [PyData.eqv] using h) h1) (fun h => ?_)
      walk_at "ar"
      refine hK _ ⟨none, ?_⟩
      rw [pk1_c (show ¬ (t1 = 0 ∧ t0 < ns.length) by omega)]
      rfl

theorem der__law_pick {P : Program} {w : World} {base : Heap} {K : PySem.W.Frag} {mg : Str → Option Value} (T : Tx K mg) (cdv : Value) (A : Around) (outer : List Env) (s : Shared) (H : Hp) (E : XK) (hr : Room 0 (A.deeper (PyProof.Rows.envOfC "_law_pick" (defScope s__law_pick) s.heap.objs.size T.f__law_pick cdv))) :
    DSs (cxOf CX0 P w K mg base ["state", "limit", "cell", "drawn"] "_law_pick" (defScope s__law_pick) T.f__law_pick cdv A outer s H E).nox (defBody s__law_pick) t__law_pick :=
  (dss_cons (ds_if (DW.dt (dw_and (dt_cmp (od_eq hr.units) (do_e (de_ix xd_ix (do_n 0) (do_e de_int))) (do_e de_int)) (dw_and1 (dt_cmp (od_lt hr.units0) (do_e (de_ix xd_ix (do_n 0) (do_e de_int))) (do_e (de_callB cd_len (by rfl) T.z_len (by decide +kernel) (dos_cons (do_e (de_ix xd_ix (do_n 0) (do_e de_int))) dos_nil))))))) (dss_cons (ds_set 2 (de_callB cd_abs (by rfl) T.z_abs (by decide +kernel) (dos_cons (do_e (de_ix xd_ix (do_e (de_ix xd_ix (do_n 0) (do_e de_int))) (do_e (de_ix xd_ix (do_n 0) (do_e de_int))))) dos_nil)) sc__law_pick.nd)
  (dss_cons (ds_store 0 (de_op od_add (do_e (de_ix xd_ix (do_n 0) (do_e de_int))) (do_e de_int)) de_int)
  (dss_la (ds_if (dt_cmp od_ge (do_n 2) (do_e (de_op od_pow (do_e de_int) (do_e de_int)))) (dss_la (ds_store 0 (de_n 2) de_int)) (dss_la (ds_store 0 (de_op od_add (do_e (de_op od_mod (do_e (de_callTy cd_int (by rfl) T.z_int (by decide +kernel) (dos_cons (do_e (de_op od_add (do_e (de_op od_mul (do_e (de_ix xd_ix (do_n 0) (do_e de_int))) (do_e de_int))) (do_n 2))) dos_nil))) (do_e de_int))) (do_e de_int)) de_int)))))) dss_nil)
  (dss_cons (ds_if (dt_cmp od_gt (do_e (de_ix xd_ix (do_n 0) (do_e de_int))) (do_e de_int)) (dss_cons (ds_set 3 (de_op od_mod (do_e (de_callTy cd_int (by rfl) T.z_int (by decide +kernel) (dos_cons (do_e (de_ix xd_ix (do_n 0) (do_e de_int))) dos_nil))) (do_n 1)) sc__law_pick.nd)
  (dss_cons (ds_store 0 (de_op od_fdiv (do_e (de_ix xd_ix (do_n 0) (do_e de_int))) (do_n 1)) de_int)
  (dss_la (ds_ret (de_n 3))))) dss_nil)
  (dss_cons (ds_store 0 (de_op od_mod (do_e (de_callTy cd_int (by rfl) T.z_int (by decide +kernel) (dos_cons (do_e (de_op od_mul (do_e (de_ix xd_ix (do_n 0) (do_e de_int))) (do_e de_int))) dos_nil))) (do_e de_int)) de_int)
  (dss_la (ds_ret (de_op od_mod (do_e (de_callTy cd_int (by rfl) T.z_int (by decide +kernel) (dos_cons (do_e (de_op od_add (do_e (de_op od_fdiv (do_e (de_ix xd_ix (do_n 0) (do_e de_int))) (do_e de_int))) (do_e (de_op od_mod (do_e (de_callTy cd_int (by rfl) T.z_int (by decide +kernel) (dos_cons (do_e (de_op od_mul (do_e (de_ix xd_ix (do_n 0) (do_e de_int))) (do_e (de_ix xd_ix (do_n 0) (do_e de_int))))) dos_nil))) (do_e de_int))))) dos_nil))) (do_n 1)))))))
theorem ok__law_pick {P : Program} {w : World} {base : Heap} {K : PySem.W.Frag} {mg : Str → Option Value} (T : Tx K mg) : FnOk P w K mg base CX0 1 T.f__law_pick T.d__law_pick ["state", "limit"] (toSp1 K 2 p__law_pick) :=
  okD1 T.F__law_pick sc__law_pick fun cdv A outer s H E hr => ⟨t__law_pick, der__law_pick T cdv A outer s H E hr, rd__law_pick⟩

def t__law_same (n : Nat) : DTS := (sSq (sIf (tE (eOp dIs (oN 1) (oE (eC .none)))) (sLa (sRt (eOp dIs (oN 0) (oE (eC .none))))) sNx)
  (sSq (sIf (tE (eIsi "bool" (oN 1))) (sLa (sRt (eAnd (eIsi "bool" (oN 0)) (eOp dEq (oN 0) (oN 1))))) sNx)
  (sSq (sIf (tE (eIsi "int" (oN 1))) (sLa (sRt (eAnd (eIsi "int" (oN 0)) (eAnd (eNot (eIsi "bool" (oN 0))) (eOp dEq (oN 0) (oN 1)))))) sNx)
  (sSq (sIf (tE (eIsi "str" (oN 1))) (sLa (sRt (eAnd (eIsi "str" (oN 0)) (eOp dEq (oN 0) (oN 1))))) sNx)
  (sSq (sIf (tOr' (tAn (tE (eIsi "list" (oN 1))) (tNo (tE (eIsi "list" (oN 0))))) (tAn (tE (eIsi "tuple" (oN 1))) (tNo (tE (eIsi "tuple" (oN 0)))))) (sLa (sRt (eC (.bool false)))) sNx)
  (sLa (sRt (eAnd (eOp dEq (oE (eCl cLen (osCons (oN 0) osNil))) (oE (eCl cLen (osCons (oN 1) osNil)))) (eOp dEq (oE (eF (fLc (iR1 (aCons (eCl cLen (osCons (oN 1) osNil)) aNil)) (gN 2) (tNo (tE (eCall 2 (p__law_same n) (aCons (eOp dIx (oN 0) (oN 2)) (aCons (eOp dIx (oN 1) (oN 2)) aNil))))) (eC (.int 1)) [2]))) (oE (eF (fLst aNil))))))))))))

theorem rd__law_same (n : Nat) (ds : List PyData) (Q : RV → Prop) (hl : ds.length = 2) (h : p__law_same (n + 1) ds Q) : t__law_same n { nx := fun _ => Q (.sh .none), rt := fun r _ => Q r } (startD 3 ds) := by
  obtain ⟨d, rfl, hs, k⟩ := h
  cases d with
  | none =>
    walk_at "ar"
    exact k
  | bool b =>
    walk_at "ar"
    refine qb k ?_
    cases b <;> rfl
  | int i =>
    walk_at "ar"
    refine qb k (beq_int i)
  | str x =>
    obtain ⟨h1, h2⟩ := Bool.and_eq_true_iff.mp hs
    walk_at "ar"
    refine ⟨h1, h1, ?_⟩
    exact qb k h2
  | list xs =>
    obtain ⟨h1, h2⟩ := shal_all hs
    walk_at "ar"
    rw [beq_int]
    walk_at "ar"
    refine ⟨by omega, by omega, ?_⟩
    refine ⟨by rw [rngD_len, Int.toNat_natCast]; exact Nat.le_trans h1 (Nat.le_of_ble_eq_true rfl), rfl, ?_⟩
    refine cmFm (fun _ => none) [some (.sh (.list xs)), some (.sh (.list xs)), none] ?_ ?_
    · intro d hd KT KF hT hF
      obtain ⟨i, hi, rfl⟩ := List.mem_map.mp (show d ∈ (List.range (Int.toNat (xs.length : Int))).map _ from hd)
      have hi : i < xs.length := by rw [List.mem_range, Int.toNat_natCast] at hi; exact hi
      rw [Int.zero_add]
      walk_at "ar"
      refine ix_l (at_get hi) ?_
      walk_at "ar"
      refine ix_l (at_get hi) ?_
      walk_at "ar"
      cases n with
      | zero => have := h2 _ (List.getElem_mem hi); cases this
      | succ n =>
        refine ⟨xs[i], rfl, h2 _ (List.getElem_mem hi), ?_⟩
        exact hF rfl
    · have e : ([] : List PyData) ++ List.filterMap (fun _ => none) (rngD 0 (Int.toNat (xs.length : Int))) = [] := by simp
      rw [e]
      walk_at "ar"
      exact k
  | tuple xs =>
    obtain ⟨h1, h2⟩ := shal_all hs
    walk_at "ar"
    rw [beq_int]
    walk_at "ar"
    refine ⟨by omega, by omega, ?_⟩
    refine ⟨by rw [rngD_len, Int.toNat_natCast]; exact Nat.le_trans h1 (Nat.le_of_ble_eq_true rfl), rfl, ?_⟩
    refine cmFm (fun _ => none) [some (.sh (.tuple xs)), some (.sh (.tuple xs)), none] ?_ ?_
    · intro d hd KT KF hT hF
      obtain ⟨i, hi, rfl⟩ := List.mem_map.mp (show d ∈ (List.range (Int.toNat (xs.length : Int))).map _ from hd)
      have hi : i < xs.length := by rw [List.mem_range, Int.toNat_natCast] at hi; exact hi
      rw [Int.zero_add]
      walk_at "ar"
      refine ix_t (at_get hi) ?_
      walk_at "ar"
      refine ix_t (at_get hi) ?_
      walk_at "ar"
      cases n with
      | zero => have := h2 _ (List.getElem_mem hi); cases this
      | succ n =>
        refine ⟨xs[i], rfl, h2 _ (List.getElem_mem hi), ?_⟩
        exact hF rfl
    · have e : ([] : List PyData) ++ List.filterMap (fun _ => none) (rngD 0 (Int.toNat (xs.length : Int))) = [] := by simp
      rw [e]
      walk_at "ar"
      exact k
  | dict _ => cases hs

theorem der__law_same {P : Program} {w : World} {base : Heap} {K : PySem.W.Frag} {mg : Str → Option Value} (T : Tx K mg) (cdv : Value) (A : Around) (outer : List Env) (s : Shared) (H : Hp) (E : XK) (n : Nat) (ih : FnOk P w K mg base CX0 (0 + n) T.f__law_same T.d__law_same ["told", "due"] (toSp K 2 (p__law_same n))) (hr : Room (0 + n) (A.deeper (PyProof.Rows.envOfC "_law_same" (defScope s__law_same) s.heap.objs.size T.f__law_same cdv))) :
    DSs (cxOf CX0 P w K mg base ["told", "due", "k"] "_law_same" (defScope s__law_same) T.f__law_same cdv A outer s H E).nox (defBody s__law_same) (t__law_same n) :=
  (dss_cons (ds_if (dt_cmp od_is (do_n 1) (do_e de_non)) (dss_la (ds_ret (de_cmp od_is (do_n 0) (do_e de_non)))) dss_nil)
  (dss_cons (ds_if (dt_e (de_isi (T := "bool") (by decide) (do_n 1) (by rfl) T.z_isinstance (by rfl) T.z_bool (by decide +kernel) (by decide) (by decide) (by decide +kernel))) (dss_la (ds_ret (de_and (de_isi (T := "bool") (by decide) (do_n 0) (by rfl) T.z_isinstance (by rfl) T.z_bool (by decide +kernel) (by decide) (by decide) (by decide +kernel)) (de_one (de_cmp (od_eq hr.units) (do_n 0) (do_n 1)))))) dss_nil)
  (dss_cons (ds_if (dt_e (de_isi (T := "int") (by decide) (do_n 1) (by rfl) T.z_isinstance (by rfl) T.z_int (by decide +kernel) (by decide) (by decide) (by decide +kernel))) (dss_la (ds_ret (de_and (de_isi (T := "int") (by decide) (do_n 0) (by rfl) T.z_isinstance (by rfl) T.z_int (by decide +kernel) (by decide) (by decide) (by decide +kernel)) (de_and (de_not (de_isi (T := "bool") (by decide) (do_n 0) (by rfl) T.z_isinstance (by rfl) T.z_bool (by decide +kernel) (by decide) (by decide) (by decide +kernel))) (de_one (de_cmp (od_eq hr.units) (do_n 0) (do_n 1))))))) dss_nil)
  (dss_cons (ds_if (dt_e (de_isi (T := "str") (by decide) (do_n 1) (by rfl) T.z_isinstance (by rfl) T.z_str (by decide +kernel) (by decide) (by decide) (by decide +kernel))) (dss_la (ds_ret (de_and (de_isi (T := "str") (by decide) (do_n 0) (by rfl) T.z_isinstance (by rfl) T.z_str (by decide +kernel) (by decide) (by decide) (by decide +kernel)) (de_one (de_cmp (od_eq hr.units) (do_n 0) (do_n 1)))))) dss_nil)
  (dss_cons (ds_if (DW.dt (dw_or (DW.dt (dw_and (dt_e (de_isi (T := "list") (by decide) (do_n 1) (by rfl) T.z_isinstance (by rfl) T.z_list (by decide +kernel) (by decide) (by decide) (by decide +kernel))) (dw_and1 (dt_not (dt_e (de_isi (T := "list") (by decide) (do_n 0) (by rfl) T.z_isinstance (by rfl) T.z_list (by decide +kernel) (by decide) (by decide) (by decide +kernel))))))) (dw_or1 (DW.dt (dw_and (dt_e (de_isi (T := "tuple") (by decide) (do_n 1) (by rfl) T.z_isinstance (by rfl) T.z_tuple (by decide +kernel) (by decide) (by decide) (by decide +kernel))) (dw_and1 (dt_not (dt_e (de_isi (T := "tuple") (by decide) (do_n 0) (by rfl) T.z_isinstance (by rfl) T.z_tuple (by decide +kernel) (by decide) (by decide) (by decide +kernel)))))))))) (dss_la (ds_ret de_bl)) dss_nil)
  (dss_la (ds_ret (de_and (de_cmp (od_eq hr.units) (do_e (de_callB cd_len (by rfl) T.z_len (by decide +kernel) (dos_cons (do_n 0) dos_nil))) (do_e (de_callB cd_len (by rfl) T.z_len (by decide +kernel) (dos_cons (do_n 1) dos_nil)))) (de_one (de_cmp (od_eq hr.units) (do_e (de_f (df_lc (own := [("k", 2)]) rfl sc__law_same.nd (di_r1 (by rfl) T.z_range (da_cons (de_callB cd_len (by rfl) T.z_len (by decide +kernel) (dos_cons (do_n 1) dos_nil)) da_nil)) (by kernel_rfl) (by decide) (fun _ _ _ _ _ => (dg_n 2 sc__law_same.nd)) (fun _ _ _ _ _ => (dts_one (dt_not (dt_e (de_call (n := 2) ih mo__law_same (hr.mono (by omega)) (by rfl) T.g__law_same T.F__law_same.kp T.b__law_same (da_cons (de_ix xd_ix (do_n 0) (do_n 2)) (da_cons (de_ix xd_ix (do_n 1) (do_n 2)) da_nil))))))) (fun _ _ _ _ _ => de_int)))) (do_e (de_f (df_lst da_nil)))))))))))))
theorem ok__law_same {P : Program} {w : World} {base : Heap} {K : PySem.W.Frag} {mg : Str → Option Value} (T : Tx K mg) : ∀ n, FnOk P w K mg base CX0 (0 + n) T.f__law_same T.d__law_same ["told", "due"] (toSp K 2 (p__law_same n))
  | 0 => ok_no
  | n + 1 => okD T.F__law_same sc__law_same fun cdv A outer s H E hr => ⟨t__law_same n, der__law_same T cdv A outer s H E n (ok__law_same T n) hr, rd__law_same n⟩

def t__law_cross : DTS := (sLa (sRt (eTup (aCons (eOp dSub (oE (eOp dMul (oE (eOp dIx (oN 0) (oE (eC (.int 1))))) (oE (eOp dIx (oN 1) (oE (eC (.int 2))))))) (oE (eOp dMul (oE (eOp dIx (oN 0) (oE (eC (.int 2))))) (oE (eOp dIx (oN 1) (oE (eC (.int 1)))))))) (aCons (eOp dSub (oE (eOp dMul (oE (eOp dIx (oN 0) (oE (eC (.int 2))))) (oE (eOp dIx (oN 1) (oE (eC (.int 0))))))) (oE (eOp dMul (oE (eOp dIx (oN 0) (oE (eC (.int 0))))) (oE (eOp dIx (oN 1) (oE (eC (.int 2)))))))) (aCons (eOp dSub (oE (eOp dMul (oE (eOp dIx (oN 0) (oE (eC (.int 0))))) (oE (eOp dIx (oN 1) (oE (eC (.int 1))))))) (oE (eOp dMul (oE (eOp dIx (oN 0) (oE (eC (.int 1))))) (oE (eOp dIx (oN 1) (oE (eC (.int 0)))))))) aNil))))))

theorem rd__law_cross (ds : List PyData) (Q : RV → Prop) (hl : ds.length = 2) (h : p__law_cross ds Q) : t__law_cross { nx := fun _ => Q (.sh .none), rt := fun r _ => Q r } (startD 2 ds) := by
  obtain ⟨p, q, rfl, ⟨h1, h2, h3⟩, ⟨h4, h5, h6⟩, k⟩ := h
  walk_at "ar"
  exact k

theorem der__law_cross {P : Program} {w : World} {base : Heap} {K : PySem.W.Frag} {mg : Str → Option Value} (T : Tx K mg) (cdv : Value) (A : Around) (outer : List Env) (s : Shared) (H : Hp) (E : XK) (hr : Room 0 (A.deeper (PyProof.Rows.envOfC "_law_cross" (defScope s__law_cross) s.heap.objs.size T.f__law_cross cdv))) :
    DSs (cxOf CX0 P w K mg base ["p", "q"] "_law_cross" (defScope s__law_cross) T.f__law_cross cdv A outer s H E).nox (defBody s__law_cross) t__law_cross :=
  (dss_la (ds_ret (de_tup (da_cons (de_op od_sub (do_e (de_op od_mul (do_e (de_ix xd_ix (do_n 0) (do_e de_int))) (do_e (de_ix xd_ix (do_n 1) (do_e de_int))))) (do_e (de_op od_mul (do_e (de_ix xd_ix (do_n 0) (do_e de_int))) (do_e (de_ix xd_ix (do_n 1) (do_e de_int)))))) (da_cons (de_op od_sub (do_e (de_op od_mul (do_e (de_ix xd_ix (do_n 0) (do_e de_int))) (do_e (de_ix xd_ix (do_n 1) (do_e de_int))))) (do_e (de_op od_mul (do_e (de_ix xd_ix (do_n 0) (do_e de_int))) (do_e (de_ix xd_ix (do_n 1) (do_e de_int)))))) (da_cons (de_op od_sub (do_e (de_op od_mul (do_e (de_ix xd_ix (do_n 0) (do_e de_int))) (do_e (de_ix xd_ix (do_n 1) (do_e de_int))))) (do_e (de_op od_mul (do_e (de_ix xd_ix (do_n 0) (do_e de_int))) (do_e (de_ix xd_ix (do_n 1) (do_e de_int)))))) da_nil))))))
theorem ok__law_cross {P : Program} {w : World} {base : Heap} {K : PySem.W.Frag} {mg : Str → Option Value} (T : Tx K mg) : FnOk P w K mg base CX0 1 T.f__law_cross T.d__law_cross ["p", "q"] (toSp K 2 p__law_cross) :=
  okD T.F__law_cross sc__law_cross fun cdv A outer s H E hr => ⟨t__law_cross, der__law_cross T cdv A outer s H E hr, rd__law_cross⟩

def t__law_value : DTS := (sSq (sAs (eCall 2 p__law_cross (aCons (eN 0) (aCons (eN 1) aNil))) (gN 3))
  (sLa (sRt (eOp dAdd (oE (eOp dAdd (oE (eOp dMul (oE (eOp dIx (oN 3) (oE (eC (.int 0))))) (oE (eOp dIx (oN 2) (oE (eC (.int 0))))))) (oE (eOp dMul (oE (eOp dIx (oN 3) (oE (eC (.int 1))))) (oE (eOp dIx (oN 2) (oE (eC (.int 1))))))))) (oE (eOp dMul (oE (eOp dIx (oN 3) (oE (eC (.int 2))))) (oE (eOp dIx (oN 2) (oE (eC (.int 2)))))))))))

theorem rd__law_value (ds : List PyData) (Q : RV → Prop) (hl : ds.length = 3) (h : p__law_value ds Q) : t__law_value { nx := fun _ => Q (.sh .none), rt := fun r _ => Q r } (startD 4 ds) := by
  obtain ⟨p, q, r, rfl, ⟨h1, h2, h3⟩, k⟩ := h
  walk_at "ar"
  refine ⟨p, q, rfl, h1, h2, ?_⟩
  have h4 : Z3 50000 (cr p q) := cr_Z h1 h2 (by decide)
  obtain ⟨a1, a2, a3⟩ := h3
  obtain ⟨b1, b2, b3⟩ := h4
  walk_at "ar"
  exact k

theorem der__law_value {P : Program} {w : World} {base : Heap} {K : PySem.W.Frag} {mg : Str → Option Value} (T : Tx K mg) (cdv : Value) (A : Around) (outer : List Env) (s : Shared) (H : Hp) (E : XK) (hr : Room 1 (A.deeper (PyProof.Rows.envOfC "_law_value" (defScope s__law_value) s.heap.objs.size T.f__law_value cdv))) :
    DSs (cxOf CX0 P w K mg base ["p", "q", "r", "told"] "_law_value" (defScope s__law_value) T.f__law_value cdv A outer s H E).nox (defBody s__law_value) t__law_value :=
  (dss_cons (ds_set 3 (de_call (n := 2) (ok__law_cross T) mo__law_cross (hr.mono (by decide)) (by rfl) T.g__law_cross T.F__law_cross.kp T.b__law_cross (da_cons (de_n 0) (da_cons (de_n 1) da_nil))) sc__law_value.nd)
  (dss_la (ds_ret (de_op od_add (do_e (de_op od_add (do_e (de_op od_mul (do_e (de_ix xd_ix (do_n 3) (do_e de_int))) (do_e (de_ix xd_ix (do_n 2) (do_e de_int))))) (do_e (de_op od_mul (do_e (de_ix xd_ix (do_n 3) (do_e de_int))) (do_e (de_ix xd_ix (do_n 2) (do_e de_int))))))) (do_e (de_op od_mul (do_e (de_ix xd_ix (do_n 3) (do_e de_int))) (do_e (de_ix xd_ix (do_n 2) (do_e de_int)))))))))
theorem ok__law_value {P : Program} {w : World} {base : Heap} {K : PySem.W.Frag} {mg : Str → Option Value} (T : Tx K mg) : FnOk P w K mg base CX0 2 T.f__law_value T.d__law_value ["p", "q", "r"] (toSp K 3 p__law_value) :=
  okD T.F__law_value sc__law_value fun cdv A outer s H E hr => ⟨t__law_value, der__law_value T cdv A outer s H E hr, rd__law_value⟩

def t__law_least : DTS := (sSq (sAs (eC (.int 0)) (gN 1))
  (sSq (sFo (iE (eN 0)) (gN 2) (sSq (sAs (eCl cAbs (osCons (oN 2) osNil)) (gN 2))
  (sLa (sWh (tE (eOp dNe (oN 2) (oE (eC (.int 0))))) (sLa (sAs (eTup (aCons (eN 2) (aCons (eOp dMod (oE (eCl cInt (osCons (oN 1) osNil))) (oN 2)) aNil))) (gU 2 (gsCons (gN 1) (gsCons (gN 2) gsNil)))))))))
  (sSq (sIf (tE (eOp dLt (oE (eOp dIx (oE (eF (fLc (iE (eN 0)) (gN 2) (tE (eOp dNe (oN 2) (oE (eC (.int 0))))) (eN 2) [2]))) (oE (eC (.int 0))))) (oE (eC (.int 0))))) (sLa (sAs (eOp dSub (oE (eC (.int 0))) (oN 1)) (gN 1))) sNx)
  (sLa (sRt (eCl cTuple (osCons (oE (eF (fLc (iE (eN 0)) (gN 2) tYs (eOp dFdiv (oN 2) (oN 1)) [2]))) osNil)))))))

theorem rd__law_least (ds : List PyData) (Q : RV → Prop) (hl : ds.length = 1) (h : p__law_least ds Q) : t__law_least { nx := fun _ => Q (.sh .none), rt := fun r _ => Q r } (startD 3 ds) := by
  obtain ⟨ns, h0, h1, h2, h3, k⟩ := h
  have hN : ns.length ≤ sizeLine := Nat.le_trans h1 (Nat.le_of_ble_eq_true rfl)
  obtain ⟨r, hr⟩ := nz_lead h2
  have dk := szOk h2 h3
  rcases h0 with rfl | rfl
  all_goals
    walk_at "ar"
    refine foBy (fun i ρ => ∃ z : Option PyData, ρ = [some (.sh _), some (.sh (.int (gL (ns.take i)))), z.map Sl.sh]) ⟨none, rfl⟩ ?_ ?_
    · rintro i d ρ K hd ⟨z, rfl⟩ hK
      obtain ⟨n, hn, rfl⟩ : ∃ n, ns[i]? = some n ∧ PyData.int n = d := by
        rw [il, List.getElem?_map] at hd
        cases e : ns[i]? with
        | none => rw [e] at hd; cases hd
        | some p => rw [e] at hd; exact ⟨p, rfl, Option.some.inj hd⟩
      refine ⟨by cases z <;> rfl, ?_⟩
      walk_at "ar"
      rw [abs_nat]
      refine whBy (fun ρ => ∃ x y : Nat, ρ = [some (.sh _), some (.sh (.int x)), some (.sh (.int y))] ∧ Nat.gcd x y = Nat.gcd (gL (ns.take i)) n.natAbs) i2 ⟨_, _, rfl, rfl⟩ ?_
      rintro ρ K2 ⟨x, y, rfl, hg⟩ hK2
      walk_at "ar"
      by_cases hy : y = 0
      · subst hy
        walk_at "ar"
        refine hK _ ⟨some (.int 0), ?_⟩
        rw [List.take_add_one, hn, Option.toList_some, gL_snoc, ← hg, Nat.gcd_zero_right]
        rfl
      · refine ite2 (fun _ => ?_) (fun h => absurd (by simpa [PyData.eqv] using hy) h)
        walk_at "ar"
        refine ⟨by omega, ?_⟩
        walk_at "ar"
        rw [fmod_nat]
        refine hK2 _ ⟨y, x % y, rfl, ?_⟩ ?_
        · rw [← hg, Nat.gcd_comm y, ← Nat.gcd_rec, Nat.gcd_comm]
        · show (((x % y : Nat) : Int)).toNat < ((y : Nat) : Int).toNat
          have := Nat.mod_lt x (show 0 < y by omega)
          omega
    · rintro ρ ⟨z, rfl⟩
      have e0 : ns.take (il ns).length = ns := by rw [il, List.length_map]; exact List.take_length
      rw [e0]
      walk_at "ar"
      refine ⟨by rw [il, List.length_map]; exact hN, by cases z <;> rfl, ?_⟩
      refine cmFm isNZ [some (.sh _), some (.sh (.int (gL ns))), none] ?_ ?_
      · intro d hd KT KF hT hF
        obtain ⟨n, hn, rfl⟩ := List.mem_map.mp hd
        walk_at "go"
        exact nz_turn (fun e => hT _ e) (fun e => hF e)
      · rw [List.nil_append, nz_il, hr]
        refine ix_l (atI_nat (j := 0) rfl) ?_
        rcases z with _ | z
        all_goals
          walk_at "ar"
          refine ite2 (fun h => ?_) (fun h => ?_)
          · have e : 0 - (gL ns : Int) = szL ns := by unfold szL; rw [if_pos (of_decide_eq_true h)]
            walk_at "ar"
            rw [e]
            refine ⟨by rw [il, List.length_map]; exact hN, rfl, ?_⟩
            refine cmFm (dvF (szL ns)) [some (.sh _), some (.sh (.int (szL ns))), none] ?_ ?_
            · intro d hd KT KF hT hF
              obtain ⟨n, hn, rfl⟩ := List.mem_map.mp hd
              walk_at "dv"
              exact hT _ rfl
            · rw [List.nil_append, dv_il]
              walk_at "go"
              exact k
          · have e : (gL ns : Int) = szL ns := by unfold szL; rw [if_neg (fun z => h (decide_eq_true z))]
            rw [e]
            walk_at "ar"
            refine ⟨by rw [il, List.length_map]; exact hN, rfl, ?_⟩
            refine cmFm (dvF (szL ns)) [some (.sh _), some (.sh (.int (szL ns))), none] ?_ ?_
            · intro d hd KT KF hT hF
              obtain ⟨n, hn, rfl⟩ := List.mem_map.mp hd
              walk_at "dv"
              exact hT _ rfl
            · rw [List.nil_append, dv_il]
              walk_at "go"
              exact k

theorem der__law_least {P : Program} {w : World} {base : Heap} {K : PySem.W.Frag} {mg : Str → Option Value} (T : Tx K mg) (cdv : Value) (A : Around) (outer : List Env) (s : Shared) (H : Hp) (E : XK) (hr : Room 0 (A.deeper (PyProof.Rows.envOfC "_law_least" (defScope s__law_least) s.heap.objs.size T.f__law_least cdv))) :
    DSs (cxOf CX0 P w K mg base ["some", "size", "one"] "_law_least" (defScope s__law_least) T.f__law_least cdv A outer s H E).nox (defBody s__law_least) t__law_least :=
  (dss_cons (ds_set 1 de_int sc__law_least.nd)
  (dss_cons (ds_for PassesOwn.never rfl (di_e (de_n 0)) (dg_n 2 sc__law_least.nd) (dss_cons (ds_set 2 (de_callB cd_abs (by rfl) T.z_abs (by decide +kernel) (dos_cons (do_n 2) dos_nil)) sc__law_least.nd)
  (dss_la (ds_while PassesOwn.never (dt_cmp (od_ne hr.units) (do_n 2) (do_e de_int)) (dss_la (ds_asg (de_tup (da_cons (de_n 2) (da_cons (de_op od_mod (do_e (de_callTy cd_int (by rfl) T.z_int (by decide +kernel) (dos_cons (do_n 1) dos_nil))) (do_n 2)) da_nil))) (dg_u rfl (dgs_cons (dg_n 1 sc__law_least.nd) (dgs_cons (dg_n 2 sc__law_least.nd) dgs_nil)))))))))
  (dss_cons (ds_if (dt_cmp (od_lt hr.units0) (do_e (de_ix xd_ix (do_e (de_f (df_lc (own := [("one", 2)]) rfl sc__law_least.nd (di_e (de_n 0)) (by kernel_rfl) (by decide) (fun _ _ _ _ _ => (dg_n 2 sc__law_least.nd)) (fun _ _ _ _ _ => (dts_one (dt_cmp (od_ne hr.units) (do_n 2) (do_e de_int)))) (fun _ _ _ _ _ => (de_n 2))))) (do_e de_int))) (do_e de_int)) (dss_la (ds_set 1 (de_op od_sub (do_e de_int) (do_n 1)) sc__law_least.nd)) dss_nil)
  (dss_la (ds_ret (de_callTy cd_tuple (by rfl) T.z_tuple (by decide +kernel) (dos_cons (do_e (de_f (df_lc (own := [("one", 2)]) rfl sc__law_least.nd (di_e (de_n 0)) (by kernel_rfl) (by decide) (fun _ _ _ _ _ => (dg_n 2 sc__law_least.nd)) (fun _ _ _ _ _ => dts_nil) (fun _ _ _ _ _ => (de_op od_fdiv (do_n 2) (do_n 1)))))) dos_nil)))))))
theorem ok__law_least {P : Program} {w : World} {base : Heap} {K : PySem.W.Frag} {mg : Str → Option Value} (T : Tx K mg) : FnOk P w K mg base CX0 1 T.f__law_least T.d__law_least ["some"] (toSp K 1 p__law_least) :=
  okD T.F__law_least sc__law_least fun cdv A outer s H E hr => ⟨t__law_least, der__law_least T cdv A outer s H E hr, rd__law_least⟩

def t__law_point : DTS := (sSq (sAs (eF (fLst (aCons (eOp dSub (oE (eCall1 2 p__law_pick 0 (aCons (eC (.int 9)) aNil))) (oE (eC (.int 4)))) (aCons (eOp dSub (oE (eCall1 2 p__law_pick 0 (aCons (eC (.int 9)) aNil))) (oE (eC (.int 4)))) (aCons (eOp dIx (oE (eF (fLst (aCons (eC (.int 1)) (aCons (eC (.int 1)) (aCons (eC (.int 1)) (aCons (eC (.int 2)) (aCons (eC (.int 0)) aNil)))))))) (oE (eCall1 2 p__law_pick 0 (aCons (eC (.int 5)) aNil)))) aNil))))) (gN 1))
  (sSq (sIf (tE (eOp dEq (oN 1) (oE (eF (fLst (aCons (eC (.int 0)) (aCons (eC (.int 0)) (aCons (eC (.int 0)) aNil)))))))) (sLa (sAs (eF (fLst (aCons (eC (.int 1)) (aCons (eC (.int 1)) (aCons (eC (.int 0)) aNil))))) (gN 1))) sNx)
  (sLa (sRt (eCall 1 p__law_least (aCons (eN 1) aNil))))))

theorem rd__law_point (cs ds : List PyData) (Q : RV → List PyData → Prop) (hl : ds.length + 1 = 1) (h : p__law_point cs ds Q) :
    t__law_point { nx := fun ρ => ∀ cs', ρ[0]? = some (some (.bo cs')) → Q (.sh .none) cs', rt := fun r ρ => ∀ cs', ρ[0]? = some (some (.bo cs')) → Q r cs' } (startD1 2 cs ds) := by
  obtain ⟨ns, sv, rfl, hn, k⟩ := h
  walk_at "ar"
  refine sv_pick sv (l := 9) (by decide) (by decide) hn fun r0 cs0 hr0 sv0 => ?_
  walk_at "ar"
  refine sv_pick sv0 (l := 9) (by decide) (by decide) hn fun r1 cs1 hr1 sv1 => ?_
  walk_at "ar"
  refine sv_pick sv1 (l := 5) (by decide) (by decide) hn fun r2 cs2 hr2 sv2 => ?_
  obtain ⟨w, hw, hw0⟩ : ∃ w : Int, atI [PyData.int 1, .int 1, .int 1, .int 2, .int 0] ((r2 : Nat) : Int) = some (.int w) ∧ Sz 3 w := by
    have : r2 = 0 ∨ r2 = 1 ∨ r2 = 2 ∨ r2 = 3 ∨ r2 = 4 := by omega
    rcases this with rfl | rfl | rfl | rfl | rfl
    · exact ⟨1, rfl, ⟨by decide⟩⟩
    · exact ⟨1, rfl, ⟨by decide⟩⟩
    · exact ⟨1, rfl, ⟨by decide⟩⟩
    · exact ⟨2, rfl, ⟨by decide⟩⟩
    · exact ⟨0, rfl, ⟨by decide⟩⟩
  refine ix_l hw ?_
  have z1 : Sz 3 ((r0 : Int) - 4) := ⟨by omega⟩
  have z2 : Sz 3 ((r1 : Int) - 4) := ⟨by omega⟩
  generalize (r0 : Int) - 4 = a at *
  generalize (r1 : Int) - 4 = b at *
  walk_at "ar"
  refine ite2 (fun h => ?_) (fun h => ?_)
  · walk_at "ar"
    refine ⟨l3 (1, 1, 0), .inl rfl, by decide, l3_ne (by decide), fun n hn => ?_, ?_⟩
    · simp only [l3, List.mem_cons, List.not_mem_nil, or_false] at hn
      rcases hn with rfl | rfl | rfl <;> exact Sz.mono (n := 3) ⟨by decide⟩ (by decide)
    · walk_at "ar"
      intro cs' e
      cases e
      exact k (low (1, 1, 0)) _ (lst_low (by decide)) (low_Z ⟨⟨by decide⟩, ⟨by decide⟩, ⟨by decide⟩⟩ (by decide)) sv2
  · have h0 : (a, b, w) ≠ z3 := fun e => h (((eqv_l3 (a, b, w) z3).trans (decide_eq_true e)))
    walk_at "ar"
    refine ⟨l3 (a, b, w), .inl rfl, by simp [l3], l3_ne h0, fun n hn => ?_, ?_⟩
    · simp only [l3, List.mem_cons, List.not_mem_nil, or_false] at hn
      rcases hn with rfl | rfl | rfl
      · exact z1.mono (by decide)
      · exact z2.mono (by decide)
      · exact hw0.mono (by decide)
    · walk_at "ar"
      intro cs' e
      cases e
      exact k (low (a, b, w)) _ (lst_low h0) (low_Z ⟨z1, z2, hw0⟩ h0) sv2

theorem der__law_point {P : Program} {w : World} {base : Heap} {K : PySem.W.Frag} {mg : Str → Option Value} (T : Tx K mg) (cdv : Value) (A : Around) (outer : List Env) (s : Shared) (H : Hp) (E : XK) (hr : Room 1 (A.deeper (PyProof.Rows.envOfC "_law_point" (defScope s__law_point) s.heap.objs.size T.f__law_point cdv))) :
    DSs (cxOf CX0 P w K mg base ["state", "some"] "_law_point" (defScope s__law_point) T.f__law_point cdv A outer s H E).nox (defBody s__law_point) t__law_point :=
  (dss_cons (ds_set 1 (de_f (df_lst (da_cons (de_op od_sub (do_e (de_call1 (n := 2) 0 (ok__law_pick T) mo__law_pick (hr.mono (by decide)) (by rfl) T.g__law_pick T.F__law_pick.kp T.b__law_pick (da_cons de_int da_nil))) (do_e de_int)) (da_cons (de_op od_sub (do_e (de_call1 (n := 2) 0 (ok__law_pick T) mo__law_pick (hr.mono (by decide)) (by rfl) T.g__law_pick T.F__law_pick.kp T.b__law_pick (da_cons de_int da_nil))) (do_e de_int)) (da_cons (de_ix xd_ix (do_e (de_f (df_lst (da_cons de_int (da_cons de_int (da_cons de_int (da_cons de_int (da_cons de_int da_nil)))))))) (do_e (de_call1 (n := 2) 0 (ok__law_pick T) mo__law_pick (hr.mono (by decide)) (by rfl) T.g__law_pick T.F__law_pick.kp T.b__law_pick (da_cons de_int da_nil)))) da_nil))))) sc__law_point.nd)
  (dss_cons (ds_if (dt_cmp (od_eq hr.units) (do_n 1) (do_e (de_f (df_lst (da_cons de_int (da_cons de_int (da_cons de_int da_nil))))))) (dss_la (ds_set 1 (de_f (df_lst (da_cons de_int (da_cons de_int (da_cons de_int da_nil))))) sc__law_point.nd)) dss_nil)
  (dss_la (ds_ret (de_call (n := 1) (ok__law_least T) mo__law_least (hr.mono (by decide)) (by rfl) T.g__law_least T.F__law_least.kp T.b__law_least (da_cons (de_n 1) da_nil))))))
theorem ok__law_point {P : Program} {w : World} {base : Heap} {K : PySem.W.Frag} {mg : Str → Option Value} (T : Tx K mg) : FnOk P w K mg base CX0 2 T.f__law_point T.d__law_point ["state"] (toSp1 K 1 p__law_point) :=
  okD1 T.F__law_point sc__law_point fun cdv A outer s H E hr => ⟨t__law_point, der__law_point T cdv A outer s H E hr, rd__law_point⟩

def t__law_frame : DTS := (sSq (sOw (fLst aNil) 2)
  (sSq (sAs (eC (.int 0)) (gN 3))
  (sSq (sWh (tE (eOp dLt (oE (eCl cLen (osCons (oN 2) osNil))) (oN 1))) (sSq (sAs (eOp dAdd (oN 3) (oE (eC (.int 1)))) (gN 3))
  (sSq (sAs (eCall1 1 p__law_point 0 aNil) (gN 4))
  (sSq (sIf (tE (eOp dGt (oN 3) (oE (eC (.int 80))))) (sLa (sAs (eCall 1 p__law_least (aCons (eF (fLst (aCons (eN 3) (aCons (eOp dMul (oN 3) (oN 3)) (aCons (eC (.int 1)) aNil))))) aNil)) (gN 4))) sNx)
  (sSq (sAs (eOp dIn (oN 4) (oN 2)) (gN 5))
  (sSq (sFo (iR1 (aCons (eCl cLen (osCons (oN 2) osNil)) aNil)) (gN 6) (sLa (sFo (iR1 (aCons (eN 6) aNil)) (gN 7) (sLa (sIf (tE (eOp dEq (oE (eCall 3 p__law_value (aCons (eOp dIx (oN 2) (oN 6)) (aCons (eOp dIx (oN 2) (oN 7)) (aCons (eN 4) aNil))))) (oE (eC (.int 0))))) (sLa (sAs (eC (.bool true)) (gN 5))) sNx)))))
  (sLa (sIf (tNo (tE (eN 5))) (sLa (sEx (eApp 2 (eN 4)))) sNx))))))))
  (sLa (sRt (eN 2))))))

theorem rd__law_frame (cs ds : List PyData) (Q : RV → List PyData → Prop) (hl : ds.length + 1 = 2) (h : p__law_frame cs ds Q) :
    t__law_frame { nx := fun ρ => ∀ cs', ρ[0]? = some (some (.bo cs')) → Q (.sh .none) cs', rt := fun r ρ => ∀ cs', ρ[0]? = some (some (.bo cs')) → Q r cs' } (startD1 8 cs ds) := by
  obtain ⟨ns, many, sv, rfl, hm, hn, k⟩ := h
  walk_at "ar"
  refine whBy (fun ρ => ∃ (fs : List T3) (n c : Nat) (cs : List PyData) (z4 z5 z6 z7 : Option PyData), ρ = [some (.bo cs), some (.sh (.int (many : Nat))), some (.ow (fs.map e3)), some (.sh (.int (n : Nat))), z4.map Sl.sh, z5.map Sl.sh, z6.map Sl.sh, z7.map Sl.sh] ∧
    SV ns cs ∧ FrI many fs n c) mu3 ⟨[], 0, 0, cs, none, none, none, none, rfl, sv, frI_nil⟩ ?_
  rintro ρ K ⟨fs, n, c, cs, z4, z5, z6, z7, rfl, sv, fr⟩ hK
  walk_at "ar"
  refine ite2 (fun h => ?_) (fun h => ?_)
  · have hlt : fs.length < many := by
      have := of_decide_eq_true h
      rw [List.length_map] at this
      omega
    walk_at "ar"
    refine ⟨ns, sv, rfl, hn, fun p0 cs0 lp0 zp0 sv0 => ?_⟩
    walk_at "nx"
    refine sSq_cut (fun ρ => ∃ p : T3, Lst p ∧ Z3 30 p ∧ (80 < n + 1 → p = par (n + 1)) ∧ ρ = [some (.bo cs0), some (.sh (.int (many : Nat))), some (.ow (fs.map e3)), some (.sh (.int ((n + 1 : Nat) : Int))), some (.sh (e3 p)), z5.map Sl.sh, z6.map Sl.sh, z7.map Sl.sh]) ?_ ?_
    · rintro ρ ⟨p, lp, zp, hp, rfl⟩
      walk_at "ar"
      refine ⟨(encL enc3).shaped (by decide) fs, ?_⟩
      rw [any_map enc3]
      have hb := fr.bound hm hlt
      have hz := fr.z
      refine ⟨isBo_opt rfl, ?_⟩
      refine sSq_cut (fun ρ => ∃ z6 z7 : Option PyData, ρ = [some (.bo cs0), some (.sh (.int (many : Nat))), some (.ow (fs.map e3)), some (.sh (.int ((n + 1 : Nat) : Int))), some (.sh (e3 p)), some (.sh (.bool (decide (flat fs p)))), z6.map Sl.sh, z7.map Sl.sh]) ?_ ?_
      · rintro ρ ⟨z6, z7, rfl⟩
        by_cases hf : flat fs p
        · obtain ⟨c', fr'⟩ := fr.skip hm hlt hp hf
          rw [decide_eq_true hf]
          walk_at "ar"
          refine hK _ ⟨fs, n + 1, c', cs0, some (e3 p), some (.bool true), z6, z7, rfl, sv0, fr'⟩ ?_
          show 1000 - (((n + 1 : Nat) : Int)).toNat < 1000 - ((n : Nat) : Int).toNat
          omega
        · have fr' := fr.add hm hlt lp zp hf
          rw [decide_eq_false hf]
          walk_at "ar"
          refine ⟨?_, ?_⟩
          · rw [List.length_map]
            exact Nat.lt_of_lt_of_le (show fs.length < 10 by omega) (Nat.le_of_ble_eq_true rfl)
          · walk_at "ar"
            refine hK _ ⟨fs ++ [p], n + 1, 0, cs0, some (e3 p), some (.bool false), z6, z7, ?_, sv0, fr'⟩ ?_
            · rw [List.map_append]
              rfl
            · show 1000 - (((n + 1 : Nat) : Int)).toNat < 1000 - ((n : Nat) : Int).toNat
              omega
      · intro K hK
        have hl6 : fs.length ≤ 5 := by omega
        walk_at "ar"
        refine ⟨by rw [List.length_map]; omega, by rw [List.length_map]; omega, ?_⟩
        refine foBy2 (fun i ρ => ∃ z6 z7 : Option PyData, ρ = [some (.bo cs0), some (.sh (.int (many : Nat))), some (.ow (fs.map e3)), some (.sh (.int ((n + 1 : Nat) : Int))), some (.sh (e3 p)), some (.sh (.bool (flB fs p i 0))), z6.map Sl.sh, z7.map Sl.sh]) ⟨z6, z7, ?_⟩ ?_ ?_
        · rw [flB_zero]
          simp only [List.set_cons_zero, List.set_cons_succ]
          congr
        · rintro i ρ K2 hi ⟨z6, z7, rfl⟩ hK2
          rw [Int.toNat_natCast, List.length_map] at hi
          walk_at "ar"
          refine ⟨by omega, by omega, ?_⟩
          refine foBy2 (fun j ρ => ∃ z7 : Option PyData, ρ = [some (.bo cs0), some (.sh (.int (many : Nat))), some (.ow (fs.map e3)), some (.sh (.int ((n + 1 : Nat) : Int))), some (.sh (e3 p)), some (.sh (.bool (flB fs p i j))), some (.sh (.int (i : Nat))), z7.map Sl.sh]) ⟨z7, rfl⟩ ?_ ?_
          · rintro j ρ K3 hj ⟨z7, rfl⟩ hK3
            rw [Int.toNat_natCast] at hj
            have e1 : fs[i]? = some fs[i] := List.getElem?_eq_getElem hi
            have e2 : fs[j]? = some (fs[j]'(by omega)) := List.getElem?_eq_getElem (by omega)
            have m1 := hz _ (List.mem_of_getElem? e1)
            have m2 := hz _ (List.mem_of_getElem? e2)
            have st : flR fs p i j = decide (det fs[i] (fs[j]'(by omega)) p = 0) := by unfold flR; rw [e1, e2]
            generalize fs[i] = b at *
            generalize (fs[j]'(by omega)) = a at *
            walk_at "ar"
            refine ix_l (at_e3 e1) ?_
            walk_at "ar"
            refine ix_l (at_e3 e2) ?_
            walk_at "ar"
            refine ⟨b, a, p, rfl, ⟨m1.mono (by decide), m2.mono (by decide), zp.mono (by decide)⟩, ?_⟩
            walk_at "ar"
            refine ite2 (fun h => ?_) (fun h => ?_)
            · walk_at "ar"
              refine hK3 _ ⟨some (.int (j : Nat)), ?_⟩
              rw [flB_step, st, decide_eq_true (eq_of_beq h), Bool.or_true]
              rfl
            · walk_at "ar"
              refine hK3 _ ⟨some (.int (j : Nat)), ?_⟩
              rw [flB_step, st, decide_eq_false (fun z => h (beq_iff_eq.mpr z)), Bool.or_false]
              rfl
          · rintro ρ ⟨z7, rfl⟩
            rw [Int.toNat_natCast]
            refine hK2 _ ⟨some (.int (i : Nat)), z7, ?_⟩
            rw [flB_row]
            rfl
        · rintro ρ ⟨z6, z7, rfl⟩
          rw [Int.toNat_natCast, List.length_map]
          refine hK _ ⟨z6, z7, ?_⟩
          have e : flB fs p fs.length 0 = decide (flat fs p) := by
            rw [Bool.eq_iff_iff, flB_iff, decide_eq_true_iff]
          rw [e]
    · intro K hK
      walk_at "ar"
      refine ite2 (fun h => ?_) (fun h => ?_)
      · have h80 : 80 < n + 1 := by have := of_decide_eq_true h; omega
        have hb := fr.bound hm hlt
        have e : ((n : Int) + 1) = ((n + 1 : Nat) : Int) := rfl
        rw [e]
        have z : Z3 30 (par (n + 1)) := par_Z (by omega)
        walk_at "ar"
        refine ⟨.inl (.inl ⟨by omega, by omega⟩), ?_⟩
        walk_at "ar"
        refine ⟨l3 (par (n + 1)), .inl rfl, Nat.le_of_ble_eq_true rfl, l3_ne (lst_par (by omega)).1, ?_, ?_⟩
        · obtain ⟨za, zb, zc⟩ := z
          intro m hm
          simp only [l3, List.mem_cons, List.not_mem_nil, or_false] at hm
          rcases hm with rfl | rfl | rfl
          · exact za.mono (by decide)
          · exact zb.mono (by decide)
          · exact zc.mono (by decide)
        · walk_at "ar"
          refine hK _ ⟨par (n + 1), lst_par (by omega), z, fun _ => rfl, ?_⟩
          have e2 : RV.d (.sh (.tuple (il (lowL (l3 (par (n + 1))))))) = e3 (par (n + 1)) := by
            show e3 (low (par (n + 1))) = _
            rw [(lst_par (t := n + 1) (by omega)).2]
          rw [e2]
          rfl
      · have h80 : ¬ 80 < n + 1 := fun z => h (decide_eq_true (by omega))
        walk_at "ar"
        refine hK _ ⟨p0, lp0, zp0.mono (by decide), fun z => absurd z h80, rfl⟩
  · walk_at "ar"
    intro cs' e
    cases e
    have : many = fs.length := by
      have := fr.len
      have h : ¬ ((fs.map e3).length : Int) < many := fun z => h (decide_eq_true z)
      rw [List.length_map] at h
      omega
    exact k fs _ fr.g this.symm fr.z sv

theorem der__law_frame {P : Program} {w : World} {base : Heap} {K : PySem.W.Frag} {mg : Str → Option Value} (T : Tx K mg) (cdv : Value) (A : Around) (outer : List Env) (s : Shared) (H : Hp) (E : XK) (hr : Room 2 (A.deeper (PyProof.Rows.envOfC "_law_frame" (defScope s__law_frame) s.heap.objs.size T.f__law_frame cdv))) :
    DSs (cxOf CX0 P w K mg base ["state", "many", "found", "tries", "point", "flat", "i", "j"] "_law_frame" (defScope s__law_frame) T.f__law_frame cdv A outer s H E).nox (defBody s__law_frame) t__law_frame :=
  (dss_cons (ds_own 2 (df_lst da_nil) sc__law_frame.nd)
  (dss_cons (ds_set 3 de_int sc__law_frame.nd)
  (dss_cons (ds_while PassesOwn.never (dt_cmp (od_lt hr.units0) (do_e (de_callB cd_len (by rfl) T.z_len (by decide +kernel) (dos_cons (do_n 2) dos_nil))) (do_n 1)) (dss_cons (ds_set 3 (de_op od_add (do_n 3) (do_e de_int)) sc__law_frame.nd)
  (dss_cons (ds_set 4 (de_call1 (n := 1) 0 (ok__law_point T) mo__law_point (hr.mono (by decide)) (by rfl) T.g__law_point T.F__law_point.kp T.b__law_point da_nil) sc__law_frame.nd)
  (dss_cons (ds_if (dt_cmp od_gt (do_n 3) (do_e de_int)) (dss_la (ds_set 4 (de_call (n := 1) (ok__law_least T) mo__law_least (hr.mono (by decide)) (by rfl) T.g__law_least T.F__law_least.kp T.b__law_least (da_cons (de_f (df_lst (da_cons (de_n 3) (da_cons (de_op od_mul (do_n 3) (do_n 3)) (da_cons de_int da_nil))))) da_nil)) sc__law_frame.nd)) dss_nil)
  (dss_cons (ds_set 5 (de_cmp (od_in (units65 hr)) (do_n 4) (do_n 2)) sc__law_frame.nd)
  (dss_cons (ds_for PassesOwn.never rfl (di_r1 (by rfl) T.z_range (da_cons (de_callB cd_len (by rfl) T.z_len (by decide +kernel) (dos_cons (do_n 2) dos_nil)) da_nil)) (dg_n 6 sc__law_frame.nd) (dss_la (ds_for PassesOwn.never rfl (di_r1 (by rfl) T.z_range (da_cons (de_n 6) da_nil)) (dg_n 7 sc__law_frame.nd) (dss_la (ds_if (dt_cmp (od_eq hr.units) (do_e (de_call (n := 3) (ok__law_value T) mo__law_value (hr.mono (by decide)) (by rfl) T.g__law_value T.F__law_value.kp T.b__law_value (da_cons (de_ix xd_ix (do_n 2) (do_n 6)) (da_cons (de_ix xd_ix (do_n 2) (do_n 7)) (da_cons (de_n 4) da_nil))))) (do_e de_int)) (dss_la (ds_set 5 de_bl sc__law_frame.nd)) dss_nil)))))
  (dss_la (ds_if (dt_not (dt_e (de_n 5))) (dss_la (ds_expr (de_append 2 (de_n 4)))) dss_nil))))))))
  (dss_la (ds_ret (de_n 2))))))
theorem ok__law_frame {P : Program} {w : World} {base : Heap} {K : PySem.W.Frag} {mg : Str → Option Value} (T : Tx K mg) : FnOk P w K mg base CX0 3 T.f__law_frame T.d__law_frame ["state", "many"] (toSp1 K 2 p__law_frame) :=
  okD1 T.F__law_frame sc__law_frame fun cdv A outer s H E hr => ⟨t__law_frame, der__law_frame T cdv A outer s H E hr, rd__law_frame⟩

def t__law_on : DTS := (sSq (sOw (fLst aNil) 4)
  (sSq (sAs (eC (.int 0)) (gN 5))
  (sSq (sWh (tE (eOp dLt (oE (eCl cLen (osCons (oN 4) osNil))) (oN 3))) (sSq (sAs (eOp dAdd (oN 5) (oE (eC (.int 1)))) (gN 5))
  (sSq (sAs (eOp dAdd (oE (eC (.int 1))) (oE (eCall1 2 p__law_pick 0 (aCons (eC (.int 5)) aNil)))) (gN 6))
  (sSq (sAs (eOp dMul (oE (eOp dAdd (oE (eC (.int 1))) (oE (eCall1 2 p__law_pick 0 (aCons (eC (.int 5)) aNil))))) (oE (eOp dIx (oE (eF (fLst (aCons (eC (.int 1)) (aCons (eUn dNeg (oE (eC (.int 1)))) aNil))))) (oE (eCall1 2 p__law_pick 0 (aCons (eC (.int 2)) aNil)))))) (gN 7))
  (sSq (sIf (tE (eOp dGt (oN 5) (oE (eC (.int 40))))) (sLa (sAs (eN 5) (gN 7))) sNx)
  (sSq (sAs (eCall 1 p__law_least (aCons (eF (fLc (iR1 (aCons (eC (.int 3)) aNil)) (gN 9) tYs (eOp dAdd (oE (eOp dMul (oN 6) (oE (eOp dIx (oN 1) (oN 9))))) (oE (eOp dMul (oN 7) (oE (eOp dIx (oN 2) (oN 9)))))) [9])) aNil)) (gN 8))
  (sLa (sIf (tE (eOp dNi (oN 8) (oN 4))) (sLa (sEx (eApp 4 (eN 8)))) sNx))))))))
  (sLa (sRt (eN 4))))))

def mu5 : DS → Nat
  | [_, _, _, _, _, some (.sh (.int n)), _, _, _, _] => 1000 - n.toNat
  | _ => 0
theorem rd__law_on (cs ds : List PyData) (Q : RV → List PyData → Prop) (hl : ds.length + 1 = 4) (h : p__law_on cs ds Q) :
    t__law_on { nx := fun ρ => ∀ cs', ρ[0]? = some (some (.bo cs')) → Q (.sh .none) cs', rt := fun r ρ => ∀ cs', ρ[0]? = some (some (.bo cs')) → Q r cs' } (startD1 10 cs ds) := by
  obtain ⟨ns, p, q, many, sv, rfl, hm, hn, hpq, zp, zq, k⟩ := h
  walk_at "ar"
  refine whBy (fun ρ => ∃ (xs : List P2) (n c : Nat) (cs : List PyData) (z6 z7 z8 : Option PyData), ρ = [some (.bo cs), some (.sh (e3 p)), some (.sh (e3 q)), some (.sh (.int (many : Nat))), some (.ow ((xs.map fun n => low (comb p q n)).map e3)), some (.sh (.int (n : Nat))), z6.map Sl.sh, z7.map Sl.sh, z8.map Sl.sh, none] ∧
    SV ns cs ∧ OnI many xs n c) mu5 ⟨[], 0, 0, cs, none, none, none, rfl, sv, onI_nil⟩ ?_
  rintro ρ K ⟨xs, n, c, cs, z6, z7, z8, rfl, sv, fr⟩ hK
  walk_at "ar"
  refine ite2 (fun h => ?_) (fun h => ?_)
  · have hlt : xs.length < many := by
      have := of_decide_eq_true h
      rw [List.length_map, List.length_map] at this
      omega
    walk_at "ar"
    refine sv_pick sv (l := 5) (by decide) (by decide) hn fun r1 cs1 hr1 sv1 => ?_
    walk_at "ar"
    refine sv_pick sv1 (l := 5) (by decide) (by decide) hn fun r2 cs2 hr2 sv2 => ?_
    walk_at "ar"
    refine sv_pick sv2 (l := 2) (by decide) (by decide) hn fun r3 cs3 hr3 sv3 => ?_
    obtain ⟨w, hw, hw0⟩ : ∃ w : Int, atI [PyData.int 1, .int (-1)] ((r3 : Nat) : Int) = some (.int w) ∧ (w = 1 ∨ w = -1) := by
      have : r3 = 0 ∨ r3 = 1 := by omega
      rcases this with rfl | rfl
      · exact ⟨1, rfl, .inl rfl⟩
      · exact ⟨-1, rfl, .inr rfl⟩
    refine ix_l hw ?_
    refine ⟨.inl (.inr ⟨by omega, by omega⟩), ?_⟩
    have ha : 1 ≤ (1 + (r1 : Int)) ∧ (1 + (r1 : Int)) ≤ 5 := by omega
    have hb : (1 + (r2 : Int)) * w ≠ 0 ∧ Sz 9 ((1 + (r2 : Int)) * w) := by
      rcases hw0 with rfl | rfl
      · exact ⟨by omega, ⟨by omega⟩⟩
      · exact ⟨by omega, ⟨by omega⟩⟩
    generalize (1 + (r1 : Int)) = a at *
    generalize (1 + (r2 : Int)) * w = b0 at *
    walk_at "aw"
    refine sSq_cut (fun ρ => ∃ b : Int, (b ≠ 0 ∧ Sz 9 b) ∧ (40 < n + 1 → b = ((n + 1 : Nat) : Int)) ∧ ρ = [some (.bo cs3), some (.sh (e3 p)), some (.sh (e3 q)), some (.sh (.int (many : Nat))), some (.ow ((xs.map fun n => low (comb p q n)).map e3)), some (.sh (.int ((n + 1 : Nat) : Int))), some (.sh (.int a)), some (.sh (.int b)), z8.map Sl.sh, none]) ?_ ?_
    · rintro ρ ⟨b, hb, hb40, rfl⟩
      have dne : ((a, b) : P2) ≠ (0, 0) := fun e => by
        have : a = 0 := congrArg (fun p : P2 => p.1) e
        omega
      have cz := comb_ne hpq dne
      have zc := comb_Z2 (n := (a, b)) ⟨ha, hb.2⟩ zp zq
      have sa : Sz 3 a := ⟨by omega⟩
      have sb := hb.2
      obtain ⟨p1, p2, p3⟩ := id zp
      obtain ⟨q1, q2, q3⟩ := id zq
      walk_at "ar"
      refine lst_least cz zc (by decide) (.inr rfl) ?_
      walk_at "ar"
      refine ⟨(encL enc3).shaped (by decide) _, ?_⟩
      by_cases hf : ∃ m ∈ xs, br m (a, b) = 0
      · obtain ⟨c', fr'⟩ := fr.skip hm hlt ha hb40 hf
        have mem : low (comb p q (a, b)) ∈ List.map (fun n => low (comb p q n)) xs := by
          obtain ⟨m, hm, e⟩ := hf
          exact List.mem_map.mpr ⟨m, hm, (low_comb hpq (fr.g.z hm) dne).mpr e⟩
        rw [show (List.map e3 (List.map (fun n => low (comb p q n)) xs)).any (fun z => PyData.eqv z (RV.sh (e3 (low (comb p q (a, b))))).d) = true from any_yes enc3 mem]
        walk_at "ar"
        refine hK _ ⟨xs, n + 1, c', cs3, some (.int a), some (.int b), some (e3 (low (comb p q (a, b)))), rfl, sv3, fr'⟩ ?_
        show 1000 - (((n + 1 : Nat) : Int)).toNat < 1000 - ((n : Nat) : Int).toNat
        have := fr.bound hm hlt
        omega
      · have hf' : ∀ m ∈ xs, br m (a, b) ≠ 0 := fun m hm e => hf ⟨m, hm, e⟩
        have fr' := fr.add hm hlt (d := (a, b)) ha hb hf'
        have mem : ¬ low (comb p q (a, b)) ∈ List.map (fun n => low (comb p q n)) xs := fun h => by
          obtain ⟨m, hm, e⟩ := List.mem_map.mp h
          exact hf' m hm ((low_comb hpq (fr.g.z hm) dne).mp e)
        rw [show (List.map e3 (List.map (fun n => low (comb p q n)) xs)).any (fun z => PyData.eqv z (RV.sh (e3 (low (comb p q (a, b))))).d) = false from any_no enc3 mem]
        walk_at "ar"
        refine ⟨?_, ?_⟩
        · rw [List.length_map, List.length_map]
          exact Nat.lt_of_lt_of_le (show xs.length < 10 by omega) (Nat.le_of_ble_eq_true rfl)
        · walk_at "ar"
          refine hK _ ⟨xs ++ [(a, b)], n + 1, 0, cs3, some (.int a), some (.int b), some (e3 (low (comb p q (a, b)))), ?_, sv3, fr'⟩ ?_
          · rw [List.map_append, List.map_append]
            rfl
          · show 1000 - (((n + 1 : Nat) : Int)).toNat < 1000 - ((n : Nat) : Int).toNat
            have := fr.bound hm hlt
            omega
    · intro K3 hK3
      have hbn := fr.bound hm hlt
      walk_at "ar"
      refine ite2 (fun h => ?_) (fun h => ?_)
      · walk_at "ar"
        exact hK3 _ ⟨((n + 1 : Nat) : Int), ⟨by omega, ⟨by omega⟩⟩, fun _ => rfl, rfl⟩
      · walk_at "ar"
        exact hK3 _ ⟨b0, hb, fun z => absurd (show decide (((n : Int) + 1) > 40) = true from decide_eq_true (by omega)) h, rfl⟩
  · walk_at "ar"
    intro cs' e
    cases e
    have : many = xs.length := by
      have := fr.len
      have h : ¬ (((xs.map fun n => low (comb p q n)).map e3).length : Int) < many := fun z => h (decide_eq_true z)
      rw [List.length_map, List.length_map] at h
      omega
    rw [List.map_map]
    exact k xs _ fr.g this.symm sv

theorem der__law_on {P : Program} {w : World} {base : Heap} {K : PySem.W.Frag} {mg : Str → Option Value} (T : Tx K mg) (cdv : Value) (A : Around) (outer : List Env) (s : Shared) (H : Hp) (E : XK) (hr : Room 1 (A.deeper (PyProof.Rows.envOfC "_law_on" (defScope s__law_on) s.heap.objs.size T.f__law_on cdv))) :
    DSs (cxOf CX0 P w K mg base ["state", "p", "q", "many", "found", "tries", "a", "b", "point", "k"] "_law_on" (defScope s__law_on) T.f__law_on cdv A outer s H E).nox (defBody s__law_on) t__law_on :=
  (dss_cons (ds_own 4 (df_lst da_nil) sc__law_on.nd)
  (dss_cons (ds_set 5 de_int sc__law_on.nd)
  (dss_cons (ds_while PassesOwn.never (dt_cmp (od_lt hr.units0) (do_e (de_callB cd_len (by rfl) T.z_len (by decide +kernel) (dos_cons (do_n 4) dos_nil))) (do_n 3)) (dss_cons (ds_set 5 (de_op od_add (do_n 5) (do_e de_int)) sc__law_on.nd)
  (dss_cons (ds_set 6 (de_op od_add (do_e de_int) (do_e (de_call1 (n := 2) 0 (ok__law_pick T) mo__law_pick (hr.mono (by decide)) (by rfl) T.g__law_pick T.F__law_pick.kp T.b__law_pick (da_cons de_int da_nil)))) sc__law_on.nd)
  (dss_cons (ds_set 7 (de_op od_mul (do_e (de_op od_add (do_e de_int) (do_e (de_call1 (n := 2) 0 (ok__law_pick T) mo__law_pick (hr.mono (by decide)) (by rfl) T.g__law_pick T.F__law_pick.kp T.b__law_pick (da_cons de_int da_nil))))) (do_e (de_ix xd_ix (do_e (de_f (df_lst (da_cons de_int (da_cons (de_un ud_neg (do_e de_int)) da_nil))))) (do_e (de_call1 (n := 2) 0 (ok__law_pick T) mo__law_pick (hr.mono (by decide)) (by rfl) T.g__law_pick T.F__law_pick.kp T.b__law_pick (da_cons de_int da_nil)))))) sc__law_on.nd)
  (dss_cons (ds_if (dt_cmp od_gt (do_n 5) (do_e de_int)) (dss_la (ds_set 7 (de_n 5) sc__law_on.nd)) dss_nil)
  (dss_cons (ds_set 8 (de_call (n := 1) (ok__law_least T) mo__law_least (hr.mono (by decide)) (by rfl) T.g__law_least T.F__law_least.kp T.b__law_least (da_cons (de_f (df_lc (own := [("k", 9)]) rfl sc__law_on.nd (di_r1 (by rfl) T.z_range (da_cons de_int da_nil)) (by kernel_rfl) (by decide) (fun _ _ _ _ _ => (dg_n 9 sc__law_on.nd)) (fun _ _ _ _ _ => dts_nil) (fun _ _ _ _ _ => (de_op od_add (do_e (de_op od_mul (do_n 6) (do_e (de_ix xd_ix (do_n 1) (do_n 9))))) (do_e (de_op od_mul (do_n 7) (do_e (de_ix xd_ix (do_n 2) (do_n 9))))))))) da_nil)) sc__law_on.nd)
  (dss_la (ds_if (dt_cmp (od_ni (units65 hr)) (do_n 8) (do_n 4)) (dss_la (ds_expr (de_append 4 (de_n 8)))) dss_nil))))))))
  (dss_la (ds_ret (de_n 4))))))
theorem ok__law_on {P : Program} {w : World} {base : Heap} {K : PySem.W.Frag} {mg : Str → Option Value} (T : Tx K mg) : FnOk P w K mg base CX0 2 T.f__law_on T.d__law_on ["state", "p", "q", "many"] (toSp1 K 4 p__law_on) :=
  okD1 T.F__law_on sc__law_on fun cdv A outer s H E hr => ⟨t__law_on, der__law_on T cdv A outer s H E hr, rd__law_on⟩

@[reducible] def T_law_24 : DTS := (sLa (sRt (eAnd (eOp dEq (oE (eCall 2 p_across (aCons (eN 9) (aCons (eN 10) aNil)))) (oE (eCall 2 p_across (aCons (eN 10) (aCons (eN 11) aNil))))) (eOp dEq (oE (eCall 2 p_across (aCons (eN 12) (aCons (eN 13) aNil)))) (oE (eCall 2 p_across (aCons (eN 13) (aCons (eN 14) aNil))))))))
@[reducible] def T_law_23 : DTS := sSq (sFo (iR1 (aCons (eC (.int 3)) aNil)) (gN 26) (sLa (sIf (tAn (tE (eOp dIsn (oE (eOp dIx (oN 21) (oN 26))) (oE (eC .none)))) (tE (eOp dNe (oE (eOp dIx (oN 25) (oN 26))) (oE (eCall 2 p_applied_table (aCons (eN 23) (aCons (eOp dIx (oN 21) (oN 26)) aNil))))))) (sLa (sRt (eC (.bool false)))) sNx))) T_law_24
@[reducible] def T_law_22 : DTS := sSq (sAs (eCall 2 p_side_points (aCons (eN 16) (aCons (eN 17) aNil))) (gN 21)) T_law_23
@[reducible] def T_law_21 : DTS := sSq (sAs (eCall 2 p_side_points (aCons (eF (fLc (iE (eN 16)) (gN 28) tYs (eCall 2 p_applied_table (aCons (eN 23) (aCons (eN 28) aNil))) [28])) (aCons (eF (fLc (iE (eN 17)) (gN 28) tYs (eCall 2 p_applied_table (aCons (eN 23) (aCons (eN 28) aNil))) [28])) aNil))) (gN 25)) T_law_22
@[reducible] def T_law_20 : DTS := sSq (sIf (tE (eOp dNe (oN 24) (oE (eCl cTuple (osCons (oE (eF (fLc (iE (eN 8)) (gN 28) tYs (eCall 2 p_applied_table (aCons (eN 23) (aCons (eN 28) aNil))) [28]))) osNil))))) (sLa (sRt (eC (.bool false)))) sNx) T_law_21
@[reducible] def T_law_19 : DTS := sSq (sAs (eCall 2 p_pappus_points (aCons (eF (fLc (iE (eN 6)) (gN 28) tYs (eCall 2 p_applied_table (aCons (eN 23) (aCons (eN 28) aNil))) [28])) (aCons (eF (fLc (iE (eN 7)) (gN 28) tYs (eCall 2 p_applied_table (aCons (eN 23) (aCons (eN 28) aNil))) [28])) aNil))) (gN 24)) T_law_20
@[reducible] def T_law_18 : DTS := sSq (sAs (eCall 2 p_moving_table (aCons (eCall1 2 p__law_frame 1 (aCons (eC (.int 4)) aNil)) (aCons (eCall1 2 p__law_frame 1 (aCons (eC (.int 4)) aNil)) aNil))) (gN 23)) T_law_19
@[reducible] def T_law_17 : DTS := sSq (sIf (tE (eOp dEq (oE (eF (fLc (iR1 (aCons (eC (.int 3)) aNil)) (gN 26) (tE (eOp dEq (oE (eOp dIx (oN 22) (oN 26))) (oE (eOp dIx (oN 16) (oN 26))))) (eC (.int 1)) [26]))) (oE (eF (fLst aNil))))) (sSq (sAs (eCall 2 p_corner_lines (aCons (eN 16) (aCons (eN 22) aNil))) (gN 20))
  (sSq (sAs (eCall 2 p_side_points (aCons (eN 16) (aCons (eN 22) aNil))) (gN 21))
  (sLa (sIf (tAn (tE (eOp dNi (oE (eC .none)) (oN 21))) (tAn (tE (eOp dNi (oE (eC .none)) (oN 20))) (tE (eOp dEq (oE (eLs (oN 20))) (oE (eC (.int 3))))))) (sLa (sIf (tE (eOp dNe (oE (eCall 3 p_are_joined (aCons (eOp dIx (oN 20) (oE (eC (.int 0)))) (aCons (eOp dIx (oN 20) (oE (eC (.int 1)))) (aCons (eOp dIx (oN 20) (oE (eC (.int 2)))) aNil))))) (oE (eCall 3 p_are_joined (aCons (eOp dIx (oN 21) (oE (eC (.int 0)))) (aCons (eOp dIx (oN 21) (oE (eC (.int 1)))) (aCons (eOp dIx (oN 21) (oE (eC (.int 2)))) aNil))))))) (sLa (sRt (eC (.bool false)))) sNx)) sNx)))) sNx) T_law_18
@[reducible] def T_law_16 : DTS := sSq (sAs (eCall1 2 p__law_frame 1 (aCons (eC (.int 3)) aNil)) (gN 22)) T_law_17
@[reducible] def T_law_15 : DTS := sSq (sIf (tAn (tE (eOp dNi (oE (eC .none)) (oN 21))) (tE (eOp dIsn (oE (eCall 3 p_are_joined (aCons (eOp dIx (oN 21) (oE (eC (.int 0)))) (aCons (eOp dIx (oN 21) (oE (eC (.int 1)))) (aCons (eOp dIx (oN 21) (oE (eC (.int 2)))) aNil))))) (oE (eC (.bool true)))))) (sLa (sRt (eC (.bool false)))) sNx) T_law_16
@[reducible] def T_law_14 : DTS := sSq (sAs (eCall 2 p_side_points (aCons (eN 16) (aCons (eN 17) aNil))) (gN 21)) T_law_15
@[reducible] def T_law_13 : DTS := sSq (sIf (tOr' (tE (eOp dNe (oN 20) (oE (eCl cTuple (osCons (oE (eF (fLc (iR1 (aCons (eC (.int 3)) aNil)) (gN 26) tYs (eCall 1 p__law_least (aCons (eCall 2 p__law_cross (aCons (eOp dIx (oN 16) (oN 26)) (aCons (eOp dIx (oN 17) (oN 26)) aNil))) aNil)) [26]))) osNil))))) (tE (eOp dIsn (oE (eCall 3 p_are_joined (aCons (eOp dIx (oN 20) (oE (eC (.int 0)))) (aCons (eOp dIx (oN 20) (oE (eC (.int 1)))) (aCons (eOp dIx (oN 20) (oE (eC (.int 2)))) aNil))))) (oE (eC (.bool true)))))) (sLa (sRt (eC (.bool false)))) sNx) T_law_14
@[reducible] def T_law_12 : DTS := sSq (sAs (eCall 2 p_corner_lines (aCons (eN 16) (aCons (eN 17) aNil))) (gN 20)) T_law_13
@[reducible] def T_law_11 : DTS := sSq (sIf (tOr' (tE (eOp dEq (oE (eCall 3 p__law_value (aCons (eOp dIx (oN 17) (oE (eC (.int 0)))) (aCons (eOp dIx (oN 17) (oE (eC (.int 1)))) (aCons (eOp dIx (oN 17) (oE (eC (.int 2)))) aNil))))) (oE (eC (.int 0))))) (tE (eOp dNe (oE (eF (fLc (iR1 (aCons (eC (.int 3)) aNil)) (gN 26) (tE (eOp dEq (oE (eOp dIx (oN 17) (oN 26))) (oE (eOp dIx (oN 16) (oN 26))))) (eC (.int 1)) [26]))) (oE (eF (fLst aNil)))))) (sLa (sRt (eC (.bool true)))) sNx) T_law_12
@[reducible] def T_law_10 : DTS := sSq (sAs (eF (fLc (iE (eN 16)) (gN 27) tYs (eOp dIx (oE (eCall1 4 p__law_on 1 (aCons (eN 2) (aCons (eN 27) (aCons (eC (.int 1)) aNil))))) (oE (eC (.int 0)))) [27])) (gN 17)) T_law_11
@[reducible] def T_law_9 : DTS := sSq (sAs (eF (fLst (aCons (eN 3) (aCons (eN 4) (aCons (eN 5) aNil))))) (gN 16)) T_law_10
@[reducible] def T_law_8 : DTS := sSq (sIf (tOr' (tNo (tE (eCall 2 (p__law_same 6) (aCons (eN 8) (aCons (eCl cTuple (osCons (oN 15) osNil)) aNil))))) (tE (eOp dIsn (oE (eCall 3 p_are_joined (aCons (eOp dIx (oN 8) (oE (eC (.int 0)))) (aCons (eOp dIx (oN 8) (oE (eC (.int 1)))) (aCons (eOp dIx (oN 8) (oE (eC (.int 2)))) aNil))))) (oE (eC (.bool true)))))) (sLa (sRt (eC (.bool false)))) sNx) T_law_9
@[reducible] def T_law_7 : DTS := sSq (sFo (iE (eF (fLst (aCons (eTup (aCons (eN 9) (aCons (eN 13) (aCons (eN 10) (aCons (eN 12) aNil))))) (aCons (eTup (aCons (eN 9) (aCons (eN 14) (aCons (eN 11) (aCons (eN 12) aNil))))) (aCons (eTup (aCons (eN 10) (aCons (eN 14) (aCons (eN 11) (aCons (eN 13) aNil))))) aNil)))))) (gU 4 (gsCons (gN 16) (gsCons (gN 17) (gsCons (gN 18) (gsCons (gN 19) gsNil))))) (sLa (sEx (eApp 15 (eCall 1 p__law_least (aCons (eCall 2 p__law_cross (aCons (eCall 2 p__law_cross (aCons (eN 16) (aCons (eN 17) aNil))) (aCons (eCall 2 p__law_cross (aCons (eN 18) (aCons (eN 19) aNil))) aNil))) aNil)))))) T_law_8
@[reducible] def T_law_6 : DTS := sSq (sOw (fLst aNil) 15) T_law_7
@[reducible] def T_law_5 : DTS := sSq (sAs (eTup (aCons (eN 6) (aCons (eN 7) aNil))) (gU 2 (gsCons (gU 3 (gsCons (gN 9) (gsCons (gN 10) (gsCons (gN 11) gsNil)))) (gsCons (gU 3 (gsCons (gN 12) (gsCons (gN 13) (gsCons (gN 14) gsNil)))) gsNil)))) T_law_6
@[reducible] def T_law_4 : DTS := sSq (sAs (eCall 2 p_pappus_points (aCons (eN 6) (aCons (eN 7) aNil))) (gN 8)) T_law_5
@[reducible] def T_law_3 : DTS := sSq (sAs (eCall1 4 p__law_on 1 (aCons (eN 2) (aCons (eN 4) (aCons (eC (.int 3)) aNil)))) (gN 7)) T_law_4
@[reducible] def T_law_2 : DTS := sSq (sAs (eCall1 4 p__law_on 1 (aCons (eN 2) (aCons (eN 3) (aCons (eC (.int 3)) aNil)))) (gN 6)) T_law_3
@[reducible] def T_law_1 : DTS := sSq (sAs (eCall1 2 p__law_frame 1 (aCons (eC (.int 4)) aNil)) (gU 4 (gsCons (gN 2) (gsCons (gN 3) (gsCons (gN 4) (gsCons (gN 5) gsNil)))))) T_law_2
def t_law : DTS := sSq (sOw (fCall 1 p__law_start (aCons (eN 0) aNil)) 1) T_law_1

theorem one_of {α : Type} {xs : List α} (h : xs.length = 1) : ∃ a, xs = [a] := by
  match xs, h with
  | [a], _ => exact ⟨a, rfl⟩
theorem three_of {α : Type} {xs : List α} (h : xs.length = 3) : ∃ a b c, xs = [a, b, c] := by
  match xs, h with
  | [a, b, c], _ => exact ⟨a, b, c, rfl⟩
theorem law_in_pe {p q : T3} (hpq : cr p q ≠ z3) {n : P2} (hn : n ≠ (0, 0)) : Pe (low (comb p q n)) (comb p q n) := Pe.low (comb_ne hpq hn)
theorem mtg_ne {x y z w : T3} (h1 : cr x y ≠ z3) (h2 : cr z w ≠ z3) (h : X4 x y z w ≠ z3) : mtg x y z w = e3 (low (X4 x y z w)) := by
  have p := X4_low h1 h2
  unfold mtg acr
  rw [if_neg (p.ne h), p.eq h]
theorem mtg_zero {x y z w : T3} (h1 : cr x y ≠ z3) (h2 : cr z w ≠ z3) (h : X4 x y z w = z3) : mtg x y z w = .none := by
  have p := X4_low h1 h2
  unfold mtg acr
  rw [if_pos (p.zero.mpr h)]
theorem X4_Z {n m : Nat} {x y z w : T3} (hx : Z3 n x) (hy : Z3 n y) (hz : Z3 n z) (hw : Z3 n w) (h : 4 * n + 3 ≤ m) : Z3 m (X4 x y z w) := cr_Z (cr_Z hx hy (Nat.le_refl _)) (cr_Z hz hw (Nat.le_refl _)) (by omega)
theorem ones_sh (m : Nat) : SeqAt.shaped (.list (List.replicate m (.int 1))) = true := by
  have := (encL encInt).shaped (by decide) (List.replicate m 1)
  unfold eL at this
  rwa [List.map_replicate] at this
theorem ne3t (a b c : T3) : (!(PyData.eqv (.tuple [e3 a, e3 b, e3 c]) (.tuple [e3 a, e3 b, e3 c]))) = false := by
  show (!(PyData.eqv (eT e3 [a, b, c]) (eT e3 [a, b, c]))) = false
  rw [(encT enc3).eqv]; simp
theorem acr_some (x y : T3) : acr x y = .none ∨ ∃ t : T3, acr x y = e3 t := by
  unfold acr
  split
  · exact .inl rfl
  · exact .inr ⟨_, rfl⟩
theorem shT {d1 d2 d3 : PyData} (h1 : d1 = .none ∨ ∃ t : T3, d1 = e3 t) (h2 : d2 = .none ∨ ∃ t : T3, d2 = e3 t) (h3 : d3 = .none ∨ ∃ t : T3, d3 = e3 t) : SeqAt.shaped (.tuple [d1, d2, d3]) = true := by
  rcases h1 with rfl | ⟨t1, rfl⟩ <;> rcases h2 with rfl | ⟨t2, rfl⟩ <;> rcases h3 with rfl | ⟨t3, rfl⟩ <;> rfl
theorem acr_zero {x y : T3} (h : cr x y = z3) : acr x y = .none := if_pos h
theorem none_in {d1 d2 d3 : PyData} (h : d1 = .none ∨ d2 = .none ∨ d3 = .none) : (!([d1, d2, d3].any fun z => PyData.eqv z .none)) = false := by
  rcases h with rfl | rfl | rfl <;> simp [List.any_cons, PyData.eqv]
theorem none_no (a b c : T3) : (!([e3 a, e3 b, e3 c].any fun z => PyData.eqv z .none)) = true := by rfl
theorem sides_ne {x y z : T3} (h : det x y z ≠ 0) : cr x y ≠ z3 ∧ cr x z ≠ z3 ∧ cr y z ≠ z3 := by
  refine ⟨(det_ne h).1, (det_ne (z := y) ?_).1, (det_ne (z := x) ?_).1⟩
  · rw [(det_perm x y z).2.1]; exact Int.neg_ne_zero.mpr h
  · intro e
    apply h
    rw [← e]
    simp only [det, cr, dot]
    grind
theorem three_j {A : Prop} {j : Nat} (h : j < 3) (h0 : j = 0 → A) (h1 : j = 1 → A) (h2 : j = 2 → A) : A := by
  have : j = 0 ∨ j = 1 ∨ j = 2 := by omega
  rcases this with e | e | e
  · exact h0 e
  · exact h1 e
  · exact h2 e
theorem gpl3 {x y z : T3} (g : GPL [x, y, z]) : det x y z ≠ 0 := fun w => g.gp 0 1 2 x y z (by omega) (by omega) rfl rfl rfl (by rw [(det_perm x y z).1]; omega)
theorem law_d {ns : List Int} (hn : ns.length ≤ 63) {o p q r : T3} (u : GP o p q r) {cs : List PyData} (sv : SV ns cs) (zo : Z3 30 o) (zp : Z3 30 p) (zq : Z3 30 q) (zr : Z3 30 r) {a b c d e f : P2} {A B C D E F : T3} (H : PapH o p q a b c d e f A B C D E F) (zA : Z3 60 A) (zB : Z3 60 B) (zC : Z3 60 C) (zD : Z3 60 D) (zE : Z3 60 E) (zF : Z3 60 F) (lA : cr A B ≠ z3 ∧ cr B C ≠ z3 ∧ low (cr A B) = low (cr B C)) (lD : cr D E ≠ z3 ∧ cr E F ≠ z3 ∧ low (cr D E) = low (cr E F)) {P1 P2 P3 : T3} (hq : det P1 P2 P3 ≠ 0) (w1 : Z3 60 P1) (w2 : Z3 60 P2) (w3 : Z3 60 P3) {due : List PyData} {z18 z19 z20 z21 z22 : Option PyData} {Q : RV → Prop} (k : Q (.sh (.bool true))) : T_law_18 { nx := fun _ => Q (.sh .none), rt := fun r _ => Q r } [some (.sh (.list (il ns))), some (.ow cs), some (.sh (e3 o)), some (.sh (e3 p)), some (.sh (e3 q)), some (.sh (e3 r)), some (.sh (.list [e3 A, e3 B, e3 C])), some (.sh (.list [e3 D, e3 E, e3 F])), some (.sh (.tuple [e3 (low (X4 A E B D)), e3 (low (X4 A F C D)), e3 (low (X4 B F C E))])), some (.sh (e3 A)), some (.sh (e3 B)), some (.sh (e3 C)), some (.sh (e3 D)), some (.sh (e3 E)), some (.sh (e3 F)), some (.ow due), some (.sh (.list [e3 p, e3 q, e3 r])), some (.sh (.list [e3 P1, e3 P2, e3 P3])), z18.map Sl.sh, z19.map Sl.sh, z20.map Sl.sh, z21.map Sl.sh, z22.map Sl.sh, none, none, none, none, none, none] := by
  walk_at "ar"
  refine ⟨ns, 4, sv, rfl, by decide, hn, fun fs cs1 g1 l1 b1 sv1 => ?_⟩
  walk_at "ar"
  refine ⟨ns, 4, sv1, rfl, by decide, hn, fun gs cs2 g2 l2 b2 sv2 => ?_⟩
  clear sv sv1
  generalize cs2 = cs at *
  obtain ⟨o1, p1, q1, r1, rfl⟩ := four_of l1
  obtain ⟨o2, p2, q2, r2, rfl⟩ := four_of l2
  have u1 := g1.gp4
  have u2 := g2.gp4
  have y1 := b1 o1 (by simp)
  have y2 := b1 p1 (by simp)
  have y3 := b1 q1 (by simp)
  have y4 := b1 r1 (by simp)
  have y5 := b2 o2 (by simp)
  have y6 := b2 p2 (by simp)
  have y7 := b2 q2 (by simp)
  have y8 := b2 r2 (by simp)
  have m1 := (mov_ok u1 u2).1
  have m1' := (mov_ok u2 u1).1
  obtain ⟨kk, k0, hk, hdt⟩ := mov_back u1.dt u2.dt m1 m1'
  clear hk k0 m1'
  walk_at "ar"
  refine ⟨o1, p1, q1, r1, o2, p2, q2, r2, rfl, ⟨⟨y1.mono (by decide), y2.mono (by decide), y3.mono (by decide)⟩, y4.mono (by decide), ⟨y5.mono (by decide), y6.mono (by decide), y7.mono (by decide)⟩, y8.mono (by decide)⟩, m1, fun zT => ?_⟩
  clear m1
  generalize low9 (mvM (frm o1 p1 q1 r1) (frm o2 p2 q2 r2)) = T at *
  have zT' : Z9 3900 T := zT.mono (by decide)
  have ap : ∀ {x : T3}, Z3 250 x → x ≠ z3 → ∀ {Q : RV → Prop}, Q (.sh (e3 (low (mv T x)))) → p_applied_table [e9 T, e3 x] Q := fun hx h0 Q k => ⟨T, _, rfl, zT', hx.mono (by decide), mv_ne hdt h0, k⟩
  have mz : ∀ {x : T3}, Z3 60 x → x ≠ z3 → Z3 1500 (low (mv T x)) := fun hx h0 => (low_Z (show Z3 1370 (mv T _) from ⟨dot_Z zT.1 hx (by decide), dot_Z zT.2.1 hx (by decide), dot_Z zT.2.2 hx (by decide)⟩) (mv_ne hdt h0)).mono (by decide)
  obtain ⟨j1, j2, j3, j4, j5, j6⟩ := H.lines
  obtain ⟨x1, x2, x3⟩ := H.meets
  have nz1 : ∀ {x y : T3}, cr x y ≠ z3 → x ≠ z3 := fun h e => h (by rw [e]; simp [cr, z3])
  have nz2 : ∀ {x y : T3}, cr x y ≠ z3 → y ≠ z3 := fun h e => h (by rw [e]; simp [cr, z3])
  have nA := nz1 j1
  have nB := nz1 j2
  have nC := nz1 j4
  have nD := nz2 j2
  have nE := nz2 j1
  have nF := nz2 j3
  have vA : Z3 250 A := zA.mono (by decide)
  have vB : Z3 250 B := zB.mono (by decide)
  have vC : Z3 250 C := zC.mono (by decide)
  have vD : Z3 250 D := zD.mono (by decide)
  have vE : Z3 250 E := zE.mono (by decide)
  have vF : Z3 250 F := zF.mono (by decide)
  walk_at "ar"
  refine ap vA nA ?_
  walk_at "ar"
  refine ap vB nB ?_
  walk_at "ar"
  refine ap vC nC ?_
  walk_at "ar"
  refine ap vD nD ?_
  walk_at "ar"
  refine ap vE nE ?_
  walk_at "ar"
  refine ap vF nF ?_
  walk_at "ar"
  refine ⟨low (mv T A), low (mv T B), low (mv T C), low (mv T D), low (mv T E), low (mv T F), rfl, ⟨⟨mz zA nA, mz zB nB, mz zC nC⟩, ⟨mz zD nD, mz zE nE, mz zF nF⟩⟩, ⟨cr_mv_ne hdt nA nE j1, cr_mv_ne hdt nB nD j2, cr_mv_ne hdt nA nF j3, cr_mv_ne hdt nC nD j4, cr_mv_ne hdt nB nF j5, cr_mv_ne hdt nC nE j6⟩, ?_⟩
  have f1 := X4_mv_low hdt nA nE nB nD x1
  have f2 := X4_mv_low hdt nA nF nC nD x2
  have f3 := X4_mv_low hdt nB nF nC nE x3
  rw [mtg_ne (cr_mv_ne hdt nA nE j1) (cr_mv_ne hdt nB nD j2) f1.1, mtg_ne (cr_mv_ne hdt nA nF j3) (cr_mv_ne hdt nC nD j4) f2.1, mtg_ne (cr_mv_ne hdt nB nF j5) (cr_mv_ne hdt nC nE j6) f3.1, f1.2, f2.2, f3.2]
  have g1 : Z3 250 (X4 A E B D) := X4_Z zA zE zB zD (by decide)
  have g2 : Z3 250 (X4 A F C D) := X4_Z zA zF zC zD (by decide)
  have g3 : Z3 250 (X4 B F C E) := X4_Z zB zF zC zE (by decide)
  walk_at "ar"
  refine ap (low_Z g1 x1) ((Pe.low x1).ne x1) ?_
  walk_at "ar"
  refine ap (low_Z g2 x2) ((Pe.low x2).ne x2) ?_
  walk_at "ar"
  refine ap (low_Z g3 x3) ((Pe.low x3).ne x3) ?_
  walk_at "ar"
  refine ite2 (nob ?_) (fun _ => ?_)
  · exact ne3t _ _ _
  have sp := sides_ne u.bcd
  have sq := sides_ne hq
  have np := nz1 sp.1
  have nq := nz2 sp.1
  have nr := nz2 sp.2.1
  have n1 := nz1 sq.1
  have n2 := nz2 sq.1
  have n3 := nz2 sq.2.1
  have u6 : ∀ {x : T3}, Z3 30 x → Z3 60 x := fun h => h.mono (by decide)
  have u7 : ∀ {x : T3}, Z3 60 x → Z3 250 x := fun h => h.mono (by decide)
  walk_at "ar"
  refine ap (u7 (u6 zp)) np ?_
  walk_at "ar"
  refine ap (u7 (u6 zq)) nq ?_
  walk_at "ar"
  refine ap (u7 (u6 zr)) nr ?_
  walk_at "ar"
  refine ap (u7 w1) n1 ?_
  walk_at "ar"
  refine ap (u7 w2) n2 ?_
  walk_at "ar"
  refine ap (u7 w3) n3 ?_
  walk_at "ar"
  refine ⟨low (mv T p), low (mv T q), low (mv T r), low (mv T P1), low (mv T P2), low (mv T P3), rfl, ⟨⟨mz (u6 zp) np, mz (u6 zq) nq, mz (u6 zr) nr⟩, ⟨mz w1 n1, mz w2 n2, mz w3 n3⟩⟩, ⟨cr_mv_ne hdt np nq sp.1, cr_mv_ne hdt np nr sp.2.1, cr_mv_ne hdt nq nr sp.2.2, cr_mv_ne hdt n1 n2 sq.1, cr_mv_ne hdt n1 n3 sq.2.1, cr_mv_ne hdt n2 n3 sq.2.2⟩, ?_⟩
  walk_at "ar"
  refine ⟨p, q, r, P1, P2, P3, rfl, ⟨⟨(u6 zp).mono (by decide), (u6 zq).mono (by decide), (u6 zr).mono (by decide)⟩, ⟨w1.mono (by decide), w2.mono (by decide), w3.mono (by decide)⟩⟩, ⟨sp.1, sp.2.1, sp.2.2, sq.1, sq.2.1, sq.2.2⟩, ?_⟩
  walk_at "go"
  refine ⟨by decide, by decide, ?_⟩
  refine foBy2 (n := 3) (fun _ ρ => ∃ z26 : Option PyData, ρ = [some (.sh (.list (il ns))), some (.ow cs), some (.sh (e3 o)), some (.sh (e3 p)), some (.sh (e3 q)), some (.sh (e3 r)), some (.sh (.list [e3 A, e3 B, e3 C])), some (.sh (.list [e3 D, e3 E, e3 F])), some (.sh (.tuple [e3 (low (X4 A E B D)), e3 (low (X4 A F C D)), e3 (low (X4 B F C E))])), some (.sh (e3 A)), some (.sh (e3 B)), some (.sh (e3 C)), some (.sh (e3 D)), some (.sh (e3 E)), some (.sh (e3 F)), some (.ow due), some (.sh (.list [e3 p, e3 q, e3 r])), some (.sh (.list [e3 P1, e3 P2, e3 P3])), z18.map Sl.sh, z19.map Sl.sh, z20.map Sl.sh, some (.sh (.tuple [mtg p q P1 P2, mtg p r P1 P3, mtg q r P2 P3])), z22.map Sl.sh, some (.sh (e9 T)), some (.sh (.tuple [e3 (low (mv T (low (X4 A E B D)))), e3 (low (mv T (low (X4 A F C D)))), e3 (low (mv T (low (X4 B F C E))))])), some (.sh (.tuple [mtg (low (mv T p)) (low (mv T q)) (low (mv T P1)) (low (mv T P2)), mtg (low (mv T p)) (low (mv T r)) (low (mv T P1)) (low (mv T P3)), mtg (low (mv T q)) (low (mv T r)) (low (mv T P2)) (low (mv T P3))])), z26.map Sl.sh, none, none]) ⟨none, rfl⟩ ?_ ?_
  · rintro j ρ K hj ⟨z26, rfl⟩ hK
    have hK := fun z26 => hK _ ⟨z26, rfl⟩
    refine three_j hj (fun e => ?_) (fun e => ?_) (fun e => ?_)
    · subst e
      have hK := hK (some (.int 0))
      by_cases hs : X4 p q P1 P2 = z3
      · rw [mtg_zero sp.1 sq.1 hs] at hK ⊢
        walk_at "ar"
        exact hK
      · have f := X4_mv_low hdt np nq n1 n2 hs
        rw [mtg_ne (cr_mv_ne hdt np nq sp.1) (cr_mv_ne hdt n1 n2 sq.1) f.1, f.2, mtg_ne sp.1 sq.1 hs] at hK ⊢
        walk_at "ar"
        refine ap (low_Z (X4_Z (u6 zp) (u6 zq) w1 w2 (by decide)) hs) ((Pe.low hs).ne hs) ?_
        walk_at "ar"
        refine ite2 (nob ?_) (fun _ => ?_)
        · exact ne3 _
        walk_at "ar"
        exact hK
    · subst e
      have hK := hK (some (.int 1))
      by_cases hs : X4 p r P1 P3 = z3
      · rw [mtg_zero sp.2.1 sq.2.1 hs] at hK ⊢
        walk_at "ar"
        exact hK
      · have f := X4_mv_low hdt np nr n1 n3 hs
        rw [mtg_ne (cr_mv_ne hdt np nr sp.2.1) (cr_mv_ne hdt n1 n3 sq.2.1) f.1, f.2, mtg_ne sp.2.1 sq.2.1 hs] at hK ⊢
        walk_at "ar"
        refine ap (low_Z (X4_Z (u6 zp) (u6 zr) w1 w3 (by decide)) hs) ((Pe.low hs).ne hs) ?_
        walk_at "ar"
        refine ite2 (nob ?_) (fun _ => ?_)
        · exact ne3 _
        walk_at "ar"
        exact hK
    · subst e
      have hK := hK (some (.int 2))
      by_cases hs : X4 q r P2 P3 = z3
      · rw [mtg_zero sp.2.2 sq.2.2 hs] at hK ⊢
        walk_at "ar"
        exact hK
      · have f := X4_mv_low hdt nq nr n2 n3 hs
        rw [mtg_ne (cr_mv_ne hdt nq nr sp.2.2) (cr_mv_ne hdt n2 n3 sq.2.2) f.1, f.2, mtg_ne sp.2.2 sq.2.2 hs] at hK ⊢
        walk_at "ar"
        refine ap (low_Z (X4_Z (u6 zq) (u6 zr) w2 w3 (by decide)) hs) ((Pe.low hs).ne hs) ?_
        walk_at "ar"
        refine ite2 (nob ?_) (fun _ => ?_)
        · exact ne3 _
        walk_at "ar"
        exact hK
  rintro ρ ⟨z26, rfl⟩
  walk_at "ar"
  refine acr_ok zA zB (by decide) ?_
  rw [acr_ne lA.1]
  walk_at "ar"
  refine acr_ok zB zC (by decide) ?_
  rw [acr_ne lA.2.1, lA.2.2]
  walk_at "ar"
  rw [show (PyData.eqv (RV.sh (e3 (low (cr B C)))).d (RV.sh (e3 (low (cr B C)))).d) = true from eqv3 _]
  walk_at "ar"
  refine acr_ok zD zE (by decide) ?_
  rw [acr_ne lD.1]
  walk_at "ar"
  refine acr_ok zE zF (by decide) ?_
  rw [acr_ne lD.2.1, lD.2.2]
  walk_at "ar"
  rw [show (PyData.eqv (RV.sh (e3 (low (cr E F)))).d (RV.sh (e3 (low (cr E F)))).d) = true from eqv3 _]
  walk_at "ar"
  exact k
theorem law_cc {ns : List Int} (hn : ns.length ≤ 63) {o p q r : T3} (u : GP o p q r) {cs : List PyData} (sv : SV ns cs) (zo : Z3 30 o) (zp : Z3 30 p) (zq : Z3 30 q) (zr : Z3 30 r) {a b c d e f : P2} {A B C D E F : T3} (H : PapH o p q a b c d e f A B C D E F) (zA : Z3 60 A) (zB : Z3 60 B) (zC : Z3 60 C) (zD : Z3 60 D) (zE : Z3 60 E) (zF : Z3 60 F) (lA : cr A B ≠ z3 ∧ cr B C ≠ z3 ∧ low (cr A B) = low (cr B C)) (lD : cr D E ≠ z3 ∧ cr E F ≠ z3 ∧ low (cr D E) = low (cr E F)) {P1 P2 P3 : T3} (hq : det P1 P2 P3 ≠ 0) (w1 : Z3 60 P1) (w2 : Z3 60 P2) (w3 : Z3 60 P3) {due : List PyData} {z18 z19 z20 z21 : Option PyData} {Q : RV → Prop} (k : Q (.sh (.bool true))) : T_law_16 { nx := fun _ => Q (.sh .none), rt := fun r _ => Q r } [some (.sh (.list (il ns))), some (.ow cs), some (.sh (e3 o)), some (.sh (e3 p)), some (.sh (e3 q)), some (.sh (e3 r)), some (.sh (.list [e3 A, e3 B, e3 C])), some (.sh (.list [e3 D, e3 E, e3 F])), some (.sh (.tuple [e3 (low (X4 A E B D)), e3 (low (X4 A F C D)), e3 (low (X4 B F C E))])), some (.sh (e3 A)), some (.sh (e3 B)), some (.sh (e3 C)), some (.sh (e3 D)), some (.sh (e3 E)), some (.sh (e3 F)), some (.ow due), some (.sh (.list [e3 p, e3 q, e3 r])), some (.sh (.list [e3 P1, e3 P2, e3 P3])), z18.map Sl.sh, z19.map Sl.sh, z20.map Sl.sh, z21.map Sl.sh, none, none, none, none, none, none, none] := by
  have up : ∀ {x : T3}, Z3 30 x → Z3 1500 x := fun h => h.mono (by decide)
  walk_at "ar"
  refine ⟨ns, 3, sv, rfl, by decide, hn, fun fs cs1 g1 l1 b1 sv1 => ?_⟩
  obtain ⟨x, y, z, rfl⟩ := three_of l1
  have zx := b1 x (by simp)
  have zy := b1 y (by simp)
  have zz := b1 z (by simp)
  have hx := gpl3 g1
  clear sv
  generalize cs1 = cs at *
  have sp := sides_ne u.bcd
  have sq := sides_ne hx
  walk_at "st"
  walk_at "n1"
  refine sSq_cut' (fun ρ => ∃ y20 y21 : Option PyData, ρ = [some (.sh (.list (il ns))), some (.ow cs), some (.sh (e3 o)), some (.sh (e3 p)), some (.sh (e3 q)), some (.sh (e3 r)), some (.sh (.list [e3 A, e3 B, e3 C])), some (.sh (.list [e3 D, e3 E, e3 F])), some (.sh (.tuple [e3 (low (X4 A E B D)), e3 (low (X4 A F C D)), e3 (low (X4 B F C E))])), some (.sh (e3 A)), some (.sh (e3 B)), some (.sh (e3 C)), some (.sh (e3 D)), some (.sh (e3 E)), some (.sh (e3 F)), some (.ow due), some (.sh (.list [e3 p, e3 q, e3 r])), some (.sh (.list [e3 P1, e3 P2, e3 P3])), z18.map Sl.sh, z19.map Sl.sh, y20.map Sl.sh, y21.map Sl.sh, some (.sh (.list [e3 x, e3 y, e3 z])), none, none, none, none, none, none]) ?_ ?_
  · rintro ρ ⟨y20, y21, rfl⟩
    exact law_d hn u sv1 zo zp zq zr H zA zB zC zD zE zF lA lD hq w1 w2 w3 (z22 := some (.list [e3 x, e3 y, e3 z])) k
  · intro K hK
    have hK := fun y20 y21 => hK _ ⟨y20, y21, rfl⟩
    walk_at "ar"
    refine cmBy (fun _ acc ρ => ρ = [some (.sh (.list (il ns))), some (.ow cs), some (.sh (e3 o)), some (.sh (e3 p)), some (.sh (e3 q)), some (.sh (e3 r)), some (.sh (.list [e3 A, e3 B, e3 C])), some (.sh (.list [e3 D, e3 E, e3 F])), some (.sh (.tuple [e3 (low (X4 A E B D)), e3 (low (X4 A F C D)), e3 (low (X4 B F C E))])), some (.sh (e3 A)), some (.sh (e3 B)), some (.sh (e3 C)), some (.sh (e3 D)), some (.sh (e3 E)), some (.sh (e3 F)), some (.ow due), some (.sh (.list [e3 p, e3 q, e3 r])), some (.sh (.list [e3 P1, e3 P2, e3 P3])), z18.map Sl.sh, z19.map Sl.sh, z20.map Sl.sh, z21.map Sl.sh, some (.sh (.list [e3 x, e3 y, e3 z])), none, none, none, none, none, none] ∧ ∃ m, acc = List.replicate m (.int 1)) ⟨rfl, 0, rfl⟩ ?_ ?_
    · rintro i d acc ρ K hd ⟨rfl, m, rfl⟩ hK
      have hi : i < 3 := (List.getElem?_eq_some_iff.mp hd).1
      have hT := hK _ _ ⟨rfl, m + 1, rfl⟩
      have hF := hK _ _ ⟨rfl, m, rfl⟩
      rw [List.replicate_succ'] at hT
      refine three_j hi (fun e => ?_) (fun e => ?_) (fun e => ?_)
      all_goals
        subst e
        cases hd
        walk_at "ar"
        refine ite2 (fun h => ?_) (fun h => ?_)
        · walk_at "ar"
          exact hT
        · walk_at "ar"
          exact hF
    rintro acc ρ ⟨rfl, m, rfl⟩
    refine ⟨Nat.le_of_ble_eq_true rfl, ones_sh m, rfl, ?_⟩
    refine ite2 (fun h => ?_) (fun h => ?_)
    rotate_left
    · walk_at "ar"
      exact hK _ _
    walk_at "ar"
    refine ⟨p, q, r, x, y, z, rfl, ⟨⟨up zp, up zq, up zr⟩, ⟨up zx, up zy, up zz⟩⟩, ?_⟩
    walk_at "ar"
    refine ⟨p, q, r, x, y, z, rfl, ⟨⟨up zp, up zq, up zr⟩, ⟨up zx, up zy, up zz⟩⟩, ⟨sp.1, sp.2.1, sp.2.2, sq.1, sq.2.1, sq.2.2⟩, ?_⟩
    have hK := hK (some (.tuple [acr p x, acr q y, acr r z])) (some (.tuple [mtg p q x y, mtg p r x z, mtg q r y z]))
    walk_at "ar"
    refine ⟨shT (acr_some _ _) (acr_some _ _) (acr_some _ _), ?_⟩
    by_cases hs : X4 p q x y ≠ z3 ∧ X4 p r x z ≠ z3 ∧ X4 q r y z ≠ z3
    rotate_left
    · rw [none_in (show mtg p q x y = .none ∨ mtg p r x z = .none ∨ mtg q r y z = .none from ?_)]
      · walk_at "ar"
        exact hK
      · refine Classical.byContradiction fun hh => hs ⟨fun e => hh (.inl (mtg_zero sp.1 sq.1 e)), fun e => hh (.inr (.inl (mtg_zero sp.2.1 sq.2.1 e))), fun e => hh (.inr (.inr (mtg_zero sp.2.2 sq.2.2 e)))⟩
    rw [mtg_ne sp.1 sq.1 hs.1, mtg_ne sp.2.1 sq.2.1 hs.2.1, mtg_ne sp.2.2 sq.2.2 hs.2.2] at hK ⊢
    rw [none_no]
    walk_at "ar"
    refine ⟨shT (acr_some _ _) (acr_some _ _) (acr_some _ _), ?_⟩
    by_cases hc : cr p x ≠ z3 ∧ cr q y ≠ z3 ∧ cr r z ≠ z3
    rotate_left
    · rw [none_in (show acr p x = .none ∨ acr q y = .none ∨ acr r z = .none from ?_)]
      · walk_at "ar"
        exact hK
      · refine Classical.byContradiction fun hh => hc ⟨fun e => hh (.inl (acr_zero e)), fun e => hh (.inr (.inl (acr_zero e))), fun e => hh (.inr (.inr (acr_zero e)))⟩
    rw [acr_ne hc.1, acr_ne hc.2.1, acr_ne hc.2.2] at hK ⊢
    rw [none_no]
    walk_at "ar"
    refine ⟨[l3 (low (cr p x)), l3 (low (cr q y)), l3 (low (cr r z))], rfl, Nat.le_of_ble_eq_true rfl, fun n => ?_⟩
    walk_at "ar"
    refine ite2 (fun h => ?_) (fun h => ?_)
    rotate_left
    · walk_at "ar"
      exact hK
    walk_at "ar"
    have u6 : ∀ {x : T3}, Z3 30 x → Z3 60 x := fun h => h.mono (by decide)
    have b : ∀ {x y z w : T3}, Z3 30 x → Z3 30 y → Z3 30 z → Z3 30 w → Z3 250 (X4 x y z w) := fun h1 h2 h3 h4 => X4_Z (u6 h1) (u6 h2) (u6 h3) (u6 h4) (by decide)
    have cz : ∀ {x y : T3}, Z3 30 x → Z3 30 y → Z3 125 (cr x y) := fun hx hy => cr_Z (u6 hx) (u6 hy) (by decide)
    refine ⟨_, _, _, rfl, ⟨(low_Z (cz zp zx) hc.1).mono (by decide), (low_Z (cz zq zy) hc.2.1).mono (by decide), (low_Z (cz zr zz) hc.2.2).mono (by decide)⟩, ?_⟩
    walk_at "ar"
    refine ⟨_, _, _, rfl, ⟨(low_Z (b zp zq zx zy) hs.1).mono (by decide), (low_Z (b zp zr zx zz) hs.2.1).mono (by decide), (low_Z (b zq zr zy zz) hs.2.2).mono (by decide)⟩, ?_⟩
    have iff : det (low (cr p x)) (low (cr q y)) (low (cr r z)) = 0 ↔ det (low (X4 p q x y)) (low (X4 p r x z)) (low (X4 q r y z)) = 0 :=
      ((Pe.low hc.1).det (Pe.low hc.2.1) (Pe.low hc.2.2)).trans ((des_iff u.bcd hx).symm.trans ((Pe.low hs.1).det (Pe.low hs.2.1) (Pe.low hs.2.2)).symm)
    rw [show decide (det (low (cr p x)) (low (cr q y)) (low (cr r z)) = 0) = decide (det (low (X4 p q x y)) (low (X4 p r x z)) (low (X4 q r y z)) = 0) from decide_eq_decide.mpr iff]
    walk_at "ar"
    refine ite2 (nob ?_) (fun _ => ?_)
    · show (!((decide (det (low (X4 p q x y)) (low (X4 p r x z)) (low (X4 q r y z)) = 0)) == (decide (det (low (X4 p q x y)) (low (X4 p r x z)) (low (X4 q r y z)) = 0)))) = false
      simp
    walk_at "ar"
    exact hK
theorem law_c {ns : List Int} (hn : ns.length ≤ 63) {o p q r : T3} (u : GP o p q r) {cs : List PyData} (sv : SV ns cs) (zo : Z3 30 o) (zp : Z3 30 p) (zq : Z3 30 q) (zr : Z3 30 r) {a b c d e f : P2} {A B C D E F : T3} (H : PapH o p q a b c d e f A B C D E F) (zA : Z3 60 A) (zB : Z3 60 B) (zC : Z3 60 C) (zD : Z3 60 D) (zE : Z3 60 E) (zF : Z3 60 F) (lA : cr A B ≠ z3 ∧ cr B C ≠ z3 ∧ low (cr A B) = low (cr B C)) (lD : cr D E ≠ z3 ∧ cr E F ≠ z3 ∧ low (cr D E) = low (cr E F)) {n1 n2 n3 : P2} {P1 P2 P3 : T3} (m1 : 1 ≤ n1.1) (m2 : 1 ≤ n2.1) (m3 : 1 ≤ n3.1) (e1 : Pe P1 (comb o p n1)) (e2 : Pe P2 (comb o q n2)) (e3' : Pe P3 (comb o r n3)) (w1 : Z3 60 P1) (w2 : Z3 60 P2) (w3 : Z3 60 P3) {due : List PyData} {z18 z19 : Option PyData} {Q : RV → Prop} (k : Q (.sh (.bool true))) : T_law_11 { nx := fun _ => Q (.sh .none), rt := fun r _ => Q r } [some (.sh (.list (il ns))), some (.ow cs), some (.sh (e3 o)), some (.sh (e3 p)), some (.sh (e3 q)), some (.sh (e3 r)), some (.sh (.list [e3 A, e3 B, e3 C])), some (.sh (.list [e3 D, e3 E, e3 F])), some (.sh (.tuple [e3 (low (X4 A E B D)), e3 (low (X4 A F C D)), e3 (low (X4 B F C E))])), some (.sh (e3 A)), some (.sh (e3 B)), some (.sh (e3 C)), some (.sh (e3 D)), some (.sh (e3 E)), some (.sh (e3 F)), some (.ow due), some (.sh (.list [e3 p, e3 q, e3 r])), some (.sh (.list [e3 P1, e3 P2, e3 P3])), z18.map Sl.sh, z19.map Sl.sh, none, none, none, none, none, none, none, none, none] := by
  have up : ∀ {x : T3}, Z3 60 x → Z3 20000 x := fun h => h.mono (by decide)
  have u6 : ∀ {x : T3}, Z3 30 x → Z3 60 x := fun h => h.mono (by decide)
  walk_at "ar"
  refine ⟨P1, P2, P3, rfl, ⟨up w1, up w2, up w3⟩, ?_⟩
  walk_at "ar"
  refine ite2 (fun h => ?_) (fun h => ?_)
  · walk_at "ar"
    exact k
  have hq : det P1 P2 P3 ≠ 0 := fun z => h (beq_iff_eq.mpr z)
  have c1 := corner_ne (det_ne u.abc).1 m1 e1
  have c2 := corner_ne (det_ne u.acd).1 m2 e2
  have c3 := corner_ne (det_ne (z := p) (by rw [(det_perm o p r).2.1]; exact Int.neg_ne_zero.mpr u.abd)).1 m3 e3'
  have cz : ∀ {x y : T3}, Z3 30 x → Z3 60 y → Z3 125 (cr x y) := fun hx hy => cr_Z (u6 hx) hy (by decide)
  walk_at "ar"
  refine cmBy (fun _ acc ρ => ρ = [some (.sh (.list (il ns))), some (.ow cs), some (.sh (e3 o)), some (.sh (e3 p)), some (.sh (e3 q)), some (.sh (e3 r)), some (.sh (.list [e3 A, e3 B, e3 C])), some (.sh (.list [e3 D, e3 E, e3 F])), some (.sh (.tuple [e3 (low (X4 A E B D)), e3 (low (X4 A F C D)), e3 (low (X4 B F C E))])), some (.sh (e3 A)), some (.sh (e3 B)), some (.sh (e3 C)), some (.sh (e3 D)), some (.sh (e3 E)), some (.sh (e3 F)), some (.ow due), some (.sh (.list [e3 p, e3 q, e3 r])), some (.sh (.list [e3 P1, e3 P2, e3 P3])), z18.map Sl.sh, z19.map Sl.sh, none, none, none, none, none, none, none, none, none] ∧ ∃ m, acc = List.replicate m (.int 1)) ⟨rfl, 0, rfl⟩ ?_ ?_
  · rintro i d acc ρ K hd ⟨rfl, m, rfl⟩ hK
    have hi : i < 3 := (List.getElem?_eq_some_iff.mp hd).1
    have hT := hK _ _ ⟨rfl, m + 1, rfl⟩
    have hF := hK _ _ ⟨rfl, m, rfl⟩
    rw [List.replicate_succ'] at hT
    refine three_j hi (fun e => ?_) (fun e => ?_) (fun e => ?_)
    all_goals
      subst e
      cases hd
      walk_at "ar"
      refine ite2 (fun h => ?_) (fun h => ?_)
      · walk_at "ar"
        exact hT
      · walk_at "ar"
        exact hF
  rintro acc ρ ⟨rfl, m, rfl⟩
  refine ⟨Nat.le_of_ble_eq_true rfl, ones_sh m, rfl, ?_⟩
  refine ite2 (fun h => ?_) (fun h => ?_)
  · walk_at "ar"
    exact k
  walk_at "ar"
  refine ⟨p, q, r, P1, P2, P3, rfl, ⟨⟨(u6 zp).mono (by decide), (u6 zq).mono (by decide), (u6 zr).mono (by decide)⟩, ⟨w1.mono (by decide), w2.mono (by decide), w3.mono (by decide)⟩⟩, ?_⟩
  rw [acr_ne c1.1, acr_ne c2.1, acr_ne c3.1]
  walk_at "ar"
  refine ⟨p, P1, rfl, up (u6 zp), up w1, ?_⟩
  walk_at "ar"
  refine lst_least c1.1 (cz zp w1) (by decide) (.inl rfl) ?_
  walk_at "ar"
  refine ⟨q, P2, rfl, up (u6 zq), up w2, ?_⟩
  walk_at "ar"
  refine lst_least c2.1 (cz zq w2) (by decide) (.inl rfl) ?_
  walk_at "ar"
  refine ⟨r, P3, rfl, up (u6 zr), up w3, ?_⟩
  walk_at "ar"
  refine lst_least c3.1 (cz zr w3) (by decide) (.inl rfl) ?_
  walk_at "ar"
  refine ite2 (nob ?_) (fun _ => ?_)
  · exact ne3t _ _ _
  walk_at "ar"
  refine ⟨_, _, _, rfl, ⟨(low_Z (cz zp w1) c1.1).mono (by decide), (low_Z (cz zq w2) c2.1).mono (by decide), (low_Z (cz zr w3) c3.1).mono (by decide)⟩, ?_⟩
  have hj : det (cr p P1) (cr q P2) (cr r P3) = 0 := det_through u.la.1 c1.2 c2.2 c3.2
  rw [decide_eq_true (((Pe.low c1.1).det (Pe.low c2.1) (Pe.low c3.1)).mpr hj)]
  walk_at "ar"
  have sp := sides_ne u.bcd
  have sq := sides_ne hq
  refine ⟨p, q, r, P1, P2, P3, rfl, ⟨⟨(u6 zp).mono (by decide), (u6 zq).mono (by decide), (u6 zr).mono (by decide)⟩, ⟨w1.mono (by decide), w2.mono (by decide), w3.mono (by decide)⟩⟩, ⟨sp.1, sp.2.1, sp.2.2, sq.1, sq.2.1, sq.2.2⟩, ?_⟩
  walk_at "st"
  walk_at "n1"
  refine sSq_cut' (fun ρ => ρ = [some (.sh (.list (il ns))), some (.ow cs), some (.sh (e3 o)), some (.sh (e3 p)), some (.sh (e3 q)), some (.sh (e3 r)), some (.sh (.list [e3 A, e3 B, e3 C])), some (.sh (.list [e3 D, e3 E, e3 F])), some (.sh (.tuple [e3 (low (X4 A E B D)), e3 (low (X4 A F C D)), e3 (low (X4 B F C E))])), some (.sh (e3 A)), some (.sh (e3 B)), some (.sh (e3 C)), some (.sh (e3 D)), some (.sh (e3 E)), some (.sh (e3 F)), some (.ow due), some (.sh (.list [e3 p, e3 q, e3 r])), some (.sh (.list [e3 P1, e3 P2, e3 P3])), z18.map Sl.sh, z19.map Sl.sh, some (.sh (.tuple [e3 (low (cr p P1)), e3 (low (cr q P2)), e3 (low (cr r P3))])), some (.sh (.tuple [mtg p q P1 P2, mtg p r P1 P3, mtg q r P2 P3])), none, none, none, none, none, none, none]) ?_ ?_
  · rintro ρ rfl
    exact law_cc hn u sv zo zp zq zr H zA zB zC zD zE zF lA lD hq w1 w2 w3 (z20 := some (.tuple [e3 (low (cr p P1)), e3 (low (cr q P2)), e3 (low (cr r P3))])) (z21 := some (.tuple [mtg p q P1 P2, mtg p r P1 P3, mtg q r P2 P3])) k
  · intro K hK
    have hK := hK _ rfl
    by_cases hs : X4 p q P1 P2 ≠ z3 ∧ X4 p r P1 P3 ≠ z3 ∧ X4 q r P2 P3 ≠ z3
    · rw [mtg_ne sp.1 sq.1 hs.1, mtg_ne sp.2.1 sq.2.1 hs.2.1, mtg_ne sp.2.2 sq.2.2 hs.2.2]
      rw [mtg_ne sp.1 sq.1 hs.1, mtg_ne sp.2.1 sq.2.1 hs.2.1, mtg_ne sp.2.2 sq.2.2 hs.2.2] at hK
      have b : ∀ {x y z w : T3}, Z3 30 x → Z3 30 y → Z3 60 z → Z3 60 w → Z3 250 (X4 x y z w) := fun h1 h2 h3 h4 => X4_Z (u6 h1) (u6 h2) h3 h4 (by decide)
      walk_at "ar"
      refine ⟨_, _, _, rfl, ⟨(low_Z (b zp zq w1 w2) hs.1).mono (by decide), (low_Z (b zp zr w1 w3) hs.2.1).mono (by decide), (low_Z (b zq zr w2 w3) hs.2.2).mono (by decide)⟩, ?_⟩
      rw [decide_eq_true (((Pe.low hs.1).det (Pe.low hs.2.1) (Pe.low hs.2.2)).mpr ((des_iff u.bcd hq).mpr hj))]
      walk_at "ar"
      exact hK
    · walk_at "ar"
      refine ⟨shT (acr_some _ _) (acr_some _ _) (acr_some _ _), ?_⟩
      rw [none_in (show mtg p q P1 P2 = .none ∨ mtg p r P1 P3 = .none ∨ mtg q r P2 P3 = .none from ?_)]
      · walk_at "ar"
        exact hK
      · refine Classical.byContradiction fun hh => hs ⟨fun e => hh (.inl (mtg_zero sp.1 sq.1 e)), fun e => hh (.inr (.inl (mtg_zero sp.2.1 sq.2.1 e))), fun e => hh (.inr (.inr (mtg_zero sp.2.2 sq.2.2 e)))⟩
theorem law_b {ns : List Int} (hn : ns.length ≤ 63) {o p q r : T3} (u : GP o p q r) {cs : List PyData} (sv : SV ns cs) (zo : Z3 30 o) (zp : Z3 30 p) (zq : Z3 30 q) (zr : Z3 30 r) {a b c d e f : P2} {A B C D E F : T3} (H : PapH o p q a b c d e f A B C D E F) (zA : Z3 60 A) (zB : Z3 60 B) (zC : Z3 60 C) (zD : Z3 60 D) (zE : Z3 60 E) (zF : Z3 60 F) (lA : cr A B ≠ z3 ∧ cr B C ≠ z3 ∧ low (cr A B) = low (cr B C)) (lD : cr D E ≠ z3 ∧ cr E F ≠ z3 ∧ low (cr D E) = low (cr E F)) {due : List PyData} {z16 z17 z18 z19 : Option PyData} {Q : RV → Prop} (k : Q (.sh (.bool true))) : T_law_9 { nx := fun _ => Q (.sh .none), rt := fun r _ => Q r } [some (.sh (.list (il ns))), some (.ow cs), some (.sh (e3 o)), some (.sh (e3 p)), some (.sh (e3 q)), some (.sh (e3 r)), some (.sh (.list [e3 A, e3 B, e3 C])), some (.sh (.list [e3 D, e3 E, e3 F])), some (.sh (.tuple [e3 (low (X4 A E B D)), e3 (low (X4 A F C D)), e3 (low (X4 B F C E))])), some (.sh (e3 A)), some (.sh (e3 B)), some (.sh (e3 C)), some (.sh (e3 D)), some (.sh (e3 E)), some (.sh (e3 F)), some (.ow due), z16.map Sl.sh, z17.map Sl.sh, z18.map Sl.sh, z19.map Sl.sh, none, none, none, none, none, none, none, none, none] := by
  have c1 := (det_ne u.abc).1
  have c2 := (det_ne u.acd).1
  have c3 : cr o r ≠ z3 := (det_ne (z := p) (by rw [(det_perm o p r).2.1]; exact Int.neg_ne_zero.mpr u.abd)).1
  have up : ∀ {x : T3}, Z3 30 x → Z3 40 x := fun h => h.mono (by decide)
  walk_at "ar"
  refine ⟨ns, o, p, 1, sv, rfl, by decide, hn, c1, up zo, up zp, fun xs1 cs1 on1 len1 sv1 => ?_⟩
  obtain ⟨n1, rfl⟩ := one_of len1
  walk_at "ar"
  refine ⟨ns, o, q, 1, sv1, rfl, by decide, hn, c2, up zo, up zq, fun xs2 cs2 on2 len2 sv2 => ?_⟩
  obtain ⟨n2, rfl⟩ := one_of len2
  walk_at "ar"
  refine ⟨ns, o, r, 1, sv2, rfl, by decide, hn, c3, up zo, up zr, fun xs3 cs3 on3 len3 sv3 => ?_⟩
  obtain ⟨n3, rfl⟩ := one_of len3
  walk_at "aw"
  have d1 := (on1.a n1 (by simp))
  have d2 := (on2.a n2 (by simp))
  have d3 := (on3.a n3 (by simp))
  have y1 := comb_Z2 ⟨d1, (on1.b n1 (by simp)).2⟩ (up zo) (up zp)
  have y2 := comb_Z2 ⟨d2, (on2.b n2 (by simp)).2⟩ (up zo) (up zq)
  have y3 := comb_Z2 ⟨d3, (on3.b n3 (by simp)).2⟩ (up zo) (up zr)
  have g1 := comb_ne c1 (on1.z (n := n1) (by simp))
  have g2 := comb_ne c2 (on2.z (n := n2) (by simp))
  have g3 := comb_ne c3 (on3.z (n := n3) (by simp))
  exact law_c hn u sv3 zo zp zq zr H zA zB zC zD zE zF lA lD d1.1 d2.1 d3.1 (Pe.low g1) (Pe.low g2) (Pe.low g3) (low_Z y1 g1) (low_Z y2 g2) (low_Z y3 g3) k
theorem law_a {ns : List Int} (hn : ns.length ≤ 63) {o p q r : T3} (u : GP o p q r) {cs : List PyData} (sv : SV ns cs) (zo : Z3 30 o) (zp : Z3 30 p) (zq : Z3 30 q) (zr : Z3 30 r) {a b c d e f : P2} {A B C D E F : T3} (H : PapH o p q a b c d e f A B C D E F) (zA : Z3 60 A) (zB : Z3 60 B) (zC : Z3 60 C) (zD : Z3 60 D) (zE : Z3 60 E) (zF : Z3 60 F) (lA : cr A B ≠ z3 ∧ cr B C ≠ z3 ∧ low (cr A B) = low (cr B C)) (lD : cr D E ≠ z3 ∧ cr E F ≠ z3 ∧ low (cr D E) = low (cr E F)) {Q : RV → Prop} (k : Q (.sh (.bool true))) : T_law_4 { nx := fun _ => Q (.sh .none), rt := fun r _ => Q r } [some (.sh (.list (il ns))), some (.ow cs), some (.sh (e3 o)), some (.sh (e3 p)), some (.sh (e3 q)), some (.sh (e3 r)), some (.sh (.list [e3 A, e3 B, e3 C])), some (.sh (.list [e3 D, e3 E, e3 F])), none, none, none, none, none, none, none, none, none, none, none, none, none, none, none, none, none, none, none, none, none] := by
  obtain ⟨l1, l2, l3', l4, l5, l6⟩ := H.lines
  obtain ⟨x1, x2, x3⟩ := H.meets
  have hj := H.joined
  have b1 : Z3 250 (X4 A E B D) := X4_Z zA zE zB zD (by decide)
  have b2 : Z3 250 (X4 A F C D) := X4_Z zA zF zC zD (by decide)
  have b3 : Z3 250 (X4 B F C E) := X4_Z zB zF zC zE (by decide)
  have cz : ∀ {x y : T3}, Z3 60 x → Z3 60 y → Z3 20000 (cr x y) := fun hx hy => cr_Z hx hy (by decide)
  have up : ∀ {x : T3}, Z3 60 x → Z3 20000 x := fun h => h.mono (by decide)
  walk_at "ar"
  refine ⟨A, B, C, D, E, F, rfl, ⟨⟨zA.mono (by decide), zB.mono (by decide), zC.mono (by decide)⟩, ⟨zD.mono (by decide), zE.mono (by decide), zF.mono (by decide)⟩⟩, H.lines, ?_⟩
  rw [mtg_ne l1 l2 x1, mtg_ne l3' l4 x2, mtg_ne l5 l6 x3]
  walk_at "ar"
  refine ⟨A, E, rfl, up zA, up zE, ?_⟩
  walk_at "ar"
  refine ⟨B, D, rfl, up zB, up zD, ?_⟩
  walk_at "ar"
  refine ⟨cr A E, cr B D, rfl, cz zA zE, cz zB zD, ?_⟩
  walk_at "ar"
  refine lst_least x1 b1 (by decide) (.inl rfl) ?_
  walk_at "ar"
  refine ⟨A, F, rfl, up zA, up zF, ?_⟩
  walk_at "ar"
  refine ⟨C, D, rfl, up zC, up zD, ?_⟩
  walk_at "ar"
  refine ⟨cr A F, cr C D, rfl, cz zA zF, cz zC zD, ?_⟩
  walk_at "ar"
  refine lst_least x2 b2 (by decide) (.inl rfl) ?_
  walk_at "ar"
  refine ⟨B, F, rfl, up zB, up zF, ?_⟩
  walk_at "ar"
  refine ⟨C, E, rfl, up zC, up zE, ?_⟩
  walk_at "ar"
  refine ⟨cr B F, cr C E, rfl, cz zB zF, cz zC zE, ?_⟩
  walk_at "ar"
  refine lst_least x3 b3 (by decide) (.inl rfl) ?_
  walk_at "ar"
  walk_at "sm"
  walk_at "ar"
  refine ⟨_, _, _, rfl, ⟨(low_Z b1 x1).mono (by decide), (low_Z b2 x2).mono (by decide), (low_Z b3 x3).mono (by decide)⟩, ?_⟩
  rw [decide_eq_true hj]
  walk_at "aw"
  exact law_b hn u sv zo zp zq zr H zA zB zC zD zE zF lA lD (z16 := some (e3 B)) (z17 := some (e3 F)) (z18 := some (e3 C)) (z19 := some (e3 E)) k
theorem rd_law (ds : List PyData) (Q : RV → Prop) (hl : ds.length = 1) (h : p_law ds Q) : t_law { nx := fun _ => Q (.sh .none), rt := fun r _ => Q r } (startD 29 ds) := by
  obtain ⟨ns, rfl, hn, k⟩ := h
  walk_at "ar"
  refine ⟨_, rfl, ?_⟩
  walk_at "ar"
  have sv0 : SV ns [.list (il ns), .int 0, .int 0, .int 7] := ⟨(0, 0, 7), ⟨by decide, by decide⟩, rfl⟩
  refine ⟨ns, 4, sv0, rfl, by decide, hn, fun fs cs1 g1 l1 b1 sv1 => ?_⟩
  obtain ⟨o, p, q, r, rfl⟩ := four_of l1
  have u := g1.gp4
  have zo := b1 o (by simp)
  have zp := b1 p (by simp)
  have zq := b1 q (by simp)
  have zr := b1 r (by simp)
  have c1 := (det_ne u.abc).1
  have c2 := (det_ne u.acd).1
  have up : ∀ {x : T3}, Z3 30 x → Z3 40 x := fun h => h.mono (by decide)
  walk_at "ar"
  refine ⟨ns, o, p, 3, sv1, rfl, by decide, hn, c1, up zo, up zp, fun xs1 cs2 on1 len1 sv2 => ?_⟩
  obtain ⟨a, b, c, rfl⟩ := three_of len1
  walk_at "ar"
  refine ⟨ns, o, q, 3, sv2, rfl, by decide, hn, c2, up zo, up zq, fun xs2 cs3 on2 len2 sv3 => ?_⟩
  obtain ⟨d, e, f, rfl⟩ := three_of len2
  have ma : a ∈ [a, b, c] := by simp
  have mb : b ∈ [a, b, c] := by simp
  have mc : c ∈ [a, b, c] := by simp
  have md : d ∈ [d, e, f] := by simp
  have me : e ∈ [d, e, f] := by simp
  have mf : f ∈ [d, e, f] := by simp
  have pw1 := on1.pw
  have pw2 := on2.pw
  simp only [List.pairwise_cons, List.mem_cons, List.not_mem_nil, or_false, forall_eq_or_imp, forall_eq] at pw1 pw2
  have sw : ∀ {m n : P2}, br m n ≠ 0 → br n m ≠ 0 := fun {m n} h e => h (by unfold br at e ⊢; rw [Int.mul_comm n.1, Int.mul_comm n.2] at e; omega)
  have ga := comb_ne c1 (on1.z ma)
  have gb := comb_ne c1 (on1.z mb)
  have gc := comb_ne c1 (on1.z mc)
  have gd := comb_ne c2 (on2.z md)
  have ge := comb_ne c2 (on2.z me)
  have gf := comb_ne c2 (on2.z mf)
  have H : PapH o p q a b c d e f (low (comb o p a)) (low (comb o p b)) (low (comb o p c)) (low (comb o q d)) (low (comb o q e)) (low (comb o q f)) :=
    { h := u.abc, a2 := (on1.b a ma).1, b2 := (on1.b b mb).1, c2 := (on1.b c mc).1, d2 := (on2.b d md).1, e2 := (on2.b e me).1, f2 := (on2.b f mf).1,
      ed := sw pw2.1.1, fd := sw pw2.1.2, fe := sw pw2.2.1, pa := Pe.low ga, pb := Pe.low gb, pc := Pe.low gc, pd := Pe.low gd, pe := Pe.low ge, pf := Pe.low gf }
  have w1 : ∀ {n : P2}, n ∈ [a, b, c] → comb o p n ≠ z3 → Z3 60 (low (comb o p n)) := fun hm h0 => low_Z (comb_Z2 ⟨on1.a _ hm, (on1.b _ hm).2⟩ (up zo) (up zp)) h0
  have w2 : ∀ {n : P2}, n ∈ [d, e, f] → comb o q n ≠ z3 → Z3 60 (low (comb o q n)) := fun hm h0 => low_Z (comb_Z2 ⟨on2.a _ hm, (on2.b _ hm).2⟩ (up zo) (up zq)) h0
  have ln : ∀ {x : T3}, cr o x ≠ z3 → ∀ {m n : P2}, comb o x m ≠ z3 → comb o x n ≠ z3 → br m n ≠ 0 → cr (low (comb o x m)) (low (comb o x n)) ≠ z3 ∧ low (cr (low (comb o x m)) (low (comb o x n))) = low (cr o x) := fun {x} hx {m n} h1 h2 hb => by
    have pe := (Pe.low h1).cr (Pe.low h2)
    rw [cr_combs] at pe
    have pe := pe.trans (Pe.of_sm hb _)
    exact ⟨pe.ne hx, pe.eq hx⟩
  have l1 := ln c1 ga gb pw1.1.1
  have l2 := ln c1 gb gc pw1.2.1
  have l3 := ln c2 gd ge pw2.1.1
  have l4 := ln c2 ge gf pw2.2.1
  have nm : ∀ {t : DTS} {DD : DEn} {ρ ρ' : DS}, ρ = ρ' → t DD ρ' → t DD ρ := fun e h => by rw [e]; exact h
  walk_at "st"
  refine nm (t := T_law_4) ?_ (law_a hn u sv3 zo zp zq zr H (w1 ma ga) (w1 mb gb) (w1 mc gc) (w2 md gd) (w2 me ge) (w2 mf gf) ⟨l1.1, l2.1, l1.2.trans l2.2.symm⟩ ⟨l3.1, l4.1, l3.2.trans l4.2.symm⟩ k)
  walk_at "nf"

theorem der_law {P : Program} {w : World} {base : Heap} {K : PySem.W.Frag} {mg : Str → Option Value} (T : Tx K mg) (cdv : Value) (A : Around) (outer : List Env) (s : Shared) (H : Hp) (E : XK) (hr : Room 6 (A.deeper (PyProof.Rows.envOfC "law" (defScope s_law) s.heap.objs.size T.f_law cdv))) :
    DSs (cxOf CX0 P w K mg base ["script", "state", "center", "p", "q", "r", "first", "second", "told", "a", "b", "c", "d", "e", "f", "due", "one", "two", "three", "four", "lines", "sides", "other", "table", "moved", "again", "k", "corner", "x"] "law" (defScope s_law) T.f_law cdv A outer s H E).nox (defBody s_law) t_law :=
  (dss_cons (ds_own 1 (df_call (n := 1) (ok__law_start T) mo__law_start (hr.mono (by decide)) (by rfl) T.g__law_start T.F__law_start.kp T.b__law_start (da_cons (de_n 0) da_nil)) sc_law.nd)
  (dss_cons (ds_asg (de_call1 (n := 2) 1 (ok__law_frame T) mo__law_frame (hr.mono (by decide)) (by rfl) T.g__law_frame T.F__law_frame.kp T.b__law_frame (da_cons de_int da_nil)) (dg_u rfl (dgs_cons (dg_n 2 sc_law.nd) (dgs_cons (dg_n 3 sc_law.nd) (dgs_cons (dg_n 4 sc_law.nd) (dgs_cons (dg_n 5 sc_law.nd) dgs_nil))))))
  (dss_cons (ds_set 6 (de_call1 (n := 4) 1 (ok__law_on T) mo__law_on (hr.mono (by decide)) (by rfl) T.g__law_on T.F__law_on.kp T.b__law_on (da_cons (de_n 2) (da_cons (de_n 3) (da_cons de_int da_nil)))) sc_law.nd)
  (dss_cons (ds_set 7 (de_call1 (n := 4) 1 (ok__law_on T) mo__law_on (hr.mono (by decide)) (by rfl) T.g__law_on T.F__law_on.kp T.b__law_on (da_cons (de_n 2) (da_cons (de_n 4) (da_cons de_int da_nil)))) sc_law.nd)
  (dss_cons (ds_set 8 (de_call (n := 2) (ok_pappus_points T) mo_pappus_points (hr.mono (by decide)) (by rfl) T.g_pappus_points T.F_pappus_points.kp T.b_pappus_points (da_cons (de_n 6) (da_cons (de_n 7) da_nil))) sc_law.nd)
  (dss_cons (ds_asg (de_tup (da_cons (de_n 6) (da_cons (de_n 7) da_nil))) (dg_u rfl (dgs_cons (dg_u rfl (dgs_cons (dg_n 9 sc_law.nd) (dgs_cons (dg_n 10 sc_law.nd) (dgs_cons (dg_n 11 sc_law.nd) dgs_nil)))) (dgs_cons (dg_u rfl (dgs_cons (dg_n 12 sc_law.nd) (dgs_cons (dg_n 13 sc_law.nd) (dgs_cons (dg_n 14 sc_law.nd) dgs_nil)))) dgs_nil))))
  (dss_cons (ds_own 15 (df_lst da_nil) sc_law.nd)
  (dss_cons (ds_for PassesOwn.never rfl (di_e (de_f (df_lst (da_cons (de_tup (da_cons (de_n 9) (da_cons (de_n 13) (da_cons (de_n 10) (da_cons (de_n 12) da_nil))))) (da_cons (de_tup (da_cons (de_n 9) (da_cons (de_n 14) (da_cons (de_n 11) (da_cons (de_n 12) da_nil))))) (da_cons (de_tup (da_cons (de_n 10) (da_cons (de_n 14) (da_cons (de_n 11) (da_cons (de_n 13) da_nil))))) da_nil)))))) (dg_u rfl (dgs_cons (dg_n 16 sc_law.nd) (dgs_cons (dg_n 17 sc_law.nd) (dgs_cons (dg_n 18 sc_law.nd) (dgs_cons (dg_n 19 sc_law.nd) dgs_nil))))) (dss_la (ds_expr (de_append 15 (de_call (n := 1) (ok__law_least T) mo__law_least (hr.mono (by decide)) (by rfl) T.g__law_least T.F__law_least.kp T.b__law_least (da_cons (de_call (n := 2) (ok__law_cross T) mo__law_cross (hr.mono (by decide)) (by rfl) T.g__law_cross T.F__law_cross.kp T.b__law_cross (da_cons (de_call (n := 2) (ok__law_cross T) mo__law_cross (hr.mono (by decide)) (by rfl) T.g__law_cross T.F__law_cross.kp T.b__law_cross (da_cons (de_n 16) (da_cons (de_n 17) da_nil))) (da_cons (de_call (n := 2) (ok__law_cross T) mo__law_cross (hr.mono (by decide)) (by rfl) T.g__law_cross T.F__law_cross.kp T.b__law_cross (da_cons (de_n 18) (da_cons (de_n 19) da_nil))) da_nil))) da_nil))))))
  (dss_cons (ds_if (DW.dt (dw_or (dt_not (dt_e (de_call (n := 2) (ok__law_same T 6) mo__law_same (hr.mono (by decide)) (by rfl) T.g__law_same T.F__law_same.kp T.b__law_same (da_cons (de_n 8) (da_cons (de_callTy cd_tuple (by rfl) T.z_tuple (by decide +kernel) (dos_cons (do_n 15) dos_nil)) da_nil))))) (dw_or1 (dt_cmp od_isn (do_e (de_call (n := 3) (ok_are_joined T) mo_are_joined (hr.mono (by decide)) (by rfl) T.g_are_joined T.F_are_joined.kp T.b_are_joined (da_cons (de_ix xd_ix (do_n 8) (do_e de_int)) (da_cons (de_ix xd_ix (do_n 8) (do_e de_int)) (da_cons (de_ix xd_ix (do_n 8) (do_e de_int)) da_nil))))) (do_e de_bl))))) (dss_la (ds_ret de_bl)) dss_nil)
  (dss_cons (ds_set 16 (de_f (df_lst (da_cons (de_n 3) (da_cons (de_n 4) (da_cons (de_n 5) da_nil))))) sc_law.nd)
  (dss_cons (ds_set 17 (de_f (df_lc (own := [("corner", 27)]) rfl sc_law.nd (di_e (de_n 16)) (by kernel_rfl) (by decide) (fun _ _ _ _ _ => (dg_n 27 sc_law.nd)) (fun _ _ _ _ _ => dts_nil) (fun _ _ _ _ _ => (de_ix xd_ix (do_e (de_call1 (n := 4) 1 (ok__law_on T) mo__law_on (hr.mono (by decide)) (by rfl) T.g__law_on T.F__law_on.kp T.b__law_on (da_cons (de_n 2) (da_cons (de_n 27) (da_cons de_int da_nil))))) (do_e de_int))))) sc_law.nd)
  (dss_cons (ds_if (DW.dt (dw_or (dt_cmp (od_eq hr.units) (do_e (de_call (n := 3) (ok__law_value T) mo__law_value (hr.mono (by decide)) (by rfl) T.g__law_value T.F__law_value.kp T.b__law_value (da_cons (de_ix xd_ix (do_n 17) (do_e de_int)) (da_cons (de_ix xd_ix (do_n 17) (do_e de_int)) (da_cons (de_ix xd_ix (do_n 17) (do_e de_int)) da_nil))))) (do_e de_int)) (dw_or1 (dt_cmp (od_ne hr.units) (do_e (de_f (df_lc (own := [("k", 26)]) rfl sc_law.nd (di_r1 (by rfl) T.z_range (da_cons de_int da_nil)) (by kernel_rfl) (by decide) (fun _ _ _ _ _ => (dg_n 26 sc_law.nd)) (fun _ _ _ _ _ => (dts_one (dt_cmp (od_eq hr.units) (do_e (de_ix xd_ix (do_n 17) (do_n 26))) (do_e (de_ix xd_ix (do_n 16) (do_n 26)))))) (fun _ _ _ _ _ => de_int)))) (do_e (de_f (df_lst da_nil))))))) (dss_la (ds_ret de_bl)) dss_nil)
  (dss_cons (ds_set 20 (de_call (n := 2) (ok_corner_lines T) mo_corner_lines (hr.mono (by decide)) (by rfl) T.g_corner_lines T.F_corner_lines.kp T.b_corner_lines (da_cons (de_n 16) (da_cons (de_n 17) da_nil))) sc_law.nd)
  (dss_cons (ds_if (DW.dt (dw_or (dt_cmp (od_ne hr.units) (do_n 20) (do_e (de_callTy cd_tuple (by rfl) T.z_tuple (by decide +kernel) (dos_cons (do_e (de_f (df_lc (own := [("k", 26)]) rfl sc_law.nd (di_r1 (by rfl) T.z_range (da_cons de_int da_nil)) (by kernel_rfl) (by decide) (fun _ _ _ _ _ => (dg_n 26 sc_law.nd)) (fun _ _ _ _ _ => dts_nil) (fun _ _ _ _ _ => (de_call (n := 1) (ok__law_least T) mo__law_least (hr.mono (by decide)) (by rfl) T.g__law_least T.F__law_least.kp T.b__law_least (da_cons (de_call (n := 2) (ok__law_cross T) mo__law_cross (hr.mono (by decide)) (by rfl) T.g__law_cross T.F__law_cross.kp T.b__law_cross (da_cons (de_ix xd_ix (do_n 16) (do_n 26)) (da_cons (de_ix xd_ix (do_n 17) (do_n 26)) da_nil))) da_nil)))))) dos_nil)))) (dw_or1 (dt_cmp od_isn (do_e (de_call (n := 3) (ok_are_joined T) mo_are_joined (hr.mono (by decide)) (by rfl) T.g_are_joined T.F_are_joined.kp T.b_are_joined (da_cons (de_ix xd_ix (do_n 20) (do_e de_int)) (da_cons (de_ix xd_ix (do_n 20) (do_e de_int)) (da_cons (de_ix xd_ix (do_n 20) (do_e de_int)) da_nil))))) (do_e de_bl))))) (dss_la (ds_ret de_bl)) dss_nil)
  (dss_cons (ds_set 21 (de_call (n := 2) (ok_side_points T) mo_side_points (hr.mono (by decide)) (by rfl) T.g_side_points T.F_side_points.kp T.b_side_points (da_cons (de_n 16) (da_cons (de_n 17) da_nil))) sc_law.nd)
  (dss_cons (ds_if (DW.dt (dw_and (dt_cmp (od_ni (units65 hr)) (do_e de_non) (do_n 21)) (dw_and1 (dt_cmp od_isn (do_e (de_call (n := 3) (ok_are_joined T) mo_are_joined (hr.mono (by decide)) (by rfl) T.g_are_joined T.F_are_joined.kp T.b_are_joined (da_cons (de_ix xd_ix (do_n 21) (do_e de_int)) (da_cons (de_ix xd_ix (do_n 21) (do_e de_int)) (da_cons (de_ix xd_ix (do_n 21) (do_e de_int)) da_nil))))) (do_e de_bl))))) (dss_la (ds_ret de_bl)) dss_nil)
  (dss_cons (ds_set 22 (de_call1 (n := 2) 1 (ok__law_frame T) mo__law_frame (hr.mono (by decide)) (by rfl) T.g__law_frame T.F__law_frame.kp T.b__law_frame (da_cons de_int da_nil)) sc_law.nd)
  (dss_cons (ds_if (dt_cmp (od_eq hr.units) (do_e (de_f (df_lc (own := [("k", 26)]) rfl sc_law.nd (di_r1 (by rfl) T.z_range (da_cons de_int da_nil)) (by kernel_rfl) (by decide) (fun _ _ _ _ _ => (dg_n 26 sc_law.nd)) (fun _ _ _ _ _ => (dts_one (dt_cmp (od_eq hr.units) (do_e (de_ix xd_ix (do_n 22) (do_n 26))) (do_e (de_ix xd_ix (do_n 16) (do_n 26)))))) (fun _ _ _ _ _ => de_int)))) (do_e (de_f (df_lst da_nil)))) (dss_cons (ds_set 20 (de_call (n := 2) (ok_corner_lines T) mo_corner_lines (hr.mono (by decide)) (by rfl) T.g_corner_lines T.F_corner_lines.kp T.b_corner_lines (da_cons (de_n 16) (da_cons (de_n 22) da_nil))) sc_law.nd)
  (dss_cons (ds_set 21 (de_call (n := 2) (ok_side_points T) mo_side_points (hr.mono (by decide)) (by rfl) T.g_side_points T.F_side_points.kp T.b_side_points (da_cons (de_n 16) (da_cons (de_n 22) da_nil))) sc_law.nd)
  (dss_la (ds_if (DW.dt (dw_and (dt_cmp (od_ni (units65 hr)) (do_e de_non) (do_n 21)) (dw_and (dt_cmp (od_ni (units65 hr)) (do_e de_non) (do_n 20)) (dw_and1 (dt_cmp (od_eq hr.units) (do_e (de_ls rfl hr.units (by rfl) T.z_len (by rfl) T.z_set (do_n 20))) (do_e de_int)))))) (dss_la (ds_if (dt_cmp (od_ne hr.units) (do_e (de_call (n := 3) (ok_are_joined T) mo_are_joined (hr.mono (by decide)) (by rfl) T.g_are_joined T.F_are_joined.kp T.b_are_joined (da_cons (de_ix xd_ix (do_n 20) (do_e de_int)) (da_cons (de_ix xd_ix (do_n 20) (do_e de_int)) (da_cons (de_ix xd_ix (do_n 20) (do_e de_int)) da_nil))))) (do_e (de_call (n := 3) (ok_are_joined T) mo_are_joined (hr.mono (by decide)) (by rfl) T.g_are_joined T.F_are_joined.kp T.b_are_joined (da_cons (de_ix xd_ix (do_n 21) (do_e de_int)) (da_cons (de_ix xd_ix (do_n 21) (do_e de_int)) (da_cons (de_ix xd_ix (do_n 21) (do_e de_int)) da_nil)))))) (dss_la (ds_ret de_bl)) dss_nil)) dss_nil)))) dss_nil)
  (dss_cons (ds_set 23 (de_call (n := 2) (ok_moving_table T) mo_moving_table (hr.mono (by decide)) (by rfl) T.g_moving_table T.F_moving_table.kp T.b_moving_table (da_cons (de_call1 (n := 2) 1 (ok__law_frame T) mo__law_frame (hr.mono (by decide)) (by rfl) T.g__law_frame T.F__law_frame.kp T.b__law_frame (da_cons de_int da_nil)) (da_cons (de_call1 (n := 2) 1 (ok__law_frame T) mo__law_frame (hr.mono (by decide)) (by rfl) T.g__law_frame T.F__law_frame.kp T.b__law_frame (da_cons de_int da_nil)) da_nil))) sc_law.nd)
  (dss_cons (ds_set 24 (de_call (n := 2) (ok_pappus_points T) mo_pappus_points (hr.mono (by decide)) (by rfl) T.g_pappus_points T.F_pappus_points.kp T.b_pappus_points (da_cons (de_f (df_lc (own := [("x", 28)]) rfl sc_law.nd (di_e (de_n 6)) (by kernel_rfl) (by decide) (fun _ _ _ _ _ => (dg_n 28 sc_law.nd)) (fun _ _ _ _ _ => dts_nil) (fun _ _ _ _ _ => (de_call (n := 2) (ok_applied_table T) mo_applied_table (hr.mono (by decide)) (by rfl) T.g_applied_table T.F_applied_table.kp T.b_applied_table (da_cons (de_n 23) (da_cons (de_n 28) da_nil)))))) (da_cons (de_f (df_lc (own := [("x", 28)]) rfl sc_law.nd (di_e (de_n 7)) (by kernel_rfl) (by decide) (fun _ _ _ _ _ => (dg_n 28 sc_law.nd)) (fun _ _ _ _ _ => dts_nil) (fun _ _ _ _ _ => (de_call (n := 2) (ok_applied_table T) mo_applied_table (hr.mono (by decide)) (by rfl) T.g_applied_table T.F_applied_table.kp T.b_applied_table (da_cons (de_n 23) (da_cons (de_n 28) da_nil)))))) da_nil))) sc_law.nd)
  (dss_cons (ds_if (dt_cmp (od_ne hr.units) (do_n 24) (do_e (de_callTy cd_tuple (by rfl) T.z_tuple (by decide +kernel) (dos_cons (do_e (de_f (df_lc (own := [("x", 28)]) rfl sc_law.nd (di_e (de_n 8)) (by kernel_rfl) (by decide) (fun _ _ _ _ _ => (dg_n 28 sc_law.nd)) (fun _ _ _ _ _ => dts_nil) (fun _ _ _ _ _ => (de_call (n := 2) (ok_applied_table T) mo_applied_table (hr.mono (by decide)) (by rfl) T.g_applied_table T.F_applied_table.kp T.b_applied_table (da_cons (de_n 23) (da_cons (de_n 28) da_nil))))))) dos_nil)))) (dss_la (ds_ret de_bl)) dss_nil)
  (dss_cons (ds_set 25 (de_call (n := 2) (ok_side_points T) mo_side_points (hr.mono (by decide)) (by rfl) T.g_side_points T.F_side_points.kp T.b_side_points (da_cons (de_f (df_lc (own := [("x", 28)]) rfl sc_law.nd (di_e (de_n 16)) (by kernel_rfl) (by decide) (fun _ _ _ _ _ => (dg_n 28 sc_law.nd)) (fun _ _ _ _ _ => dts_nil) (fun _ _ _ _ _ => (de_call (n := 2) (ok_applied_table T) mo_applied_table (hr.mono (by decide)) (by rfl) T.g_applied_table T.F_applied_table.kp T.b_applied_table (da_cons (de_n 23) (da_cons (de_n 28) da_nil)))))) (da_cons (de_f (df_lc (own := [("x", 28)]) rfl sc_law.nd (di_e (de_n 17)) (by kernel_rfl) (by decide) (fun _ _ _ _ _ => (dg_n 28 sc_law.nd)) (fun _ _ _ _ _ => dts_nil) (fun _ _ _ _ _ => (de_call (n := 2) (ok_applied_table T) mo_applied_table (hr.mono (by decide)) (by rfl) T.g_applied_table T.F_applied_table.kp T.b_applied_table (da_cons (de_n 23) (da_cons (de_n 28) da_nil)))))) da_nil))) sc_law.nd)
  (dss_cons (ds_set 21 (de_call (n := 2) (ok_side_points T) mo_side_points (hr.mono (by decide)) (by rfl) T.g_side_points T.F_side_points.kp T.b_side_points (da_cons (de_n 16) (da_cons (de_n 17) da_nil))) sc_law.nd)
  (dss_cons (ds_for PassesOwn.never rfl (di_r1 (by rfl) T.z_range (da_cons de_int da_nil)) (dg_n 26 sc_law.nd) (dss_la (ds_if (DW.dt (dw_and (dt_cmp od_isn (do_e (de_ix xd_ix (do_n 21) (do_n 26))) (do_e de_non)) (dw_and1 (dt_cmp (od_ne hr.units) (do_e (de_ix xd_ix (do_n 25) (do_n 26))) (do_e (de_call (n := 2) (ok_applied_table T) mo_applied_table (hr.mono (by decide)) (by rfl) T.g_applied_table T.F_applied_table.kp T.b_applied_table (da_cons (de_n 23) (da_cons (de_ix xd_ix (do_n 21) (do_n 26)) da_nil)))))))) (dss_la (ds_ret de_bl)) dss_nil)))
  (dss_la (ds_ret (de_and (de_cmp (od_eq hr.units) (do_e (de_call (n := 2) (ok_across T) mo_across (hr.mono (by decide)) (by rfl) T.g_across T.F_across.kp T.b_across (da_cons (de_n 9) (da_cons (de_n 10) da_nil)))) (do_e (de_call (n := 2) (ok_across T) mo_across (hr.mono (by decide)) (by rfl) T.g_across T.F_across.kp T.b_across (da_cons (de_n 10) (da_cons (de_n 11) da_nil))))) (de_one (de_cmp (od_eq hr.units) (do_e (de_call (n := 2) (ok_across T) mo_across (hr.mono (by decide)) (by rfl) T.g_across T.F_across.kp T.b_across (da_cons (de_n 12) (da_cons (de_n 13) da_nil)))) (do_e (de_call (n := 2) (ok_across T) mo_across (hr.mono (by decide)) (by rfl) T.g_across T.F_across.kp T.b_across (da_cons (de_n 13) (da_cons (de_n 14) da_nil)))))))))))))))))))))))))))))))))
theorem ok_law {P : Program} {w : World} {base : Heap} {K : PySem.W.Frag} {mg : Str → Option Value} (T : Tx K mg) : FnOk P w K mg base CX0 7 T.f_law T.d_law ["script"] (toSp K 1 p_law) :=
  okD T.F_law sc_law fun cdv A outer s H E hr => ⟨t_law, der_law T cdv A outer s H E hr, rd_law⟩

theorem law_in {K : PySem.W.Frag} (H : Hp) (a : Addr) (ns : List Int) (hl : ns.length ≤ 63) (hS : SqL K H a (ns.map V.int)) : toSp K 1 p_law [.ref a] H (fun v _ => v = .bl true) fun _ _ _ => False :=
  ⟨rfl, H, [.list (il ns)], Same.refl _, .cons (.lst hS DpAll.ints) .nil, ns, rfl, hl, fun v G' H' _ _ _ _ h => by cases h; rfl⟩

theorem all_mk {l : PySem.W.OpenLaw} {w : World} {K : PySem.W.Frag} {h : Heap} {mg : Str → Option Value} {fa f0 f1 f2 f3 f4 f5 f6 f7 f8 f9 f10 f11 f12 f13 f14 f15 f16 f17 f18 f19 f20 f21 : Addr} (X : K.In h) (G : h.Ns mainGlobals mg) (hfa : mg "law" = some (.ref fa))
    {od0 an0 : Option Addr} {sl0 : Array (Option Value)} {oc0 kV0 dc0 pm0 cd0 ct0 : Value}
    {od1 an1 : Option Addr} {sl1 : Array (Option Value)} {oc1 kV1 dc1 pm1 cd1 ct1 : Value}
    {od2 an2 : Option Addr} {sl2 : Array (Option Value)} {oc2 kV2 dc2 pm2 cd2 ct2 : Value}
    {od3 an3 : Option Addr} {sl3 : Array (Option Value)} {oc3 kV3 dc3 pm3 cd3 ct3 : Value}
    {od4 an4 : Option Addr} {sl4 : Array (Option Value)} {oc4 kV4 dc4 pm4 cd4 ct4 : Value}
    {od5 an5 : Option Addr} {sl5 : Array (Option Value)} {oc5 kV5 dc5 pm5 cd5 ct5 : Value}
    {od6 an6 : Option Addr} {sl6 : Array (Option Value)} {oc6 kV6 dc6 pm6 cd6 ct6 : Value}
    {od7 an7 : Option Addr} {sl7 : Array (Option Value)} {oc7 kV7 dc7 pm7 cd7 ct7 : Value}
    {od8 an8 : Option Addr} {sl8 : Array (Option Value)} {oc8 kV8 dc8 pm8 cd8 ct8 : Value}
    {od9 an9 : Option Addr} {sl9 : Array (Option Value)} {oc9 kV9 dc9 pm9 cd9 ct9 : Value}
    {od10 an10 : Option Addr} {sl10 : Array (Option Value)} {oc10 kV10 dc10 pm10 cd10 ct10 : Value}
    {od11 an11 : Option Addr} {sl11 : Array (Option Value)} {oc11 kV11 dc11 pm11 cd11 ct11 : Value}
    {od12 an12 : Option Addr} {sl12 : Array (Option Value)} {oc12 kV12 dc12 pm12 cd12 ct12 : Value}
    {od13 an13 : Option Addr} {sl13 : Array (Option Value)} {oc13 kV13 dc13 pm13 cd13 ct13 : Value}
    {od14 an14 : Option Addr} {sl14 : Array (Option Value)} {oc14 kV14 dc14 pm14 cd14 ct14 : Value}
    {od15 an15 : Option Addr} {sl15 : Array (Option Value)} {oc15 kV15 dc15 pm15 cd15 ct15 : Value}
    {od16 an16 : Option Addr} {sl16 : Array (Option Value)} {oc16 kV16 dc16 pm16 cd16 ct16 : Value}
    {od17 an17 : Option Addr} {sl17 : Array (Option Value)} {oc17 kV17 dc17 pm17 cd17 ct17 : Value}
    {od18 an18 : Option Addr} {sl18 : Array (Option Value)} {oc18 kV18 dc18 pm18 cd18 ct18 : Value}
    {od19 an19 : Option Addr} {sl19 : Array (Option Value)} {oc19 kV19 dc19 pm19 cd19 ct19 : Value}
    {od20 an20 : Option Addr} {sl20 : Array (Option Value)} {oc20 kV20 dc20 pm20 cd20 ct20 : Value}
    {od21 an21 : Option Addr} {sl21 : Array (Option Value)} {oc21 kV21 dc21 pm21 cd21 ct21 : Value}
    (a0 : PySem.W.nsIn K mainGlobals "lowest" = some (some (.ref f0))) (l0 : K.lookup f0 = some ⟨oc0, od0, .func (PySem.W.fnOf "lowest" "lowest" (defArgs s_lowest) (defBody s_lowest) (defScope s_lowest) .none kV0 dc0 pm0 an0 cd0 ct0), sl0⟩) (c0 : PySem.W.codeIn K cd0 "lowest" = true) (k0 : PySem.W.keepIn K (.ref f0) = true)
    (a1 : PySem.W.nsIn K mainGlobals "across" = some (some (.ref f1))) (l1 : K.lookup f1 = some ⟨oc1, od1, .func (PySem.W.fnOf "across" "across" (defArgs s_across) (defBody s_across) (defScope s_across) .none kV1 dc1 pm1 an1 cd1 ct1), sl1⟩) (c1 : PySem.W.codeIn K cd1 "across" = true) (k1 : PySem.W.keepIn K (.ref f1) = true)
    (a2 : PySem.W.nsIn K mainGlobals "table_value" = some (some (.ref f2))) (l2 : K.lookup f2 = some ⟨oc2, od2, .func (PySem.W.fnOf "table_value" "table_value" (defArgs s_table_value) (defBody s_table_value) (defScope s_table_value) .none kV2 dc2 pm2 an2 cd2 ct2), sl2⟩) (c2 : PySem.W.codeIn K cd2 "table_value" = true) (k2 : PySem.W.keepIn K (.ref f2) = true)
    (a3 : PySem.W.nsIn K mainGlobals "are_joined" = some (some (.ref f3))) (l3 : K.lookup f3 = some ⟨oc3, od3, .func (PySem.W.fnOf "are_joined" "are_joined" (defArgs s_are_joined) (defBody s_are_joined) (defScope s_are_joined) .none kV3 dc3 pm3 an3 cd3 ct3), sl3⟩) (c3 : PySem.W.codeIn K cd3 "are_joined" = true) (k3 : PySem.W.keepIn K (.ref f3) = true)
    (a4 : PySem.W.nsIn K mainGlobals "applied_table" = some (some (.ref f4))) (l4 : K.lookup f4 = some ⟨oc4, od4, .func (PySem.W.fnOf "applied_table" "applied_table" (defArgs s_applied_table) (defBody s_applied_table) (defScope s_applied_table) .none kV4 dc4 pm4 an4 cd4 ct4), sl4⟩) (c4 : PySem.W.codeIn K cd4 "applied_table" = true) (k4 : PySem.W.keepIn K (.ref f4) = true)
    (a5 : PySem.W.nsIn K mainGlobals "adjoint" = some (some (.ref f5))) (l5 : K.lookup f5 = some ⟨oc5, od5, .func (PySem.W.fnOf "adjoint" "adjoint" (defArgs s_adjoint) (defBody s_adjoint) (defScope s_adjoint) .none kV5 dc5 pm5 an5 cd5 ct5), sl5⟩) (c5 : PySem.W.codeIn K cd5 "adjoint" = true) (k5 : PySem.W.keepIn K (.ref f5) = true)
    (a6 : PySem.W.nsIn K mainGlobals "table_product" = some (some (.ref f6))) (l6 : K.lookup f6 = some ⟨oc6, od6, .func (PySem.W.fnOf "table_product" "table_product" (defArgs s_table_product) (defBody s_table_product) (defScope s_table_product) .none kV6 dc6 pm6 an6 cd6 ct6), sl6⟩) (c6 : PySem.W.codeIn K cd6 "table_product" = true) (k6 : PySem.W.keepIn K (.ref f6) = true)
    (a7 : PySem.W.nsIn K mainGlobals "frame_table" = some (some (.ref f7))) (l7 : K.lookup f7 = some ⟨oc7, od7, .func (PySem.W.fnOf "frame_table" "frame_table" (defArgs s_frame_table) (defBody s_frame_table) (defScope s_frame_table) .none kV7 dc7 pm7 an7 cd7 ct7), sl7⟩) (c7 : PySem.W.codeIn K cd7 "frame_table" = true) (k7 : PySem.W.keepIn K (.ref f7) = true)
    (a8 : PySem.W.nsIn K mainGlobals "moving_table" = some (some (.ref f8))) (l8 : K.lookup f8 = some ⟨oc8, od8, .func (PySem.W.fnOf "moving_table" "moving_table" (defArgs s_moving_table) (defBody s_moving_table) (defScope s_moving_table) .none kV8 dc8 pm8 an8 cd8 ct8), sl8⟩) (c8 : PySem.W.codeIn K cd8 "moving_table" = true) (k8 : PySem.W.keepIn K (.ref f8) = true)
    (a9 : PySem.W.nsIn K mainGlobals "pappus_points" = some (some (.ref f9))) (l9 : K.lookup f9 = some ⟨oc9, od9, .func (PySem.W.fnOf "pappus_points" "pappus_points" (defArgs s_pappus_points) (defBody s_pappus_points) (defScope s_pappus_points) .none kV9 dc9 pm9 an9 cd9 ct9), sl9⟩) (c9 : PySem.W.codeIn K cd9 "pappus_points" = true) (k9 : PySem.W.keepIn K (.ref f9) = true)
    (a10 : PySem.W.nsIn K mainGlobals "side_points" = some (some (.ref f10))) (l10 : K.lookup f10 = some ⟨oc10, od10, .func (PySem.W.fnOf "side_points" "side_points" (defArgs s_side_points) (defBody s_side_points) (defScope s_side_points) .none kV10 dc10 pm10 an10 cd10 ct10), sl10⟩) (c10 : PySem.W.codeIn K cd10 "side_points" = true) (k10 : PySem.W.keepIn K (.ref f10) = true)
    (a11 : PySem.W.nsIn K mainGlobals "corner_lines" = some (some (.ref f11))) (l11 : K.lookup f11 = some ⟨oc11, od11, .func (PySem.W.fnOf "corner_lines" "corner_lines" (defArgs s_corner_lines) (defBody s_corner_lines) (defScope s_corner_lines) .none kV11 dc11 pm11 an11 cd11 ct11), sl11⟩) (c11 : PySem.W.codeIn K cd11 "corner_lines" = true) (k11 : PySem.W.keepIn K (.ref f11) = true)
    (a12 : PySem.W.nsIn K mainGlobals "_law_start" = some (some (.ref f12))) (l12 : K.lookup f12 = some ⟨oc12, od12, .func (PySem.W.fnOf "_law_start" "_law_start" (defArgs s__law_start) (defBody s__law_start) (defScope s__law_start) .none kV12 dc12 pm12 an12 cd12 ct12), sl12⟩) (c12 : PySem.W.codeIn K cd12 "_law_start" = true) (k12 : PySem.W.keepIn K (.ref f12) = true)
    (a13 : PySem.W.nsIn K mainGlobals "_law_pick" = some (some (.ref f13))) (l13 : K.lookup f13 = some ⟨oc13, od13, .func (PySem.W.fnOf "_law_pick" "_law_pick" (defArgs s__law_pick) (defBody s__law_pick) (defScope s__law_pick) .none kV13 dc13 pm13 an13 cd13 ct13), sl13⟩) (c13 : PySem.W.codeIn K cd13 "_law_pick" = true) (k13 : PySem.W.keepIn K (.ref f13) = true)
    (a14 : PySem.W.nsIn K mainGlobals "_law_same" = some (some (.ref f14))) (l14 : K.lookup f14 = some ⟨oc14, od14, .func (PySem.W.fnOf "_law_same" "_law_same" (defArgs s__law_same) (defBody s__law_same) (defScope s__law_same) .none kV14 dc14 pm14 an14 cd14 ct14), sl14⟩) (c14 : PySem.W.codeIn K cd14 "_law_same" = true) (k14 : PySem.W.keepIn K (.ref f14) = true)
    (a15 : PySem.W.nsIn K mainGlobals "_law_cross" = some (some (.ref f15))) (l15 : K.lookup f15 = some ⟨oc15, od15, .func (PySem.W.fnOf "_law_cross" "_law_cross" (defArgs s__law_cross) (defBody s__law_cross) (defScope s__law_cross) .none kV15 dc15 pm15 an15 cd15 ct15), sl15⟩) (c15 : PySem.W.codeIn K cd15 "_law_cross" = true) (k15 : PySem.W.keepIn K (.ref f15) = true)
    (a16 : PySem.W.nsIn K mainGlobals "_law_value" = some (some (.ref f16))) (l16 : K.lookup f16 = some ⟨oc16, od16, .func (PySem.W.fnOf "_law_value" "_law_value" (defArgs s__law_value) (defBody s__law_value) (defScope s__law_value) .none kV16 dc16 pm16 an16 cd16 ct16), sl16⟩) (c16 : PySem.W.codeIn K cd16 "_law_value" = true) (k16 : PySem.W.keepIn K (.ref f16) = true)
    (a17 : PySem.W.nsIn K mainGlobals "_law_least" = some (some (.ref f17))) (l17 : K.lookup f17 = some ⟨oc17, od17, .func (PySem.W.fnOf "_law_least" "_law_least" (defArgs s__law_least) (defBody s__law_least) (defScope s__law_least) .none kV17 dc17 pm17 an17 cd17 ct17), sl17⟩) (c17 : PySem.W.codeIn K cd17 "_law_least" = true) (k17 : PySem.W.keepIn K (.ref f17) = true)
    (a18 : PySem.W.nsIn K mainGlobals "_law_point" = some (some (.ref f18))) (l18 : K.lookup f18 = some ⟨oc18, od18, .func (PySem.W.fnOf "_law_point" "_law_point" (defArgs s__law_point) (defBody s__law_point) (defScope s__law_point) .none kV18 dc18 pm18 an18 cd18 ct18), sl18⟩) (c18 : PySem.W.codeIn K cd18 "_law_point" = true) (k18 : PySem.W.keepIn K (.ref f18) = true)
    (a19 : PySem.W.nsIn K mainGlobals "_law_frame" = some (some (.ref f19))) (l19 : K.lookup f19 = some ⟨oc19, od19, .func (PySem.W.fnOf "_law_frame" "_law_frame" (defArgs s__law_frame) (defBody s__law_frame) (defScope s__law_frame) .none kV19 dc19 pm19 an19 cd19 ct19), sl19⟩) (c19 : PySem.W.codeIn K cd19 "_law_frame" = true) (k19 : PySem.W.keepIn K (.ref f19) = true)
    (a20 : PySem.W.nsIn K mainGlobals "_law_on" = some (some (.ref f20))) (l20 : K.lookup f20 = some ⟨oc20, od20, .func (PySem.W.fnOf "_law_on" "_law_on" (defArgs s__law_on) (defBody s__law_on) (defScope s__law_on) .none kV20 dc20 pm20 an20 cd20 ct20), sl20⟩) (c20 : PySem.W.codeIn K cd20 "_law_on" = true) (k20 : PySem.W.keepIn K (.ref f20) = true)
    (a21 : PySem.W.nsIn K mainGlobals "law" = some (some (.ref f21))) (l21 : K.lookup f21 = some ⟨oc21, od21, .func (PySem.W.fnOf "law" "law" (defArgs s_law) (defBody s_law) (defScope s_law) .none kV21 dc21 pm21 an21 cd21 ct21), sl21⟩) (c21 : PySem.W.codeIn K cd21 "law" = true) (k21 : PySem.W.keepIn K (.ref f21) = true)
    (z0 : PySem.W.nsIn K mainGlobals "abs" = some none)
    (z1 : PySem.W.nsIn K mainGlobals "bool" = some none)
    (z2 : PySem.W.nsIn K mainGlobals "int" = some none)
    (z3 : PySem.W.nsIn K mainGlobals "isinstance" = some none)
    (z4 : PySem.W.nsIn K mainGlobals "len" = some none)
    (z5 : PySem.W.nsIn K mainGlobals "list" = some none)
    (z6 : PySem.W.nsIn K mainGlobals "range" = some none)
    (z7 : PySem.W.nsIn K mainGlobals "set" = some none)
    (z8 : PySem.W.nsIn K mainGlobals "str" = some none)
    (z9 : PySem.W.nsIn K mainGlobals "sum" = some none)
    (z10 : PySem.W.nsIn K mainGlobals "tuple" = some none)
    (y0 : PySem.W.nsIn K mainGlobals "gcd" = some (some (.builtin "math.gcd"))) :
    ∃ fd : FuncData, (∀ (s : Shared) (v : Value), BindsTo s fd ⟨[v], []⟩ [("script", v)]) ∧ ∀ base : Heap, K.In base → base.Ns mainGlobals mg → FnOk l.prog w K mg base CX0 7 fa fd ["script"] (toSp K 1 p_law) := by
  have e := hfa.symm.trans (PySem.W.mg_of X G a21)
  cases e
  refine ⟨PySem.W.fnOf "law" "law" (defArgs s_law) (defBody s_law) (defScope s_law) .none kV21 dc21 pm21 an21 cd21 ct21, fun s v => .of_eq rfl, fun base _ _ => ok_law (P := l.prog) (w := w) (base := base) ({
    f_lowest := _, d_lowest := _, F_lowest := fun_mk (st := s_lowest) l0 c0 k0, b_lowest := (fun_mk (st := s_lowest) l0 c0 k0).binds (ps := ["some"]) (fun _ _ _ _ _ _ us hl => match us, hl with | [_], _ => rfl), g_lowest := PySem.W.mg_of X G a0,
    f_across := _, d_across := _, F_across := fun_mk (st := s_across) l1 c1 k1, b_across := (fun_mk (st := s_across) l1 c1 k1).binds (ps := ["first", "second"]) (fun _ _ _ _ _ _ us hl => match us, hl with | [_, _], _ => rfl), g_across := PySem.W.mg_of X G a1,
    f_table_value := _, d_table_value := _, F_table_value := fun_mk (st := s_table_value) l2 c2 k2, b_table_value := (fun_mk (st := s_table_value) l2 c2 k2).binds (ps := ["rows"]) (fun _ _ _ _ _ _ us hl => match us, hl with | [_], _ => rfl), g_table_value := PySem.W.mg_of X G a2,
    f_are_joined := _, d_are_joined := _, F_are_joined := fun_mk (st := s_are_joined) l3 c3 k3, b_are_joined := (fun_mk (st := s_are_joined) l3 c3 k3).binds (ps := ["first", "second", "third"]) (fun _ _ _ _ _ _ us hl => match us, hl with | [_, _, _], _ => rfl), g_are_joined := PySem.W.mg_of X G a3,
    f_applied_table := _, d_applied_table := _, F_applied_table := fun_mk (st := s_applied_table) l4 c4 k4, b_applied_table := (fun_mk (st := s_applied_table) l4 c4 k4).binds (ps := ["table", "triple"]) (fun _ _ _ _ _ _ us hl => match us, hl with | [_, _], _ => rfl), g_applied_table := PySem.W.mg_of X G a4,
    f_adjoint := _, d_adjoint := _, F_adjoint := fun_mk (st := s_adjoint) l5 c5 k5, b_adjoint := (fun_mk (st := s_adjoint) l5 c5 k5).binds (ps := ["table"]) (fun _ _ _ _ _ _ us hl => match us, hl with | [_], _ => rfl), g_adjoint := PySem.W.mg_of X G a5,
    f_table_product := _, d_table_product := _, F_table_product := fun_mk (st := s_table_product) l6 c6 k6, b_table_product := (fun_mk (st := s_table_product) l6 c6 k6).binds (ps := ["first", "second"]) (fun _ _ _ _ _ _ us hl => match us, hl with | [_, _], _ => rfl), g_table_product := PySem.W.mg_of X G a6,
    f_frame_table := _, d_frame_table := _, F_frame_table := fun_mk (st := s_frame_table) l7 c7 k7, b_frame_table := (fun_mk (st := s_frame_table) l7 c7 k7).binds (ps := ["four"]) (fun _ _ _ _ _ _ us hl => match us, hl with | [_], _ => rfl), g_frame_table := PySem.W.mg_of X G a7,
    f_moving_table := _, d_moving_table := _, F_moving_table := fun_mk (st := s_moving_table) l8 c8 k8, b_moving_table := (fun_mk (st := s_moving_table) l8 c8 k8).binds (ps := ["first", "second"]) (fun _ _ _ _ _ _ us hl => match us, hl with | [_, _], _ => rfl), g_moving_table := PySem.W.mg_of X G a8,
    f_pappus_points := _, d_pappus_points := _, F_pappus_points := fun_mk (st := s_pappus_points) l9 c9 k9, b_pappus_points := (fun_mk (st := s_pappus_points) l9 c9 k9).binds (ps := ["first", "second"]) (fun _ _ _ _ _ _ us hl => match us, hl with | [_, _], _ => rfl), g_pappus_points := PySem.W.mg_of X G a9,
    f_side_points := _, d_side_points := _, F_side_points := fun_mk (st := s_side_points) l10 c10 k10, b_side_points := (fun_mk (st := s_side_points) l10 c10 k10).binds (ps := ["first", "second"]) (fun _ _ _ _ _ _ us hl => match us, hl with | [_, _], _ => rfl), g_side_points := PySem.W.mg_of X G a10,
    f_corner_lines := _, d_corner_lines := _, F_corner_lines := fun_mk (st := s_corner_lines) l11 c11 k11, b_corner_lines := (fun_mk (st := s_corner_lines) l11 c11 k11).binds (ps := ["first", "second"]) (fun _ _ _ _ _ _ us hl => match us, hl with | [_, _], _ => rfl), g_corner_lines := PySem.W.mg_of X G a11,
    f__law_start := _, d__law_start := _, F__law_start := fun_mk (st := s__law_start) l12 c12 k12, b__law_start := (fun_mk (st := s__law_start) l12 c12 k12).binds (ps := ["script"]) (fun _ _ _ _ _ _ us hl => match us, hl with | [_], _ => rfl), g__law_start := PySem.W.mg_of X G a12,
    f__law_pick := _, d__law_pick := _, F__law_pick := fun_mk (st := s__law_pick) l13 c13 k13, b__law_pick := (fun_mk (st := s__law_pick) l13 c13 k13).binds (ps := ["state", "limit"]) (fun _ _ _ _ _ _ us hl => match us, hl with | [_, _], _ => rfl), g__law_pick := PySem.W.mg_of X G a13,
    f__law_same := _, d__law_same := _, F__law_same := fun_mk (st := s__law_same) l14 c14 k14, b__law_same := (fun_mk (st := s__law_same) l14 c14 k14).binds (ps := ["told", "due"]) (fun _ _ _ _ _ _ us hl => match us, hl with | [_, _], _ => rfl), g__law_same := PySem.W.mg_of X G a14,
    f__law_cross := _, d__law_cross := _, F__law_cross := fun_mk (st := s__law_cross) l15 c15 k15, b__law_cross := (fun_mk (st := s__law_cross) l15 c15 k15).binds (ps := ["p", "q"]) (fun _ _ _ _ _ _ us hl => match us, hl with | [_, _], _ => rfl), g__law_cross := PySem.W.mg_of X G a15,
    f__law_value := _, d__law_value := _, F__law_value := fun_mk (st := s__law_value) l16 c16 k16, b__law_value := (fun_mk (st := s__law_value) l16 c16 k16).binds (ps := ["p", "q", "r"]) (fun _ _ _ _ _ _ us hl => match us, hl with | [_, _, _], _ => rfl), g__law_value := PySem.W.mg_of X G a16,
    f__law_least := _, d__law_least := _, F__law_least := fun_mk (st := s__law_least) l17 c17 k17, b__law_least := (fun_mk (st := s__law_least) l17 c17 k17).binds (ps := ["some"]) (fun _ _ _ _ _ _ us hl => match us, hl with | [_], _ => rfl), g__law_least := PySem.W.mg_of X G a17,
    f__law_point := _, d__law_point := _, F__law_point := fun_mk (st := s__law_point) l18 c18 k18, b__law_point := (fun_mk (st := s__law_point) l18 c18 k18).binds (ps := ["state"]) (fun _ _ _ _ _ _ us hl => match us, hl with | [_], _ => rfl), g__law_point := PySem.W.mg_of X G a18,
    f__law_frame := _, d__law_frame := _, F__law_frame := fun_mk (st := s__law_frame) l19 c19 k19, b__law_frame := (fun_mk (st := s__law_frame) l19 c19 k19).binds (ps := ["state", "many"]) (fun _ _ _ _ _ _ us hl => match us, hl with | [_, _], _ => rfl), g__law_frame := PySem.W.mg_of X G a19,
    f__law_on := _, d__law_on := _, F__law_on := fun_mk (st := s__law_on) l20 c20 k20, b__law_on := (fun_mk (st := s__law_on) l20 c20 k20).binds (ps := ["state", "p", "q", "many"]) (fun _ _ _ _ _ _ us hl => match us, hl with | [_, _, _, _], _ => rfl), g__law_on := PySem.W.mg_of X G a20,
    f_law := _, d_law := _, F_law := fun_mk (st := s_law) l21 c21 k21, b_law := (fun_mk (st := s_law) l21 c21 k21).binds (ps := ["script"]) (fun _ _ _ _ _ _ us hl => match us, hl with | [_], _ => rfl), g_law := PySem.W.mg_of X G a21,
    z_abs := PySem.W.mg_none_of X G z0,
    z_bool := PySem.W.mg_none_of X G z1,
    z_int := PySem.W.mg_none_of X G z2,
    z_isinstance := PySem.W.mg_none_of X G z3,
    z_len := PySem.W.mg_none_of X G z4,
    z_list := PySem.W.mg_none_of X G z5,
    z_range := PySem.W.mg_none_of X G z6,
    z_set := PySem.W.mg_none_of X G z7,
    z_str := PySem.W.mg_none_of X G z8,
    z_sum := PySem.W.mg_none_of X G z9,
    z_tuple := PySem.W.mg_none_of X G z10,
    z_gcd := PySem.W.mg_of X G y0 } : Tx K mg)⟩
end Lw
open PySem PySem.W PyProof.Rows
set_option maxRecDepth 100000 in
set_option maxHeartbeats 0 in
theorem PySem.Challenge.cw_pointwright_k24_whole_pappus_and_desargu_holds : PySem.Challenge.rw_pointwright_k24_whole_pappus_and_desargu.Holds := by
  w_on; o_law; k_head; (case hw => w_witness2)
  k_fill
  refine L2.walk_of (l := PySem.Challenge.rw_pointwright_k24_whole_pappus_and_desargu) (n := 63) (k := 7) (x := "script") (CX := fun _ => L2.CX0) (sp := fun w => DL.toSp _ 1 Lw.p_law) rfl (by decide) rfl ⟨rfl, by decide, by decide⟩ (fun w h Y => PySem.W.kIn_of Y) ?F (fun _ H a ns hl _ hS => Lw.law_in H a ns hl hS) (fun _ _ _ _ _ h => h)
  case F =>
    intro w mg fa h KX G hmg
    refine' Lw.all_mk KX G hmg ?a0 ?l0 ?c0 ?k0 ?a1 ?l1 ?c1 ?k1 ?a2 ?l2 ?c2 ?k2 ?a3 ?l3 ?c3 ?k3 ?a4 ?l4 ?c4 ?k4 ?a5 ?l5 ?c5 ?k5 ?a6 ?l6 ?c6 ?k6 ?a7 ?l7 ?c7 ?k7 ?a8 ?l8 ?c8 ?k8 ?a9 ?l9 ?c9 ?k9 ?a10 ?l10 ?c10 ?k10 ?a11 ?l11 ?c11 ?k11 ?a12 ?l12 ?c12 ?k12 ?a13 ?l13 ?c13 ?k13 ?a14 ?l14 ?c14 ?k14 ?a15 ?l15 ?c15 ?k15 ?a16 ?l16 ?c16 ?k16 ?a17 ?l17 ?c17 ?k17 ?a18 ?l18 ?c18 ?k18 ?a19 ?l19 ?c19 ?k19 ?a20 ?l20 ?c20 ?k20 ?a21 ?l21 ?c21 ?k21 ?z0 ?z1 ?z2 ?z3 ?z4 ?z5 ?z6 ?z7 ?z8 ?z9 ?z10 ?y0
    (case a0 => k_is); (case l0 => k_is); (case c0 => k_is); (case k0 => k_is); (case a1 => k_is); (case l1 => k_is); (case c1 => k_is); (case k1 => k_is); (case a2 => k_is); (case l2 => k_is); (case c2 => k_is); (case k2 => k_is); (case a3 => k_is); (case l3 => k_is); (case c3 => k_is); (case k3 => k_is); (case a4 => k_is); (case l4 => k_is); (case c4 => k_is); (case k4 => k_is); (case a5 => k_is); (case l5 => k_is); (case c5 => k_is); (case k5 => k_is); (case a6 => k_is); (case l6 => k_is); (case c6 => k_is); (case k6 => k_is); (case a7 => k_is); (case l7 => k_is); (case c7 => k_is); (case k7 => k_is); (case a8 => k_is); (case l8 => k_is); (case c8 => k_is); (case k8 => k_is); (case a9 => k_is); (case l9 => k_is); (case c9 => k_is); (case k9 => k_is); (case a10 => k_is); (case l10 => k_is); (case c10 => k_is); (case k10 => k_is); (case a11 => k_is); (case l11 => k_is); (case c11 => k_is); (case k11 => k_is); (case a12 => k_is); (case l12 => k_is); (case c12 => k_is); (case k12 => k_is); (case a13 => k_is); (case l13 => k_is); (case c13 => k_is); (case k13 => k_is); (case a14 => k_is); (case l14 => k_is); (case c14 => k_is); (case k14 => k_is); (case a15 => k_is); (case l15 => k_is); (case c15 => k_is); (case k15 => k_is); (case a16 => k_is); (case l16 => k_is); (case c16 => k_is); (case k16 => k_is); (case a17 => k_is); (case l17 => k_is); (case c17 => k_is); (case k17 => k_is); (case a18 => k_is); (case l18 => k_is); (case c18 => k_is); (case k18 => k_is); (case a19 => k_is); (case l19 => k_is); (case c19 => k_is); (case k19 => k_is); (case a20 => k_is); (case l20 => k_is); (case c20 => k_is); (case k20 => k_is); (case a21 => k_is); (case l21 => k_is); (case c21 => k_is); (case k21 => k_is); (case z0 => k_is); (case z1 => k_is); (case z2 => k_is); (case z3 => k_is); (case z4 => k_is); (case z5 => k_is); (case z6 => k_is); (case z7 => k_is); (case z8 => k_is); (case z9 => k_is); (case z10 => k_is); (case y0 => k_is)
